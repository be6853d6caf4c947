import PyProof.Rows.All
import Wide.All
import OpenK.AllK
import Wide.FinOn
import HandS.ForMost
import HandS.TupAny
import HandS.TupMul
import HandS.Deep
import HandS.IsInst
import HandS.TryOnly
import HandS.Zip
import HandS.Small
import HandS.SortInts
import HandS.More
import HandS.SetFor
import HandS.Strs
import KE.KDictZip
import HandS.Conv
import KE.GoesMore
import KE.GoesEnum
import HandS.Style
import PySem.Challenge.RW_chainwright_k24_leads
set_option Elab.async false
set_option linter.all false
set_option maxRecDepth 100000
/-! CL, part a: a small language, its values, its store, its run -/
namespace CL
open PySem L2

/-- a value: tuples are plain data, lists, dicts and instances stand in the store -/
inductive Val where
  | non | bl (b : Bool) | int (i : Int) | str (x : Str) | tup (xs : List Val) | ref (i : Nat)
  deriving Inhabited
mutual
def veq : Val → Val → Bool
  | .non, .non => true
  | .bl a, .bl b => a == b
  | .int a, .int b => decide (a = b)
  | .str a, .str b => decide (a = b)
  | .tup a, .tup b => veqs a b
  | .ref i, .ref j => decide (i = j)
  | _, _ => false
def veqs : List Val → List Val → Bool
  | [], [] => true
  | x :: r, y :: t => veq x y && veqs r t
  | _, _ => false
end
mutual
theorem veq_iff : ∀ a b : Val, veq a b = true ↔ a = b
  | .non, b => by cases b <;> simp [veq]
  | .bl a, b => by cases b <;> simp [veq]
  | .int a, b => by cases b <;> simp [veq]
  | .str a, b => by cases b <;> simp [veq]
  | .ref a, b => by cases b <;> simp [veq]
  | .tup a, b => by
    cases b with
    | tup b => rw [veq, veqs_iff a b]; simp
    | _ => simp [veq]
theorem veqs_iff : ∀ a b : List Val, veqs a b = true ↔ a = b
  | [], b => by cases b <;> simp [veqs]
  | x :: r, b => by
    cases b with
    | nil => simp [veqs]
    | cons y t => rw [veqs, Bool.and_eq_true, veq_iff x y, veqs_iff r t]; simp
end
instance : DecidableEq Val := fun a b => decidable_of_iff (veq a b = true) (veq_iff a b)
inductive Ob where
  | lst (xs : List Val) | dK (kvs : List (Key × Val)) | dT (kvs : List (List Key × Val)) | ins (c : Nat) (fs : List (Str × Val))
  deriving DecidableEq
structure Store where
  n : Nat
  m : Nat → Option Ob
  ro : Nat → Bool
abbrev Env := List (Option Val)
/-- how a run ends: not told; an error (class, fields); a value -/
inductive Res (α : Type) where
  | fail | ex (c : Nat) (fs : List (Str × Val)) (st : Store) | ok (a : α) (st : Store)
def Res.bind {α β : Type} : Res α → (α → Store → Res β) → Res β
  | .fail, _ => .fail
  | .ex c fs st, _ => .ex c fs st
  | .ok a st, k => k a st
@[simp] theorem bind_ok {α β : Type} (a : α) (st : Store) (k : α → Store → Res β) : (Res.ok a st).bind k = k a st := rfl
@[simp] theorem bind_fail {α β : Type} (k : α → Store → Res β) : (Res.fail : Res α).bind k = .fail := rfl
@[simp] theorem bind_ex {α β : Type} (c : Nat) (fs : List (Str × Val)) (st : Store) (k : α → Store → Res β) : (Res.ex c fs st : Res α).bind k = .ex c fs st := rfl
theorem bind_eq_ok {α β : Type} {r : Res α} {k : α → Store → Res β} {b : β} {s : Store} : r.bind k = .ok b s ↔ ∃ a t, r = .ok a t ∧ k a t = .ok b s := by
  cases r with
  | fail => constructor <;> intro h <;> simp at h
  | ex c fs st => constructor <;> intro h <;> simp at h
  | ok a st =>
    constructor
    · intro h; exact ⟨a, st, rfl, h⟩
    · rintro ⟨a', t, e, h⟩; cases e; exact h
theorem bind_assoc {α β γ : Type} (r : Res α) (k : α → Store → Res β) (j : β → Store → Res γ) : (r.bind k).bind j = r.bind fun a s => (k a s).bind j := by
  cases r <;> rfl

def Store.set (st : Store) (i : Nat) (o : Ob) : Store := { st with m := fun j => if j = i then some o else st.m j }
def Store.new (st : Store) (o : Ob) : Store := { n := st.n + 1, m := fun j => if j = st.n then some o else st.m j, ro := fun j => if j = st.n then false else st.ro j }
/-- a new thing -/
def mk (o : Ob) (st : Store) : Res Val := .ok (.ref st.n) (st.new o)
/-- a thing written -/
def wr (i : Nat) (o : Ob) (st : Store) : Res Val := if st.ro i then .fail else .ok .non (st.set i o)
def Store.lst (st : Store) (i : Nat) : Option (List Val) := match st.m i with
  | some (.lst xs) => some xs
  | _ => none
def fits (n : Nat) : Bool := decide (n ≤ sizeLine)
def mkL (xs : List Val) (st : Store) : Res Val := if fits xs.length then mk (.lst xs) st else .fail
def mkT (xs : List Val) (st : Store) : Res Val := if fits xs.length then .ok (.tup xs) st else .fail

/-! ### data, ==, in -/
def allO {α : Type} : List (Option α) → Option (List α)
  | [] => some []
  | some x :: r => match allO r with
    | some xs => some (x :: xs)
    | none => none
  | none :: _ => none
/-- what a value is as data, lists as they stand now; k bounds the depth -/
def dat (st : Store) : Nat → Val → Option PyData
  | 0, _ => none
  | k + 1, v => match v with
    | .non => some .none
    | .bl b => some (.bool b)
    | .int i => some (.int i)
    | .str x => some (.str x)
    | .tup xs => (allO (xs.map (dat st k))).map .tuple
    | .ref i => match st.m i with
      | some (.lst xs) => (allO (xs.map (dat st k))).map .list
      | _ => none
/-- the depth that is looked at -/
def deep : Nat := 70
def scalar : Val → Bool
  | .non | .bl _ | .int _ | .str _ => true
  | _ => false
/-- == of two plain values; None: not told here -/
def eq0 : Val → Val → Option Bool
  | .non, .non => some true
  | .bl a, .bl b => some (a == b)
  | .bl a, .int b => some ((if a then 1 else 0) == b)
  | .int a, .bl b => some (a == (if b then 1 else 0))
  | .int a, .int b => some (decide (a = b))
  | .str a, .str b => some (decide (a = b))
  | .non, .bl _ | .non, .int _ | .non, .str _ => some false
  | .bl _, .non | .bl _, .str _ => some false
  | .int _, .non | .int _, .str _ => some false
  | .str _, .non | .str _, .bl _ | .str _, .int _ => some false
  | _, _ => none
def eqV (st : Store) (x y : Val) : Option Bool := match eq0 x y with
  | some b => some b
  | none => match dat st deep x, dat st deep y with
    | some d, some e => if SeqAt.shaped d && SeqAt.shaped e then some (PyData.eqv d e) else none
    | _, _ => none
def okB (o : Option Bool) (st : Store) : Res Val := match o with
  | some b => .ok (.bl b) st
  | none => .fail
def notO : Option Bool → Option Bool
  | some b => some (!b)
  | none => none
/-- a dict's key -/
def key1 : Val → Option Key
  | .int i => some (.inl i)
  | .str x => some (.inr x)
  | _ => none
/-- kt: what the module's own tuples hold: no keys -/
def keyT (kt : List (List Val)) : Val → Option (List Key)
  | .tup xs => if xs ∈ kt then none else allO (xs.map key1)
  | _ => none
def look {κ : Type} [DecidableEq κ] (kvs : List (κ × Val)) (k : κ) : Option Val := (kvs.find? fun kv => decide (kv.1 = k)).map (·.2)
def put {κ : Type} [DecidableEq κ] (kvs : List (κ × Val)) (k : κ) (v : Val) : List (κ × Val) :=
  if kvs.any (fun kv => decide (kv.1 = k)) then kvs.map fun kv => if kv.1 = k then (kv.1, v) else kv else kvs ++ [(k, v)]
/-- d[k]: none: not told; some none: not there -/
def dget (kt : List (List Val)) (o : Option Ob) (k : Val) : Option (Option Val) := match o with
  | some (.dK kvs) => match key1 k with
    | some k => some (look kvs k)
    | none => none
  | some (.dT kvs) => match keyT kt k with
    | some k => some (look kvs k)
    | none => none
  | _ => none
/-- all == x -/
def anyEq (st : Store) (x : Val) : List Val → Option Bool
  | [] => some false
  | y :: r => match eqV st y x with
    | some true => some true
    | some false => anyEq st x r
    | none => none
/-- in, of flat things -/
def eqF : Val → Val → Bool
  | .non, .non => true
  | .bl a, .bl b => a == b
  | .bl a, .int b => (if a then 1 else 0) == b
  | .int a, .bl b => a == (if b then 1 else 0)
  | .int a, .int b => a == b
  | .str a, .str b => a == b
  | _, _ => false
def inFlat (x : Val) (ys : List Val) : Option Bool := if scalar x && ys.all scalar then some (ys.any fun y => eqF y x) else none
def inV (kt : List (List Val)) (st : Store) (x y : Val) : Option Bool := match y with
  | .tup ys => inFlat x ys
  | .str z => match x with
    | .str w => some (!(Builtin.Str.occurrences z w 0 z.length 1).isEmpty)
    | _ => none
  | .ref i => match st.m i with
    | some (.lst ys) => match inFlat x ys with
      | some b => some b
      | none => match dat st deep x, dat st deep (.ref i) with
        | some d, some (.list ds) => if SeqAt.shaped d && SeqAt.shaped (.list ds) then some (ds.any fun z => PyData.eqv z d) else none
        | _, _ => none
    | some (.dK kvs) => (dget kt (some (.dK kvs)) x).map Option.isSome
    | some (.dT kvs) => (dget kt (some (.dT kvs)) x).map Option.isSome
    | _ => none
  | _ => none
def tru (st : Store) : Val → Option Bool
  | .non => some false
  | .bl b => some b
  | .int i => some (i != 0)
  | .str x => if fits x.length then some (x.length != 0) else none
  | .tup xs => some (!xs.isEmpty)
  | .ref i => match st.m i with
    | some (.lst xs) => some (!xs.isEmpty)
    | some (.dK kvs) => if st.ro i then none else some (!kvs.isEmpty)
    | _ => none

/-! ### operators -/
inductive Bop where
  | add | sub | mul | fdiv | mod | pow
  deriving DecidableEq
inductive Cop where
  | eq | ne | lt | le | gt | ge | has | hasnt
  deriving DecidableEq
def mulOk (i j : Int) : Bool := (decide (-(2 ^ 64) < i) && decide (i < 2 ^ 64)) || (decide (-(2 ^ 64) < j) && decide (j < 2 ^ 64))
def rep (xs : List Val) (k : Int) : List Val := (List.replicate k.toNat xs).flatten
def repOk (xs : List Val) (k : Int) : Bool := decide (-(2 ^ 63) ≤ k) && decide (k < 2 ^ 63) && fits (xs.length * k.toNat)
def bop (o : Bop) (x y : Val) (st : Store) : Res Val := match o, x, y with
  | .add, .int i, .int j => .ok (.int (i + j)) st
  | .add, .str a, .str b => if fits (a.length + b.length) then .ok (.str (a ++ b)) st else .fail
  | .add, .tup a, .tup b => if fits (a.length + b.length) then .ok (.tup (a ++ b)) st else .fail
  | .add, .ref a, .ref b => match st.m a, st.m b with
    | some (.lst xs), some (.lst ys) => if st.ro a || st.ro b then .fail else if fits (xs.length + ys.length) then mk (.lst (xs ++ ys)) st else .fail
    | _, _ => .fail
  | .sub, .int i, .int j => .ok (.int (i - j)) st
  | .mul, .int i, .int j => if mulOk i j then .ok (.int (i * j)) st else .fail
  | .mul, .ref a, .int k => match st.m a with
    | some (.lst xs) => if !st.ro a && repOk xs k then mk (.lst (rep xs k)) st else .fail
    | _ => .fail
  | .mul, .tup xs, .int k => if k = 1 then .ok (.tup xs) st else if k = 0 ∧ xs ≠ [] then .ok (.tup []) st else if xs ≠ [] ∧ 2 ≤ k ∧ k ≤ 1000 ∧ xs.length ≤ 1000 then .ok (.tup (rep xs k)) st else .fail
  | .fdiv, .int i, .int j => if j ≠ 0 ∧ j.natAbs.log2 < 9000 then .ok (.int (i.fdiv j)) st else .fail
  | .mod, .int i, .int j => if j ≠ 0 then .ok (.int (i.fmod j)) st else .fail
  | .pow, .int i, .int j => if 0 ≤ j ∧ j ≤ 1000000 ∧ i.natAbs < 2 ^ 64 then .ok (.int (i ^ j.toNat)) st else .fail
  | _, _, _ => .fail
/-- two lists of unlike lengths -/
def lenNe (st : Store) : Val → Val → Bool
  | .ref a, .ref b => match st.m a, st.m b with
    | some (.lst xs), some (.lst ys) => decide (xs.length ≠ ys.length)
    | _, _ => false
  | _, _ => false
def cop (kt : List (List Val)) (o : Cop) (x y : Val) (st : Store) : Res Val := match o with
  | .eq => match eqV st x y with
    | some b => .ok (.bl b) st
    | none => if lenNe st x y then .ok (.bl false) st else .fail
  | .ne => okB (notO (eqV st x y)) st
  | .has => okB (inV kt st x y) st
  | .hasnt => okB (notO (inV kt st x y)) st
  | .lt => match x, y with
    | .int i, .int j => .ok (.bl (decide (i < j))) st
    | _, _ => .fail
  | .le => match x, y with
    | .int i, .int j => .ok (.bl (decide (i ≤ j))) st
    | _, _ => .fail
  | .gt => match x, y with
    | .int i, .int j => .ok (.bl (decide (j < i))) st
    | _, _ => .fail
  | .ge => match x, y with
    | .int i, .int j => .ok (.bl (decide (j ≤ i))) st
    | _, _ => .fail
/-- a[i] -/
def subV (kt : List (List Val)) (x y : Val) (st : Store) : Res Val := match x with
  | .tup xs => match y with
    | .int i => match atI xs i with
      | some v => .ok v st
      | none => .fail
    | _ => .fail
  | .str z => match y with
    | .int i => if fits z.length then match atI z.cps.toList i with
      | some c => .ok (.str ⟨#[c]⟩) st
      | none => .fail else .fail
    | _ => .fail
  | .ref a => match st.m a with
    | some (.lst xs) => match y with
      | .int i => match atI xs i with
        | some v => .ok v st
        | none => .fail
      | _ => .fail
    | o => match dget kt o y with
      | some (some v) => .ok v st
      | _ => .fail
  | _ => .fail
def cutL {α : Type} (xs : List α) (lo hi : Option Int) : List α := (xs.drop (HT.sIx xs.length 0 lo)).take (HT.sIx xs.length xs.length hi - HT.sIx xs.length 0 lo)
def part : Option Val → Option (Option Int)
  | none => some none
  | some (.int i) => some (some i)
  | _ => none
/-- a[lo:hi] -/
def cutV (x : Val) (lo hi : Option Val) (st : Store) : Res Val := match part lo, part hi with
  | some l, some h => match x with
    | .tup xs => .ok (.tup (cutL xs l h)) st
    | .str z => if fits z.length then .ok (.str (cutS z l h)) st else .fail
    | .ref a => match st.m a with
      | some (.lst xs) => mk (.lst (cutL xs l h)) st
      | _ => .fail
    | _ => .fail
  | _, _ => .fail
/-- the items that a slice with a step picks -/
def pickL {α : Type} (xs : List α) (lo hi : Option Int) (k : Int) : List α :=
  (sliceRange (sliceBounds lo hi (some k) xs.length).1 (sliceBounds lo hi (some k) xs.length).2.1 (sliceBounds lo hi (some k) xs.length).2.2).filterMap (xs[·]?)
/-- a[lo:hi:k] of a list -/
def cut3V (k : Int) (x : Val) (lo hi : Option Val) (st : Store) : Res Val := match part lo, part hi with
  | some l, some h => match x with
    | .ref a => match st.m a with
      | some (.lst xs) => if k ≠ 0 ∧ fits (pickL xs l h k).length then mk (.lst (pickL xs l h k)) st else .fail
      | _ => .fail
    | _ => .fail
  | _, _ => .fail
/-- o[i] = v -/
def putV (kt : List (List Val)) (x y v : Val) (st : Store) : Res Val := match x with
  | .ref a => match st.m a with
    | some (.lst xs) => match y with
      | .int i => match ixN xs.length i with
        | some j => wr a (.lst (xs.set j v)) st
        | none => .fail
      | _ => .fail
    | some (.dK kvs) => match key1 y with
      | some k => if kvs.length < sizeLine then wr a (.dK (put kvs k v)) st else .fail
      | none => match keyT kt y with
        | some k => if kvs.isEmpty then wr a (.dT [(k, v)]) st else .fail
        | none => .fail
    | some (.dT kvs) => match keyT kt y with
      | some k => if kvs.length < sizeLine then wr a (.dT (put kvs k v)) st else .fail
      | none => .fail
    | _ => .fail
  | _ => .fail
def getF (fl : Nat → Str → Bool) (x : Val) (f : Str) (st : Store) : Res Val := match x with
  | .ref a => match st.m a with
    | some (.ins c fs) => if fl c f then match fs.lookup f with
      | some v => .ok v st
      | none => .fail else .fail
    | _ => .fail
  | _ => .fail
def setF (f : Str) (v : Val) : List (Str × Val) → List (Str × Val)
  | [] => [(f, v)]
  | (g, w) :: r => if g = f then (f, v) :: r else (g, w) :: setF f v r
def putF (fl : Nat → Str → Bool) (x : Val) (f : Str) (v : Val) (st : Store) : Res Val := match x with
  | .ref a => match st.m a with
    | some (.ins c fs) => if fl c f ∧ fs.length < 1000 then wr a (.ins c (setF f v fs)) st else .fail
    | _ => .fail
  | _ => .fail

/-! ### built-in functions and methods -/
inductive Bf where
  | len | abs | list | tuple | int | any | all | min2 | max2 | str | sorted | dict | set
  deriving DecidableEq
inductive Bm where
  | append | pop | count | index
  deriving DecidableEq
def bools : List Val → Option (List Bool)
  | [] => some []
  | .bl b :: r => match bools r with
    | some bs => some (b :: bs)
    | none => none
  | _ => none
def intsO : List Val → Option (List Int)
  | [] => some []
  | .int i :: r => match intsO r with
    | some is => some (i :: is)
    | none => none
  | _ => none
def pairsO : List Val → Option (List (Key × Val))
  | [] => some []
  | .tup [k, v] :: r => match key1 k, pairsO r with
    | some k, some r => some ((k, v) :: r)
    | _, _ => none
  | _ => none
def keysI : List (Key × Val) → Option (List Int)
  | [] => some []
  | (.inl k, _) :: r => match keysI r with
    | some ks => some (k :: ks)
    | none => none
  | _ => none
def merge (kvs more : List (Key × Val)) : List (Key × Val) := more.foldl (fun acc kv => put acc kv.1 kv.2) kvs
def bfn (b : Bf) (vs : List Val) (st : Store) : Res Val := match b, vs with
  | .len, [.str z] => if fits z.length then .ok (.int z.length) st else .fail
  | .len, [.tup xs] => .ok (.int xs.length) st
  | .len, [.ref a] => match st.m a with
    | some (.lst xs) => .ok (.int xs.length) st
    | some (.dK kvs) => if st.ro a then .fail else .ok (.int kvs.length) st
    | _ => .fail
  | .abs, [.int i] => .ok (.int (if i < 0 then -i else i)) st
  | .list, [.tup xs] => mk (.lst xs) st
  | .list, [.ref a] => match st.m a with
    | some (.lst xs) => mk (.lst xs) st
    | _ => .fail
  | .tuple, [.tup xs] => .ok (.tup xs) st
  | .tuple, [.ref a] => match st.m a with
    | some (.lst xs) => .ok (.tup xs) st
    | _ => .fail
  | .int, [.int i] => .ok (.int i) st
  | .int, [.bl k] => .ok (.int (if k then 1 else 0)) st
  | .any, [.ref a] => match st.m a with
    | some (.lst xs) => match bools xs with
      | some bs => .ok (.bl (bs.any id)) st
      | none => .fail
    | _ => .fail
  | .all, [.ref a] => match st.m a with
    | some (.lst xs) => match bools xs with
      | some bs => .ok (.bl (bs.all id)) st
      | none => .fail
    | _ => .fail
  | .min2, [.int i, .int j] => .ok (.int (if j < i then j else i)) st
  | .max2, [.int i, .int j] => .ok (.int (if j > i then j else i)) st
  | .str, [.int i] => if i.natAbs.log2 < 1920 then .ok (.str (toString i)) st else .fail
  | .sorted, [.ref a] => match st.m a with
    | some (.lst xs) => match intsO xs with
      | some is => mk (.lst ((is.mergeSort (fun i j => decide (i ≤ j))).map .int)) st
      | none => .fail
    | some (.dK kvs) => match keysI kvs with
      | some ks => if ks.length < 64 then mk (.lst ((ks.mergeSort (fun i j => decide (i ≤ j))).map .int)) st else .fail
      | none => .fail
    | _ => .fail
  | .dict, [.ref a] => match st.m a with
    | some (.lst xs) => match pairsO xs with
      | some kvs => mk (.dK (merge [] kvs)) st
      | none => .fail
    | _ => .fail
  | _, _ => .fail
def bmt (b : Bm) (x : Val) (vs : List Val) (st : Store) : Res Val := match x with
  | .ref a => match b, vs, st.m a with
    | .append, [v], some (.lst xs) => if xs.length < sizeLine then wr a (.lst (xs ++ [v])) st else .fail
    | .pop, [], some (.lst xs) => match xs.getLast? with
      | some v => (wr a (.lst xs.dropLast) st).bind fun _ st => .ok v st
      | none => .fail
    | .count, [v], some (.lst _) => match dat st deep v, dat st deep (.ref a) with
      | some d, some (.list ds) => if SeqAt.shaped d && SeqAt.shaped (.list ds) then .ok (.int (ds.countP fun z => PyData.eqv z d : Nat)) st else .fail
      | _, _ => .fail
    | .index, [v], some (.lst _) => match dat st deep v, dat st deep (.ref a) with
      | some d, some (.list ds) => if SeqAt.shaped d && SeqAt.shaped (.list ds) then match ds.findIdx? fun z => PyData.eqv z d with
        | some j => .ok (.int (j : Nat)) st
        | none => .fail else .fail
      | _, _ => .fail
    | _, _, _ => .fail
  | _ => .fail
/-- kinds for isinstance -/
inductive Ty where
  | int | bool | str | list | tuple | dict | cls (c : Nat)
  deriving DecidableEq
def isT (st : Store) (v : Val) (t : Ty) : Option Bool := match v with
  | .non => some false
  | .bl _ => some (t = .int || t = .bool)
  | .int _ => some (t = .int)
  | .str _ => some (t = .str)
  | .tup _ => some (t = .tuple)
  | .ref i => match st.m i with
    | some (.lst _) => some (t = .list)
    | some (.dK _) => some (t = .dict)
    | some (.dT _) => if st.ro i then none else some (t = .dict)
    | _ => none

/-! ### the text -/
/-- a comprehension's or for's target -/
inductive Tg where
  | one (i : Nat) | many (is : List Nat)
mutual
inductive E where
  | v (i : Nat) | int (i : Int) | str (x : Str) | bl (b : Bool) | non
  | gl (g : Nat)
  | tup (es : Es) | lst (es : Es) | dic (ps : Ps)
  | neg (a : E)
  | bin (o : Bop) (a b : E)
  | cmp (o : Cop) (a b : E)
  | cm2 (o p : Cop) (a b c : E)
  | isN (a : E) | noN (a : E)
  | and (a b : E) | or (a b : E) | not (a : E)
  | ite (c : B) (a b : E)
  | sub (a i : E)
  | cut (a : E) (lo hi : Eo)
  | cut3 (a : E) (lo hi : Eo) (k : Int)
  | fld (a : E) (f : Str)
  | call (f : Nat) (es : Es)
  | make (c : Nat) (es : Es)
  | met (a : E) (m : Str) (es : Es)
  | bm (b : Bm) (a : E) (es : Es)
  | bf (b : Bf) (es : Es)
  | isi (a : E) (t : Ty)
  | lc (t : Tg) (w : I) (c : B) (e : E)
  | lzip (a b : E)
  | lrg1 (a : E) | lrg2 (a b : E)
  | dcall (f : Nat) | sset (a : E)
  | bad
inductive Es where
  | nil | cons (e : E) (es : Es)
inductive Eo where
  | no | so (e : E)
inductive Ps where
  | nil | cons (k v : E) (ps : Ps)
/-- a test -/
inductive B where
  | yes | of (e : E) | and (a b : B) | or (a b : B) | not (a : B)
inductive I where
  | of (e : E) | rg1 (a : E) | rg2 (a b : E) | enu (e : E) | zip (a b : E)
end
/-- a target of an assignment -/
inductive T where
  | one (i : Nat) | sub (o i : E) | fld (o : E) (f : Str)
mutual
inductive S where
  | asg (t : T) (e : E)
  | asT (ts : List T) (e : E)
  | par (is : List Nat) (es : Es)
  | aug (i : Nat) (o : Bop) (e : E)
  | aus (a i : E) (o : Bop) (e : E)
  | auf (a : E) (f : Str) (o : Bop) (e : E)
  | ex (e : E)
  | ret (e : E) | rtN
  | cond (c : B) (a b : Ss)
  | whl (c : B) (b : Ss)
  | for (t : Tg) (w : I) (b : Ss)
  | pass | brk | cnt | bad
inductive Ss where
  | nil | cons (s : S) (ss : Ss)
end
structure FDef where
  np : Nat
  nl : Nat
  body : Ss
structure Prog where
  fn : Nat → Option FDef
  /-- a class's method -/
  mt : Nat → Str → Option Nat
  /-- its __init__ -/
  ini : Nat → Option Nat
  gl : Nat → Option Val
  /-- a class's fields -/
  fl : Nat → Str → Bool
  /-- what the module's own tuples hold -/
  kt : List (List Val)

/-! ### the run -/
structure Ctx where
  G : Prog
  call : Nat → List Val → Store → Res Val
  init : Nat → List Val → Store → Res Val
  fuel : Nat
inductive Fl where
  | nx (s : Env) | rt (v : Val) | bk (s : Env) | ct (s : Env)
/-- what is watched through a walk: lists that must stay as they were -/
abbrev Watch := List (Nat × List Val)
def Store.sees (st : Store) : Watch → Bool
  | [] => true
  | (i, xs) :: r => decide (st.m i = some (.lst xs)) && st.sees r
def lcLoop (D : Nat) (w : Watch) (f : Val → Store → Res (Option Val)) : List Val → Store → Res Val
  | [], st => if st.sees w then .ok (.ref D) st else .fail
  | x :: r, st => if st.sees w then (f x st).bind fun o st => match o with
      | none => lcLoop D w f r st
      | some v => (bmt .append (.ref D) [v] st).bind fun _ st => lcLoop D w f r st
    else .fail
def forLoop (w : Watch) (f : Val → Env → Store → Res Fl) : List Val → Env → Store → Res Fl
  | [], s, st => if st.sees w then .ok (.nx s) st else .fail
  | x :: r, s, st => if st.sees w then (f x s st).bind fun fl st => match fl with
      | .nx s => forLoop w f r s st
      | .ct s => forLoop w f r s st
      | .bk s => .ok (.nx s) st
      | .rt v => .ok (.rt v) st
    else .fail
def whlLoop (t : Env → Store → Res Bool) (b : Env → Store → Res Fl) : Nat → Env → Store → Res Fl
  | 0, _, _ => .fail
  | n + 1, s, st => (t s st).bind fun c st => if c then (b s st).bind fun fl st => match fl with
      | .nx s => whlLoop t b n s st
      | .ct s => whlLoop t b n s st
      | .bk s => .ok (.nx s) st
      | .rt v => .ok (.rt v) st
    else .ok (.nx s) st
def setAll : List Nat → List Val → Env → Option Env
  | [], [], s => some s
  | i :: is, v :: vs, s => setAll is vs (s.set i (some v))
  | _, _, _ => none
/-- the items of a tuple or list -/
def itemsOf (v : Val) (st : Store) : Option (List Val) := match v with
  | .tup xs => some xs
  | .ref i => st.lst i
  | _ => none
def setTg (t : Tg) (v : Val) (s : Env) : Option Env := match t with
  | .one i => some (s.set i (some v))
  | .many is => match v with
    | .tup xs => setAll is xs s
    | _ => none
/-- a loop's turn: the target, then the rest -/
def onTg (t : Tg) (k : Env → Store → Res Fl) (x : Val) (s : Env) (st : Store) : Res Fl := match setTg t x s with
  | some s => k s st
  | none => .fail
/-- a comprehension's turn: the target, the test, the element -/
def onLc (t : Tg) (b : Env → Store → Res Bool) (e : Env → Store → Res Val) (s : Env) (x : Val) (st : Store) : Res (Option Val) := match setTg t x s with
  | none => .fail
  | some s' => (b s' st).bind fun k st => if k then (e s' st).bind fun v st => .ok (some v) st else .ok none st
/-- the next statement, if there is one to come -/
def thenF (k : Env → Store → Res Fl) (fl : Fl) (st : Store) : Res Fl := match fl with
  | .nx s => k s st
  | fl => .ok fl st
def endF (fl : Fl) (st : Store) : Res Val := match fl with
  | .nx _ => .ok .non st
  | .rt v => .ok v st
  | _ => .fail
def rangeL (lo : Int) : Nat → List Val
  | 0 => []
  | n + 1 => .int lo :: rangeL (lo + 1) n
def enumL (k : Int) : List Val → List Val
  | [] => []
  | x :: r => .tup [.int k, x] :: enumL (k + 1) r
def zipL : List Val → List Val → List Val
  | x :: r, y :: s => .tup [x, y] :: zipL r s
  | _, _ => []
def small62 (i : Int) : Bool := decide (-(2 ^ 62) ≤ i) && decide (i < 2 ^ 62)
def small24 (i j : Int) : Bool := small62 i && small62 j && decide ((j - i).toNat ≤ 16777216)
def okO (o : Option Bool) (st : Store) : Res Bool := match o with
  | some b => .ok b st
  | none => .fail
def keyed : List (Val × Val) → Option (List (Key × Val))
  | [] => some []
  | (k, v) :: r => match key1 k, keyed r with
    | some k, some r => some ((k, v) :: r)
    | _, _ => none
/-- what a walk over a value goes through -/
def walkOf (v : Val) (st : Store) : Res (List Val × Watch) := match v with
  | .tup xs => .ok (xs, []) st
  | .str z => .ok (z.cps.toList.map fun c => .str ⟨#[c]⟩, []) st
  | .ref i => match st.m i with
    | some (.lst xs) => .ok (xs, [(i, xs)]) st
    | _ => .fail
  | _ => .fail
/-- what is watched of a value that is walked -/
def wOf (v : Val) (xs : List Val) : Watch := match v with
  | .ref i => [(i, xs)]
  | _ => []
/-- a def that gives a tuple as it is written -/
def litX : S → Bool
  | .par _ _ => true
  | .asT _ _ => true
  | _ => false
def litB : Ss → Bool
  | .cons x (.cons (.ret (.tup _)) .nil) => litX x
  | _ => false
def litF (G : Prog) (f : Nat) : Bool := match G.fn f with
  | some fd => litB fd.body && decide (fd.np = 0)
  | none => false
/-- dict of such a tuple -/
def dictT (v : Val) (st : Store) : Res Val := match v with
  | .tup xs => match pairsO xs with
    | some kvs => mk (.dK (merge [] kvs)) st
    | none => .fail
  | _ => .fail
def uniqI : List Int → List Int
  | [] => []
  | x :: r => if x ∈ r then uniqI r else x :: uniqI r
/-- sorted(set(..)) of a tuple of ints -/
def ssetV (v : Val) (st : Store) : Res Val := match v with
  | .tup xs => match intsO xs with
    | some is => if is.length < 60 then mk (.lst (((uniqI is).mergeSort (fun i j => decide (i ≤ j))).map .int)) st else .fail
    | none => .fail
  | _ => .fail
mutual
def ev (c : Ctx) : E → Env → Store → Res Val
  | .v i, s, st => match s[i]? with
    | some (some v) => .ok v st
    | _ => .fail
  | .int i, _, st => .ok (.int i) st
  | .str x, _, st => .ok (.str x) st
  | .bl b, _, st => .ok (.bl b) st
  | .non, _, st => .ok .non st
  | .gl g, _, st => match c.G.gl g with
    | some v => .ok v st
    | none => .fail
  | .tup es, s, st => (evs c es s st).bind mkT
  | .lst es, s, st => (evs c es s st).bind mkL
  | .dic ps, s, st => (evp c ps s (st.new (.dK []))).bind fun ps st' => match keyed ps with
    | some kvs => if st'.m st.n = some (.dK []) ∧ kvs.length ≤ 15 then (wr st.n (.dK (merge [] kvs)) st').bind fun _ st2 => .ok (.ref st.n) st2 else .fail
    | none => .fail
  | .neg a, s, st => (ev c a s st).bind fun x st => match x with
    | .int i => .ok (.int (-i)) st
    | _ => .fail
  | .bin o a b, s, st => (ev c a s st).bind fun x st => (ev c b s st).bind fun y st => bop o x y st
  | .cmp o a b, s, st => (ev c a s st).bind fun x st => (ev c b s st).bind fun y st => cop c.G.kt o x y st
  | .cm2 o p a b d, s, st => (ev c a s st).bind fun x st => (ev c b s st).bind fun y st => (cop c.G.kt o x y st).bind fun z st => match z with
    | .bl true => (ev c d s st).bind fun u st => cop c.G.kt p y u st
    | .bl false => .ok (.bl false) st
    | _ => .fail
  | .isN a, s, st => (ev c a s st).bind fun x st => .ok (.bl (match x with | .non => true | _ => false)) st
  | .noN a, s, st => (ev c a s st).bind fun x st => .ok (.bl (match x with | .non => false | _ => true)) st
  | .and a b, s, st => (ev c a s st).bind fun x st => match x with
    | .bl true => ev c b s st
    | .bl false => .ok (.bl false) st
    | _ => .fail
  | .or a b, s, st => (ev c a s st).bind fun x st => match x with
    | .bl true => .ok (.bl true) st
    | .bl false => ev c b s st
    | _ => .fail
  | .not a, s, st => (ev c a s st).bind fun x st => match x with
    | .bl b => .ok (.bl (!b)) st
    | _ => .fail
  | .ite t a b, s, st => (ts c t s st).bind fun k st => if k then ev c a s st else ev c b s st
  | .sub a i, s, st => (ev c a s st).bind fun x st => (ev c i s st).bind fun y st => subV c.G.kt x y st
  | .cut a lo hi, s, st => (ev c a s st).bind fun x st => (evo c lo s st).bind fun l st => (evo c hi s st).bind fun h st => cutV x l h st
  | .cut3 a lo hi k, s, st => (ev c a s st).bind fun x st => (evo c lo s st).bind fun l st => (evo c hi s st).bind fun h st => cut3V k x l h st
  | .fld a f, s, st => (ev c a s st).bind fun x st => getF c.G.fl x f st
  | .call f es, s, st => (evs c es s st).bind fun vs st => c.call f vs st
  | .make k es, s, st => (evs c es s st).bind fun vs st => match c.G.ini k with
    | some f => (c.init f (.ref st.n :: vs) (st.new (.ins k []))).bind fun v st' => match v with
      | .non => .ok (.ref st.n) st'
      | _ => .fail
    | none => .fail
  | .met a m es, s, st => (ev c a s st).bind fun x st => match x with
    | .ref i => match st.m i with
      | some (.ins k fs) => if fs.lookup m = none then match c.G.mt k m with
        | some f => (evs c es s st).bind fun vs st => c.call f (.ref i :: vs) st
        | none => .fail else .fail
      | _ => .fail
    | _ => .fail
  | .bm b a es, s, st => (ev c a s st).bind fun x st => match x with
    | .ref i => match st.m i with
      | some (.lst _) => (evs c es s st).bind fun vs st => bmt b x vs st
      | _ => .fail
    | _ => .fail
  | .bf b es, s, st => (evs c es s st).bind fun vs st => bfn b vs st
  | .isi a t, s, st => (ev c a s st).bind fun x st => okB (isT st x t) st
  | .lc t w k e, s, st => (evw c w s st).bind fun p st => lcLoop st.n p.2 (onLc t (fun s st => ts c k s st) (fun s st => ev c e s st) s) p.1 (st.new (.lst []))
  | .lzip a b, s, st => (ev c a s st).bind fun x st => (ev c b s st).bind fun y st => match itemsOf x st, itemsOf y st with
    | some xs, some ys => mk (.lst (zipL xs ys)) st
    | _, _ => .fail
  | .lrg1 a, s, st => (ev c a s st).bind fun x st => match x with
    | .int j => if small24 0 j then mk (.lst (rangeL 0 j.toNat)) st else .fail
    | _ => .fail
  | .lrg2 a b, s, st => (ev c a s st).bind fun x st => (ev c b s st).bind fun y st => match x, y with
    | .int i, .int j => if small24 i j then mk (.lst (rangeL i (j - i).toNat)) st else .fail
    | _, _ => .fail
  | .dcall f, _, st => if litF c.G f then (c.call f [] st).bind dictT else .fail
  | .sset a, s, st => (ev c a s st).bind ssetV
  | .bad, _, _ => .fail
def evs (c : Ctx) : Es → Env → Store → Res (List Val)
  | .nil, _, st => .ok [] st
  | .cons e es, s, st => (ev c e s st).bind fun v st => (evs c es s st).bind fun vs st => .ok (v :: vs) st
def evo (c : Ctx) : Eo → Env → Store → Res (Option Val)
  | .no, _, st => .ok none st
  | .so e, s, st => (ev c e s st).bind fun v st => .ok (some v) st
/-- a dict display, pair by pair -/
def evp (c : Ctx) : Ps → Env → Store → Res (List (Val × Val))
  | .nil, _, st => .ok [] st
  | .cons k v ps, s, st => (ev c k s st).bind fun x st => (ev c v s st).bind fun y st => (evp c ps s st).bind fun r st => .ok ((x, y) :: r) st
/-- a test -/
def ts (c : Ctx) : B → Env → Store → Res Bool
  | .yes, _, st => .ok true st
  | .and a b, s, st => (ts c a s st).bind fun k st => if k then ts c b s st else .ok false st
  | .or a b, s, st => (ts c a s st).bind fun k st => if k then .ok true st else ts c b s st
  | .not a, s, st => (ts c a s st).bind fun k st => .ok (!k) st
  | .of e, s, st => (ev c e s st).bind fun v st => okO (tru st v) st
def evw (c : Ctx) : I → Env → Store → Res (List Val × Watch)
  | .of e, s, st => (ev c e s st).bind fun v st => walkOf v st
  | .rg1 a, s, st => (ev c a s st).bind fun x st => match x with
    | .int j => if small62 j then .ok (rangeL 0 j.toNat, []) st else .fail
    | _ => .fail
  | .rg2 a b, s, st => (ev c a s st).bind fun x st => (ev c b s st).bind fun y st => match x, y with
    | .int i, .int j => if small62 i && small62 j then .ok (rangeL i (j - i).toNat, []) st else .fail
    | _, _ => .fail
  | .enu e, s, st => (ev c e s st).bind fun v st => match v with
    | .tup xs => .ok (enumL 0 xs, []) st
    | .ref i => match st.m i with
      | some (.lst xs) => .ok (enumL 0 xs, [(i, xs)]) st
      | _ => .fail
    | _ => .fail
  | .zip a b, s, st => (ev c a s st).bind fun x st => (ev c b s st).bind fun y st => match itemsOf x st, itemsOf y st with
    | some xs, some ys => .ok (zipL xs ys, wOf x xs ++ wOf y ys) st
    | _, _ => .fail
end

/-- one target gets a value -/
def asg1 (c : Ctx) (t : T) (v : Val) (s : Env) (st : Store) : Res Env := match t with
  | .one i => .ok (s.set i (some v)) st
  | .sub o i => (ev c o s st).bind fun x st => (ev c i s st).bind fun y st => (putV c.G.kt x y v st).bind fun _ st => .ok s st
  | .fld o f => (ev c o s st).bind fun x st => (putF c.G.fl x f v st).bind fun _ st => .ok s st
def asgs (c : Ctx) : List T → List Val → Env → Store → Res Env
  | [], [], s, st => .ok s st
  | t :: ts, v :: vs, s, st => (asg1 c t v s st).bind fun s st => asgs c ts vs s st
  | _, _, _, _ => .fail
def clsOf (x : Val) (st : Store) : Option Nat := match x with
  | .ref a => match st.m a with
    | some (.ins c _) => some c
    | _ => none
  | _ => none
/-- a dict's item, got and put -/
def getD (kt : List (List Val)) (x y : Val) (st : Store) : Res Val := match x with
  | .ref a => match dget kt (st.m a) y with
    | some (some v) => .ok v st
    | _ => .fail
  | _ => .fail
def putD (kt : List (List Val)) (x y v : Val) (st : Store) : Res Val := match x with
  | .ref a => match st.m a with
    | some (.dK kvs) => match key1 y with
      | some k => if kvs.length < sizeLine then wr a (.dK (put kvs k v)) st else .fail
      | none => .fail
    | some (.dT kvs) => match keyT kt y with
      | some k => if kvs.length < sizeLine then wr a (.dT (put kvs k v)) st else .fail
      | none => .fail
    | _ => .fail
  | _ => .fail
/-- x op= y -/
def iop (o : Bop) (x y : Val) (st : Store) : Res Val := match o, x, y with
  | .add, .int i, .int j => .ok (.int (i + j)) st
  | .sub, .int i, .int j => .ok (.int (i - j)) st
  | _, _, _ => .fail
mutual
def exec (c : Ctx) : S → Env → Store → Res Fl
  | .asg t e, s, st => (ev c e s st).bind fun v st => (asg1 c t v s st).bind fun s st => .ok (.nx s) st
  | .asT ts e, s, st => (ev c e s st).bind fun v st => match itemsOf v st with
    | some xs => (asgs c ts xs s st).bind fun s st => .ok (.nx s) st
    | none => .fail
  | .par is es, s, st => (evs c es s st).bind fun vs st => match setAll is vs s with
    | some s => .ok (.nx s) st
    | none => .fail
  | .aug i o e, s, st => match s[i]? with
    | some (some x) => (ev c e s st).bind fun y st => (iop o x y st).bind fun z st => .ok (.nx (s.set i (some z))) st
    | _ => .fail
  | .aus a i o e, s, st => (ev c a s st).bind fun x st => (ev c i s st).bind fun y st => (getD c.G.kt x y st).bind fun old st => (ev c e s st).bind fun v st =>
      (iop o old v st).bind fun z st => (putD c.G.kt x y z st).bind fun _ st => .ok (.nx s) st
  | .auf a f o e, s, st => (ev c a s st).bind fun x st1 => (getF c.G.fl x f st1).bind fun old st => (ev c e s st).bind fun v st =>
      (iop o old v st).bind fun z st => if clsOf x st = clsOf x st1 then (putF c.G.fl x f z st).bind fun _ st => .ok (.nx s) st else .fail
  | .ex e, s, st => (ev c e s st).bind fun _ st => .ok (.nx s) st
  | .ret e, s, st => (ev c e s st).bind fun v st => .ok (.rt v) st
  | .rtN, _, st => .ok (.rt .non) st
  | .cond t a b, s, st => (ts c t s st).bind fun k st => if k then execs c a s st else execs c b s st
  | .whl t b, s, st => whlLoop (ts c t) (fun s st => execs c b s st) c.fuel s st
  | .for t w b, s, st => (evw c w s st).bind fun p st => forLoop p.2 (onTg t fun s st => execs c b s st) p.1 s st
  | .pass, s, st => .ok (.nx s) st
  | .brk, s, st => .ok (.bk s) st
  | .cnt, s, st => .ok (.ct s) st
  | .bad, _, _ => .fail
def execs (c : Ctx) : Ss → Env → Store → Res Fl
  | .nil, s, st => .ok (.nx s) st
  | .cons x r, s, st => (exec c x s st).bind (thenF fun s st => execs c r s st)
end
/-- a def's run -/
def runF (c : Ctx) (d : FDef) (vs : List Val) (st : Store) : Res Val :=
  if vs.length = d.np then (execs c d.body (vs.map some ++ List.replicate (d.nl - d.np) none) st).bind endF
  else .fail
/-- the calls, at most d and d - 1 calls deep -/
def calls (G : Prog) (fuel : Nat) : Nat → (Nat → List Val → Store → Res Val) × (Nat → List Val → Store → Res Val)
  | 0 => (fun _ _ _ => .fail, fun _ _ _ => .fail)
  | d + 1 => (fun f vs st => match G.fn f with
    | some fd => runF ⟨G, (calls G fuel d).1, (calls G fuel d).2, fuel⟩ fd vs st
    | none => .fail, (calls G fuel d).1)
/-- a call, at most d calls deep -/
def callN (G : Prog) (fuel d : Nat) : Nat → List Val → Store → Res Val := (calls G fuel d).1
/-- what a def of d more calls runs with -/
def cxN (G : Prog) (fuel d : Nat) : Ctx := ⟨G, (calls G fuel d).1, (calls G fuel d).2, fuel⟩
theorem callN_succ (G : Prog) (fuel d f : Nat) (vs : List Val) (st : Store) : callN G fuel (d + 1) f vs st = match G.fn f with
    | some fd => runF (cxN G fuel d) fd vs st
    | none => .fail := rfl
end CL

/-! CL, part b: what a value and a store stand for -/
namespace CL
open PySem L2

/-- a tuple's place: tracked, or the module's own -/
def SqW (K : PySem.W.Frag) (kt : List (List Val)) (H : Hp) (a : Addr) (xs : List Val) (ys : List V) : Prop :=
  H a = some (.tup ys) ∨ (xs ∈ kt ∧ ∃ (o : Obj) (its : Array Value) (n : Nat), K.lookup a = some o ∧ o.cls = .type "tuple" ∧ o.data = .seq its n ∧ its.size ≤ sizeLine ∧ Vals ys its.toList)
section
variable (K : PySem.W.Frag) (kt : List (List Val)) (io : Nat → Addr) (n : Nat) (H : Hp)
mutual
inductive RV : Val → V → Prop
  | non : RV .non .non
  | bl (b : Bool) : RV (.bl b) (.bl b)
  | int (i : Int) : RV (.int i) (.int i)
  | str (x : Str) : RV (.str x) (.str x)
  | tup {xs : List Val} {a : Addr} {ys : List V} : SqW K kt H a xs ys → RVs xs ys → RV (.tup xs) (.ref a)
  | ref {i : Nat} : i < n → RV (.ref i) (.ref (io i))
inductive RVs : List Val → List V → Prop
  | nil : RVs [] []
  | cons {x : Val} {y : V} {xs : List Val} {ys : List V} : RV x y → RVs xs ys → RVs (x :: xs) (y :: ys)
end
/-- dicts' pairs, instances' fields -/
inductive RKs {κ : Type} : List (κ × Val) → List (κ × V) → Prop
  | nil : RKs [] []
  | cons {k : κ} {x : Val} {y : V} {xs : List (κ × Val)} {ys : List (κ × V)} : RV K kt io n H x y → RKs xs ys → RKs ((k, x) :: xs) ((k, y) :: ys)
/-- a list that is read alone -/
def SqR (K : PySem.W.Frag) (H : Hp) (a : Addr) (xs : List V) : Prop :=
  (∃ o, H a = some (.frz o (.lst xs))) ∨
    ∃ (o : Obj) (its : Array Value) (n : Nat), K.lookup a = some o ∧ o.cls = .type "list" ∧ o.dict = none ∧ o.data = .seq its n ∧ its.size ≤ sizeLine ∧ Vals xs its.toList
inductive RO (ca : Nat → Addr) : Bool → Addr → Ob → Prop
  | lst {a : Addr} {xs : List Val} {ys : List V} : H a = some (.lst ys) → RVs K kt io n H xs ys → RO ca false a (.lst xs)
  | lstR {a : Addr} {xs : List Val} {ys : List V} : SqR K H a ys → RVs K kt io n H xs ys → RO ca true a (.lst xs)
  | dK {a : Addr} {kvs : List (Key × Val)} {kws : List (Key × V)} : H a = some (.dK kws) → RKs K kt io n H kvs kws → RO ca false a (.dK kvs)
  | dKR {a : Addr} {o : Obj} {kvs : List (Key × Val)} {kws : List (Key × V)} : H a = some (.frz o (.dK kws)) → RKs K kt io n H kvs kws → RO ca true a (.dK kvs)
  | dT {a : Addr} {kvs : List (List Key × Val)} {kws : List (List Key × V)} : H a = some (.dT kws) → RKs K kt io n H kvs kws → RO ca false a (.dT kvs)
  | dTR {a : Addr} {o : Obj} {kvs : List (List Key × Val)} {kws : List (List Key × V)} : H a = some (.frz o (.dT kws)) → RKs K kt io n H kvs kws → RO ca true a (.dT kvs)
  | ins {a dx : Addr} {c : Nat} {fs : List (Str × Val)} {gs : List (Str × V)} : H a = some (.ins (ca c) dx gs) → RKs K kt io n H fs gs → RO ca false a (.ins c fs)
end
structure Rl (K : PySem.W.Frag) (kt : List (List Val)) (ca io : Nat → Addr) (st : Store) (H : Hp) : Prop where
  ob : ∀ i, i < st.n → ∃ o, st.m i = some o ∧ RO K kt io st.n H ca (st.ro i) (io i) o
  no : ∀ i, st.n ≤ i → st.m i = none
  inj : ∀ i j, i < st.n → j < st.n → st.ro i = false → st.ro j = false → io i = io j → i = j
/-- what stays -/
structure Ext (H H' : Hp) : Prop where
  tup : ∀ a xs, H a = some (.tup xs) → H' a = some (.tup xs)
  frz : ∀ a o u, H a = some (.frz o u) → H' a = some (.frz o u)
theorem Ext.refl (H : Hp) : Ext H H := ⟨fun _ _ h => h, fun _ _ _ h => h⟩
theorem Ext.trans {H H1 H2 : Hp} (a : Ext H H1) (b : Ext H1 H2) : Ext H H2 := ⟨fun c xs h => b.tup c xs (a.tup c xs h), fun c o u h => b.frz c o u (a.frz c o u h)⟩
theorem Ext.new {H : Hp} {p : Addr} (o : HO) (h : H p = none) : Ext H (upd H p o) :=
  ⟨fun a xs e => by rw [upd_ne (ne_of_none e h)]; exact e, fun a q u e => by rw [upd_ne (ne_of_none e h)]; exact e⟩
/-- a thing that may be written -/
def MutO : HO → Prop
  | .lst _ => True
  | .dK _ => True
  | .dT _ => True
  | .ins _ _ _ => True
  | _ => False
theorem Ext.wr {H : Hp} {p : Addr} {o : HO} (u : HO) (h : H p = some o) (m : MutO o) : Ext H (upd H p u) :=
  ⟨fun a xs e => by rw [upd_ne (ne_of e h (fun z => by subst z; exact m))]; exact e, fun a q v e => by rw [upd_ne (ne_of e h (fun z => by subst z; exact m))]; exact e⟩
theorem Ext.sqT {K : PySem.W.Frag} {H H' : Hp} {a : Addr} {xs : List V} (e : Ext H H') (h : SqT K H a xs) : SqT K H' a xs := by
  rcases h with (h | ⟨o, h⟩) | h
  · exact .inl (.inl (e.tup _ _ h))
  · exact .inl (.inr ⟨o, e.frz _ _ _ h⟩)
  · exact .inr h
theorem Ext.sqW {K : PySem.W.Frag} {kt : List (List Val)} {H H' : Hp} {a : Addr} {xs : List Val} {ys : List V} (e : Ext H H') (h : SqW K kt H a xs ys) : SqW K kt H' a xs ys := by
  rcases h with h | h
  · exact .inl (e.tup _ _ h)
  · exact .inr h
theorem SqW.sqT {K : PySem.W.Frag} {kt : List (List Val)} {H : Hp} {a : Addr} {xs : List Val} {ys : List V} (h : SqW K kt H a xs ys) : SqT K H a ys := by
  rcases h with h | ⟨_, h⟩
  · exact .inl (.inl h)
  · exact .inr h
theorem Ext.sqR {K : PySem.W.Frag} {H H' : Hp} {a : Addr} {xs : List V} (e : Ext H H') (h : SqR K H a xs) : SqR K H' a xs := by
  rcases h with ⟨o, h⟩ | h
  · exact .inl ⟨o, e.frz _ _ _ h⟩
  · exact .inr h
theorem SqR.sqL {K : PySem.W.Frag} {H : Hp} {a : Addr} {xs : List V} (h : SqR K H a xs) : SqL K H a xs := by
  rcases h with ⟨o, h⟩ | h
  · exact .inl (.inr ⟨o, h⟩)
  · exact .inr h
/-- a later state -/
structure Up (io : Nat → Addr) (n : Nat) (H : Hp) (io' : Nat → Addr) (n' : Nat) (H' : Hp) : Prop where
  le : n ≤ n'
  io : ∀ i, i < n → io' i = io i
  ext : Ext H H'
theorem Up.refl (io : Nat → Addr) (n : Nat) (H : Hp) : Up io n H io n H := ⟨Nat.le_refl _, fun _ _ => rfl, .refl H⟩
theorem Up.trans {io io1 io2 : Nat → Addr} {n n1 n2 : Nat} {H H1 H2 : Hp} (a : Up io n H io1 n1 H1) (b : Up io1 n1 H1 io2 n2 H2) : Up io n H io2 n2 H2 :=
  ⟨Nat.le_trans a.le b.le, fun i h => (b.io i (Nat.lt_of_lt_of_le h a.le)).trans (a.io i h), a.ext.trans b.ext⟩
section
variable {K : PySem.W.Frag} {kt : List (List Val)} {io io' : Nat → Addr} {n n' : Nat} {H H' : Hp}
mutual
theorem RV.up (u : Up io n H io' n' H') : ∀ {v : Val} {w : V}, RV K kt io n H v w → RV K kt io' n' H' v w
  | _, _, .non => .non
  | _, _, .bl b => .bl b
  | _, _, .int i => .int i
  | _, _, .str x => .str x
  | _, _, .tup h r => .tup (u.ext.sqW h) (RVs.up u r)
  | _, _, .ref h => by rw [← u.io _ h]; exact .ref (Nat.lt_of_lt_of_le h u.le)
theorem RVs.up (u : Up io n H io' n' H') : ∀ {vs : List Val} {ws : List V}, RVs K kt io n H vs ws → RVs K kt io' n' H' vs ws
  | _, _, .nil => .nil
  | _, _, .cons h r => .cons (RV.up u h) (RVs.up u r)
end
theorem RKs.up {κ : Type} (u : Up io n H io' n' H') : ∀ {vs : List (κ × Val)} {ws : List (κ × V)}, RKs K kt io n H vs ws → RKs K kt io' n' H' vs ws
  | _, _, .nil => .nil
  | _, _, .cons h r => .cons (h.up u) (RKs.up u r)
theorem RVs.length : ∀ {vs : List Val} {ws : List V}, RVs K kt io n H vs ws → vs.length = ws.length
  | _, _, .nil => rfl
  | _, _, .cons _ r => by rw [List.length_cons, List.length_cons, RVs.length r]
theorem RKs.length {κ : Type} : ∀ {vs : List (κ × Val)} {ws : List (κ × V)}, RKs K kt io n H vs ws → vs.length = ws.length
  | _, _, .nil => rfl
  | _, _, .cons _ r => by rw [List.length_cons, List.length_cons, RKs.length r]
theorem RVs.append : ∀ {vs vs' : List Val} {ws ws' : List V}, RVs K kt io n H vs ws → RVs K kt io n H vs' ws' → RVs K kt io n H (vs ++ vs') (ws ++ ws')
  | _, _, _, _, .nil, q => q
  | _, _, _, _, .cons h r, q => .cons h (RVs.append r q)
theorem RVs.get : ∀ {vs : List Val} {ws : List V} {i : Nat} {v : Val}, RVs K kt io n H vs ws → vs[i]? = some v → ∃ w, ws[i]? = some w ∧ RV K kt io n H v w
  | _, _, _, _, .nil, e => by simp at e
  | _, _, 0, _, .cons h r, e => by simp at e; subst e; exact ⟨_, rfl, h⟩
  | _, _, i + 1, v, .cons h r, e => by
    obtain ⟨w, e1, e2⟩ := RVs.get (i := i) (v := v) r (by simpa using e)
    exact ⟨w, by simpa using e1, e2⟩
theorem RVs.set {v : Val} {w : V} (q : RV K kt io n H v w) : ∀ {vs : List Val} {ws : List V} (i : Nat), RVs K kt io n H vs ws → RVs K kt io n H (vs.set i v) (ws.set i w)
  | _, _, _, .nil => .nil
  | _, _, 0, .cons _ r => .cons q r
  | _, _, i + 1, .cons h r => .cons h (RVs.set q i r)
theorem RVs.drop : ∀ {vs : List Val} {ws : List V} (k : Nat), RVs K kt io n H vs ws → RVs K kt io n H (vs.drop k) (ws.drop k)
  | _, _, 0, r => r
  | _, _, _ + 1, .nil => .nil
  | _, _, k + 1, .cons _ r => RVs.drop k r
theorem RVs.take : ∀ {vs : List Val} {ws : List V} (k : Nat), RVs K kt io n H vs ws → RVs K kt io n H (vs.take k) (ws.take k)
  | _, _, 0, _ => .nil
  | _, _, _ + 1, .nil => .nil
  | _, _, k + 1, .cons h r => .cons h (RVs.take k r)
theorem RVs.dropLast : ∀ {vs : List Val} {ws : List V}, RVs K kt io n H vs ws → RVs K kt io n H vs.dropLast ws.dropLast := fun {vs ws} r => by
  rw [List.dropLast_eq_take, List.dropLast_eq_take, r.length]
  exact r.take _
theorem RVs.rep {vs : List Val} {ws : List V} (h : RVs K kt io n H vs ws) : ∀ k : Nat, RVs K kt io n H (List.replicate k vs).flatten (List.replicate k ws).flatten
  | 0 => .nil
  | k + 1 => by
    rw [List.replicate_succ, List.replicate_succ, List.flatten_cons, List.flatten_cons]
    exact h.append (RVs.rep h k)
theorem RVs.one {v : Val} {ws : List V} (h : RVs K kt io n H [v] ws) : ∃ w, ws = [w] ∧ RV K kt io n H v w := by
  cases h with
  | cons a b => cases b; exact ⟨_, rfl, a⟩
theorem RVs.two {v u : Val} {ws : List V} (h : RVs K kt io n H [v, u] ws) : ∃ w x, ws = [w, x] ∧ RV K kt io n H v w ∧ RV K kt io n H u x := by
  cases h with
  | cons a b => obtain ⟨x, rfl, q⟩ := b.one; exact ⟨_, x, rfl, a, q⟩
theorem RVs.empty {vs : List Val} {ws : List V} (h : RVs K kt io n H vs ws) : vs.isEmpty = ws.isEmpty := by cases h <;> rfl
theorem RKs.empty {κ : Type} {vs : List (κ × Val)} {ws : List (κ × V)} (h : RKs K kt io n H vs ws) : vs.isEmpty = ws.isEmpty := by cases h <;> rfl
theorem RKs.look {κ : Type} [DecidableEq κ] (k : κ) : ∀ {vs : List (κ × Val)} {ws : List (κ × V)}, RKs K kt io n H vs ws →
    (look vs k = none ∧ valV ws k = none) ∨ ∃ v w, look vs k = some v ∧ valV ws k = some w ∧ RV K kt io n H v w
  | _, _, .nil => .inl ⟨rfl, rfl⟩
  | _, _, @RKs.cons _ _ _ _ _ _ j x y xs ys h r => by
    by_cases e : j = k
    · refine .inr ⟨x, y, ?_, ?_, h⟩
      · simp [CL.look, List.find?_cons, e]
      · exact valV_pos e
    · have ih := RKs.look k r
      have e1 : CL.look ((j, x) :: xs) k = CL.look xs k := by simp [CL.look, List.find?_cons, e]
      have e2 : valV ((j, y) :: ys) k = valV ys k := valV_neg (p := (j, y)) e
      rw [e1, e2]; exact ih
theorem RKs.any {κ : Type} [DecidableEq κ] (k : κ) : ∀ {vs : List (κ × Val)} {ws : List (κ × V)}, RKs K kt io n H vs ws → (vs.any fun kv => decide (kv.1 = k)) = ws.any fun kv => decide (kv.1 = k)
  | _, _, .nil => rfl
  | _, _, .cons h r => by rw [List.any_cons, List.any_cons, RKs.any k r]
theorem RKs.repl {κ : Type} [DecidableEq κ] (k : κ) {v : Val} {w : V} (q : RV K kt io n H v w) : ∀ {vs : List (κ × Val)} {ws : List (κ × V)}, RKs K kt io n H vs ws →
    RKs K kt io n H (vs.map fun kv => if kv.1 = k then (kv.1, v) else kv) (ws.map fun kv => if kv.1 = k then (kv.1, w) else kv)
  | _, _, .nil => .nil
  | _, _, @RKs.cons _ _ _ _ _ _ j x y xs ys h r => by
    rw [List.map_cons, List.map_cons]
    by_cases e : j = k
    · rw [if_pos e, if_pos e]; exact .cons q (RKs.repl k q r)
    · rw [if_neg e, if_neg e]; exact .cons h (RKs.repl k q r)
theorem RKs.snoc {κ : Type} (k : κ) {v : Val} {w : V} (q : RV K kt io n H v w) : ∀ {vs : List (κ × Val)} {ws : List (κ × V)}, RKs K kt io n H vs ws → RKs K kt io n H (vs ++ [(k, v)]) (ws ++ [(k, w)])
  | _, _, .nil => .cons q .nil
  | _, _, .cons h r => .cons h (RKs.snoc k q r)
theorem RKs.put {κ : Type} [DecidableEq κ] (k : κ) {v : Val} {w : V} (q : RV K kt io n H v w) {vs : List (κ × Val)} {ws : List (κ × V)} (r : RKs K kt io n H vs ws) : RKs K kt io n H (put vs k v) (putK ws k w) := by
  unfold CL.put putK
  rw [r.any k]
  split
  · exact r.repl k q
  · exact r.snoc k q
theorem RKs.merge {ms : List (Key × Val)} {ns : List (Key × V)} (h : RKs K kt io n H ms ns) : ∀ {vs : List (Key × Val)} {ws : List (Key × V)}, RKs K kt io n H vs ws → RKs K kt io n H (merge vs ms) (mergeK ws ns) := by
  induction h with
  | nil => intro vs ws r; exact r
  | cons h t ih => intro vs ws r; exact ih (r.put _ h)
theorem RKs.lookup (f : Str) : ∀ {vs : List (Str × Val)} {ws : List (Str × V)}, RKs K kt io n H vs ws →
    (vs.lookup f = none ∧ ws.lookup f = none) ∨ ∃ v w, vs.lookup f = some v ∧ ws.lookup f = some w ∧ RV K kt io n H v w
  | _, _, .nil => .inl ⟨rfl, rfl⟩
  | _, _, @RKs.cons _ _ _ _ _ _ j x y xs ys h r => by
    have ih := RKs.lookup f r
    rw [List.lookup_cons, List.lookup_cons]
    cases f == j with
    | true => exact .inr ⟨x, y, rfl, rfl, h⟩
    | false => exact ih
theorem RKs.setF (f : Str) {v : Val} {w : V} (q : RV K kt io n H v w) : ∀ {vs : List (Str × Val)} {ws : List (Str × V)}, RKs K kt io n H vs ws → RKs K kt io n H (setF f v vs) (L2.putF f w ws)
  | _, _, .nil => .cons q .nil
  | _, _, @RKs.cons _ _ _ _ _ _ j x y xs ys h r => by
    unfold CL.setF L2.putF
    by_cases e : j = f
    · rw [if_pos e, if_pos e, e]; exact .cons q r
    · rw [if_neg e, if_neg e]; exact .cons h (RKs.setF f q r)
theorem RO.up {ca : Nat → Addr} {a : Addr} {b : Bool} {o : Ob} (u : Up io n H io' n' H') (e : b = false → H' a = H a) (h : RO K kt io n H ca b a o) : RO K kt io' n' H' ca b a o := by
  cases h with
  | lst h r => exact .lst ((e rfl).trans h) (r.up u)
  | lstR h r => exact .lstR (u.ext.sqR h) (r.up u)
  | dK h r => exact .dK ((e rfl).trans h) (r.up u)
  | dKR h r => exact .dKR (u.ext.frz _ _ _ h) (r.up u)
  | dT h r => exact .dT ((e rfl).trans h) (r.up u)
  | dTR h r => exact .dTR (u.ext.frz _ _ _ h) (r.up u)
  | ins h r => exact .ins ((e rfl).trans h) (r.up u)
theorem RO.mutO {ca : Nat → Addr} {a : Addr} {o : Ob} (h : RO K kt io n H ca false a o) : ∃ x, H a = some x ∧ MutO x := by
  cases h with
  | lst h r => exact ⟨_, h, trivial⟩
  | dK h r => exact ⟨_, h, trivial⟩
  | dT h r => exact ⟨_, h, trivial⟩
  | ins h r => exact ⟨_, h, trivial⟩
end

section
variable {K : PySem.W.Frag} {kt : List (List Val)} {ca io : Nat → Addr} {st : Store} {H : Hp}
theorem Rl.at (R : Rl K kt ca io st H) {i : Nat} {o : Ob} (e : st.m i = some o) : i < st.n ∧ RO K kt io st.n H ca (st.ro i) (io i) o := by
  by_cases h : i < st.n
  · obtain ⟨o', e', r⟩ := R.ob i h
    rw [e] at e'; cases e'
    exact ⟨h, r⟩
  · rw [R.no i (Nat.le_of_not_lt h)] at e; cases e
/-- the map behind a new thing -/
def ioNew (io : Nat → Addr) (n : Nat) (p : Addr) : Nat → Addr := fun i => if i = n then p else io i
theorem ioNew_at (io : Nat → Addr) (n : Nat) (p : Addr) : ioNew io n p n = p := if_pos rfl
theorem ioNew_ne {io : Nat → Addr} {n i : Nat} {p : Addr} (h : i ≠ n) : ioNew io n p i = io i := if_neg h
theorem Up.new {p : Addr} (o : HO) (h : H p = none) : Up io st.n H (ioNew io st.n p) (st.n + 1) (upd H p o) :=
  ⟨Nat.le_succ _, fun i hi => ioNew_ne (Nat.ne_of_lt hi), .new o h⟩
theorem Rl.new (R : Rl K kt ca io st H) {p : Addr} {o : Ob} {u : HO} (h : H p = none) (r : RO K kt (ioNew io st.n p) (st.n + 1) (upd H p u) ca false p o) :
    Rl K kt ca (ioNew io st.n p) (st.new o) (upd H p u) := by
  have up := Up.new (io := io) (st := st) u h
  have old : ∀ i, i < st.n → ∃ q, st.m i = some q ∧ RO K kt (ioNew io st.n p) (st.n + 1) (upd H p u) ca (st.ro i) (io i) q := fun i hi => by
    obtain ⟨q, e, rq⟩ := R.ob i hi
    refine ⟨q, e, rq.up up fun hr => ?_⟩
    rw [hr] at rq
    obtain ⟨x, ex, _⟩ := rq.mutO
    exact upd_ne (ne_of_none ex h)
  refine ⟨fun i hi => ?_, fun i hi => ?_, fun i j hi hj ri rj e => ?_⟩
  · by_cases e : i = st.n
    · subst e
      refine ⟨o, if_pos rfl, ?_⟩
      show RO K kt (ioNew io st.n p) (st.n + 1) (upd H p u) ca (if st.n = st.n then false else st.ro st.n) (ioNew io st.n p st.n) o
      rw [if_pos rfl, ioNew_at]; exact r
    · have hi' : i < st.n + 1 := hi
      obtain ⟨q, eq, rq⟩ := old i (by omega)
      refine ⟨q, (if_neg e).trans eq, ?_⟩
      show RO K kt (ioNew io st.n p) (st.n + 1) (upd H p u) ca (if i = st.n then false else st.ro i) (ioNew io st.n p i) q
      rw [if_neg e, ioNew_ne e]; exact rq
  · have hi' : st.n + 1 ≤ i := hi
    exact (if_neg (by omega)).trans (R.no i (by omega))
  · have hi' : i < st.n + 1 := hi
    have hj' : j < st.n + 1 := hj
    have apart : ∀ k, k < st.n → (st.new o).ro k = false → io k ≠ p := fun k hk rk => by
      have rk' : st.ro k = false := by
        have : (if k = st.n then false else st.ro k) = false := rk
        rw [if_neg (Nat.ne_of_lt hk)] at this; exact this
      obtain ⟨q, _, rq⟩ := R.ob k hk
      rw [rk'] at rq
      obtain ⟨x, ex, _⟩ := rq.mutO
      exact ne_of_none ex h
    by_cases ei : i = st.n
    · by_cases ej : j = st.n
      · rw [ei, ej]
      · rw [ei, ioNew_at, ioNew_ne ej] at e
        exact absurd e.symm (apart j (by omega) rj)
    · by_cases ej : j = st.n
      · rw [ej, ioNew_at, ioNew_ne ei] at e
        exact absurd e (apart i (by omega) ri)
      · rw [ioNew_ne ei, ioNew_ne ej] at e
        have r1 : (if i = st.n then false else st.ro i) = false := ri
        have r2 : (if j = st.n then false else st.ro j) = false := rj
        rw [if_neg ei] at r1; rw [if_neg ej] at r2
        exact R.inj i j (by omega) (by omega) r1 r2 e
theorem Up.wr {i : Nat} {x : HO} (u : HO) (h : H (io i) = some x) (m : MutO x) : Up io st.n H io st.n (upd H (io i) u) := ⟨Nat.le_refl _, fun _ _ => rfl, .wr u h m⟩
theorem Rl.wr (R : Rl K kt ca io st H) {i : Nat} {o : Ob} {u : HO} (hi : i < st.n) (hr : st.ro i = false) (r : RO K kt io st.n (upd H (io i) u) ca false (io i) o) :
    Rl K kt ca io (st.set i o) (upd H (io i) u) := by
  obtain ⟨q, _, rq⟩ := R.ob i hi
  rw [hr] at rq
  obtain ⟨x, ex, mx⟩ := rq.mutO
  have up := Up.wr (io := io) (st := st) u ex mx
  refine ⟨fun j hj => ?_, fun j hj => ?_, R.inj⟩
  · by_cases e : j = i
    · subst e
      refine ⟨o, if_pos rfl, ?_⟩
      show RO K kt io st.n (upd H (io j) u) ca (st.ro j) (io j) o
      rw [hr]; exact r
    · obtain ⟨p, ep, rp⟩ := R.ob j hj
      refine ⟨p, (if_neg e).trans ep, rp.up up fun hj' => upd_ne fun z => e (R.inj j i hj hi hj' hr z)⟩
  · have hj' : st.n ≤ j := hj
    exact (if_neg (by omega)).trans (R.no j hj')
end
end CL

/-! CL, part 0: a tuple once -/
namespace CL
open PySem PySem.Spec PyProof.Rows L2
set_option maxHeartbeats 4000000 in
theorem tuple_mul1 (l : Addr) (items : Array Value) (n : Nat) (dd : Option Addr) (sl : Array (Option Value)) (u : Tok) (c1 : (items.isEmpty || (1 : Int) == 1) = true) :
    Meets (Builtin.«tuple.__mul__» ⟨[.ref l, .int 1 u], []⟩) (fun _ R s => s.heap.get? l = some { cls := .type "tuple", dict := dd, data := .seq items n, slots := sl } ∧ R (.ok (.ret (Value.ref l))) s) :=
  .of_wp fun prog w A R s h => by
    obtain ⟨hp, g, d, tk, os⟩ := s
    obtain ⟨hl, h⟩ := h
    have f1 := AutoSeq1.idx_int
    wp_walk using wpAny_loadPart' hl
    repeat (first
      | (refine wpAny_ite_false (decide_eq_false (by decide)) ?_; wp_walk using wpAny_loadPart' hl)
      | (refine wpAny_ite_true (decide_eq_true c1) ?_; wp_walk using wpAny_loadPart' hl))
    exact ⟨_, rfl, h⟩
def rOneT (K : PySem.W.Frag) : R2 := fun x y H Q => ∃ l xs, x = .ref l ∧ y = .int 1 ∧ SqT K H l xs ∧ Q (.ref l) H
theorem op_oneT {X : Cx} : OpR X (binaryOp .Mult) (rOneT X.K) := by
  intro pins s σ H x y v u Q I rx ry h
  obtain ⟨l, xs, rfl, rfl, hT, q⟩ := h
  cases rx
  obtain ⟨t, rfl⟩ := ry
  obtain ⟨its, r, ⟨⟨cls, dd, data, sl⟩, ho, hc, n, hd⟩, hs⟩ := I.tuple hT
  simp only at hc hd
  subst hc hd
  refine wpAny_binaryOp_repeat_ref (T := "tuple") (U := "int") (by decide) ⟨_, ho, rfl⟩ (fun s' => typeIs_int s' 1 t) noFill_tuple_mul F.fills_int_mul F.slot_int_rmul repeat_tuple F.slot_int_index.lookup
    (call_meets F.slot_int_rmul (typeIs_int s 1 t) F.entry_int_rmul (F.args_int_rmul_2 _ _) (int_rmul_tuple 1 t l its.toArray n dd sl)
      ⟨ho, rfl, ⟨_, ho, rfl⟩, call_meets F.slot_tuple_mul ⟨_, ho, rfl⟩ F.entry_tuple_mul (F.args_tuple_mul_2 _ _) (tuple_mul1 l its.toArray n dd sl t (by simp)) ⟨ho, ?_⟩⟩)
  exact ⟨.ref l, H, I, rfl, q⟩
set_option maxHeartbeats 4000000 in
theorem tuple_mul0 (l : Addr) (items : Array Value) (n : Nat) (dd : Option Addr) (sl : Array (Option Value)) (u : Tok) (c1 : (items.isEmpty || (0 : Int) == 1) = false) :
    Meets (Builtin.«tuple.__mul__» ⟨[.ref l, .int 0 u], []⟩) (fun _ R s => s.heap.get? l = some { cls := .type "tuple", dict := dd, data := .seq items n, slots := sl } ∧ R (.ok (.ret (Value.ref s.heap.objs.size))) { s with heap := s.heap.push { cls := Value.type "tuple", data := Data.seq #[] }, toks := s.toks }) :=
  .of_wp fun prog w A R s h => by
    obtain ⟨hp, g, d, tk, os⟩ := s
    obtain ⟨hl, h⟩ := h
    have f1 := AutoSeq1.idx_int
    have c2 : (decide ((0 : Int) ≤ 0) || items.isEmpty) = true := rfl
    wp_walk using wpAny_loadPart' hl
    repeat (first
      | (refine wpAny_ite_false (decide_eq_false (by decide)) ?_; wp_walk using wpAny_loadPart' hl)
      | (refine wpAny_ite_false (decide_eq_false (by rw [c1]; exact Bool.false_ne_true)) ?_; wp_walk using wpAny_loadPart' hl)
      | (refine wpAny_ite_true (decide_eq_true c2) ?_; wp_walk using wpAny_loadPart' hl))
    exact ⟨_, rfl, h⟩
def rNoneT (K : PySem.W.Frag) : R2 := fun x y H Q => ∃ l xs, x = .ref l ∧ y = .int 0 ∧ SqT K H l xs ∧ xs ≠ [] ∧ ∀ p, H p = none → Q (.ref p) (upd H p (.tup []))
theorem op_noneT {X : Cx} : OpR X (binaryOp .Mult) (rNoneT X.K) := by
  intro pins s σ H x y v u Q I rx ry h
  obtain ⟨l, xs, rfl, rfl, hT, hne, q⟩ := h
  cases rx
  obtain ⟨t, rfl⟩ := ry
  obtain ⟨its, r, ⟨⟨cls, dd, data, sl⟩, ho, hc, n, hd⟩, hs⟩ := I.tuple hT
  simp only at hc hd
  subst hc hd
  have hi : its.toArray.isEmpty = false := by
    cases its with
    | nil => cases r; exact absurd rfl hne
    | cons a b => rfl
  refine wpAny_binaryOp_repeat_ref (T := "tuple") (U := "int") (by decide) ⟨_, ho, rfl⟩ (fun s' => typeIs_int s' 0 t) noFill_tuple_mul F.fills_int_mul F.slot_int_rmul repeat_tuple F.slot_int_index.lookup
    (call_meets F.slot_int_rmul (typeIs_int s 0 t) F.entry_int_rmul (F.args_int_rmul_2 _ _) (int_rmul_tuple 0 t l its.toArray n dd sl)
      ⟨ho, rfl, ⟨_, ho, rfl⟩, call_meets F.slot_tuple_mul ⟨_, ho, rfl⟩ F.entry_tuple_mul (F.args_tuple_mul_2 _ _) (tuple_mul0 l its.toArray n dd sl t (by rw [hi]; rfl)) ⟨ho, ?_⟩⟩)
  refine ⟨.ref s.heap.objs.size, _, I.laid (t' := s.toks) (o := .tup []) (fun b ob q => Heap.get?_push_of_some _ q) (Nat.le_refl _) ?_, rfl, q _ (I.hok.fresh (Nat.le_refl _))⟩
  exact ⟨Nat.zero_le _, [], .nil, IsTup.new _ _⟩
end CL

/-! CL, part c: operators, subscripts, built-ins: what the store's run says holds of the model -/
namespace CL
open PySem L2

/-- what is wanted behind a run that gave v and left st' -/
def Post (K : PySem.W.Frag) (kt : List (List Val)) (ca io : Nat → Addr) (st : Store) (H : Hp) (v : Val) (st' : Store) (Q : VK) : Prop :=
  ∀ (io' : Nat → Addr) (H' : Hp) (w : V), Up io st.n H io' st'.n H' → Rl K kt ca io' st' H' → RV K kt io' st'.n H' v w → Q w H'
section
variable {K : PySem.W.Frag} {kt : List (List Val)} {ca io : Nat → Addr} {st st' : Store} {H : Hp} {v : Val} {w : V} {Q : VK}
theorem Post.here (p : Post K kt ca io st H v st Q) (R : Rl K kt ca io st H) (r : RV K kt io st.n H v w) : Q w H := p io H w (.refl _ _ _) R r
/-- a new list, dict -/
theorem Post.made {o : Ob} {u : HO} (p : Post K kt ca io st H (.ref st.n) (st.new o) Q) (R : Rl K kt ca io st H)
    (r : ∀ a, H a = none → RO K kt (ioNew io st.n a) (st.n + 1) (upd H a u) ca false a o) (a : Addr) (ha : H a = none) : Q (.ref a) (upd H a u) := by
  refine p (ioNew io st.n a) _ _ (Up.new u ha) (R.new ha (r a ha)) ?_
  have h : RV K kt (ioNew io st.n a) (st.n + 1) (upd H a u) (.ref st.n) (.ref (ioNew io st.n a st.n)) := .ref (Nat.lt_succ_self _)
  rw [ioNew_at] at h; exact h
theorem Post.list {xs : List Val} {ys : List V} (p : Post K kt ca io st H (.ref st.n) (st.new (.lst xs)) Q) (R : Rl K kt ca io st H) (r : RVs K kt io st.n H xs ys) (a : Addr) (ha : H a = none) :
    Q (.ref a) (upd H a (.lst ys)) := p.made R (fun a ha => .lst upd_same (r.up (Up.new _ ha))) a ha
/-- a new tuple -/
theorem Post.tup {xs : List Val} {ys : List V} (p : Post K kt ca io st H (.tup xs) st Q) (R : Rl K kt ca io st H) (r : RVs K kt io st.n H xs ys) (a : Addr) (ha : H a = none) :
    Q (.ref a) (upd H a (.tup ys)) := by
  have up : Up io st.n H io st.n (upd H a (.tup ys)) := ⟨Nat.le_refl _, fun _ _ => rfl, .new _ ha⟩
  refine p io _ _ up ⟨fun i hi => ?_, R.no, R.inj⟩ (.tup (.inl upd_same) (r.up up))
  obtain ⟨q, e, rq⟩ := R.ob i hi
  refine ⟨q, e, rq.up up fun hr => ?_⟩
  rw [hr] at rq
  obtain ⟨x, ex, _⟩ := rq.mutO
  exact upd_ne (ne_of_none ex ha)
/-- a thing written -/
theorem Post.wrote {i : Nat} {o : Ob} {u : HO} (p : Post K kt ca io st H v (st.set i o) Q) (R : Rl K kt ca io st H) (hi : i < st.n) (hr : st.ro i = false)
    (r : Up io st.n H io st.n (upd H (io i) u) → RO K kt io st.n (upd H (io i) u) ca false (io i) o ∧ RV K kt io st.n (upd H (io i) u) v w) : Q w (upd H (io i) u) := by
  obtain ⟨q, _, rq⟩ := R.ob i hi
  rw [hr] at rq
  obtain ⟨x, ex, mx⟩ := rq.mutO
  have up := Up.wr (io := io) (st := st) u ex mx
  obtain ⟨r1, r2⟩ := r up
  exact p io _ _ up (R.wr hi hr r1) r2
end

/-! ### the model's own readings, by what they are -/
section
variable {X : Cx}
def tSem (X : Cx) (e : Expr) : TE := fun σ H Q => ∀ (pins : List (Addr × Obj)) (s : Shared), Inv X pins σ H s → wpAny (model X.prog X.w) X.A (eval e X.env) (EP X pins σ Q) X.xe s
theorem pe_sem {e : Expr} : PE X e (tSem X e) := ⟨fun pins s σ H Q I h => h pins s I⟩
def bSem (X : Cx) (e : Expr) : TT := fun σ H Q => ∀ (pins : List (Addr × Obj)) (s : Shared), Inv X pins σ H s → wpAny (model X.prog X.w) X.A (isTrue e X.env (eval e X.env)) (TP X pins σ Q) X.xe s
theorem pt_sem {e : Expr} : PT X e (bSem X e) := ⟨fun pins s σ H Q I h => h pins s I⟩
def oSem (X : Cx) (f : Value → Value → Sem Value) : R2 := fun x y H Q => ∀ (pins : List (Addr × Obj)) (s : Shared) (σ : St) (v u : Value), Inv X pins σ H s → RelV x v → RelV y u → wpAny (model X.prog X.w) X.A (f v u) (EP X pins σ Q) X.xe s
theorem op_sem {f : Value → Value → Sem Value} : OpR X f (oSem X f) := fun pins s σ H x y v u Q I rx ry h => h pins s σ v u I rx ry
theorem oSem.of {f : Value → Value → Sem Value} {r : R2} (ho : OpR X f r) {x y : V} {H : Hp} {Q : VK} (h : r x y H Q) : oSem X f x y H Q := fun pins s σ v u I rx ry => ho pins s σ H x y v u Q I rx ry h
def cSem (X : Cx) (f : Value) : List V → Hp → VK → Prop := fun xs H Q => ∀ (pins : List (Addr × Obj)) (s : Shared) (σ : St) (us : List Value), Inv X pins σ H s → Vals xs us → wpAny (model X.prog X.w) X.A (call f us) (EP X pins σ Q) X.xe s
theorem call_sem {f : Value} : CallR X f (cSem X f) := fun pins s σ H xs us Q I r h => h pins s σ us I r
theorem cSem.of {f : Value} {r : List V → Hp → VK → Prop} (ho : CallR X f r) {xs : List V} {H : Hp} {Q : VK} (h : r xs H Q) : cSem X f xs H Q := fun pins s σ us I rv => ho pins s σ H xs us Q I rv h
def mSem (X : Cx) (id : String) : V → List V → Hp → VK → Prop := fun x xs H Q => ∀ (pins : List (Addr × Obj)) (s : Shared) (σ : St) (v : Value) (us : List Value), Inv X pins σ H s → RelV x v → Vals xs us → wpAny (model X.prog X.w) X.A (call (.builtin id) (v :: us)) (EP X pins σ Q) X.xe s
theorem mt_sem {id : String} : MtR X id (mSem X id) := fun pins s σ H x xs v us Q I r rs h => h pins s σ v us I r rs
theorem mSem.of {id : String} {r : V → List V → Hp → VK → Prop} (ho : MtR X id r) {x : V} {xs : List V} {H : Hp} {Q : VK} (h : r x xs H Q) : mSem X id x xs H Q := fun pins s σ v us I rx rs => ho pins s σ H x xs v us Q I rx rs h
def gSem (X : Cx) : TSet := fun o i v H Q => ∀ (pins : List (Addr × Obj)) (s : Shared) (σ : St) (ov iv u : Value), Inv X pins σ H s → RelV o ov → RelV i iv → RelV v u → wpAny (model X.prog X.w) X.A (setItem ov iv u) (fun _ s' => ∃ H', Inv X pins σ H' s' ∧ Q H') X.xe s
theorem set_sem : PSet X (gSem X) := fun pins s σ H o i v ov iv u Q I ro ri rv h => h pins s σ ov iv u I ro ri rv
theorem gSem.of {t : TSet} (ho : PSet X t) {o i v : V} {H : Hp} {Q : Hp → Prop} (h : t o i v H Q) : gSem X o i v H Q := fun pins s σ ov iv u I r1 r2 r3 => ho pins s σ H o i v ov iv u Q I r1 r2 r3 h
end

/-! ### a list's place -/
section
variable {K : PySem.W.Frag} {kt : List (List Val)} {ca io : Nat → Addr} {st st' : Store} {H : Hp}
theorem Rl.list (R : Rl K kt ca io st H) {i : Nat} {xs : List Val} (e : st.m i = some (.lst xs)) : ∃ ys, SqL K H (io i) ys ∧ RVs K kt io st.n H xs ys ∧ (st.ro i = false → H (io i) = some (.lst ys)) := by
  obtain ⟨hi, r⟩ := R.at e
  generalize st.ro i = b at r ⊢
  cases r with
  | lst h q => exact ⟨_, .of h, q, fun _ => h⟩
  | lstR h q => exact ⟨_, h.sqL, q, fun z => by cases z⟩
theorem Rl.dictK (R : Rl K kt ca io st H) {i : Nat} {kvs : List (Key × Val)} (e : st.m i = some (.dK kvs)) : ∃ kws, Rd H (io i) (.dK kws) ∧ RKs K kt io st.n H kvs kws ∧ (st.ro i = false → H (io i) = some (.dK kws)) := by
  obtain ⟨hi, r⟩ := R.at e
  generalize st.ro i = b at r ⊢
  cases r with
  | dK h q => exact ⟨_, .inl h, q, fun _ => h⟩
  | dKR h q => exact ⟨_, .inr ⟨_, h⟩, q, fun z => by cases z⟩
theorem Rl.dictT (R : Rl K kt ca io st H) {i : Nat} {kvs : List (List Key × Val)} (e : st.m i = some (.dT kvs)) : ∃ kws, Rd H (io i) (.dT kws) ∧ RKs K kt io st.n H kvs kws ∧ (st.ro i = false → H (io i) = some (.dT kws)) := by
  obtain ⟨hi, r⟩ := R.at e
  generalize st.ro i = b at r ⊢
  cases r with
  | dT h q => exact ⟨_, .inl h, q, fun _ => h⟩
  | dTR h q => exact ⟨_, .inr ⟨_, h⟩, q, fun z => by cases z⟩
theorem Rl.inst (R : Rl K kt ca io st H) {i c : Nat} {fs : List (Str × Val)} (e : st.m i = some (.ins c fs)) : i < st.n ∧ st.ro i = false ∧ ∃ dx gs, H (io i) = some (.ins (ca c) dx gs) ∧ RKs K kt io st.n H fs gs := by
  obtain ⟨hi, r⟩ := R.at e
  refine ⟨hi, ?_⟩
  generalize st.ro i = b at r ⊢
  cases r with
  | ins h q => exact ⟨rfl, _, _, h, q⟩
theorem RV.iref {i : Nat} {n : Nat} {w : V} (h : RV K kt io n H (.ref i) w) : w = .ref (io i) ∧ i < n := by cases h with | ref h => exact ⟨rfl, h⟩
theorem RV.iint {i : Int} {n : Nat} {w : V} (h : RV K kt io n H (.int i) w) : w = .int i := by cases h; rfl
theorem RV.istr {x : Str} {n : Nat} {w : V} (h : RV K kt io n H (.str x) w) : w = .str x := by cases h; rfl
theorem RV.ibl {b : Bool} {n : Nat} {w : V} (h : RV K kt io n H (.bl b) w) : w = .bl b := by cases h; rfl
theorem RV.inon {n : Nat} {w : V} (h : RV K kt io n H .non w) : w = .non := by cases h; rfl
theorem RV.itup {xs : List Val} {n : Nat} {w : V} (h : RV K kt io n H (.tup xs) w) : ∃ a ys, w = .ref a ∧ SqW K kt H a xs ys ∧ RVs K kt io n H xs ys := by cases h with | tup h r => exact ⟨_, _, rfl, h, r⟩
theorem RVs.atI {xs : List Val} {ys : List V} {n : Nat} (r : RVs K kt io n H xs ys) {i : Int} {v : Val} (h : atI xs i = some v) : ∃ w, atI ys i = some w ∧ RV K kt io n H v w := by
  unfold L2.atI at h ⊢
  rw [← r.length]
  cases q : ixN xs.length i with
  | none => rw [q] at h; cases h
  | some j =>
    rw [q] at h
    exact r.get (show xs[j]? = some v from h)
theorem RVs.cut {xs : List Val} {ys : List V} {n : Nat} (r : RVs K kt io n H xs ys) (lo hi : Option Int) : RVs K kt io n H (cutL xs lo hi) (L2.cutV ys lo hi) := by
  unfold cutL L2.cutV
  rw [r.length]
  exact (r.drop _).take _
end
theorem fits_le {n : Nat} (h : fits n = true) : n ≤ sizeLine := of_decide_eq_true h

/-! ### + - * // % ** -/
section
variable {X : Cx} {kt : List (List Val)} {ca io : Nat → Addr} {st st' : Store} {H : Hp}
def CDivL (_ j : Int) : Prop := j ≠ 0 ∧ j.natAbs.log2 < 9000
theorem op_fdivL : OpR X (binaryOp .FloorDiv) (rI CDivL fun i j => .int (i.fdiv j)) := opI fun _ _ _ _ _ _ _ hc q => PyProof.Rows.floordiv_int hc.1 q (.inl (PyProof.noPylong_of_log2 hc.2))
def opOf : Bop → Operator
  | .add => .Add | .sub => .Sub | .mul => .Mult | .fdiv => .FloorDiv | .mod => .Mod | .pow => .Pow
theorem bop_ok {o : Bop} {a b v : Val} {x y : V} {Q : VK} (R : Rl X.K kt ca io st H) (ra : RV X.K kt io st.n H a x) (rb : RV X.K kt io st.n H b y) (e : bop o a b st = .ok v st') (p : Post X.K kt ca io st H v st' Q) :
    oSem X (binaryOp (opOf o)) x y H Q := by
  unfold bop at e
  split at e
  · cases e
    obtain rfl := ra.iint
    obtain rfl := rb.iint
    exact oSem.of op_add ⟨_, _, rfl, rfl, p.here R (.int _)⟩
  · split at e
    · rename_i hf
      cases e
      obtain rfl := ra.istr
      obtain rfl := rb.istr
      exact oSem.of op_add_str ⟨_, _, rfl, rfl, fits_le hf, p.here R (.str _)⟩
    · cases e
  · split at e
    · rename_i hf
      cases e
      obtain ⟨a1, ys, rfl, s1, r1⟩ := ra.itup
      obtain ⟨a2, zs, rfl, s2, r2⟩ := rb.itup
      refine oSem.of op_catA ⟨_, _, ys, zs, rfl, rfl, s1.sqT, s2.sqT, by rw [← r1.length, ← r2.length]; exact fits_le hf, fun h => ?_, fun _ h => ?_, fun _ _ q hq => p.tup R (r1.append r2) q hq⟩
      · subst h
        cases r1
        exact p.here R (.tup s2 r2)
      · subst h
        cases r2
        rw [List.append_nil] at p
        exact p.here R (.tup s1 r1)
    · cases e
  · split at e
    · rename_i xs ys e1 e2
      split at e
      · cases e
      · rename_i hro
        split at e
        · rename_i hf
          cases e
          obtain ⟨rfl, _⟩ := ra.iref
          obtain ⟨rfl, _⟩ := rb.iref
          obtain ⟨us, s1, r1, h1⟩ := R.list e1
          obtain ⟨ws, s2, r2, h2⟩ := R.list e2
          simp only [Bool.or_eq_true, not_or, Bool.not_eq_true] at hro
          exact oSem.of op_cat ⟨_, _, us, ws, rfl, rfl, h1 hro.1, h2 hro.2, by rw [← r1.length, ← r2.length]; exact fits_le hf, fun q hq => p.list R (r1.append r2) q hq⟩
        · cases e
    · cases e
  · cases e
    obtain rfl := ra.iint
    obtain rfl := rb.iint
    exact oSem.of op_sub ⟨_, _, rfl, rfl, p.here R (.int _)⟩
  · split at e
    · rename_i hm
      cases e
      obtain rfl := ra.iint
      obtain rfl := rb.iint
      refine oSem.of op_mul ⟨_, _, rfl, rfl, ?_, p.here R (.int _)⟩
      unfold mulOk at hm
      simp only [Bool.or_eq_true, Bool.and_eq_true, decide_eq_true_eq] at hm
      exact hm
    · cases e
  · split at e
    · rename_i xs e1
      split at e
      · rename_i hm
        cases e
        obtain ⟨rfl, _⟩ := ra.iref
        obtain rfl := rb.iint
        obtain ⟨us, s1, r1, h1⟩ := R.list e1
        unfold repOk at hm
        simp only [Bool.and_eq_true, decide_eq_true_eq, Bool.not_eq_true'] at hm
        obtain ⟨hro, ⟨h2, h3⟩, h4⟩ := hm
        exact oSem.of op_rep ⟨_, _, us, rfl, rfl, h1 hro, h2, h3, by rw [← r1.length]; exact fits_le h4, fun q hq => p.list R (r1.rep _) q hq⟩
      · cases e
    · cases e
  · split at e
    · rename_i hm
      cases e
      subst hm
      obtain ⟨a1, ys, rfl, s1, r1⟩ := ra.itup
      obtain rfl := rb.iint
      exact oSem.of op_oneT ⟨_, ys, rfl, rfl, s1.sqT, p.here R ra⟩
    split at e
    · rename_i hm
      cases e
      obtain ⟨rfl, hne⟩ := hm
      obtain ⟨a1, ys, rfl, s1, r1⟩ := ra.itup
      obtain rfl := rb.iint
      refine oSem.of op_noneT ⟨_, ys, rfl, rfl, s1.sqT, fun z => ?_, fun q hq => p.tup R .nil q hq⟩
      subst z
      cases r1
      exact hne rfl
    split at e
    · rename_i hm
      cases e
      obtain ⟨a1, ys, rfl, s1, r1⟩ := ra.itup
      obtain rfl := rb.iint
      obtain ⟨h1, h2, h3, h4⟩ := hm
      refine oSem.of op_repT ⟨_, _, ys, rfl, rfl, s1.sqT, fun z => ?_, h2, h3, by rw [← r1.length]; exact h4, fun q hq => p.tup R (r1.rep _) q hq⟩
      subst z
      cases r1
      exact h1 rfl
    · cases e
  · split at e
    · rename_i hm
      cases e
      obtain rfl := ra.iint
      obtain rfl := rb.iint
      exact oSem.of op_fdivL ⟨_, _, rfl, rfl, hm, p.here R (.int _)⟩
    · cases e
  · split at e
    · rename_i hm
      cases e
      obtain rfl := ra.iint
      obtain rfl := rb.iint
      exact oSem.of op_modN ⟨_, _, rfl, rfl, hm, p.here R (.int _)⟩
    · cases e
  · split at e
    · rename_i hm
      cases e
      obtain rfl := ra.iint
      obtain rfl := rb.iint
      exact oSem.of op_pow ⟨_, _, rfl, rfl, hm, p.here R (.int _)⟩
    · cases e
  · cases e

/-! ### == != -/
theorem allO_cons {α : Type} {x : Option α} {r : List (Option α)} {ys : List α} (h : allO (x :: r) = some ys) : ∃ y zs, x = some y ∧ allO r = some zs ∧ ys = y :: zs := by
  cases x with
  | none => cases h
  | some y =>
    unfold allO at h
    split at h
    · rename_i zs e; cases h; exact ⟨y, zs, rfl, e, rfl⟩
    · cases h
theorem dats_dp {K : PySem.W.Frag} {k : Nat} (ih : ∀ v d w, dat st k v = some d → RV K kt io st.n H v w → Dp K H w d) :
    ∀ (xs : List Val) (ds : List PyData) (ws : List V), allO (xs.map (dat st k)) = some ds → RVs K kt io st.n H xs ws → DpAll K H ws ds
  | [], ds, ws, h, r => by cases r; cases h; exact .nil
  | x :: xs, ds, ws, h, r => by
    cases r with
    | cons a b =>
      obtain ⟨y, zs, e1, e2, rfl⟩ := allO_cons h
      exact .cons (ih _ _ _ e1 a) (dats_dp ih xs zs _ e2 b)
theorem dat_dp {K : PySem.W.Frag} (R : Rl K kt ca io st H) : ∀ (k : Nat) (v : Val) (d : PyData) (w : V), dat st k v = some d → RV K kt io st.n H v w → Dp K H w d
  | 0, _, _, _, h, _ => by cases h
  | k + 1, v, d, w, h, r => by
    have ih := dat_dp R k
    cases r with
    | non => cases h; exact .non
    | bl b => cases h; exact .bl b
    | int i => cases h; exact .int i
    | str x => cases h; exact .str x
    | @tup xs _ _ s q =>
      unfold dat at h
      simp only at h
      cases e : allO (List.map (dat st k) xs) with
      | none => rw [e] at h; cases h
      | some ds =>
        rw [e] at h; cases h
        exact .tup s.sqT (dats_dp ih _ _ _ e q)
    | @ref i hi =>
      unfold dat at h
      simp only at h
      split at h
      · rename_i xs em
        obtain ⟨ys, sl, q, _⟩ := R.list em
        cases e : allO (List.map (dat st k) xs) with
        | none => rw [e] at h; cases h
        | some ds =>
          rw [e] at h; cases h
          exact .lst sl (dats_dp ih _ _ _ e q)
      · cases h
theorem eq_ok {a b : Val} {x y : V} {k : Bool} {Q : VK} (hu : X.A.units + 64 < cLine) (R : Rl X.K kt ca io st H) (ra : RV X.K kt io st.n H a x) (rb : RV X.K kt io st.n H b y) (e : eqV st a b = some k) (q : Q (.bl k) H) : oSem X (compareOp .Eq) x y H Q := by
  unfold eqV at e
  split at e
  · rename_i b0 e0
    cases e
    cases ra <;> cases rb <;> simp only [eq0, Option.some.injEq, reduceCtorEq] at e0 <;> subst e0
    · exact oSem.of op_eq ⟨rfl, q⟩
    · exact oSem.of op_eq ⟨rfl, q⟩
    · exact oSem.of op_eq ⟨rfl, q⟩
    · exact oSem.of op_eq ⟨rfl, q⟩
    · exact oSem.of op_eq ⟨rfl, q⟩
    · exact oSem.of op_eq ⟨rfl, by rw [dec_bl]; exact q⟩
    · exact oSem.of (op_eqD hu) ⟨_, _, .bl _, .int _, rfl, rfl, q⟩
    · exact oSem.of op_eq ⟨rfl, q⟩
    · exact oSem.of op_eq ⟨rfl, q⟩
    · exact oSem.of (op_eqD hu) ⟨_, _, .int _, .bl _, rfl, rfl, q⟩
    · exact oSem.of op_eq ⟨rfl, by rw [dec_int, Bool.beq_eq_decide_eq]; exact q⟩
    · exact oSem.of op_eq ⟨rfl, q⟩
    · exact oSem.of op_eq ⟨rfl, q⟩
    · exact oSem.of op_eq ⟨rfl, q⟩
    · exact oSem.of op_eq ⟨rfl, q⟩
    · exact oSem.of op_eq ⟨rfl, by rw [dec_str, Bool.beq_eq_decide_eq]; exact q⟩
  · split at e
    · rename_i d1 d2 e1 e2
      split at e
      · rename_i hs
        cases e
        rw [Bool.and_eq_true] at hs
        exact oSem.of (op_eqD hu) ⟨_, _, dat_dp R _ _ _ _ e1 ra, dat_dp R _ _ _ _ e2 rb, hs.1, hs.2, q⟩
      · cases e
    · cases e
theorem ne_ok {a b : Val} {x y : V} {k : Bool} {Q : VK} (hu : X.A.units + 64 < cLine) (R : Rl X.K kt ca io st H) (ra : RV X.K kt io st.n H a x) (rb : RV X.K kt io st.n H b y) (e : eqV st a b = some k) (q : Q (.bl (!k)) H) : oSem X (compareOp .NotEq) x y H Q := by
  unfold eqV at e
  split at e
  · rename_i b0 e0
    cases e
    cases ra <;> cases rb <;> simp only [eq0, Option.some.injEq, reduceCtorEq] at e0 <;> subst e0
    · exact oSem.of op_ne ⟨rfl, q⟩
    · exact oSem.of op_ne ⟨rfl, q⟩
    · exact oSem.of op_ne ⟨rfl, q⟩
    · exact oSem.of op_ne ⟨rfl, q⟩
    · exact oSem.of op_ne ⟨rfl, q⟩
    · exact oSem.of op_ne ⟨rfl, by rw [dec_bl]; exact q⟩
    · exact oSem.of (op_neD hu) ⟨_, _, .bl _, .int _, rfl, rfl, q⟩
    · exact oSem.of op_ne ⟨rfl, q⟩
    · exact oSem.of op_ne ⟨rfl, q⟩
    · exact oSem.of (op_neD hu) ⟨_, _, .int _, .bl _, rfl, rfl, q⟩
    · exact oSem.of op_ne ⟨rfl, by rw [dec_int, Bool.beq_eq_decide_eq]; exact q⟩
    · exact oSem.of op_ne ⟨rfl, q⟩
    · exact oSem.of op_ne ⟨rfl, q⟩
    · exact oSem.of op_ne ⟨rfl, q⟩
    · exact oSem.of op_ne ⟨rfl, q⟩
    · exact oSem.of op_ne ⟨rfl, by rw [dec_str, Bool.beq_eq_decide_eq]; exact q⟩
  · split at e
    · rename_i d1 d2 e1 e2
      split at e
      · rename_i hs
        cases e
        rw [Bool.and_eq_true] at hs
        exact oSem.of (op_neD hu) ⟨_, _, dat_dp R _ _ _ _ e1 ra, dat_dp R _ _ _ _ e2 rb, hs.1, hs.2, q⟩
      · cases e
    · cases e

/-! ### in, < -/
theorem scalar_flat {K : PySem.W.Frag} {n : Nat} {a : Val} {x : V} (r : RV K kt io n H a x) (h : scalar a = true) : flatV x = true := by
  cases r <;> first | rfl | cases h
theorem scalars_flat {K : PySem.W.Frag} {n : Nat} : ∀ {xs : List Val} {ys : List V}, RVs K kt io n H xs ys → xs.all scalar = true → ys.all flatV = true
  | _, _, .nil, _ => rfl
  | _, _, .cons a b, h => by
    rw [List.all_cons, Bool.and_eq_true] at h ⊢
    exact ⟨scalar_flat a h.1, scalars_flat b h.2⟩
theorem eqF_eqV {K : PySem.W.Frag} {n : Nat} {a b : Val} {x y : V} (ra : RV K kt io n H a x) (rb : RV K kt io n H b y) (h : scalar a = true) (h' : scalar b = true) : L2.eqV x y = eqF a b := by
  cases ra <;> first | (cases h; done) | (cases rb <;> first | (cases h'; done) | rfl)
theorem any_eqF {K : PySem.W.Frag} {n : Nat} {a : Val} {x : V} (ra : RV K kt io n H a x) (h : scalar a = true) : ∀ {xs : List Val} {ys : List V}, RVs K kt io n H xs ys → xs.all scalar = true → (ys.any fun y => L2.eqV y x) = xs.any fun y => eqF y a
  | _, _, .nil, _ => rfl
  | _, _, .cons r t, q => by
    rw [List.all_cons, Bool.and_eq_true] at q
    rw [List.any_cons, List.any_cons, eqF_eqV r ra q.1 h, any_eqF ra h t q.2]
theorem in_flat {K : PySem.W.Frag} {n : Nat} {a : Val} {x : V} {xs : List Val} {ys : List V} {k : Bool} (ra : RV K kt io n H a x) (r : RVs K kt io n H xs ys) (e : inFlat a xs = some k) :
    flatV x = true ∧ ys.all flatV = true ∧ L2.inV x ys = k := by
  unfold inFlat at e
  split at e
  · rename_i h
    cases e
    rw [Bool.and_eq_true] at h
    exact ⟨scalar_flat ra h.1, scalars_flat r h.2, any_eqF ra h.1 r h.2⟩
  · cases e
theorem key1_kV {K : PySem.W.Frag} {n : Nat} {a : Val} {x : V} {k : Key} (ra : RV K kt io n H a x) (e : key1 a = some k) : x = kV k := by
  cases ra <;> cases e <;> rfl
theorem keys_kV {K : PySem.W.Frag} {n : Nat} : ∀ {xs : List Val} {ys : List V} {ks : List Key}, RVs K kt io n H xs ys → allO (xs.map key1) = some ks → ys = ks.map kV
  | _, _, _, .nil, e => by cases e; rfl
  | _, _, _, .cons r t, e => by
    obtain ⟨k, ks, e1, e2, rfl⟩ := allO_cons e
    rw [List.map_cons, ← key1_kV r e1, ← keys_kV t e2]
/-- what a store's and a heap's dict say of a key -/
def RVo (K : PySem.W.Frag) (kt : List (List Val)) (io : Nat → Addr) (n : Nat) (H : Hp) : Option Val → Option V → Prop
  | none, none => True
  | some v, some w => RV K kt io n H v w
  | _, _ => False
theorem look_o {κ : Type} [DecidableEq κ] {K : PySem.W.Frag} {n : Nat} {vs : List (κ × Val)} {ws : List (κ × V)} (q : RKs K kt io n H vs ws) (k : κ) : RVo K kt io n H (look vs k) (valV ws k) := by
  rcases q.look k with ⟨e1, e2⟩ | ⟨v, w, e1, e2, r⟩
  · rw [e1, e2]; exact trivial
  · rw [e1, e2]; exact r
theorem keyT_ok {K : PySem.W.Frag} {n : Nat} {a : Val} {x : V} {ks : List Key} (ra : RV K kt io n H a x) (e : keyT kt a = some ks) : ∃ b, x = .ref b ∧ H b = some (.tup (ks.map kV)) := by
  unfold keyT at e
  split at e
  · split at e
    · cases e
    · rename_i hn
      obtain ⟨b, ys, rfl, s, rs⟩ := ra.itup
      have := keys_kV rs e
      subst this
      rcases s with s | ⟨s, _⟩
      · exact ⟨b, rfl, s⟩
      · exact absurd s hn
  · cases e
theorem dget_ok {K : PySem.W.Frag} {o : Option Ob} {i : Nat} {k : Val} {x : V} {r : Option Val} (R : Rl K kt ca io st H) (ei : st.m i = o) (rk : RV K kt io st.n H k x) (e : dget kt o k = some r) :
    ∃ rw, DGet H (io i) x rw ∧ RVo K kt io st.n H r rw := by
  unfold dget at e
  split at e
  · split at e
    · rename_i kvs k' e1
      cases e
      obtain ⟨kws, h, q, _⟩ := R.dictK ei
      exact ⟨_, .inl ⟨kws, k', h, key1_kV rk e1, rfl⟩, look_o q k'⟩
    · cases e
  · split at e
    · rename_i kvs ks e1
      cases e
      obtain ⟨kws, h, q, _⟩ := R.dictT ei
      obtain ⟨b, rfl, hb⟩ := keyT_ok rk e1
      exact ⟨_, .inr ⟨kws, ks, b, h, rfl, hb, rfl⟩, look_o q ks⟩
    · cases e
  · cases e
theorem RVo.isSome {K : PySem.W.Frag} {n : Nat} {r : Option Val} {w : Option V} (h : RVo K kt io n H r w) : w.isSome = r.isSome := by
  cases r <;> cases w <;> first | rfl | cases h
theorem din_ok {k : Val} {x : V} {i : Nat} {o : Option Ob} {r : Option Val} {neg : Bool} {Q : VK} (hu : X.A.units + 1 < cLine) (R : Rl X.K kt ca io st H) (ei : st.m i = o) (rk : RV X.K kt io st.n H k x) (e : dget kt o k = some r) (q : Q (.bl (if neg then !r.isSome else r.isSome)) H) :
    oSem X (compareOp (if neg then .NotIn else .In)) x (.ref (io i)) H Q := by
  obtain ⟨rw', g, rr⟩ := dget_ok R ei rk e
  intro pins s σ v u I rx ry
  cases ry
  cases neg with
  | false => exact d_in hu I g rx fun s' I' => ⟨.bl rw'.isSome, H, I', rfl, by rw [rr.isSome]; exact q⟩
  | true => exact d_notIn hu I g rx fun s' I' => ⟨.bl (!rw'.isSome), H, I', rfl, by rw [rr.isSome]; exact q⟩
theorem in_ok {a b : Val} {x y : V} {k : Bool} {Q : VK} (hu : X.A.units + 65 < cLine) (R : Rl X.K kt ca io st H) (ra : RV X.K kt io st.n H a x) (rb : RV X.K kt io st.n H b y) (e : inV kt st a b = some k) :
    (Q (.bl k) H → oSem X (compareOp .In) x y H Q) ∧ (Q (.bl (!k)) H → oSem X (compareOp .NotIn) x y H Q) := by
  unfold inV at e
  split at e
  · obtain ⟨b1, ys, rfl, s, rs⟩ := rb.itup
    obtain ⟨f1, f2, rfl⟩ := in_flat ra rs e
    exact ⟨fun q => oSem.of op_in_seq ⟨_, ys, rfl, .inr s.sqT, f1, f2, q⟩, fun q => oSem.of op_notIn_seq ⟨_, ys, rfl, .inr s.sqT, f1, f2, q⟩⟩
  · split at e
    · cases e
      obtain rfl := ra.istr
      obtain rfl := rb.istr
      exact ⟨fun q => oSem.of op_in_str ⟨_, _, rfl, rfl, q⟩, fun q => oSem.of op_notin_str ⟨_, _, rfl, rfl, q⟩⟩
    · cases e
  · obtain ⟨rfl, hi⟩ := rb.iref
    split at e
    · rename_i ys em
      obtain ⟨ws, sl, rs, _⟩ := R.list em
      split at e
      · rename_i bb eb
        cases e
        obtain ⟨f1, f2, rfl⟩ := in_flat ra rs eb
        exact ⟨fun q => oSem.of op_in_seq ⟨_, ws, rfl, .inl sl, f1, f2, q⟩, fun q => oSem.of op_notIn_seq ⟨_, ws, rfl, .inl sl, f1, f2, q⟩⟩
      · split at e
        · rename_i d ds e1 e2
          split at e
          · rename_i hs
            cases e
            rw [Bool.and_eq_true] at hs
            exact ⟨fun q => oSem.of (op_inD hu) ⟨_, _, dat_dp R _ _ _ _ e1 ra, dat_dp R _ _ _ _ e2 rb, hs.1, hs.2, q⟩, fun q => oSem.of (op_notInD hu) ⟨_, _, dat_dp R _ _ _ _ e1 ra, dat_dp R _ _ _ _ e2 rb, hs.1, hs.2, q⟩⟩
          · cases e
        · cases e
    · rename_i kvs em
      cases e1 : dget kt (some (.dK kvs)) a with
      | none => rw [e1] at e; cases e
      | some r =>
        rw [e1] at e; cases e
        exact ⟨fun q => din_ok (neg := false) (by omega) R em ra e1 q, fun q => din_ok (neg := true) (by omega) R em ra e1 q⟩
    · rename_i kvs em
      cases e1 : dget kt (some (.dT kvs)) a with
      | none => rw [e1] at e; cases e
      | some r =>
        rw [e1] at e; cases e
        exact ⟨fun q => din_ok (neg := false) (by omega) R em ra e1 q, fun q => din_ok (neg := true) (by omega) R em ra e1 q⟩
    · cases e
  · cases e
def copOf : Cop → CmpOp
  | .eq => .Eq | .ne => .NotEq | .lt => .Lt | .le => .LtE | .gt => .Gt | .ge => .GtE | .has => .In | .hasnt => .NotIn
theorem okB_inv {o : Option Bool} {v : Val} (h : okB o st = .ok v st') : ∃ k, o = some k ∧ v = .bl k ∧ st' = st := by
  cases o with
  | none => cases h
  | some k => cases h; exact ⟨k, rfl, rfl, rfl⟩
theorem notO_inv {o : Option Bool} {k : Bool} (h : notO o = some k) : ∃ j, o = some j ∧ k = !j := by
  cases o with
  | none => cases h
  | some j => cases h; exact ⟨j, rfl, rfl⟩
def rEqLen (K : PySem.W.Frag) : R2 := fun x y H Q => ∃ l b xs ys, x = .ref l ∧ y = .ref b ∧ SqL K H l xs ∧ SqL K H b ys ∧ xs.length ≠ ys.length ∧ Q (.bl false) H
theorem op_eqLen (hu : X.A.units < cLine) : OpR X (compareOp .Eq) (rEqLen X.K) := by
  intro pins s σ H x y v u Q I rx ry h
  obtain ⟨l, b, xs, ys, rfl, rfl, h1, h2, hne, q⟩ := h
  cases rx
  cases ry
  obtain ⟨its, r, ⟨⟨cls, dd, data, sl⟩, n, ho, hc, hd, hdat⟩, hz⟩ := I.list h1
  obtain ⟨its2, r2, ⟨⟨cls2, dd2, data2, sl2⟩, n2, ho2, hc2, hd2, hdat2⟩, hz2⟩ := I.list h2
  simp only at hc hd hc2 hd2 hdat hdat2
  subst hc hd hc2 hd2 hdat hdat2
  have ta : s.TypeIs (.ref l) "list" := ⟨_, ho, rfl⟩
  have tb : s.TypeIs (.ref b) "list" := ⟨_, ho2, rfl⟩
  have c0 : (its.toArray.size != its2.toArray.size) = true := by
    rw [List.size_toArray, List.size_toArray, ← r.length, ← r2.length]
    simpa using hne
  exact wpAny_richCompare_same_room (op := .Eq) ta tb F.slot_list_eq (call_meets F.slot_list_eq ta F.entry_list_eq (F.args_list_eq_2 _ _) (PySem.SeqAt.list_eq_lengthsAt l b its.toArray its2.toArray n n2 none none sl sl2 c0)
    ⟨ho, ho2, ⟨(fun x => nomatch x), ⟨.bl false, H, I, rfl, q⟩⟩⟩) hu
theorem cop_ok {o : Cop} {a b v : Val} {x y : V} {Q : VK} (hu : X.A.units + 65 < cLine) (R : Rl X.K kt ca io st H) (ra : RV X.K kt io st.n H a x) (rb : RV X.K kt io st.n H b y) (e : cop kt o a b st = .ok v st') (p : Post X.K kt ca io st H v st' Q) :
    oSem X (compareOp (copOf o)) x y H Q := by
  unfold cop at e
  split at e
  · split at e
    · rename_i k e1
      cases e
      exact eq_ok (by omega) R ra rb e1 (p.here R (.bl _))
    · split at e
      · rename_i hl
        cases e
        unfold lenNe at hl
        split at hl
        · split at hl
          · rename_i e1 e2
            obtain ⟨rfl, _⟩ := ra.iref
            obtain ⟨rfl, _⟩ := rb.iref
            obtain ⟨ys1, s1, r1, _⟩ := R.list e1
            obtain ⟨ys2, s2, r2, _⟩ := R.list e2
            exact oSem.of (op_eqLen (by omega)) ⟨_, _, _, _, rfl, rfl, s1, s2, by rw [← r1.length, ← r2.length]; exact of_decide_eq_true hl, p.here R (.bl _)⟩
          · cases hl
        · cases hl
      · cases e
  · obtain ⟨k, e1, rfl, rfl⟩ := okB_inv e
    obtain ⟨j, e2, rfl⟩ := notO_inv e1
    exact ne_ok (by omega) R ra rb e2 (p.here R (.bl _))
  · obtain ⟨k, e1, rfl, rfl⟩ := okB_inv e
    exact (in_ok hu R ra rb e1).1 (p.here R (.bl _))
  · obtain ⟨k, e1, rfl, rfl⟩ := okB_inv e
    obtain ⟨j, e2, rfl⟩ := notO_inv e1
    exact (in_ok hu R ra rb e2).2 (p.here R (.bl _))
  · split at e
    · cases e; obtain rfl := ra.iint; obtain rfl := rb.iint
      exact oSem.of op_lt ⟨_, _, rfl, rfl, p.here R (.bl _)⟩
    · cases e
  · split at e
    · cases e; obtain rfl := ra.iint; obtain rfl := rb.iint
      exact oSem.of op_le ⟨_, _, rfl, rfl, p.here R (.bl _)⟩
    · cases e
  · split at e
    · cases e; obtain rfl := ra.iint; obtain rfl := rb.iint
      exact oSem.of op_gt ⟨_, _, rfl, rfl, p.here R (.bl _)⟩
    · cases e
  · split at e
    · cases e; obtain rfl := ra.iint; obtain rfl := rb.iint
      exact oSem.of op_ge ⟨_, _, rfl, rfl, p.here R (.bl _)⟩
    · cases e
end
end CL

/-! CL, part d: subscripts, cuts, stores, built-ins -/
namespace CL
open PySem PySem.Spec PyProof.Rows L2
section
variable {X : Cx} {kt : List (List Val)} {ca io : Nat → Addr} {st st' : Store} {H : Hp}

/-! ### a[i] -/
/-- what a plain subscript of values must do -/
def iSem (X : Cx) : R2 := fun x y H Q => ∀ (value slice : Expr) (pins : List (Addr × Obj)) (s : Shared) (σ : L2.St) (v u : Value), Inv X pins σ H s → RelV x v → RelV y u →
    subscripted slice false v u = operate [v, u] (getItem v u) → wpAny (model X.prog X.w) X.A (subscriptTail value slice v u) (EP X pins σ Q) X.xe s
theorem ix_sem : IxR X (iSem X) := fun value slice pins s σ H x y v u Q I rx ry h hs => h value slice pins s σ v u I rx ry hs
theorem iSem.of {r : R2} (ho : IxR X r) {x y : V} {H : Hp} {Q : VK} (h : r x y H Q) : iSem X x y H Q := fun value slice pins s σ v u I rx ry hs => ho value slice pins s σ H x y v u Q I rx ry h hs
def rDGet : R2 := fun x y H Q => ∃ a v, x = .ref a ∧ DGet H a y (some v) ∧ Q v H
theorem ix_dict (hu : X.A.units + 1 < cLine) : IxR X rDGet := by
  intro value slice pins s σ H x y v u Q I rx ry h hs
  obtain ⟨a, w, rfl, g, q⟩ := h
  cases rx
  exact tail_any (dict_typeIs I g) PySem.F.slot_dict_getitem.lookup (d_getItem hu I g ry fun w' s' I' r => ⟨w, H, I', r, q⟩) hs
theorem sub_ok {a b v : Val} {x y : V} {Q : VK} (hu : X.A.units + 65 < cLine) (R : Rl X.K kt ca io st H) (ra : RV X.K kt io st.n H a x) (rb : RV X.K kt io st.n H b y) (e : subV kt a b st = .ok v st') (p : Post X.K kt ca io st H v st' Q) :
    iSem X x y H Q := by
  unfold subV at e
  split at e
  · split at e
    · split at e
      · rename_i w e1
        cases e
        obtain ⟨a1, ys, rfl, s, rs⟩ := ra.itup
        obtain rfl := rb.iint
        obtain ⟨z, e2, rz⟩ := rs.atI e1
        exact iSem.of ix_tup ⟨_, ys, _, z, rfl, rfl, s.sqT, e2, p.here R rz⟩
      · cases e
    · cases e
  · split at e
    · split at e
      · rename_i hf
        split at e
        · rename_i c e1
          cases e
          obtain rfl := ra.istr
          obtain rfl := rb.iint
          exact iSem.of ix_str ⟨_, _, c, rfl, rfl, fits_le hf, e1, p.here R (.str _)⟩
        · cases e
      · cases e
    · cases e
  · obtain ⟨rfl, hi⟩ := ra.iref
    split at e
    · rename_i xs em
      split at e
      · split at e
        · rename_i w e1
          cases e
          obtain rfl := rb.iint
          obtain ⟨ys, sl, rs, _⟩ := R.list em
          obtain ⟨z, e2, rz⟩ := rs.atI e1
          exact iSem.of ix_list ⟨_, ys, _, z, rfl, rfl, sl, e2, p.here R rz⟩
        · cases e
      · cases e
    · split at e
      · rename_i w e1
        cases e
        obtain ⟨rw', g, rr⟩ := dget_ok R rfl rb e1
        cases rw' with
        | none => cases rr
        | some z => exact iSem.of (ix_dict (by omega)) ⟨_, z, rfl, g, p.here R rr⟩
      · cases e
  · cases e

/-! ### a[lo:hi] -/
def sSem (X : Cx) : V → Option Int → Option Int → Hp → VK → Prop := fun x lo hi H Q => ∀ (pins : List (Addr × Obj)) (s : Shared) (σ : L2.St) (v vl vu : Value) (sl : Addr), Inv X pins σ H s → RelV x v → s.heap.IsSliceOf sl vl vu .none → IsPart vl lo → IsPart vu hi →
    ∃ T id, typeLookup (.type T) "__getitem__" = pure (some (.builtin id)) ∧ s.TypeIs v T ∧ wpAny (model X.prog X.w) X.A (getItem v (.ref sl)) (EP X pins σ Q) X.xe s
theorem sl_sem : SlR X (sSem X) := fun pins s σ H x v vl vu lo hi sl Q I rx hs pl pu h => h pins s σ v vl vu sl I rx hs pl pu
theorem sSem.of {r : V → Option Int → Option Int → Hp → VK → Prop} (ho : SlR X r) {x : V} {lo hi : Option Int} {H : Hp} {Q : VK} (h : r x lo hi H Q) : sSem X x lo hi H Q := fun pins s σ v vl vu sl I rx hs pl pu => ho pins s σ H x v vl vu lo hi sl Q I rx hs pl pu h
theorem cutL_all {α : Type} {xs : List α} {lo hi : Option Int} (h : HT.sIx xs.length 0 lo = 0 ∧ HT.sIx xs.length xs.length hi = xs.length) : cutL xs lo hi = xs := by
  unfold cutL
  rw [h.1, h.2]; simp
theorem cut_ok {a v : Val} {l h : Option Val} {lo hi : Option Int} {x : V} {Q : VK} (R : Rl X.K kt ca io st H) (ra : RV X.K kt io st.n H a x) (el : part l = some lo) (eh : part h = some hi) (e : cutV a l h st = .ok v st') (p : Post X.K kt ca io st H v st' Q) :
    sSem X x lo hi H Q := by
  unfold cutV at e
  rw [el, eh] at e
  simp only at e
  split at e
  · cases e
    obtain ⟨a1, ys, rfl, s, rs⟩ := ra.itup
    refine sSem.of sl_tupA ⟨_, ys, rfl, s.sqT, fun z => ?_, fun _ q hq => p.tup R (rs.cut lo hi) q hq⟩
    rw [← rs.length] at z
    rw [cutL_all z] at p
    exact p.here R (.tup s rs)
  · split at e
    · rename_i hf
      cases e
      obtain rfl := ra.istr
      exact sSem.of sl_str ⟨_, rfl, fits_le hf, p.here R (.str _)⟩
    · cases e
  · split at e
    · rename_i xs em
      cases e
      obtain ⟨rfl, hi'⟩ := ra.iref
      obtain ⟨ys, sl, rs, _⟩ := R.list em
      exact sSem.of sl_list ⟨_, ys, rfl, sl, fun q hq => p.list R (rs.cut lo hi) q hq⟩
    · cases e
  · cases e

/-! ### o[i] = v -/
theorem Inv.toT {pins : List (Addr × Obj)} {σ : L2.St} {H : Hp} {s : Shared} {a : Addr} (I : L2.Inv X pins σ H s) (h : H a = some (.dK [])) : L2.Inv X pins σ (upd H a (.dT [])) s := by
  obtain ⟨z, hd, vs, r, o, es, ep, ho, ex, ed, kk, pp, nd⟩ := (show ObjOk X.prog X.w H s.heap a (.dK []) from I.hok a _ h)
  cases r
  have ee : es.toList = [] := by
    generalize es.toList = l at pp
    cases pp; rfl
  refine I.write (x := a) (e := a) (o := .dT []) (h' := s.heap) (t' := s.toks) (by rw [h]; exact trivial) (.inl rfl) (fun b u _ q => q) ⟨o, ho⟩ ?_
  exact ⟨z, hd, [], .nil, o, es, ep, ho, ex, ed, by rw [ee]; rfl, by simp⟩
theorem put_ok {a b c v : Val} {x y z : V} {Q : Hp → Prop} (hu : X.A.units + 65 < cLine) (R : Rl X.K kt ca io st H) (ra : RV X.K kt io st.n H a x) (rb : RV X.K kt io st.n H b y) (rc : RV X.K kt io st.n H c z) (e : putV kt a b c st = .ok v st')
    (p : ∀ H', Up io st.n H io st'.n H' → Rl X.K kt ca io st' H' → Q H') : gSem X x y z H Q := by
  unfold putV at e
  have wr_inv : ∀ {i : Nat} {o : Ob}, wr i o st = .ok v st' → st.ro i = false ∧ st' = st.set i o := fun {i o} h => by
    unfold wr at h
    split at h
    · cases h
    · rename_i hr; cases h; exact ⟨by simpa using hr, rfl⟩
  split at e
  · obtain ⟨rfl, hi⟩ := ra.iref
    split at e
    · rename_i xs em
      split at e
      · split at e
        · rename_i k j ej
          obtain ⟨hr, rfl⟩ := wr_inv e
          obtain rfl := rb.iint
          obtain ⟨ys, sl, rs, hl⟩ := R.list em
          refine gSem.of set_list ⟨_, ys, _, j, rfl, rfl, hl hr, by rw [← rs.length]; exact ej, ?_⟩
          have up := Up.wr (io := io) (st := st) (.lst (ys.set j z)) (hl hr) trivial
          exact p _ up (R.wr hi hr (.lst upd_same ((rs.set rc j).up up)))
        · cases e
      · cases e
    · rename_i kvs em
      split at e
      · rename_i k ek
        split at e
        · rename_i hz
          obtain ⟨hr, rfl⟩ := wr_inv e
          obtain rfl := key1_kV rb ek
          obtain ⟨kws, _, q, hl⟩ := R.dictK em
          refine gSem.of (set_dict (by omega)) ⟨_, _, rfl, .k (hl hr) (by rw [← q.length]; exact hz), ?_⟩
          have up := Up.wr (io := io) (st := st) (.dK (putK kws k z)) (hl hr) trivial
          exact p _ up (R.wr hi hr (.dK upd_same ((q.put k rc).up up)))
        · cases e
      · split at e
        · rename_i ks ek
          split at e
          · rename_i hz
            obtain ⟨hr, rfl⟩ := wr_inv e
            obtain ⟨b1, rfl, hb⟩ := keyT_ok rb ek
            obtain ⟨kws, _, q, hl⟩ := R.dictK em
            have hk : kws = [] := by
              have := q.empty
              rw [hz] at this
              cases kws with
              | nil => rfl
              | cons _ _ => cases this
            subst hk
            have h0 := hl hr
            intro pins s σ ov iv u I ro ri rv
            have I2 := Inv.toT I h0
            have hne : b1 ≠ io _ := ne_of hb h0 (fun z => by cases z)
            refine thn (set_dict (X := X) (by omega) pins s σ _ _ _ _ ov iv u Q I2 ro ri rv ⟨_, _, rfl, .t (kvs := []) (k := ks) upd_same ((upd_ne hne).trans hb) (by decide), ?_⟩) fun _ _ q => q
            rw [upd_upd]
            have up := Up.wr (io := io) (st := st) (.dT (putK [] ks z)) h0 trivial
            exact p _ up (R.wr hi hr (.dT upd_same (RKs.cons (rc.up up) .nil)))
          · cases e
        · cases e
    · rename_i kvs em
      split at e
      · rename_i ks ek
        split at e
        · rename_i hz
          obtain ⟨hr, rfl⟩ := wr_inv e
          obtain ⟨b1, rfl, hb⟩ := keyT_ok rb ek
          obtain ⟨kws, _, q, hl⟩ := R.dictT em
          refine gSem.of (set_dict (by omega)) ⟨_, _, rfl, .t (hl hr) hb (by rw [← q.length]; exact hz), ?_⟩
          have up := Up.wr (io := io) (st := st) (.dT (putK kws ks z)) (hl hr) trivial
          exact p _ up (R.wr hi hr (.dT upd_same ((q.put ks rc).up up)))
        · cases e
      · cases e
    · cases e
  · cases e

/-! ### truth -/
theorem tru_ok {a : Val} {x : V} {k : Bool} (R : Rl X.K kt ca io st H) (ra : RV X.K kt io st.n H a x) (e : tru st a = some k) : TruV X.K x H k := by
  cases ra with
  | non => cases e; rfl
  | bl b => cases e; rfl
  | int i => cases e; rfl
  | str z =>
    unfold tru at e
    simp only at e
    split at e
    · rename_i hf
      cases e
      refine ⟨fits_le hf, ?_⟩
      cases z.length <;> rfl
    · cases e
  | tup s r => cases e; exact .inr (.inl ⟨_, s.sqT, by rw [r.empty]⟩)
  | @ref i hi =>
    unfold tru at e
    simp only at e
    split at e
    · rename_i xs em
      cases e
      obtain ⟨ys, sl, rs, _⟩ := R.list em
      exact .inl ⟨ys, sl, by rw [rs.empty]⟩
    · rename_i kvs em
      split at e
      · cases e
      · rename_i hr
        cases e
        obtain ⟨kws, _, q, hl⟩ := R.dictK em
        exact .inr (.inr ⟨kws, hl (by simpa using hr), by rw [q.empty]⟩)
    · cases e

/-! ### built-in functions -/
def bfName : Bf → Str
  | .len => "len" | .abs => "abs" | .list => "list" | .tuple => "tuple" | .int => "int" | .any => "any" | .all => "all" | .min2 => "min" | .max2 => "max" | .str => "str" | .sorted => "sorted" | .dict => "dict" | .set => "set"
def bfVal : Bf → Value
  | .len => .builtin "len" | .abs => .builtin "abs" | .list => .type "list" | .tuple => .type "tuple" | .int => .type "int" | .any => .builtin "any" | .all => .builtin "all" | .min2 => .builtin "min" | .max2 => .builtin "max" | .str => .type "str" | .sorted => .builtin "sorted" | .dict => .type "dict" | .set => .type "set"
theorem bools_ok {K : PySem.W.Frag} {n : Nat} : ∀ {xs : List Val} {ys : List V} {bs : List Bool}, RVs K kt io n H xs ys → bools xs = some bs → ys = bs.map V.bl
  | _, _, _, .nil, e => by cases e; rfl
  | _, _, _, .cons r t, e => by
    cases r with
    | bl b =>
      unfold bools at e
      split at e
      · rename_i bs e1; cases e; rw [List.map_cons, ← bools_ok t e1]
      · cases e
    | _ => cases e
theorem ints_ok {K : PySem.W.Frag} {n : Nat} : ∀ {xs : List Val} {ys : List V} {is : List Int}, RVs K kt io n H xs ys → intsO xs = some is → ys = is.map V.int
  | _, _, _, .nil, e => by cases e; rfl
  | _, _, _, .cons r t, e => by
    cases r with
    | int b =>
      unfold intsO at e
      split at e
      · rename_i bs e1; cases e; rw [List.map_cons, ← ints_ok t e1]
      · cases e
    | _ => cases e
theorem ints_rvs {K : PySem.W.Frag} {n : Nat} : ∀ ns : List Int, RVs K kt io n H (ns.map .int) (ns.map V.int)
  | [] => .nil
  | x :: r => .cons (.int x) (ints_rvs r)
theorem sort_uniq {ns is : List Int} (h1 : ns.Perm is) (h2 : ns.Pairwise (· ≤ ·)) : ns = is.mergeSort (fun i j => decide (i ≤ j)) := by
  have p2 : (is.mergeSort (fun i j => decide (i ≤ j))).Perm is := List.mergeSort_perm _ _
  have q2 : (is.mergeSort (fun i j => decide (i ≤ j))).Pairwise (fun a b => decide (a ≤ b) = true) := List.pairwise_mergeSort (fun a b c h1 h2 => by simp at *; omega) (fun a b => by simp; omega) _
  refine List.Perm.eq_of_pairwise (le := fun a b : Int => a ≤ b) (fun a b _ _ h1 h2 => by omega) h2 (q2.imp (by intro a b h; simpa using h)) (h1.trans p2.symm)
theorem pairs_okV {K : PySem.W.Frag} {n : Nat} : ∀ {xs : List Val} {ys : List V} {kvs : List (Key × Val)}, RVs K kt io n H xs ys → pairsO xs = some kvs →
    ∃ (ps : List Addr) (kws : List (Key × V)), ys = ps.map V.ref ∧ Paired (fun p kv => SqT K H p [kV kv.1, kv.2]) ps kws ∧ RKs K kt io n H kvs kws
  | _, _, _, .nil, e => by cases e; exact ⟨[], [], rfl, .nil, .nil⟩
  | _, _, _, .cons (x := x) r t, e => by
    cases r with
    | tup sq rs =>
      rename_i xs a ys
      match xs, e with
      | [k, v], e =>
        unfold pairsO at e
        split at e
        · rename_i k' r' e1 e2
          cases e
          obtain ⟨ps, kws, rfl, hp, hk⟩ := pairs_okV t e2
          obtain ⟨w, u, rfl, r1, r2⟩ := rs.two
          refine ⟨a :: ps, (k', u) :: kws, rfl, .cons ?_ hp, .cons r2 hk⟩
          have : w = kV k' := by
            cases r1 with
            | int i => cases e1; rfl
            | str z => cases e1; rfl
            | _ => cases e1
          subst this
          exact sq.sqT
        · cases e
      | [], e => cases e
      | [_], e => cases e
      | _ :: _ :: _ :: _, e => cases e
    | _ => cases e
theorem keysI_ok {K : PySem.W.Frag} {n : Nat} : ∀ {kvs : List (Key × Val)} {kws : List (Key × V)} {ks : List Int}, RKs K kt io n H kvs kws → keysI kvs = some ks → kws.map (·.1) = ks.map Sum.inl
  | _, _, _, .nil, e => by cases e; rfl
  | _, _, _, .cons (k := k) r t, e => by
    cases k with
    | inl i =>
      unfold keysI at e
      split at e
      · rename_i ks' e1; cases e; rw [List.map_cons, List.map_cons, keysI_ok t e1]
      · cases e
    | inr x => cases e
theorem bf_ok {b : Bf} {vs : List Val} {v : Val} {xs : List V} {Q : VK} (hc : X.calm = true) (R : Rl X.K kt ca io st H) (rv : RVs X.K kt io st.n H vs xs) (e : bfn b vs st = .ok v st') (p : Post X.K kt ca io st H v st' Q) :
    cSem X (bfVal b) xs H Q := by
  unfold bfn at e
  split at e
  · obtain ⟨w, rfl, r⟩ := rv.one
    obtain rfl := r.istr
    split at e
    · rename_i hf
      cases e
      exact cSem.of call_len_str ⟨_, rfl, fits_le hf, p.here R (.int _)⟩
    · cases e
  · obtain ⟨w, rfl, r⟩ := rv.one
    obtain ⟨a, ys, rfl, s, rs⟩ := r.itup
    cases e
    exact cSem.of call_len_seq ⟨_, ys, rfl, .inr s.sqT, by rw [← rs.length]; exact p.here R (.int _)⟩
  · obtain ⟨w, rfl, r⟩ := rv.one
    obtain ⟨rfl, hi⟩ := r.iref
    split at e
    · rename_i zs em
      cases e
      obtain ⟨ys, sl, rs, _⟩ := R.list em
      exact cSem.of call_len_seq ⟨_, ys, rfl, .inl sl, by rw [← rs.length]; exact p.here R (.int _)⟩
    · rename_i kvs em
      split at e
      · cases e
      · rename_i hr
        cases e
        obtain ⟨kws, _, q, hl⟩ := R.dictK em
        exact cSem.of call_lenD ⟨_, kws, rfl, hl (by simpa using hr), by rw [← q.length]; exact p.here R (.int _)⟩
    · cases e
  · obtain ⟨w, rfl, r⟩ := rv.one
    obtain rfl := r.iint
    cases e
    exact cSem.of call_abs ⟨_, rfl, p.here R (.int _)⟩
  · obtain ⟨w, rfl, r⟩ := rv.one
    obtain ⟨a, ys, rfl, s, rs⟩ := r.itup
    cases e
    exact cSem.of call_list_of ⟨_, ys, rfl, .inr s.sqT, fun q hq => p.list R rs q hq⟩
  · obtain ⟨w, rfl, r⟩ := rv.one
    obtain ⟨rfl, hi⟩ := r.iref
    split at e
    · rename_i zs em
      cases e
      obtain ⟨ys, sl, rs, _⟩ := R.list em
      exact cSem.of call_list_of ⟨_, ys, rfl, .inl sl, fun q hq => p.list R rs q hq⟩
    · cases e
  · obtain ⟨w, rfl, r⟩ := rv.one
    obtain ⟨a, ys, rfl, s, rs⟩ := r.itup
    cases e
    exact cSem.of call_tuple_of ⟨_, ys, rfl, .inr ⟨s.sqT, p.here R (.tup s rs)⟩⟩
  · obtain ⟨w, rfl, r⟩ := rv.one
    obtain ⟨rfl, hi⟩ := r.iref
    split at e
    · rename_i zs em
      cases e
      obtain ⟨ys, sl, rs, _⟩ := R.list em
      exact cSem.of call_tuple_of ⟨_, ys, rfl, .inl ⟨sl, fun q hq => p.tup R rs q hq⟩⟩
    · cases e
  · obtain ⟨w, rfl, r⟩ := rv.one
    obtain rfl := r.iint
    cases e
    exact cSem.of call_int1 (.inl ⟨_, rfl, p.here R (.int _)⟩)
  · obtain ⟨w, rfl, r⟩ := rv.one
    obtain rfl := r.ibl
    cases e
    exact cSem.of call_int1 (.inr ⟨_, rfl, p.here R (.int _)⟩)
  · obtain ⟨w, rfl, r⟩ := rv.one
    obtain ⟨rfl, hi⟩ := r.iref
    split at e
    · rename_i zs em
      split at e
      · rename_i bs eb
        cases e
        obtain ⟨ys, sl, rs, _⟩ := R.list em
        obtain rfl := bools_ok rs eb
        exact cSem.of (cr_any hc) ⟨_, bs, rfl, sl, p.here R (.bl _)⟩
      · cases e
    · cases e
  · obtain ⟨w, rfl, r⟩ := rv.one
    obtain ⟨rfl, hi⟩ := r.iref
    split at e
    · rename_i zs em
      split at e
      · rename_i bs eb
        cases e
        obtain ⟨ys, sl, rs, _⟩ := R.list em
        obtain rfl := bools_ok rs eb
        exact cSem.of (cr_all hc) ⟨_, bs, rfl, sl, p.here R (.bl _)⟩
      · cases e
    · cases e
  · obtain ⟨w, u, rfl, r1, r2⟩ := rv.two
    obtain rfl := r1.iint
    obtain rfl := r2.iint
    cases e
    exact cSem.of (call_min2 hc) ⟨_, _, rfl, p.here R (.int _)⟩
  · obtain ⟨w, u, rfl, r1, r2⟩ := rv.two
    obtain rfl := r1.iint
    obtain rfl := r2.iint
    cases e
    exact cSem.of (call_max2 hc) ⟨_, _, rfl, p.here R (.int _)⟩
  · obtain ⟨w, rfl, r⟩ := rv.one
    obtain rfl := r.iint
    split at e
    · rename_i hl
      cases e
      exact cSem.of call_str_int ⟨_, rfl, hl, p.here R (.str _)⟩
    · cases e
  · obtain ⟨w, rfl, r⟩ := rv.one
    obtain ⟨rfl, hi⟩ := r.iref
    split at e
    · rename_i zs em
      split at e
      · rename_i is eb
        cases e
        obtain ⟨ys, sl, rs, _⟩ := R.list em
        obtain rfl := ints_ok rs eb
        refine cSem.of cr_sortedI ⟨_, is, rfl, sl, fun ns' q h1 h2 hq => ?_⟩
        rw [sort_uniq h1 h2]
        exact p.list R (ints_rvs _) q hq
      · cases e
    · rename_i kvs em
      split at e
      · rename_i ks eb
        split at e
        · rename_i h64
          cases e
          obtain ⟨kws, rd, q, _⟩ := R.dictK em
          refine cSem.of (call_sortedDI hc) ⟨_, kws, ks, rfl, rd, keysI_ok q eb, h64, fun ns' q h1 h2 hq => ?_⟩
          rw [sort_uniq h1 h2]
          exact p.list R (ints_rvs _) q hq
        · cases e
      · cases e
    · cases e
  · obtain ⟨w, rfl, r⟩ := rv.one
    obtain ⟨rfl, hi⟩ := r.iref
    split at e
    · rename_i zs em
      split at e
      · rename_i kvs eb
        cases e
        obtain ⟨ys, sl, rs, _⟩ := R.list em
        obtain ⟨ps, kws, rfl, hp, hk⟩ := pairs_okV rs eb
        refine cSem.of (call_dictP hc) ⟨_, ps, kws, rfl, sl, hp, fun q hq => p.made (u := .dK (mergeK [] kws)) R (fun a ha => .dK upd_same ((RKs.merge hk .nil).up (Up.new _ ha))) q hq⟩
      · cases e
    · cases e
  · cases e

/-! ### methods of lists -/
def bmName : Bm → Str
  | .append => "append" | .pop => "pop" | .count => "count" | .index => "index"
def bmId : Bm → String
  | .append => "list.append" | .pop => "list.pop" | .count => "list.count" | .index => "list.index"
/-- l.count(x) of data -/
def rCountD (K : PySem.W.Frag) : V → List V → Hp → VK → Prop := fun x xs H Q => ∃ (a : Addr) (y : V) (d : PyData) (ds : List PyData), x = V.ref a ∧ xs = [y] ∧ Dp K H (V.ref a) (.list ds) ∧ Dp K H y d ∧
  SeqAt.shaped (.list ds) = true ∧ SeqAt.shaped d = true ∧ Q (.int (ds.countP fun z => PyData.eqv z d : Nat)) H
theorem mt_countD (hu : X.A.units + 65 < cLine) : MtR X "list.count" (rCountD X.K) := by
  intro pins s σ H x xs v us Q I rx rxs h
  obtain ⟨a, y, d, ds, rfl, rfl, hl, hy, sl, sd, q⟩ := h
  cases rx
  cases rxs with
  | cons ry rt =>
    rename_i uy ut
    cases rt
    obtain ⟨bs, r1⟩ := Dp.reads I d y uy hy ry
    have hxs : PyData.canLayAll0 ds = true := SeqAt.canLay_of_shaped sl
    have hroom : X.A.units + 1 + min (PyData.depthAll ds) d.depth < cLine := room_in_shaped sd hu
    cases hl with
    | lst hs ha =>
      obtain ⟨its, rv, ⟨⟨cls, dd, data, sls⟩, n, ho, hc, hdn, hdt⟩, hlen⟩ := I.list hs
      simp only at hc hdt
      subst hc hdt
      obtain ⟨as, h4⟩ := Dp.readsAll I ds _ its ha rv
      have hmap : its.map (SeqAt.readOf s.heap) = ds := SeqAt.readsAll_map ds its as hxs h4
      refine call_meets PySem.F.slot_list_count ⟨_, ho, rfl⟩ PySem.F.entry_list_count (PySem.F.args_list_count_2 _ _)
        (SeqAt.list_countAt a its.toArray n dd sls uy (fun u => PyData.eqv (SeqAt.readOf s.heap u) d)) ⟨ho, SeqAt.items_eqAt (vs := its.toArray) (show ReadsAll s.heap its.toArray.toList ds as from h4) r1 hxs (SeqAt.canLay_of_shaped sd) hroom, ?_⟩
      refine ⟨.int (ds.countP fun z => PyData.eqv z d : Nat), H, I.tok _, ⟨s.toks, ?_⟩, q⟩
      show Value.int ((its.toArray.toList.countP (fun u => PyData.eqv (SeqAt.readOf s.heap u) d) : Nat) : Int) s.toks = Value.int ((ds.countP fun z => PyData.eqv z d : Nat) : Int) s.toks
      rw [← hmap, List.countP_map]
      rfl
theorem wr_inv {i : Nat} {o : Ob} {v : Val} (h : wr i o st = .ok v st') : st.ro i = false ∧ v = .non ∧ st' = st.set i o := by
  unfold wr at h
  split at h
  · cases h
  · rename_i hr; cases h; exact ⟨by simpa using hr, rfl, rfl⟩
theorem bm_ok (hu : X.A.units + 65 < cLine) {b : Bm} {a v : Val} {vs : List Val} {x : V} {xs : List V} {Q : VK} (R : Rl X.K kt ca io st H) (ra : RV X.K kt io st.n H a x) (rv : RVs X.K kt io st.n H vs xs) (e : bmt b a vs st = .ok v st') (p : Post X.K kt ca io st H v st' Q) :
    mSem X (bmId b) x xs H Q := by
  unfold bmt at e
  split at e
  · obtain ⟨rfl, hi⟩ := ra.iref
    split at e
    · rename_i em
      split at e
      · rename_i hz
        obtain ⟨hr, rfl, rfl⟩ := wr_inv e
        obtain ⟨w, rfl, r⟩ := rv.one
        obtain ⟨ys, sl, rs, hl⟩ := R.list em
        exact mSem.of mt_append ⟨_, ys, w, rfl, rfl, hl hr, by rw [← rs.length]; exact hz, p.wrote R hi hr fun up => ⟨.lst upd_same ((rs.append (.cons r .nil)).up up), .non⟩⟩
      · cases e
    · rename_i em
      split at e
      · rename_i u eu
        obtain ⟨z, t, e1, e2⟩ := bind_eq_ok.mp e
        obtain ⟨hr, rfl, rfl⟩ := wr_inv e1
        cases e2
        obtain ⟨ys, sl, rs, hl⟩ := R.list em
        cases rv
        rw [List.getLast?_eq_getElem?] at eu
        obtain ⟨w, ew, rw'⟩ := rs.get eu
        refine mSem.of mt_pop ⟨_, ys, w, rfl, rfl, hl hr, by rw [← rs.length]; exact ew, p.wrote R hi hr fun up => ⟨.lst upd_same (rs.dropLast.up up), rw'.up up⟩⟩
      · cases e
    · rename_i em
      split at e
      · rename_i d ds e1 e2
        split at e
        · rename_i hs
          rw [Bool.and_eq_true] at hs
          obtain ⟨w, rfl, r⟩ := rv.one
          cases e
          exact mSem.of (mt_countD hu) ⟨_, _, d, ds, rfl, rfl, dat_dp R _ _ _ _ e2 ra, dat_dp R _ _ _ _ e1 r, hs.2, hs.1, p.here R (.int _)⟩
        · cases e
      · cases e
    · rename_i em
      split at e
      · rename_i d ds e1 e2
        split at e
        · rename_i hs
          rw [Bool.and_eq_true] at hs
          obtain ⟨w, rfl, r⟩ := rv.one
          split at e
          · rename_i j ej
            cases e
            obtain ⟨hj, h1, h2⟩ := List.findIdx?_eq_some_iff_getElem.mp ej
            refine mSem.of (mt_indexD hu) ⟨_, _, d, ds, j, ds[j], rfl, rfl, dat_dp R _ _ _ _ e2 ra, dat_dp R _ _ _ _ e1 r, hs.2, hs.1, List.getElem?_eq_getElem hj, h1, fun m z' hm hz => ?_, p.here R (.int _)⟩
            obtain ⟨hm2, rfl⟩ := List.getElem?_eq_some_iff.mp hz
            simpa using h2 m hm
          · cases e
        · cases e
      · cases e
    · cases e
  · cases e

/-! ### isinstance -/
def tyName : Ty → String
  | .int => "int" | .bool => "bool" | .str => "str" | .list => "list" | .tuple => "tuple" | .dict => "dict" | .cls _ => ""
theorem kit_all (a : String) (t : Ty) (h : (match t with | .cls _ => False | _ => True)) (ha : a = "NoneType" ∨ a = "bool" ∨ a = "int" ∨ a = "str" ∨ a = "list" ∨ a = "tuple" ∨ a = "dict") :
    kitB a (tyName t) = some (a == tyName t || (a == "bool" && tyName t == "int")) := by
  cases t with
  | cls c => cases h
  | _ => rcases ha with rfl | rfl | rfl | rfl | rfl | rfl | rfl <;> decide +kernel
theorem isi_ok {a : Val} {x : V} {t : Ty} {k : Bool} {Q : VK} (R : Rl X.K kt ca io st H) (ra : RV X.K kt io st.n H a x) (ht : (match t with | .cls _ => False | _ => True)) (e : isT st a t = some k) (q : Q (.bl k) H) :
    cSem X (.builtin "isinstance") [x, .ty (tyName t)] H Q := by
  have go : ∀ (b : String), TyX X.K H x (.type b) → (b = "NoneType" ∨ b = "bool" ∨ b = "int" ∨ b = "str" ∨ b = "list" ∨ b = "tuple" ∨ b = "dict") → (b == tyName t || (b == "bool" && tyName t == "int")) = k → cSem X (.builtin "isinstance") [x, .ty (tyName t)] H Q :=
    fun b ty hb hk => cSem.of call_isi ⟨x, _, _, _, k, rfl, .ty _, ty, kit_ty (by rw [kit_all b t ht hb, hk]), q⟩
  cases ra with
  | non => cases e; exact go "NoneType" (.base .non) (by simp) (by cases t <;> first | exact False.elim ht | decide)
  | bl b => cases e; exact go "bool" (.base (.bl b)) (by simp) (by cases t <;> first | exact False.elim ht | decide)
  | int i => cases e; exact go "int" (.base (.int i)) (by simp) (by cases t <;> first | exact False.elim ht | decide)
  | str z => cases e; exact go "str" (.base (.str z)) (by simp) (by cases t <;> first | exact False.elim ht | decide)
  | tup s r =>
    cases e
    refine go "tuple" ?_ (by simp) (by cases t <;> first | exact False.elim ht | decide)
    rcases s with s | ⟨_, o, its, n, h1, h2, _⟩
    · exact .base (.tup s)
    · exact .kTuple h1 h2
  | @ref i hi =>
    unfold isT at e
    simp only at e
    split at e
    · rename_i xs em
      cases e
      refine go "list" ?_ (by simp) (by cases t <;> first | exact False.elim ht | decide)
      obtain ⟨_, r⟩ := R.at em
      generalize st.ro i = b at r
      cases r with
      | lst h _ => exact .base (.lst h)
      | lstR h _ =>
        rcases h with ⟨o, h⟩ | ⟨o, its, n, h1, h2, _⟩
        · exact .base (.frz h)
        · exact .kList h1 h2
    · rename_i xs em
      cases e
      refine go "dict" ?_ (by simp) (by cases t <;> first | exact False.elim ht | decide)
      obtain ⟨_, r⟩ := R.at em
      generalize st.ro i = b at r
      cases r with
      | dK h _ => exact .base (.dK h)
      | dKR h _ => exact .fDict h
    · rename_i xs em
      split at e
      · cases e
      · rename_i hr
        cases e
        refine go "dict" ?_ (by simp) (by cases t <;> first | exact False.elim ht | decide)
        obtain ⟨kws, _, _, hl⟩ := R.dictT em
        exact .base (.dT (hl (by simpa using hr)))
    · cases e
end
end CL

/-! CL, part 1: a tuple that is known to the object; dict of it; set of a tuple of ints -/
namespace CL
open PySem PySem.Spec PyProof.Rows L2
section
variable {X : Cx}
/-- a tuple as it is made: known to the object -/
def tTupF (t : TA) : TE := fun σ H Q => t σ H fun xs H1 => xs.length ≤ sizeLine ∧ ∀ p o, H1 p = none → o.dict = none → Q (.ref p) (upd H1 p (.frz o (.tup xs)))
theorem pe_tupF {es : List Expr} {t : TA} {x1} {pos : Pos} (h : PA X es t) : PE X (.Tuple es x1 pos) (tTupF t) := by
  refine ⟨fun pins s σ H Q I hq => ?_⟩
  refine wpAny_Tuple_spliced (thn (h.run pos pins s σ H _ I hq) fun us s1 ⟨xs, H1, I1, r, z, q⟩ => ⟨by rw [← r.length]; exact z, ?_⟩)
  have hf : H1 s1.heap.objs.size = none := I1.hok.fresh (Nat.le_refl _)
  refine ⟨.ref s1.heap.objs.size, upd H1 s1.heap.objs.size (.frz { cls := .type "tuple", data := .seq us.toArray } (.tup xs)), I1.laid (t' := s1.toks) (fun b u e => Heap.get?_push_of_some _ e) (Nat.le_refl _) ?_, rfl, q _ _ hf rfl⟩
  exact ⟨Heap.get?_push_size _ rfl, z, us, r, ⟨_, Heap.get?_push_size _ rfl, rfl, _, rfl⟩⟩
theorem call_dictT (hcalm : X.calm = true) : CallR X (.type "dict") (fun xs H Q => ∃ (a : Addr) (o : Obj) (ps : List Addr) (kvs : List (Key × V)), xs = [.ref a] ∧ H a = some (.frz o (.tup (ps.map V.ref))) ∧ o.dict = none ∧ Paired (fun p kv => SqT X.K H p [kV kv.1, kv.2]) ps kvs ∧
    ∀ p, H p = none → Q (.ref p) (upd H p (.dK (mergeK [] kvs)))) := by
  intro pins s σ H xs us Q I r q
  obtain ⟨a, o, ps, kvs, ex, hq, hdn, hp, q⟩ := q
  subst ex
  obtain ⟨u, eu, rx⟩ := vals1 r
  subst eu
  cases rx
  obtain ⟨ho, hz, its, rv, ob, hob, hc, n, hdat⟩ := I.hok a _ hq
  rw [ho] at hob
  cases hob
  have ei := refs_at rv
  subst ei
  rw [List.length_map] at hz
  obtain ⟨prs, rel, hl, hpr⟩ := pairs_of I hp
  have hf : ∀ j : Nat, ∃ u : Value, ∀ q, prs[j]? = some q → IsTup s.heap (ps.getD j 0) #[u, q.2] ∧ keyIs q.1 u = true := fun j => by
    cases e : prs[j]? with
    | none => exact ⟨.none, fun q h => by cases h⟩
    | some q =>
      obtain ⟨b, u, e1, e2, e3⟩ := hpr j q e
      refine ⟨u, fun q' h => ?_⟩
      cases h
      rw [List.getD_eq_getElem?_getD, e1]
      exact ⟨e2, e3⟩
  obtain ⟨f, hf⟩ := Classical.skolem.mp hf
  have hget : ∀ (j : Nat) (k v : Value), (prs.mapIdx fun j q => (f j, q.2))[j]? = some (k, v) → ∃ q, prs[j]? = some q ∧ k = f j ∧ v = q.2 := fun j k v e => by
    rw [List.getElem?_mapIdx] at e
    cases e1 : prs[j]? with
    | none => rw [e1] at e; cases e
    | some q => rw [e1] at e; cases e; exact ⟨q, rfl, rfl, rfl⟩
  refine PySem.call_dict_pairs (knd := mixKind X.prog X.w) (kvs := prs) (PySem.PairArg.tuple a (ps.map Value.ref).toArray (fun j => ps.getD j 0) (prs.mapIdx fun j q => (f j, q.2))) (I.ok.hd hcalm) ⟨⟨o, n, ho, hc, hdn, hdat⟩, by simp [hl], fun j k v e => ?_⟩ ⟨by simp, fun i k v e => ?_⟩ (by simp [hl]; exact hz) fun h' tk hd' k => ?_
  · obtain ⟨q, e1, rfl, rfl⟩ := hget j k v e
    have hj : j < ps.length := by rw [← hl]; exact (List.getElem?_eq_some_iff.mp e1).1
    refine ⟨by show (ps.map Value.ref).toArray[j]? = some (.ref (ps.getD j 0)); rw [List.getD_eq_getElem?_getD, List.getElem?_eq_getElem hj]; simp [hj], .inl ?_⟩
    obtain ⟨ob, h1, h2, n2, h3⟩ := (hf j q e1).1
    exact ⟨ob, h1, h2, n2, h3⟩
  · obtain ⟨q, e1, rfl, rfl⟩ := hget i k v e
    exact ⟨q.1, e1, (hf i q e1).2⟩
  · have hm : (s.heap.objs.size == sysModules) = false := beq_eq_false_iff_ne.mpr (Nat.ne_of_gt I.big)
    have hlen : (mergeK [] kvs).length ≤ sizeLine := by
      refine Nat.le_trans (length_mergeK kvs []) ?_
      rw [List.length_nil, Nat.zero_add, rel.length, hl]
      exact hz
    exact ⟨.ref s.heap.objs.size, upd H s.heap.objs.size (.dK (mergeK [] kvs)), I.laid (t' := tk) (fun b o e => k b o (by simp) e) (Nat.le_refl _) (show ObjOk X.prog X.w _ _ _ (.dK (mergeK [] kvs)) from ⟨hlen, hm, merged [] prs, KV.merge rel .nil, hd'⟩), rfl, q _ (I.hok.fresh (Nat.le_refl _))⟩
theorem ints_are : ∀ {ns : List Int} {us : List Value}, Vals (ns.map V.int) us → IntsAre us ns
  | [], _, r => by cases r; exact .nil
  | n :: ns, _, r => by
    cases r with
    | cons h t =>
      obtain ⟨tk, rfl⟩ := h
      exact .cons n tk (ints_are t)
/-- set of a tuple of ints -/
theorem cr_setT (hc : X.calm = true) : CallR X (.type "set") (fun xs H Q => ∃ (a : Addr) (ns : List Int), xs = [.ref a] ∧ SqT X.K H a (ns.map V.int) ∧ ns.length + 1 < scanBound ∧ ∀ p c, c ≤ ns.length → H p = none → Q (.ref p) (upd H p (SetO X.w p (fun j => decide (j ∈ ns)) c))) := by
  intro pins s σ H xs us Q I r q
  obtain ⟨a, ns, ex, hq, hb, q⟩ := q
  subst ex
  obtain ⟨u, eu, rx⟩ := vals1 r
  subst eu
  cases rx
  obtain ⟨its, rv, ht, hz⟩ := I.tuple hq
  refine call_set_tupI ns (I.ok.hd hc) ht (by exact ints_are rv) hb fun h' tk c hS hc' k => ?_
  exact ⟨.ref s.heap.objs.size, upd H s.heap.objs.size (SetO X.w s.heap.objs.size _ c), I.laid (t' := tk) k (Nat.le_refl _) (setO_new hS), rfl, q _ c hc' (I.hok.fresh (Nat.le_refl _))⟩
end
end CL

/-! CL, part y: list(zip(a, b)) of lists and tuples in any mix -/
namespace CL
open PySem PySem.Spec PyProof.Rows L2
section
variable {prog : Program} {w : World} {A : Around} {E : Value → Shared → Prop} {s : Shared} {z TI TO T i1 i2 S : Addr} {fp1 fp2 : List Addr} {n1 n2 i : Nat} {P1 P2 : Nat → Value → Prop} {St1 St2 : Nat → Heap → Prop} {f : Bool} {oT : Obj}
theorem zip_held {Q : Value → Shared → Prop} (D : ZipSep2 z TI TO i1 i2 fp1 fp2) (D1 : Draws prog w A i1 fp1 n1 P1 St1) (D2 : Draws prog w A i2 fp2 n2 P2 St2)
    (hz : IsZipHeld s.heap z TI TO T f) (hT : s.heap.get? T = some oT) (hTI : IsTupOf2 s.heap TI (.ref i1) (.ref i2)) (st1 : St1 i s.heap) (st2 : St2 i s.heap) (hlt1 : i < n1) (hlt2 : i < n2)
    (hQ : ∀ x1 x2 h' tk, P1 i x1 → P2 i x2 → IsZipHeld h' z TI TO T true → St1 (i + 1) h' → St2 (i + 1) h' → IsTupOf2 h' s.heap.objs.size x1 x2 → h'.objs.size = s.heap.objs.size + 1 →
      (∀ c o, c ≠ z → c ≠ i1 → c ≠ i2 → s.heap.get? c = some o → h'.get? c = some o) → Q (.ref s.heap.objs.size) { s with heap := h', toks := tk }) :
    wpAny (model prog w) A (Builtin.«zip.__next__» ⟨[.ref z], []⟩) (fun fin s' => ∃ v, fin = .done (.ret v) ∧ Q v s') E s := by
  obtain ⟨hp, g, d, tk0, os⟩ := s
  show wpAny _ _ (field (.ref z) 2 >>= _) _ _ _
  refine wpAny_bind (wpAny_field hz rfl (x := .bool false) rfl ?_)
  show wpAny _ _ (field (.ref z) 3 >>= _) _ _ _
  refine wpAny_bind (wpAny_field hz rfl (x := .ref TI) rfl ?_)
  refine wpAny_bind (wpAny_seqItems hTI rfl ?_)
  show wpAny _ _ (Builtin.SmallTypes.ownedTupleIsFree (.ref z) >>= _) _ _ _
  refine wpAny_bind (wpAny_tupleHeld_zip hz hT fun h₁ hz₁ hs₁ => ?_)
  replace hs₁ : Heap.SameBut z hp h₁ := hs₁
  simp only [Bool.false_eq_true, if_false]
  refine wpAny_bind ?_
  rw [← Array.forIn_toList]
  simp only [List.forIn_cons, List.forIn_nil]
  refine wpAny_bind (wpAny_bind (wpAny_holding ?_))
  show wpAny _ _ (Builtin.SmallTypes.nextOf (.ref i1) >>= _) _ _ ⟨h₁, g, d, tk0, os⟩
  refine wpAny_bind (D1.item i _ _ _ hlt1 (D1.over st1 hs₁ D.zf1) fun x1 p1 tk1 hx1 sn1 hp1 => wpAny_pure ?_)
  replace hp1 : Heap.SameBut i1 h₁ p1 := hp1
  refine wpAny_pure ?_
  refine wpAny_bind (wpAny_bind (wpAny_holding ?_))
  show wpAny _ _ (Builtin.SmallTypes.nextOf (.ref i2) >>= _) _ _ ⟨p1, g, d, tk1, os⟩
  refine wpAny_bind (D2.item i _ _ _ hlt2 (D2.over (D2.over st2 hs₁ D.zf2) hp1 D.sep1_2) fun x2 p2 tk2 hx2 sn2 hp2 => wpAny_pure ?_)
  replace hp2 : Heap.SameBut i2 p1 p2 := hp2
  refine wpAny_pure (wpAny_pure ?_)
  show wpAny _ _ (newTuple [x1, x2] >>= _) _ _ ⟨p2, g, d, tk2, os⟩
  refine wpAny_bind (wpAny_newTuple ?_)
  have hsz : p2.objs.size = hp.objs.size := by rw [hp2.1, hp1.1, hs₁.1]
  have hz₃ : IsZipHeld p2 z TI TO T true := hp2.extBut _ _ D.zi2 (hp1.extBut _ _ D.zi1 hz₁)
  have hk : ∀ c o, c ≠ z → c ≠ i1 → c ≠ i2 → hp.get? c = some o → p2.get? c = some o := fun c o c1 c2 c3 e => hp2.extBut _ _ c3 (hp1.extBut _ _ c2 (hs₁.extBut _ _ c1 e))
  have hj1 : St1 (i + 1) p2 := D1.over sn1 hp2 D.sep2_1
  refine wpAny_pure ⟨_, rfl, ?_⟩
  show Q (.ref p2.objs.size) _
  have hp' : IsTupOf2 (p2.push { cls := .type "tuple", data := .seq #[x1, x2] }) p2.objs.size x1 x2 := Heap.get?_push_size _ rfl
  have hz4 : (p2.push { cls := .type "tuple", data := .seq #[x1, x2] }).objs.size = p2.objs.size + 1 := Heap.size_push ..
  rw [hsz] at hp' hz4 ⊢
  exact hQ x1 x2 _ tk2 hx1 hx2 (Heap.get?_push_of_some _ hz₃) (D1.frame _ _ _ hj1 fun b hb o e => Heap.get?_push_of_some _ e) (D2.frame _ _ _ sn2 fun b hb o e => Heap.get?_push_of_some _ e) hp' hz4
    fun c o c1 c2 c3 e => Heap.get?_push_of_some _ (hk c o c1 c2 c3 e)
theorem zip_end_held {Q : Fin → Shared → Prop} (D : ZipSep2 z TI TO i1 i2 fp1 fp2) (D1 : Draws prog w A i1 fp1 n1 P1 St1) (D2 : Draws prog w A i2 fp2 n2 P2 St2)
    (hz : IsZipHeld s.heap z TI TO T f) (hT : s.heap.get? T = some oT) (hTI : IsTupOf2 s.heap TI (.ref i1) (.ref i2)) (st1 : St1 i s.heap) (st2 : St2 i s.heap) (hle1 : i ≤ n1) (hle2 : i ≤ n2) (hend : i = n1 ∨ i = n2)
    (hE : ∀ h' tk e, (∀ c o, c ≠ z → c ≠ i1 → c ≠ i2 → s.heap.get? c = some o → h'.get? c = some o) → (∃ o, h'.get? e = some o ∧ o.cls = .type "StopIteration") → E (.ref e) { s with heap := h', toks := tk }) :
    wpAny (model prog w) A (Builtin.«zip.__next__» ⟨[.ref z], []⟩) Q E s := by
  obtain ⟨hp, g, d, tk0, os⟩ := s
  show wpAny _ _ (field (.ref z) 2 >>= _) _ _ _
  refine wpAny_bind (wpAny_field hz rfl (x := .bool false) rfl ?_)
  show wpAny _ _ (field (.ref z) 3 >>= _) _ _ _
  refine wpAny_bind (wpAny_field hz rfl (x := .ref TI) rfl ?_)
  refine wpAny_bind (wpAny_seqItems hTI rfl ?_)
  show wpAny _ _ (Builtin.SmallTypes.ownedTupleIsFree (.ref z) >>= _) _ _ _
  refine wpAny_bind (wpAny_tupleHeld_zip hz hT fun h₁ hz₁ hs₁ => ?_)
  replace hs₁ : Heap.SameBut z hp h₁ := hs₁
  simp only [Bool.false_eq_true, if_false]
  refine wpAny_bind ?_
  rw [← Array.forIn_toList]
  simp only [List.forIn_cons, List.forIn_nil]
  refine wpAny_bind (wpAny_bind (wpAny_holding ?_))
  show wpAny _ _ (Builtin.SmallTypes.nextOf (.ref i1) >>= _) _ _ ⟨h₁, g, d, tk0, os⟩
  by_cases h1 : i = n1
  · subst h1
    refine wpAny_bind (D1.done _ _ _ (D1.over st1 hs₁ D.zf1) fun h₂ e hs₂ he => ?_)
    exact hE h₂ tk0 e (fun c o c1 c2 _ x => hs₂ _ _ c2 (hs₁.extBut _ _ c1 x)) he
  · refine wpAny_bind (D1.item i _ _ _ (by omega) (D1.over st1 hs₁ D.zf1) fun x1 p1 tk1 hx1 sn1 hp1 => wpAny_pure ?_)
    replace hp1 : Heap.SameBut i1 h₁ p1 := hp1
    have h2 : i = n2 := by omega
    subst h2
    refine wpAny_pure ?_
    refine wpAny_bind (wpAny_bind (wpAny_holding ?_))
    show wpAny _ _ (Builtin.SmallTypes.nextOf (.ref i2) >>= _) _ _ ⟨p1, g, d, tk1, os⟩
    refine wpAny_bind (D2.done _ _ _ (D2.over (D2.over st2 hs₁ D.zf2) hp1 D.sep1_2) fun h₃ e hs₃ he => ?_)
    exact hE h₃ tk1 e (fun c o c1 c2 c3 x => hs₃ _ _ c3 (hp1.extBut _ _ c2 (hs₁.extBut _ _ c1 x))) he

/-- a zip that is being listed into S: nothing given yet, or the last tuple still out -/
def ZSt (z TI TO i1 i2 S : Addr) (St1 St2 : Nat → Heap → Prop) (i : Nat) (h : Heap) : Prop := IsTupOf2 h TI (.ref i1) (.ref i2) ∧ St1 i h ∧ St2 i h ∧
  ((IsZip h z TI TO .none ∧ ∃ a b, IsTupOf2 h TO a b) ∨ ∃ T f oT, IsZipHeld h z TI TO T f ∧ h.get? T = some oT ∧ T ≠ z ∧ T ≠ i1 ∧ T ≠ i2 ∧ T ≠ S)
theorem z_item {Q : Option Value → Shared → Prop} (D : ZipSep2 z TI TO i1 i2 fp1 fp2) (D1 : Draws prog w A.in1 i1 fp1 n1 P1 St1) (D2 : Draws prog w A.in1 i2 fp2 n2 P2 St2)
    (hst : ZSt z TI TO i1 i2 S St1 St2 i s.heap) (hS : S < s.heap.objs.size) (hlt1 : i < n1) (hlt2 : i < n2)
    (hQ : ∀ x1 x2 h' tk, P1 i x1 → P2 i x2 → ZSt z TI TO i1 i2 S St1 St2 (i + 1) h' → IsTupOf2 h' s.heap.objs.size x1 x2 → h'.objs.size = s.heap.objs.size + 1 →
      (∀ c o, c ∉ [z, TO, i1, i2] → s.heap.get? c = some o → h'.get? c = some o) → Q (some (.ref s.heap.objs.size)) { s with heap := h', toks := tk }) :
    wpAny (model prog w) A (pyNext (.ref z)) Q E s := by
  obtain ⟨hTI, st1, st2, hz⟩ := hst
  have hn : ∀ {c : Addr} {o : Obj}, s.heap.get? c = some o → s.heap.objs.size ≠ c := fun e => Nat.ne_of_gt (Heap.lt_size e)
  obtain ⟨o1, e1⟩ := D1.live _ _ st1
  obtain ⟨o2, e2⟩ := D2.live _ _ st2
  have hTy : s.TypeIs (.ref z) "zip" := by
    rcases hz with ⟨hz, _⟩ | ⟨T, f, oT, hz, _⟩ <;> exact ⟨_, hz, rfl⟩
  unfold pyNext
  rcases hz with ⟨hz, a, b, hTO⟩ | ⟨T, f, oT, hz, hT, r1, r2, r3, r4⟩
  · exact wpAny_bind (wpAny_attempt (wpAny_callSpecial?_slot (name := Str.ofString "__next__") hTy F.slot_zip_next (wpAny_call_entry F.slot_zip_next hTy F.entry_zip_next
      (zipD2_next_item D D1 D2 hz hTI hTO st1 st2 hlt1 hlt2 fun x1 x2 h' tk p1 p2 a1 a2 a3 a4 a5 a6 hk => wpAny_pure (hQ x1 x2 h' tk p1 p2
        ⟨hk _ _ D.TIz D.TITO D.TIi1 D.TIi2 hTI, a3, a4, .inr ⟨s.heap.objs.size, false, _, a1, a5, hn hz, hn e1, hn e2, Nat.ne_of_gt hS⟩⟩ a5 a6
        fun c o hc e => hk c o (fun x => hc (by simp [x])) (fun x => hc (by simp [x])) (fun x => hc (by simp [x])) (fun x => hc (by simp [x])) e)) (F.args_zip_next_1 _))))
  · exact wpAny_bind (wpAny_attempt (wpAny_callSpecial?_slot (name := Str.ofString "__next__") hTy F.slot_zip_next (wpAny_call_entry F.slot_zip_next hTy F.entry_zip_next
      (zip_held D D1 D2 hz hT hTI st1 st2 hlt1 hlt2 fun x1 x2 h' tk p1 p2 a1 a3 a4 a5 a6 hk => wpAny_pure (hQ x1 x2 h' tk p1 p2
        ⟨hk _ _ D.TIz D.TIi1 D.TIi2 hTI, a3, a4, .inr ⟨T, true, oT, a1, hk _ _ r1 r2 r3 hT, r1, r2, r3, r4⟩⟩ a5 a6
        fun c o hc e => hk c o (fun x => hc (by simp [x])) (fun x => hc (by simp [x])) (fun x => hc (by simp [x])) e)) (F.args_zip_next_1 _))))
theorem z_done {Q : Option Value → Shared → Prop} (D : ZipSep2 z TI TO i1 i2 fp1 fp2) (D1 : Draws prog w A.in1 i1 fp1 n1 P1 St1) (D2 : Draws prog w A.in1 i2 fp2 n2 P2 St2)
    (hst : ZSt z TI TO i1 i2 S St1 St2 i s.heap) (hle1 : i ≤ n1) (hle2 : i ≤ n2) (hend : i = n1 ∨ i = n2)
    (hQ : ∀ h' tk, (∀ c o, c ∉ [z, TO, i1, i2] → s.heap.get? c = some o → h'.get? c = some o) → Q none { s with heap := h', toks := tk }) :
    wpAny (model prog w) A (pyNext (.ref z)) Q E s := by
  obtain ⟨hTI, st1, st2, hz⟩ := hst
  have hTy : s.TypeIs (.ref z) "zip" := by
    rcases hz with ⟨hz, _⟩ | ⟨T, f, oT, hz, _⟩ <;> exact ⟨_, hz, rfl⟩
  unfold pyNext
  rcases hz with ⟨hz, a, b, hTO⟩ | ⟨T, f, oT, hz, hT, r1, r2, r3, r4⟩
  · refine wpAny_bind (wpAny_attempt (wpAny_callSpecial?_slot (name := Str.ofString "__next__") hTy F.slot_zip_next (wpAny_call_entry F.slot_zip_next hTy F.entry_zip_next
      (zipD2_next_end D D1 D2 hz hTI hTO st1 st2 hle1 hle2 hend fun h' tk e hk he => ?_) (F.args_zip_next_1 _))))
    obtain ⟨o, ho, hc⟩ := he
    refine wpAny_bind (wpAny_isInstance (T := "StopIteration") (b := true) ⟨o, ho, hc⟩ isSubtype_stop ?_)
    exact wpAny_pure (hQ h' tk fun c o hc e => hk c o (fun x => hc (by simp [x])) (fun x => hc (by simp [x])) (fun x => hc (by simp [x])) (fun x => hc (by simp [x])) e)
  · refine wpAny_bind (wpAny_attempt (wpAny_callSpecial?_slot (name := Str.ofString "__next__") hTy F.slot_zip_next (wpAny_call_entry F.slot_zip_next hTy F.entry_zip_next
      (zip_end_held D D1 D2 hz hT hTI st1 st2 hle1 hle2 hend fun h' tk e hk he => ?_) (F.args_zip_next_1 _))))
    obtain ⟨o, ho, hc⟩ := he
    refine wpAny_bind (wpAny_isInstance (T := "StopIteration") (b := true) ⟨o, ho, hc⟩ isSubtype_stop ?_)
    exact wpAny_pure (hQ h' tk fun c o hc e => hk c o (fun x => hc (by simp [x])) (fun x => hc (by simp [x])) (fun x => hc (by simp [x])) e)
theorem ZSt.keep (D : ZipSep2 z TI TO i1 i2 fp1 fp2) (D1 : Draws prog w A i1 fp1 n1 P1 St1) (D2 : Draws prog w A i2 fp2 n2 P2 St2) (hz : z ≠ S) (hTI : TI ≠ S) (hTO : TO ≠ S) (h1 : S ∉ fp1) (h2 : S ∉ fp2) {h h' : Heap} (x : ZSt z TI TO i1 i2 S St1 St2 i h)
    (k : ∀ b o, b ≠ S → h.get? b = some o → h'.get? b = some o) : ZSt z TI TO i1 i2 S St1 St2 i h' := by
  obtain ⟨a, st1, st2, q⟩ := x
  refine ⟨k _ _ hTI a, D1.frame _ _ _ st1 fun b hb o e => k b o (fun q => h1 (q ▸ hb)) e, D2.frame _ _ _ st2 fun b hb o e => k b o (fun q => h2 (q ▸ hb)) e, ?_⟩
  rcases q with ⟨q, u, v, t⟩ | ⟨T, f, oT, q, hT, r1, r2, r3, r4⟩
  · exact .inl ⟨k _ _ hz q, u, v, k _ _ hTO t⟩
  · exact .inr ⟨T, f, oT, k _ _ hz q, k _ _ r4 hT, r1, r2, r3, r4⟩
/-- the tuples that were made -/
structure Prs (P1 P2 : Nat → Value → Prop) (lo : Addr) (h : Heap) (as : List Addr) : Prop where
  rise : as.Pairwise (· < ·)
  above : ∀ a ∈ as, lo ≤ a
  pairs : ∀ (j : Nat) (a : Addr), as[j]? = some a → ∃ x1 x2, P1 j x1 ∧ P2 j x2 ∧ IsTupOf2 h a x1 x2
theorem Prs.there {lo : Addr} {h : Heap} {as : List Addr} (g : Prs P1 P2 lo h as) {a : Addr} (ha : a ∈ as) : a < h.objs.size := by
  obtain ⟨j, hj⟩ := List.mem_iff_getElem?.mp ha
  obtain ⟨_, _, _, _, e⟩ := g.pairs j a hj
  exact Heap.lt_size e
theorem z_loop {R : Result → Shared → Prop} (D : ZipSep2 z TI TO i1 i2 fp1 fp2) (D1 : Draws prog w A.in1.in1 i1 fp1 n1 P1 St1) (D2 : Draws prog w A.in1.in1 i2 fp2 n2 P2 St2) (hz : z ≠ S) (hTI : TI ≠ S) (hTO : TO ≠ S) (h1 : S ∉ fp1) (h2 : S ∉ fp2)
    (hi1 : i1 ≠ S) (hi2 : i2 ≠ S) {lo : Addr} (hlo : ∀ b ∈ [z, TO, i1, i2, S], b < lo) (n : Nat) (hn1 : n ≤ n1) (hn2 : n ≤ n2) (hend : n = n1 ∨ n = n2) (hn : n ≤ sizeLine) (res : Value) {h₁ : Heap}
    (hR : ∀ h' tk acc c as, (∀ b o, b ∉ [z, TO, i1, i2, S] → h₁.get? b = some o → h'.get? b = some o) → h'.get? S = some { cls := .type "list", dict := none, data := .seq acc c, slots := #[] } → as.length = n → Prs P1 P2 lo h' as →
      acc.toList = as.map Value.ref → R (.ok (.ret res)) { s with heap := h', toks := tk }) :
    ∀ (k i : Nat) (h : Heap) (tk c : Nat) (acc : Array Value) (as : List Addr), n - i = k → i ≤ n → ZSt z TI TO i1 i2 S St1 St2 i h → (∀ b o, b ∉ [z, TO, i1, i2, S] → h₁.get? b = some o → h.get? b = some o) →
      h.get? S = some { cls := .type "list", dict := none, data := .seq acc c, slots := #[] } → acc.toList = as.map Value.ref → as.length = i → Prs P1 P2 lo h as → lo ≤ h.objs.size →
      codeAny (model prog w) A (.builtin "list.extend.loop" ⟨[.ref S, .ref z, res], []⟩) R { s with heap := h, toks := tk } := by
  have hSw : S ∉ [z, TO, i1, i2] := fun m => by
    simp only [List.mem_cons, List.not_mem_nil, or_false] at m
    rcases m with m | m | m | m
    · exact hz m.symm
    · exact hTO m.symm
    · exact hi1 m.symm
    · exact hi2 m.symm
  have big : ∀ {a : Addr}, lo ≤ a → a ∉ [z, TO, i1, i2] := fun h m => Nat.not_lt.mpr h (hlo _ (by simp only [List.mem_cons, List.not_mem_nil, or_false] at m ⊢; rcases m with m | m | m | m <;> simp [m]))
  have wide : ∀ {b : Addr}, b ∉ [z, TO, i1, i2, S] → b ∉ [z, TO, i1, i2] := fun h m => h (by simp only [List.mem_cons, List.not_mem_nil, or_false] at m ⊢; rcases m with m | m | m | m <;> simp [m])
  intro k
  induction k with
  | zero =>
    intro i h tk c acc as hk hi hst hkeep hS hacc hal hG hls
    have hin : i = n := by omega
    subst hin
    refine codeAny_builtin PySem.F.entry_extend_loop ?_
    rw [Around.under_plainId PySem.F.plain_extend_loop _]
    show wpAny _ A.in1 (pyNext (.ref z) >>= _) _ _ _
    refine wpAny_bind (z_done (s := { s with heap := h, toks := tk }) (A := A.in1) D D1 D2 hst hn1 hn2 hend fun h' tk' he => ?_)
    refine wpAny_pure (hR h' tk' acc c as (fun b o hb e => he b o (wide hb) (hkeep b o hb e)) (he S _ hSw hS) hal ⟨hG.rise, hG.above, fun j a hj => ?_⟩ hacc)
    obtain ⟨x1, x2, p1, p2, e3⟩ := hG.pairs j a hj
    exact ⟨x1, x2, p1, p2, he a _ (big (hG.above a (List.mem_of_getElem? hj))) e3⟩
  | succ k ih =>
    intro i h tk c acc as hk hi hst hkeep hS hacc hal hG hls
    have hlt : i < n := by omega
    have hsz : acc.size = i := by rw [← Array.length_toList, hacc, List.length_map, hal]
    refine codeAny_builtin PySem.F.entry_extend_loop ?_
    rw [Around.under_plainId PySem.F.plain_extend_loop _]
    show wpAny _ A.in1 (pyNext (.ref z) >>= _) _ _ _
    have hSl : S < h.objs.size := Heap.lt_size hS
    refine wpAny_bind (z_item (s := { s with heap := h, toks := tk }) (A := A.in1) D D1 D2 hst hSl (by omega) (by omega) fun x1 x2 h' tk' p1 p2 hst' ht hzz hkp => ?_)
    dsimp only at ht hzz hkp ⊢
    have hS' := hkp S _ hSw hS
    have up : ∀ b o, b ≠ S → h'.get? b = some o → (h'.update S (Obj.mapSeq (·.push (Value.ref h.objs.size)))).get? b = some o := fun b o hb e => (Heap.get?_update_other _ _ (Ne.symm hb)).trans e
    have nS : ∀ {a : Addr}, lo ≤ a → a ≠ S := fun h e => Nat.not_lt.mpr h (hlo _ (by simp [e]))
    show wpAny _ A.in1 (updateSeq S (·.push (Value.ref h.objs.size)) >>= _) _ _ _
    refine wpAny_bind ?_
    refine wpAny_updateSeq hS' rfl (wpAny_pure ⟨plainId_quiet PySem.F.plain_extend_loop _, ih (i + 1) _ tk' _ (acc.push (Value.ref h.objs.size)) (as ++ [h.objs.size]) (by omega) hlt (hst'.keep D D1 D2 hz hTI hTO h1 h2 up)
      (fun b o hb e => up b o (fun q => hb (by simp [q])) (hkp b o (wide hb) (hkeep b o hb e))) (Heap.get?_update_self _ hS' rfl) (by rw [Array.toList_push, hacc, List.map_append]; rfl) (by rw [List.length_append, hal]; rfl) ⟨?_, ?_, ?_⟩ ?_⟩) (by rw [hsz]; omega) (by show (acc.push (Value.ref h.objs.size)).size ≤ sizeLine + 1; rw [Array.size_push, hsz]; omega)
    · refine List.pairwise_append.mpr ⟨hG.rise, List.pairwise_singleton _ _, fun a ha b hb => ?_⟩
      rw [List.mem_singleton.mp hb]
      exact hG.there ha
    · intro a ha
      rcases List.mem_append.mp ha with ha | ha
      · exact hG.above a ha
      · rw [List.mem_singleton.mp ha]; exact hls
    · intro j b hj
      rcases Nat.lt_trichotomy j as.length with h3 | h3 | h3
      · rw [List.getElem?_append_left h3] at hj
        obtain ⟨y1, y2, q1, q2, e3⟩ := hG.pairs j b hj
        have hb := hG.above b (List.mem_of_getElem? hj)
        exact ⟨y1, y2, q1, q2, up b _ (nS hb) (hkp b _ (big hb) e3)⟩
      · subst h3
        have hb : h.objs.size = b := by simpa using hj
        subst hb
        subst hal
        exact ⟨x1, x2, p1, p2, up _ _ (Nat.ne_of_gt hSl) ht⟩
      · have hnone : (as ++ [h.objs.size])[j]? = none := List.getElem?_eq_none (by rw [List.length_append, List.length_singleton]; omega)
        rw [hnone] at hj; cases hj
    · have e : (h'.update S (Obj.mapSeq (·.push (Value.ref h.objs.size)))).get? h.objs.size = _ := up _ _ (Nat.ne_of_gt hSl) ht
      exact Nat.le_of_lt (Nat.lt_of_le_of_lt hls (Heap.lt_size e))
end
theorem zip_no_len : typeLookup (.type "zip") "__len__" = pure none := am_miss_of_fast (by decide +kernel)
theorem zip_no_hint : typeLookup (.type "zip") "__length_hint__" = pure none := am_miss_of_fast (by decide +kernel)
section
variable {prog : Program} {w : World} {A : Around} {E : Value → Shared → Prop} {s : Shared} {z TI TO i1 i2 : Addr} {fp1 fp2 : List Addr} {n1 n2 : Nat} {P1 P2 : Nat → Value → Prop} {St1 St2 : Nat → Heap → Prop}
/-- list(z) of a zip that has given nothing yet -/
theorem call_list_zip {Q : Value → Shared → Prop} (D : ZipSep2 z TI TO i1 i2 fp1 fp2) (D1 : Draws prog w A.in1.in1.in1 i1 fp1 n1 P1 St1) (D2 : Draws prog w A.in1.in1.in1 i2 fp2 n2 P2 St2) (hz : IsZip s.heap z TI TO .none) (hTI : IsTupOf2 s.heap TI (.ref i1) (.ref i2))
    (hTO : ∃ a b, IsTupOf2 s.heap TO a b) (st1 : St1 0 s.heap) (st2 : St2 0 s.heap) (hf1 : ∀ b ∈ fp1, b < s.heap.objs.size) (hf2 : ∀ b ∈ fp2, b < s.heap.objs.size) (n : Nat) (hn1 : n ≤ n1) (hn2 : n ≤ n2) (hend : n = n1 ∨ n = n2) (hn : n ≤ sizeLine)
    (hQ : ∀ h' tk acc c as, (∀ b o, b ∉ [z, TO, i1, i2] → s.heap.get? b = some o → h'.get? b = some o) → h'.get? s.heap.objs.size = some { cls := .type "list", dict := none, data := .seq acc c, slots := #[] } → as.length = n →
      Prs P1 P2 (s.heap.objs.size + 1) h' as → acc.toList = as.map Value.ref → Q (.ref s.heap.objs.size) { s with heap := h', toks := tk }) :
    wpAny (model prog w) A (call (.type "list") [.ref z]) Q E s := by
  have lz : z < s.heap.objs.size := Heap.lt_size hz
  have lTI : TI < s.heap.objs.size := Heap.lt_size hTI
  have lTO : TO < s.heap.objs.size := let ⟨_, _, e⟩ := hTO; Heap.lt_size e
  have li1 : i1 < s.heap.objs.size := hf1 _ D.mem1
  have li2 : i2 < s.heap.objs.size := hf2 _ D.mem2
  refine callType_codes (Q₁ := fun obj s₁ => obj = .ref s.heap.objs.size ∧ s₁ = { s with heap := s.heap.push { cls := .type "list", data := .seq #[] } }) F.called_list (F.typeCall_list_1 _) F.entry_list_init
    (code_list_new _ ⟨rfl, rfl⟩) fun obj s₁ h₁ => ?_
  obtain ⟨rfl, rfl⟩ := h₁
  have hS : (s.heap.push { cls := .type "list", data := .seq #[] }).get? s.heap.objs.size = some { cls := .type "list", data := .seq #[] } := Heap.get?_push_size _ rfl
  refine ⟨⟨_, hS, rfl⟩, F.args_list_init_2 _ _, ?_⟩
  have K0 : ∀ b o, s.heap.get? b = some o → (s.heap.push { cls := .type "list", data := .seq #[] }).get? b = some o := fun b o e => Heap.get?_push_of_some _ e
  show wpAny _ A.in1.in1 (do let old ← Builtin.List.listItems (.ref s.heap.objs.size); Builtin.List.listUpdate (.ref s.heap.objs.size) (fun _ => #[]); letGo old.toList.reverse; Builtin.List.listExtendWith (.ref s.heap.objs.size) (.ref z) .none) _ _ _
  refine wpAny_bind ?_
  unfold Builtin.List.listItems
  refine wpAny_bind (wpAny_seqItems hS rfl (wpAny_pure ?_))
  show wpAny _ A.in1.in1 (updateSeq s.heap.objs.size (fun _ => #[]) >>= fun _ => letGo (#[] : Array Value).toList.reverse >>= fun _ => Builtin.List.listExtendWith (.ref s.heap.objs.size) (.ref z) .none) _ _ _
  refine wpAny_bind (wpAny_updateSeq hS rfl ?_)
  have hS₂ := Heap.get?_update_self (Obj.mapSeq (fun _ => (#[] : Array Value))) hS rfl
  have K1 : ∀ b o, b ≠ s.heap.objs.size → s.heap.get? b = some o → ((s.heap.push { cls := .type "list", data := .seq #[] }).update s.heap.objs.size (Obj.mapSeq (fun _ => (#[] : Array Value)))).get? b = some o :=
    fun b o hb e => (Heap.get?_update_other _ _ (Ne.symm hb)).trans (K0 b o e)
  generalize hH : (s.heap.push { cls := .type "list", data := .seq #[] }).update s.heap.objs.size (Obj.mapSeq (fun _ => (#[] : Array Value))) = H at hS₂ K1
  refine wpAny_bind (wpAny_letGo ?_)
  unfold Builtin.List.listExtendWith
  have hz2 : IsZip H z TI TO .none := K1 _ _ (Nat.ne_of_lt lz) hz
  refine wpAny_bind (wpAny_typeOf (T := "zip") ⟨_, hz2, rfl⟩ ?_)
  have h1 : Builtin.List.listSameRef (.ref s.heap.objs.size) (.ref z) = false := by simp [Builtin.List.listSameRef, Nat.ne_of_gt lz]
  have h2 : (Value.type "zip" == Value.type "list") = false := by decide
  have h3 : (Value.type "zip" == Value.type "tuple") = false := by decide
  simp only [h1, h2, h3, Bool.or_false, Bool.false_eq_true, if_false]
  refine wpAny_bind (wpAny_pyIter_zip hz2 ?_)
  refine wpAny_bind (wpAny_holding ?_)
  unfold Builtin.List.listLengthHint
  refine wpAny_bind (wpAny_specialOf (T := "zip") ⟨_, hz2, rfl⟩ zip_no_len ?_)
  show wpAny _ A.in1.in1 (specialOf (Value.ref z) (Str.ofString "__length_hint__") >>= _) _ _ _
  refine wpAny_bind (wpAny_specialOf (T := "zip") ⟨_, hz2, rfl⟩ zip_no_hint ?_)
  refine wpAny_pure ?_
  show wpAny _ A.in1.in1 (rule "list.extend.makes-room" >>= fun _ => Builtin.List.listTouch (.ref s.heap.objs.size) >>= fun _ =>
    again (.builtin "list.extend.loop" ⟨[.ref s.heap.objs.size, .ref z, .none], []⟩)) _ _ _
  refine wpAny_bind (wpAny_rule ?_)
  refine wpAny_bind ?_
  show wpAny _ A.in1.in1 (updateSeq s.heap.objs.size (·.push .none) >>= fun _ => updateSeq s.heap.objs.size (·.pop)) _ _ _
  refine wpAny_bind (wpAny_updateSeq hS₂ rfl ?_)
  have hS₃ := Heap.get?_update_self (Obj.mapSeq (·.push Value.none)) hS₂ rfl
  refine wpAny_updateSeq (hz := by seq_fits) hS₃ rfl ?_
  have hS₄ := Heap.get?_update_self (Obj.mapSeq (·.pop)) hS₃ rfl
  have K2 : ∀ b o, b ≠ s.heap.objs.size → s.heap.get? b = some o → ((H.update s.heap.objs.size (Obj.mapSeq (·.push Value.none))).update s.heap.objs.size (Obj.mapSeq (·.pop))).get? b = some o :=
    fun b o hb e => (Heap.get?_update_other _ _ (Ne.symm hb)).trans ((Heap.get?_update_other _ _ (Ne.symm hb)).trans (K1 b o hb e))
  generalize hH2 : (H.update s.heap.objs.size (Obj.mapSeq (·.push Value.none))).update s.heap.objs.size (Obj.mapSeq (·.pop)) = H2 at hS₄ K2
  have hf : ∀ b ∈ [z, TO, i1, i2, s.heap.objs.size], b < s.heap.objs.size + 1 := fun b hb => by
    simp only [List.mem_cons, List.not_mem_nil, or_false] at hb
    rcases hb with e | e | e | e | e <;> rw [e]
    · exact Nat.lt_succ_of_lt lz
    · exact Nat.lt_succ_of_lt lTO
    · exact Nat.lt_succ_of_lt li1
    · exact Nat.lt_succ_of_lt li2
    · exact Nat.lt_succ_self _
  have s1 : s.heap.objs.size ∉ fp1 := fun m => Nat.lt_irrefl _ (hf1 _ m)
  have s2 : s.heap.objs.size ∉ fp2 := fun m => Nat.lt_irrefl _ (hf2 _ m)
  refine wpAny_pure ⟨plainId_quiet F.plain_extend_loop _, z_loop (s := s) (A := A.in1) (S := s.heap.objs.size) (lo := s.heap.objs.size + 1) (h₁ := s.heap) D D1 D2 (Nat.ne_of_lt lz) (Nat.ne_of_lt lTI) (Nat.ne_of_lt lTO) s1 s2 (Nat.ne_of_lt li1) (Nat.ne_of_lt li2) hf n hn1 hn2 hend hn .none
    (fun h' tk acc c as hk hS' hl hG hacc => ?_) n 0 H2 _ _ #[] [] (by omega) (Nat.zero_le _) ?_ (fun b o hb e => K2 b o (fun q => hb (by simp [q])) e) hS₄ rfl rfl ⟨List.Pairwise.nil, (fun _ ha => nomatch ha), (fun j a hj => by simp at hj)⟩ (Nat.succ_le_of_lt (Heap.lt_size hS₄))⟩
  · exact ⟨rfl, hQ h' tk acc c as (fun b o hb e => hk b o (fun m => by
      simp only [List.mem_cons, List.not_mem_nil, or_false] at m hb
      have := Heap.lt_size e
      rcases m with m | m | m | m | m
      · exact hb (by simp [m])
      · exact hb (by simp [m])
      · exact hb (by simp [m])
      · exact hb (by simp [m])
      · exact Nat.ne_of_lt this m) e) hS' hl hG hacc⟩
  · obtain ⟨a, b, hTO⟩ := hTO
    exact ⟨K2 _ _ (Nat.ne_of_lt lTI) hTI, D1.frame _ _ _ st1 fun b hb o e => K2 b o (Nat.ne_of_lt (hf1 b hb)) e, D2.frame _ _ _ st2 fun b hb o e => K2 b o (Nat.ne_of_lt (hf2 b hb)) e, .inl ⟨K2 _ _ (Nat.ne_of_lt lz) hz, a, b, K2 _ _ (Nat.ne_of_lt lTO) hTO⟩⟩
end
end CL

/-! CL, part z: list(zip(a, b)): what of it the run says -/
namespace CL
open PySem PySem.Spec PyProof.Rows L2
theorem lay_inv {X : Cx} {pins : List (Addr × Obj)} {σ : L2.St} {H H' : Hp} {s : Shared} {h' : Heap} {t' : Nat} (I : Inv X pins σ H s) (k : ∀ b u, s.heap.get? b = some u → h'.get? b = some u) (old : ∀ b o, H b = some o → H' b = some o)
    (new : ∀ b o, H' b = some o → H b = some o ∨ (s.heap.objs.size ≤ b ∧ ObjOk X.prog X.w H' h' b o)) : Inv X pins σ H' { s with heap := h', toks := t' } := by
  refine I.un ⟨fun b o e _ _ _ => k b o e, fun b o e _ _ _ => ⟨o.slots, k b o e⟩, fun b o e hn _ => ?_, fun b o e _ => ⟨o, k b o e⟩, fun b xs e => old b _ e, fun b o u e => old b _ e, fun b ps e => ⟨#[], by simpa using old b _ e⟩⟩ fun b o e => ?_
  · cases q : H' b with
    | none => rfl
    | some u =>
      rcases new b u q with z | ⟨z, _⟩
      · rw [hn] at z; cases z
      · exact absurd (Heap.lt_size e) (Nat.not_lt.mpr z)
  · rcases new b o e with z | ⟨_, z⟩
    · exact (I.hok b o z).stay (fun c u _ q => k c u q) (fun c q => old c _ q) fun c xs q => old c _ q
    · exact z
/-- tuples of two, laid -/
def layT (H : Hp) : List Addr → List (V × V) → Hp
  | a :: as, p :: ps => upd (layT H as ps) a (.tup [p.1, p.2])
  | _, _ => H
theorem layT_not {H : Hp} {b : Addr} : ∀ {as : List Addr} {ps : List (V × V)}, b ∉ as → layT H as ps b = H b
  | [], _, _ => rfl
  | _ :: _, [], _ => rfl
  | a :: as, p :: ps, h => by
    unfold layT
    rw [upd_ne (fun e => h (by simp [e]))]
    exact layT_not fun m => h (by simp [m])
theorem layT_at {H : Hp} : ∀ {as : List Addr} {ps : List (V × V)} {j : Nat} {a : Addr} {p : V × V}, as.Pairwise (· < ·) → as[j]? = some a → ps[j]? = some p → layT H as ps a = some (.tup [p.1, p.2])
  | [], _, _, _, _, _, e, _ => by simp at e
  | _ :: _, [], _, _, _, _, _, e => by simp at e
  | a :: as, q :: ps, 0, _, _, h, e1, e2 => by
    simp at e1 e2
    subst e1 e2
    exact upd_same
  | a :: as, q :: ps, j + 1, b, p, h, e1, e2 => by
    rw [List.pairwise_cons] at h
    have e1 : as[j]? = some b := by simpa using e1
    have ne : b ≠ a := Nat.ne_of_gt (h.1 b (List.mem_of_getElem? e1))
    unfold layT
    rw [upd_ne ne]
    exact layT_at h.2 e1 (by simpa using e2)
theorem layT_some {H : Hp} {b : Addr} {o : HO} : ∀ {as : List Addr} {ps : List (V × V)}, layT H as ps b = some o → H b = some o ∨ ∃ (j : Nat) (p : V × V), as[j]? = some b ∧ ps[j]? = some p ∧ o = .tup [p.1, p.2]
  | [], _, e => .inl e
  | _ :: _, [], e => .inl e
  | a :: as, p :: ps, e => by
    unfold layT at e
    by_cases hb : b = a
    · subst hb
      rw [upd_same] at e
      exact .inr ⟨0, p, rfl, rfl, (Option.some.inj e).symm⟩
    · rw [upd_ne hb] at e
      rcases layT_some e with h | ⟨j, q, h1, h2, h3⟩
      · exact .inl h
      · exact .inr ⟨j + 1, q, by simpa using h1, by simpa using h2, h3⟩
section
variable {X : Cx} {kt : List (List Val)} {ca io : Nat → Addr} {st : Store} {H : Hp}
theorem Rl.ext {K : PySem.W.Frag} {H' : Hp} (R : Rl K kt ca io st H) (h : ∀ a o, H a = some o → H' a = some o) : Rl K kt ca io st H' := by
  have up : Up io st.n H io st.n H' := ⟨Nat.le_refl _, fun _ _ => rfl, ⟨fun a xs e => h a _ e, fun a o u e => h a _ e⟩⟩
  refine ⟨fun i hi => ?_, R.no, R.inj⟩
  obtain ⟨o, e, r⟩ := R.ob i hi
  refine ⟨o, e, r.up up fun hb => ?_⟩
  rw [hb] at r
  obtain ⟨x, ex, _⟩ := r.mutO
  rw [ex, h _ _ ex]
theorem zipL_rv {K : PySem.W.Frag} {n : Nat} {H' : Hp} : ∀ {xs ys : List Val} {us ws : List V} {as : List Addr}, RVs K kt io n H' xs us → RVs K kt io n H' ys ws → (∀ (j : Nat) (a : Addr) (p : V × V), as[j]? = some a → (us.zip ws)[j]? = some p → H' a = some (.tup [p.1, p.2])) →
    as.length = (us.zip ws).length → RVs K kt io n H' (zipL xs ys) (as.map V.ref)
  | _, _, _, _, as, .nil, _, _, hl => by
    have : as = [] := List.eq_nil_of_length_eq_zero (by simpa using hl)
    subst this; exact .nil
  | _, _, _, _, as, .cons _ _, .nil, _, hl => by
    have : as = [] := List.eq_nil_of_length_eq_zero (by simpa using hl)
    subst this; exact .nil
  | _, _, _, _, [], .cons h1 r1, .cons h2 r2, _, hl => by simp at hl
  | _, _, _, _, a :: as, .cons h1 r1, .cons h2 r2, ht, hl => by
    unfold zipL
    rw [List.map_cons]
    exact .cons (.tup (.inl (ht 0 a _ rfl rfl)) (.cons h1 (.cons h2 .nil))) (zipL_rv r1 r2 (fun j b p e1 e2 => ht (j + 1) b p (by simpa using e1) (by simpa using e2)) (by simpa using hl))
/-- what is walked: a list or a tuple -/
theorem src_of {pins : List (Addr × Obj)} {σ : L2.St} {s : Shared} {x : Val} {xs : List Val} {wx : V} {v : Value} (R : Rl X.K kt ca io st H) (rx : RV X.K kt io st.n H x wx) (ex : itemsOf x st = some xs) (I : Inv X pins σ H s) (rv : RelV wx v) :
    ∃ (a : Addr) (ws : List V) (its : List Value) (o : Obj) (Hs : Heap → Prop) (Si : Addr → Nat → Heap → Prop), v = .ref a ∧ a < s.heap.objs.size ∧ RVs X.K kt io st.n H xs ws ∧ Vals ws its ∧ ws.length ≤ sizeLine ∧ Begins v o Hs ∧ Hs s.heap ∧
      ∀ it, a ≠ it → (∀ A : Around, A.handled = none → Draws X.prog X.w A it [it, a] its.toArray.size (fun i u => its.toArray[i]? = some u) (Si it)) ∧
        ∀ h', h'.get? it = some o → (∀ b u, s.heap.get? b = some u → h'.get? b = some u) → Si it 0 h' := by
  cases x with
  | tup ys =>
    cases ex
    obtain ⟨a, ws, rfl, sq, r⟩ := rx.itup
    obtain rfl : v = .ref a := rv
    obtain ⟨its, rv', ht, hl⟩ := I.tuple sq.sqT
    have ht' : s.heap.IsTuple a its.toArray := by
      obtain ⟨o, e, q⟩ := ht
      exact ⟨o, e, q.1, q.2⟩
    refine ⟨a, ws, its, _, _, fun it i h => h.IsTupleIter it a i ∧ h.IsTuple a its.toArray, rfl, let ⟨_, e, _⟩ := ht; Heap.lt_size e, r, rv', hl, begins_tuple a its.toArray, ht', fun it hne => ⟨fun A hh => Draws.tuple hh it a hne its.toArray, fun h' e k => ⟨⟨_, e, rfl, rfl⟩, ht'.at fun o q => k _ o q⟩⟩⟩
  | ref i =>
    have ex : st.lst i = some xs := ex
    have em : st.m i = some (.lst xs) := by
      unfold Store.lst at ex
      split at ex
      · cases ex; assumption
      · cases ex
    obtain ⟨ws, sl, r, _⟩ := R.list em
    obtain ⟨rfl, _⟩ := rx.iref
    obtain rfl : v = .ref (io i) := rv
    obtain ⟨its, rv', ht, hl⟩ := I.list sl
    have ht' : s.heap.IsList (io i) its.toArray := by
      obtain ⟨o, n, e, c, d, q⟩ := ht
      exact ⟨o, e, c, n, q⟩
    refine ⟨io i, ws, its, _, _, fun it k h => h.IsListIter it (io i) k ∧ h.IsList (io i) its.toArray, rfl, let ⟨_, _, e, _⟩ := ht; Heap.lt_size e, r, rv', hl, begins_list (io i) its.toArray, ht', fun it hne => ⟨fun A hh => Draws.list hh it (io i) hne its.toArray, fun h' e k => ⟨⟨_, e, rfl, rfl⟩, ht'.at fun o q => k _ o q⟩⟩⟩
  | _ => cases ex
/-- list(zip(x, y)) -/
def zSem (X : Cx) : V → V → Hp → VK → Prop := fun x y H Q => ∀ (pins : List (Addr × Obj)) (s : Shared) (σ : L2.St) (v u : Value), Inv X pins σ H s → RelV x v → RelV y u →
  wpAny (model X.prog X.w) X.A (call (.type "zip") [v, u]) (fun z s1 => wpAny (model X.prog X.w) X.A (call (.type "list") [z]) (EP X pins σ Q) X.xe s1) X.xe s
theorem vals_zip {us ws : List V} {is js : List Value} (h1 : Vals us is) (h2 : Vals ws js) {j : Nat} {x1 x2 : Value} {p : V × V} (e1 : is.toArray[j]? = some x1) (e2 : js.toArray[j]? = some x2) (e : (us.zip ws)[j]? = some p) : RelV p.1 x1 ∧ RelV p.2 x2 := by
  obtain ⟨q1, q2⟩ := p
  rw [List.getElem?_zip_eq_some] at e
  obtain ⟨a1, a2, a3⟩ := h1.get e.1
  obtain ⟨b1, b2, b3⟩ := h2.get e.2
  have z1 : is[j]? = some x1 := by simpa using e1
  have z2 : js[j]? = some x2 := by simpa using e2
  rw [z1] at a2; rw [z2] at b2
  cases a2; cases b2
  exact ⟨a3, b3⟩
theorem zip_ok (hc : X.calm = true) {x y : Val} {xs ys : List Val} {wx wy : V} {Q : VK} (R : Rl X.K kt ca io st H) (rx : RV X.K kt io st.n H x wx) (ry : RV X.K kt io st.n H y wy) (ex : itemsOf x st = some xs) (ey : itemsOf y st = some ys)
    (p : Post X.K kt ca io st H (.ref st.n) (st.new (.lst (zipL xs ys))) Q) : zSem X wx wy H Q := by
  intro pins s σ v u I rv ru
  obtain ⟨a, us, is, o1, Hs1, Si1, rfl, la, r1, v1, l1, B1, h1, k1⟩ := src_of R rx ex I rv
  obtain ⟨b, ws, js, o2, Hs2, Si2, rfl, lb, r2, v2, l2, B2, h2, k2⟩ := src_of R ry ey I ru
  refine zip_begins2 B1 B2 h1 h2 fun h' hz hTI hTO g1 g2 hsz hk => ?_
  have hd : X.A.handled = none := I.ok.hd hc
  have la : @LT.lt Nat _ a s.heap.objs.size := la
  have lb : @LT.lt Nat _ b s.heap.objs.size := lb
  have na : a ≠ s.heap.objs.size := Nat.ne_of_lt la
  have nb : b ≠ s.heap.objs.size + 1 := Nat.ne_of_lt (Nat.lt_succ_of_lt lb)
  have D : ZipSep2 (s.heap.objs.size + 4) (s.heap.objs.size + 2) (s.heap.objs.size + 3) s.heap.objs.size (s.heap.objs.size + 1) [s.heap.objs.size, a] [s.heap.objs.size + 1, b] := by
    have ne2 : ∀ {c d e : Nat}, c ≠ d → c ≠ e → c ∉ [d, e] := fun h1 h2 m => by
      simp only [List.mem_cons, List.not_mem_nil, or_false] at m
      rcases m with m | m
      · exact h1 m
      · exact h2 m
    exact ⟨(by show @Ne Nat _ _; omega), (by show @Ne Nat _ _; omega), (by show @Ne Nat _ _; omega), (by show @Ne Nat _ _; omega), by simp, ne2 (by omega) (by show @Ne Nat _ _; omega), ne2 (by omega) (by show @Ne Nat _ _; omega), (by show @Ne Nat _ _; omega), by simp,
      ne2 (by omega) (by show @Ne Nat _ _; omega), ne2 (by omega) (by show @Ne Nat _ _; omega), ne2 (by omega) (by show @Ne Nat _ _; omega), ne2 (by omega) (by show @Ne Nat _ _; omega)⟩
  refine call_list_zip (s := { s with heap := h' }) (n := (us.zip ws).length) D ((k1 _ na).1 _ hd) ((k2 _ nb).1 _ hd) hz hTI ⟨_, _, hTO⟩ ((k1 _ na).2 h' g1 hk) ((k2 _ nb).2 h' g2 hk) ?_ ?_ ?_ ?_ ?_ ?_ fun g tk acc c as hkg hl hal hP hacc => ?_
  · intro c hc; simp only [List.mem_cons, List.not_mem_nil, or_false] at hc; show @LT.lt Nat _ c h'.objs.size; rw [hsz]; rcases hc with e | e <;> rw [e] <;> omega
  · intro c hc; simp only [List.mem_cons, List.not_mem_nil, or_false] at hc; show @LT.lt Nat _ c h'.objs.size; rw [hsz]; rcases hc with e | e <;> rw [e] <;> omega
  · have := v1.length; rw [List.length_zip, List.size_toArray]; omega
  · have := v2.length; rw [List.length_zip, List.size_toArray]; omega
  · have := v1.length; have := v2.length; rw [List.length_zip, List.size_toArray, List.size_toArray]; omega
  · rw [List.length_zip]; omega
  · dsimp only at hkg hl hP ⊢
    have keep : ∀ c o, s.heap.get? c = some o → g.get? c = some o := fun c o e => hkg c o (by
      have q : @LT.lt Nat _ c s.heap.objs.size := Heap.lt_size e
      simp only [List.mem_cons, List.not_mem_nil, or_false]
      intro m
      rcases m with m | m | m | m <;> (have m : @Eq Nat _ _ := m; omega)) (hk c o e)
    have new : ∀ c, c ∈ as → s.heap.objs.size + 5 < c := fun c hc => by
      have q : @LE.le Nat _ (h'.objs.size + 1) c := hP.above c hc
      show @LT.lt Nat _ _ _
      omega
    have fresh : ∀ c, c ∈ as → H c = none := fun c hc => I.hok.fresh (by have q : @LT.lt Nat _ _ c := new c hc; show @LE.le Nat _ _ _; omega)
    have nl : h'.objs.size ∉ as := fun m => by have q : @LT.lt Nat _ _ _ := new _ m; omega
    have fl : layT H as (us.zip ws) h'.objs.size = none := by rw [layT_not nl]; exact I.hok.fresh (by omega)
    have old : ∀ c o, H c = some o → layT H as (us.zip ws) c = some o := fun c o e => by
      rw [layT_not (fun m => by rw [fresh c m] at e; cases e)]; exact e
    have up : Up io st.n H io st.n (layT H as (us.zip ws)) := ⟨Nat.le_refl _, fun _ _ => rfl, ⟨fun c zs e => old c _ e, fun c o q e => old c _ e⟩⟩
    refine ⟨.ref h'.objs.size, upd (layT H as (us.zip ws)) h'.objs.size (.lst (as.map V.ref)), ?_, rfl, ?_⟩
    · refine lay_inv I keep (fun c o e => ?_) fun c o e => ?_
      · rw [upd_ne (ne_of_none (old c o e) fl)]; exact old c o e
      · by_cases hcl : c = h'.objs.size
        · subst hcl
          rw [upd_same] at e; cases e
          refine .inr ⟨by omega, ?_⟩
          refine ⟨by rw [List.length_map, hal, List.length_zip]; omega, acc.toList, c, ?_, ?_⟩
          · rw [hacc]
            clear hP hacc hal nl fl old up new fresh
            induction as with
            | nil => exact .nil
            | cons q t ih => exact .cons rfl ih
          · rw [Array.toArray_toList]; exact hl
        · rw [upd_ne hcl] at e
          rcases layT_some e with e | ⟨j, q, e1, e2, rfl⟩
          · exact .inl e
          · have hm := List.mem_of_getElem? e1
            refine .inr ⟨by have q : @LT.lt Nat _ _ c := new c hm; show @LE.le Nat _ _ _; omega, ?_⟩
            obtain ⟨x1, x2, p1, p2, ht⟩ := hP.pairs j c e1
            obtain ⟨a1, a2⟩ := vals_zip v1 v2 p1 p2 e2
            exact ⟨by rw [sizeLine_eq]; show 2 ≤ _; decide, [x1, x2], .cons a1 (.cons a2 .nil), _, ht, rfl, _, rfl⟩
    · have p2 : Post X.K kt ca io st (layT H as (us.zip ws)) (.ref st.n) (st.new (.lst (zipL xs ys))) Q := fun io' H' w u' R' r' => p io' H' w (up.trans u') R' r'
      exact p2.list (R.ext old)
        (zipL_rv (r1.up up) (r2.up up) (fun j c q e1 e2 => layT_at hP.rise e1 e2) hal) _ fl
theorem pe_lzip {a b : Expr} {ta tb : TE} {p p2 pos pos2 : Pos} (hg : Gl X "list") (hm : X.mg "list" = none) (hg2 : Gl X "zip") (hm2 : X.mg "zip" = none) (ha : PE X a ta) (hb : PE X b tb)
    (n0 : starEach [.Call (.Name "zip" p2) [a, b] [] pos2] X.env = (false, eval (.Call (.Name "zip" p2) [a, b] [] pos2) X.env) :: starEach [] X.env)
    (na : starEach [a, b] X.env = (false, eval a X.env) :: starEach [b] X.env) (nb : starEach [b] X.env = (false, eval b X.env) :: starEach [] X.env) (hp : (backTo pos2 (starEach [b] X.env)).any (·.1) = false) :
    PE X (.Call (.Name "list" p) [.Call (.Name "zip" p2) [a, b] [] pos2] [] pos) (fun σ H Q => ta σ H fun x H1 => tb σ H1 fun y H2 => zSem X x y H2 Q) := by
  refine ⟨fun pins s σ H Q I h => ?_⟩
  refine PyProof.Rows.Call_ (ld_blt I hg hm boot_list (PyProof.Rows.callWith_type1 (args_cons (thn (Q := fun z s1 => wpAny (model X.prog X.w) X.A (call (.type "list") [z]) (EP X pins σ Q) X.xe s1) ?_ fun x s1 hx => args_nil hx) n0) n0))
  refine PyProof.Rows.Call_ (ld_blt I hg2 hm2 boot_zip (PyProof.Rows.callWith_type1 (args_cons (thn (ha.run pins s σ H _ I h) fun v s1 ⟨x, H1, I1, rx, q1⟩ => one_arg hb I1 q1 (fun u s2 y H2 I2 r2 q => ?_) nb) na) na hp))
  exact q pins s2 σ v u I2 rx r2
end
end CL

/-! CL, part x: for a, b in zip(x, y) of a list and a tuple in any mix -/
namespace CL
open PySem PySem.Spec PyProof.Rows L2
/-- a list (true) or a tuple -/
def SqK (k : Bool) (K : PySem.W.Frag) (H : Hp) (a : Addr) (xs : List V) : Prop := match k with
  | true => SqL K H a xs
  | false => SqT K H a xs
def ItK (k : Bool) (h : Heap) (it a : Addr) (i : Nat) : Prop := match k with
  | true => h.IsListIter it a i
  | false => h.IsTupleIter it a i
def ArK (k : Bool) (h : Heap) (a : Addr) (xs : Array Value) : Prop := match k with
  | true => h.IsList a xs
  | false => h.IsTuple a xs
theorem ItK.at {k : Bool} {h h' : Heap} {it a : Addr} {i : Nat} (x : ItK k h it a i) (g : ∀ o, h.get? it = some o → h'.get? it = some o) : ItK k h' it a i := by
  cases k
  · exact Heap.IsTupleIter.at x g
  · exact Heap.IsListIter.at x g
theorem ItK.obj {k : Bool} {h : Heap} {it a : Addr} {i : Nat} (x : ItK k h it a i) : ∃ o, h.get? it = some o ∧ ∀ v, o.data ≠ .cell v := by
  cases k <;> obtain ⟨o1, e1, _, d1⟩ := x <;> exact ⟨o1, e1, fun v q => by rw [d1] at q; cases q⟩
theorem inv_seqK {X : Cx} {pins : List (Addr × Obj)} {σ : L2.St} {H : Hp} {s : Shared} {k : Bool} {a : Addr} {xs : List V} (I : Inv X pins σ H s) (h : SqK k X.K H a xs) : ∃ its : List Value, Vals xs its ∧ ArK k s.heap a its.toArray ∧ a < s.heap.objs.size := by
  cases k
  · obtain ⟨its, rv, ht, hl⟩ := I.tuple h
    obtain ⟨o, e, q⟩ := ht
    exact ⟨its, rv, ⟨o, e, q.1, q.2⟩, Heap.lt_size e⟩
  · obtain ⟨its, rv, ht, hl⟩ := I.list h
    obtain ⟨o, n, e, c, d, q⟩ := ht
    exact ⟨its, rv, ⟨o, e, c, n, q⟩, Heap.lt_size e⟩
theorem inv_injK {X : Cx} {pins : List (Addr × Obj)} {σ : L2.St} {H : Hp} {s : Shared} {k : Bool} {a : Addr} {xs ys : List V} (I : Inv X pins σ H s) (h : SqK k X.K H a xs) (g : SqK k X.K H a ys) : xs = ys := by
  cases k
  · exact I.tuple_inj h g
  · exact I.list_inj h g
theorem drawsK {prog : Program} {w : World} {A : Around} {k : Bool} (hh : A.handled = none) (it a : Addr) (hne : a ≠ it) (its : Array Value) : Draws prog w A it [it, a] its.size (fun i u => its[i]? = some u) (fun i h => ItK k h it a i ∧ ArK k h a its) := by
  cases k
  · exact Draws.tuple hh it a hne its
  · exact Draws.list hh it a hne its
theorem beginsK {k : Bool} {X : Cx} {pins : List (Addr × Obj)} {σ : L2.St} {H : Hp} {s : Shared} {a : Addr} {xs : List V} (I : Inv X pins σ H s) (h : SqK k X.K H a xs) : ∃ (o : Obj) (Hs : Heap → Prop), Begins (.ref a) o Hs ∧ Hs s.heap ∧ ∀ it h', h'.get? it = some o → ItK k h' it a 0 := by
  obtain ⟨its, _, q, _⟩ := inv_seqK I h
  cases k
  · exact ⟨_, _, begins_tuple a its.toArray, q, fun it h' e => ⟨_, e, rfl, rfl⟩⟩
  · exact ⟨_, _, begins_list a its.toArray, q, fun it h' e => ⟨_, e, rfl, rfl⟩⟩
/-- the two as they stand at each turn, the items in new pairs -/
def ItM (k l : Bool) (K : PySem.W.Frag) (a b : Addr) : It :=
  ⟨fun i H => ∃ (xs ys : List V) (x y : V), SqK k K H a xs ∧ SqK l K H b ys ∧ xs[i]? = some x ∧ ys[i]? = some y,
    fun i H v H' => ∃ T x y, v = .ref T ∧ H T = none ∧ H' = upd H T (.tup [x, y]) ∧ (∀ xs, SqK k K H a xs → xs[i]? = some x) ∧ ∀ ys, SqK l K H b ys → ys[i]? = some y,
    fun i H => ∃ xs ys : List V, SqK k K H a xs ∧ SqK l K H b ys ∧ i = min xs.length ys.length⟩
theorem apart2 {z TI TO i1 i2 a b : Addr} (D : ZipApart z TI TO i1 i2 a b) : ZipSep2 z TI TO i1 i2 [i1, a] [i2, b] := by
  have ne2 : ∀ {c d e : Addr}, c ≠ d → c ≠ e → c ∉ [d, e] := fun h1 h2 m => by
    simp only [List.mem_cons, List.not_mem_nil, or_false] at m
    rcases m with m | m
    · exact h1 m
    · exact h2 m
  exact ⟨D.TIz, D.TOz, D.TITO, D.TIi1, by simp, ne2 D.i1z.symm D.l1z.symm, ne2 D.TOi1 D.l1TO.symm, D.TIi2, by simp, ne2 D.i2z.symm D.l2z.symm, ne2 D.TOi2 D.l2TO.symm, ne2 D.i12 D.l2i1.symm, ne2 D.i12.symm D.l1i2.symm⟩
theorem turn_zipM {P : Program} {w : World} {K : PySem.W.Frag} {k l : Bool} {elts : List Expr} {kk : Nat} {tpos : Pos} {a b z TI TO i1 i2 : Addr} (D : ZipApart z TI TO i1 i2 a b) :
    Turn P w K (.Tuple elts kk tpos) (ItM k l K a b) [z, TI, TO, i1, i2] z (fun i h => IsZip h z TI TO .none ∧ IsPair h TI (.ref i1) (.ref i2) ∧ (∃ x y, IsPair h TO x y) ∧ ItK k h i1 a i ∧ ItK l h i2 b i) where
  mem := by simp
  obj := fun i h st c hc => by
    obtain ⟨hz, hTI, ⟨x, y, hTO⟩, h1, h2⟩ := st
    have e' : c = z ∨ c = TI ∨ c = TO ∨ c = i1 ∨ c = i2 := by simpa using hc
    rcases e' with q | q | q | q | q
    · rw [q]; exact ⟨_, hz, fun v q => nomatch q⟩
    · rw [q]; exact ⟨_, hTI, fun v q => nomatch q⟩
    · rw [q]; exact ⟨_, hTO, fun v q => nomatch q⟩
    · rw [q]; exact h1.obj
    · rw [q]; exact h2.obj
  keep := fun i h h' st k => by
    obtain ⟨hz, hTI, ⟨x, y, hTO⟩, h1, h2⟩ := st
    exact ⟨k z (by simp) _ hz, k TI (by simp) _ hTI, ⟨x, y, k TO (by simp) _ hTO⟩, h1.at fun o q => k i1 (by simp) o q, h2.at fun o q => k i2 (by simp) o q⟩
  item := by
    intro X hP hw hK hc i pins s σ H E I hf st hg
    subst hP hw hK
    obtain ⟨hz, hTI, ⟨x0, y0, hTO⟩, h1, h2⟩ := st
    obtain ⟨xs, ys, x, y, hqx, hqy, hx, hy⟩ := hg
    obtain ⟨its, rv, p, _⟩ := inv_seqK I hqx
    obtain ⟨its2, rv2, p2, _⟩ := inv_seqK I hqy
    obtain ⟨u, hu, ru⟩ := rv.get hx
    obtain ⟨u2, hu2, ru2⟩ := rv2.get hy
    have hzl : z < s.heap.objs.size := Heap.lt_size hz
    have hd : X.A.handled = none := I.ok.hd hc
    have l1 : i < its.toArray.size := by
      have := (List.getElem?_eq_some_iff.mp hu).1
      simpa using this
    have l2 : i < its2.toArray.size := by
      have := (List.getElem?_eq_some_iff.mp hu2).1
      simpa using this
    have hTy : s.TypeIs (.ref z) "zip" := ⟨_, hz, rfl⟩
    unfold pyNext
    refine wpAny_bind (wpAny_attempt (wpAny_callSpecial?_slot (name := Str.ofString "__next__") hTy F.slot_zip_next (wpAny_call_entry F.slot_zip_next hTy F.entry_zip_next
      (zipD2_next_item (apart2 D) (drawsK (k := k) (A := X.A.in1) hd i1 a D.l1i1 its.toArray) (drawsK (k := l) (A := X.A.in1) hd i2 b D.l2i2 its2.toArray) hz hTI hTO ⟨h1, p⟩ ⟨h2, p2⟩ l1 l2 fun x1 x2 h' tk q1 q2 z' TO' h1' h2' hT hsz hk => wpAny_pure ?_) (F.args_zip_next_1 _))))
    have q1 : its[i]? = some x1 := by simpa using q1
    have q2 : its2[i]? = some x2 := by simpa using q2
    rw [hu] at q1; rw [hu2] at q2
    cases q1; cases q2
    refine ⟨_, rfl, wpAny_letOwnedTupleGo_zip (s := { s with heap := h', toks := tk }) z' fun h'' z'' sb => ?_⟩
    have hT2 : h''.get? s.heap.objs.size = some { cls := .type "tuple", data := .seq #[u, u2] } := (sb.2 _ (Nat.ne_of_gt hzl)).trans hT
    have new : ObjOk X.prog X.w (upd H s.heap.objs.size (.tup [x, y])) h'' s.heap.objs.size (.tup [x, y]) :=
      ⟨by show 2 ≤ sizeLine; decide, [u, u2], .cons ru (.cons ru2 .nil), ⟨_, hT2, rfl, _, rfl⟩⟩
    have I1 : Inv X pins σ (upd H s.heap.objs.size (.tup [x, y])) { s with heap := h'', toks := tk } :=
      I.turnedNew (t' := tk) (ch := [z, TI, TO, i1, i2]) (fun c o hb q => (sb.2 c (fun q' => hb (by simp [q']))).trans (hk c o (fun q' => hb (by simp [q'])) (fun q' => hb (by simp [q'])) (fun q' => hb (by simp [q'])) (fun q' => hb (by simp [q'])) q)) hf (Nat.le_refl _) new
    refine ⟨.ref s.heap.objs.size, _, I1, rfl, ⟨_, x, y, rfl, I.hok.fresh (Nat.le_refl _), rfl, fun l hl => by rw [inv_injK I hl hqx]; exact hx, fun l hl => by rw [inv_injK I hl hqy]; exact hy⟩, ⟨z'', ?_, ⟨u, u2, ?_⟩, ?_, ?_⟩, fun c hcm => ?_⟩
    · exact (sb.2 _ D.TIz).trans (hk _ _ D.TIz D.TITO D.TIi1 D.TIi2 hTI)
    · exact (sb.2 _ D.TOz).trans TO'
    · exact h1'.1.at fun o q => (sb.2 _ D.i1z).trans q
    · exact h2'.1.at fun o q => (sb.2 _ D.i2z).trans q
    · have hlt : c < s.heap.objs.size := by
        have e' : c = z ∨ c = TI ∨ c = TO ∨ c = i1 ∨ c = i2 := by simpa using hcm
        rcases e' with q | q | q | q | q
        · rw [q]; exact hzl
        · rw [q]; exact Heap.lt_size hTI
        · rw [q]; exact Heap.lt_size hTO
        · rw [q]; obtain ⟨_, e1, _⟩ := h1.obj; exact Heap.lt_size e1
        · rw [q]; obtain ⟨_, e2, _⟩ := h2.obj; exact Heap.lt_size e2
      rw [upd_ne (Nat.ne_of_lt hlt)]
      exact (hf c hcm).1
  done := by
    intro X hP hw hK hc i pins s σ H E I hf st hg
    subst hP hw hK
    obtain ⟨hz, hTI, ⟨x0, y0, hTO⟩, h1, h2⟩ := st
    obtain ⟨xs, ys, hqx, hqy, hend⟩ := hg
    obtain ⟨its, rv, p, _⟩ := inv_seqK I hqx
    obtain ⟨its2, rv2, p2, _⟩ := inv_seqK I hqy
    have l1 := rv.length
    have l2 := rv2.length
    have hd : X.A.handled = none := I.ok.hd hc
    have hTy : s.TypeIs (.ref z) "zip" := ⟨_, hz, rfl⟩
    have n1 : its.toArray.size = xs.length := by rw [List.size_toArray]; omega
    have n2 : its2.toArray.size = ys.length := by rw [List.size_toArray]; omega
    unfold pyNext
    refine wpAny_bind (wpAny_attempt (wpAny_callSpecial?_slot (name := Str.ofString "__next__") hTy F.slot_zip_next (wpAny_call_entry F.slot_zip_next hTy F.entry_zip_next
      (zipD2_next_end (apart2 D) (drawsK (k := k) (A := X.A.in1) hd i1 a D.l1i1 its.toArray) (drawsK (k := l) (A := X.A.in1) hd i2 b D.l2i2 its2.toArray) hz hTI hTO ⟨h1, p⟩ ⟨h2, p2⟩ (by omega) (by omega) (by omega) fun h' tk e hk he => ?_) (F.args_zip_next_1 _))))
    obtain ⟨o, ho, hcl⟩ := he
    refine wpAny_bind (wpAny_isInstance (T := "StopIteration") (b := true) ⟨o, ho, hcl⟩ isSubtype_stop ?_)
    exact wpAny_pure ⟨rfl, I.turnedL (t' := tk) (ch := [z, TI, TO, i1, i2]) (fun c o hb q =>
      hk c o (fun q' => hb (by simp [q'])) (fun q' => hb (by simp [q'])) (fun q' => hb (by simp [q'])) (fun q' => hb (by simp [q'])) q) hf⟩
  self := fun A i s Q E st h => wpAny_pyIter_zip st.1 h
def iZipM (K : PySem.W.Frag) (ta : TA) : TI := fun σ H R => ta σ H fun vs H1 => ∃ k l a b xs ys, vs = [.ref a, .ref b] ∧ SqK k K H1 a xs ∧ SqK l K H1 b ys ∧ R (ItM k l K a b) H1
theorem pi_zipM {X : Cx} {e e2 : Expr} {ta : TA} {p pos tpos : Pos} {elts : List Expr} {kk : Nat} (hg : Gl X "zip") (hm : X.mg "zip" = none) (ha : PA X [e, e2] ta)
    (hs : starEach [e, e2] X.env = (false, eval e X.env) :: starEach [e2] X.env := by rfl) (hpl : (backTo pos (starEach [e2] X.env)).any (·.1) = false := by rfl) :
    PI X (.Tuple elts kk tpos) (.Call (.Name "zip" p) [e, e2] [] pos) (iZipM X.K ta) := by
  refine ⟨fun pins s σ H R I h => ?_⟩
  refine Call_ (ld_blt I hg hm PyProof.Rows.boot_zip (PyProof.Rows.callWith_type1 (thn (ha.run pos pins s σ H _ I h) fun us s1 ⟨vs, H1, I1, r1, q1⟩ => ?_) hs hpl))
  obtain ⟨k, l, a, b, xs, ys, ex, hqx, hqy, q⟩ := q1
  subst ex
  cases r1 with
  | cons r rr =>
    cases rr with
    | cons r' rr =>
      cases rr
      cases r
      cases r'
      have fresh5 : ∀ c, c ∈ [s1.heap.objs.size + 4, s1.heap.objs.size + 2, s1.heap.objs.size + 3, s1.heap.objs.size, s1.heap.objs.size + 1] → FpOk X pins H1 c := fun c hcm => by
        have e' : c = s1.heap.objs.size + 4 ∨ c = s1.heap.objs.size + 2 ∨ c = s1.heap.objs.size + 3 ∨ c = s1.heap.objs.size ∨ c = s1.heap.objs.size + 1 := by simpa using hcm
        have hle : s1.heap.objs.size ≤ c := by
          rcases e' with z | z | z | z | z
          · rw [z]; exact Nat.le_add_right _ _
          · rw [z]; exact Nat.le_add_right _ _
          · rw [z]; exact Nat.le_add_right _ _
          · rw [z]; exact Nat.le_refl _
          · rw [z]; exact Nat.le_add_right _ _
        exact I1.fpOk hle (I1.hok.fresh hle)
      obtain ⟨its, rv, _, la⟩ := inv_seqK I1 hqx
      obtain ⟨its2, rv2, _, lb⟩ := inv_seqK I1 hqy
      obtain ⟨o1, Hs1, B1, g1, k1⟩ := beginsK I1 hqx
      obtain ⟨o2, Hs2, B2, g2, k2⟩ := beginsK I1 hqy
      refine zip_begins2 B1 B2 g1 g2 fun h' hz hTI hTO h1 h2 hsz hk => wpAny_pyIter_zip hz ?_
      have I2 : Inv X pins σ H1 { s1 with heap := h' } := I1.kept (t' := s1.toks) hk
      exact ⟨s1.heap.objs.size + 4, [s1.heap.objs.size + 4, s1.heap.objs.size + 2, s1.heap.objs.size + 3, s1.heap.objs.size, s1.heap.objs.size + 1], _, _, H1, rfl, I2, turn_zipM (PySem.W.ktu_apart s1.heap.objs.size a b la lb), ⟨hz, hTI, ⟨_, _, hTO⟩, k1 _ _ h1, k2 _ _ h2⟩, fresh5, q⟩
end CL

/-! CL, part x2: for i, a in enumerate(x) of a list or a tuple -/
namespace CL
open PySem PySem.Spec PyProof.Rows L2
set_option maxHeartbeats 1000000 in
theorem meets_enumerate_new1 {v : Value} {o : Obj} {H : Heap → Prop} (B : Begins v o H) :
    Meets (Builtin.«enumerate.__new__» ⟨[.type "enumerate", v], []⟩) (fun _ R s => H s.heap ∧
      R (.ok (.ret (.ref (s.heap.push o).objs.size))) { s with heap := (s.heap.push o).push { cls := .type "enumerate", data := .fields #[.none, .bool false, .ref s.heap.objs.size, rawInt 0, .none, .none] } }) :=
  .of_wp fun prog w A R s h => by
    obtain ⟨hp, g, d, tk, os⟩ := s; obtain ⟨h1, h⟩ := h
    have hsub := sub_enumerate
    have q1 : ∀ {A' : Around} {E : Value → Shared → Prop} {Q : Value → Shared → Prop}, Q (.ref hp.objs.size) ⟨hp.push o, g, d, tk, os⟩ → wpAny (model prog w) A' (pyIter v) Q E ⟨hp, g, d, tk, os⟩ :=
      fun q => B.iter prog w _ _ ⟨hp, g, d, tk, os⟩ _ h1 q
    wp_walk using q1
    refine wpAny_stack_any fun st => wpAny_pure ?_
    split
    · rename_i c _ _ _ _ _
      cases (c == Value.type "enumerate")
      · wp_walk using q1
        exact ⟨_, rfl, h⟩
      · wp_walk using q1
        exact ⟨_, rfl, h⟩
    · wp_walk using q1
      exact ⟨_, rfl, h⟩
theorem enum_begins1 {prog : Program} {w : World} {A : Around} {E : Value → Shared → Prop} {s : Shared} {v : Value} {o : Obj} {H : Heap → Prop} {Q : Value → Shared → Prop} (B : Begins v o H) (h1 : H s.heap)
    (h : ∀ h', IsEnum h' (s.heap.objs.size + 1) s.heap.objs.size 0 .none → h'.get? s.heap.objs.size = some o → h'.objs.size = s.heap.objs.size + 2 →
      (∀ b o, s.heap.get? b = some o → h'.get? b = some o) → Q (.ref (s.heap.objs.size + 1)) { s with heap := h' }) :
    wpAny (model prog w) A (call (.type "enumerate") [v]) Q E s := by
  refine callType_new F.called_enumerate (by decide) (F.typeCall_enumerate_1 _) (F.newCall_enumerate_1 _) (fun obj => F.args_object_init_2 obj _) F.entry_enumerate_new
    (meets_enumerate_new1 B) ⟨h1, ?_⟩
  have hz : (s.heap.push o).objs.size = s.heap.objs.size + 1 := Heap.size_push ..
  show _ ∧ _
  rw [hz]
  have he : IsEnum ((s.heap.push o).push { cls := .type "enumerate", data := .fields #[.none, .bool false, .ref s.heap.objs.size, rawInt 0, .none, .none] }) (s.heap.objs.size + 1) s.heap.objs.size 0 .none := by
    have := Heap.get?_push_size (s.heap.push o) (o := { cls := .type "enumerate", data := .fields #[.none, .bool false, .ref s.heap.objs.size, rawInt 0, .none, .none] }) rfl
    rw [hz] at this; exact this
  refine ⟨⟨_, he, rfl⟩, h _ he (Heap.get?_push_of_some _ (Heap.get?_push_size _ B.free)) (by rw [Heap.size_push, hz]) fun b o x => Heap.get?_push_of_some _ (Heap.get?_push_of_some _ x)⟩
def IteM (k : Bool) (K : PySem.W.Frag) (a : Addr) : It :=
  ⟨fun i H => ∃ (xs : List V) (x : V), SqK k K H a xs ∧ xs[i]? = some x, fun i H v H' => ∃ T x, v = .ref T ∧ H T = none ∧ H' = upd H T (.tup [.int (i : Nat), x]) ∧ ∀ xs, SqK k K H a xs → xs[i]? = some x, fun i H => ∃ xs : List V, SqK k K H a xs ∧ xs.length = i⟩
theorem turn_enumM {P : Program} {w : World} {K : PySem.W.Frag} {k : Bool} {elts : List Expr} {kk : Nat} {tpos : Pos} (a e it : Addr) (hai : a ≠ it) (hea : e ≠ a) :
    Turn P w K (.Tuple elts kk tpos) (IteM k K a) [e, it] e (fun i h => (∃ old, IsEnum h e it ((i : Nat) : Int) old) ∧ ItK k h it a i ∧ e ≠ it) where
  mem := by simp
  obj := fun i h st b hb => by
    obtain ⟨⟨old, he⟩, hit, _⟩ := st
    have e' : b = e ∨ b = it := by simpa using hb
    rcases e' with z | z
    · rw [z]; exact ⟨_, he, fun v q => nomatch q⟩
    · rw [z]; exact hit.obj
  keep := fun i h h' st k => let ⟨⟨old, he⟩, hi, hne⟩ := st; ⟨⟨old, k e (by simp) _ he⟩, hi.at fun o q => k it (by simp) o q, hne⟩
  item := by
    intro X hP hw hK hc i pins s σ H E I hf st hg
    subst hP hw hK
    obtain ⟨⟨old, he⟩, hit, hne⟩ := st
    obtain ⟨xs, x, hq, hx⟩ := hg
    obtain ⟨its, rv, p, _⟩ := inv_seqK I hq
    obtain ⟨u, hu, ru⟩ := rv.get hx
    have hd : X.A.handled = none := I.ok.hd hc
    have hel : e < s.heap.objs.size := Heap.lt_size he
    have hil : it < s.heap.objs.size := by obtain ⟨_, q, _⟩ := hit.obj; exact Heap.lt_size q
    have l1 : i < its.toArray.size := by
      have := (List.getElem?_eq_some_iff.mp hu).1
      simpa using this
    refine wpAny_pyNext_enum_itemD (drawsK (k := k) (A := X.A.in1) hd it a hai its.toArray) he ⟨hit, p⟩ l1 hne (by simp [hne, hea]) fun x1 h' tk q1 ho hst' hT hsz hk => ?_
    have q1 : its[i]? = some x1 := by simpa using q1
    rw [hu] at q1
    cases q1
    refine ⟨_, rfl, wpAny_letOwnedTupleGo_enum (s := { s with heap := h', toks := tk + 1 }) ho fun h'' he' sb => ?_⟩
    have hT2 : h''.get? s.heap.objs.size = some { cls := .type "tuple", data := .seq #[.int i tk, u] } := (sb.2 _ (Nat.ne_of_gt hel)).trans hT
    have new : ObjOk X.prog X.w (upd H s.heap.objs.size (.tup [.int (i : Nat), x])) h'' s.heap.objs.size (.tup [.int (i : Nat), x]) :=
      ⟨by show 2 ≤ sizeLine; decide, [.int i tk, u], .cons ⟨_, rfl⟩ (.cons ru .nil), ⟨_, hT2, rfl, _, rfl⟩⟩
    have I1 : Inv X pins σ (upd H s.heap.objs.size (.tup [.int (i : Nat), x])) { s with heap := h'', toks := tk + 1 } :=
      I.turnedNew (ch := [e, it]) (fun b ob hb q => (sb.2 b (fun z => hb (by simp [z]))).trans (hk b ob (fun z => hb (by simp [z])) (fun z => hb (by simp [z])) q)) hf (Nat.le_refl _) new
    refine ⟨.ref s.heap.objs.size, _, I1, rfl, ⟨_, x, rfl, I.hok.fresh (Nat.le_refl _), rfl, fun ys hy => by rw [inv_injK I hy hq]; exact hx⟩, ⟨⟨u, ?_⟩, hst'.1.at fun o q => (sb.2 it (Ne.symm hne)).trans q, hne⟩, fun b hb => ?_⟩
    · have e1 : ((i + 1 : Nat) : Int) = (i : Int) + 1 := by omega
      rw [e1]; exact he'
    · have hb' : b < s.heap.objs.size := by
        have e' : b = e ∨ b = it := by simpa using hb
        rcases e' with z | z
        · rw [z]; exact hel
        · rw [z]; exact hil
      rw [upd_ne (Nat.ne_of_lt hb')]
      exact (hf b hb).1
  done := by
    intro X hP hw hK hc i pins s σ H E I hf st hg
    subst hP hw hK
    obtain ⟨⟨old, he⟩, hit, hne⟩ := st
    obtain ⟨xs, hq, hx⟩ := hg
    obtain ⟨its, rv, p, _⟩ := inv_seqK I hq
    obtain ⟨f0, f1, f2, f3, f4, f5⟩ := hf it (by simp)
    have hl := rv.length
    have hn : its.toArray.size = i := by rw [List.size_toArray]; omega
    subst hn
    exact wpAny_pyNext_enum_endD (drawsK (k := k) (A := X.A.in1) (I.ok.hd hc) it a hai its.toArray) he ⟨hit, p⟩ fun h' eb => ⟨rfl, I.turned (t' := s.toks) (fun b o hb q => eb b o hb q) f0 f1 f3 f4 f5⟩
  self := fun A i s Q E st h => let ⟨⟨_, he⟩, _⟩ := st; wpAny_pyIter_enum he h
def iEnumM (K : PySem.W.Frag) (ta : TA) : TI := fun σ H R => ta σ H fun vs H1 => ∃ k a xs, vs = [.ref a] ∧ SqK k K H1 a xs ∧ R (IteM k K a) H1
theorem pi_enumM {X : Cx} {e : Expr} {ta : TA} {p pos tpos : Pos} {elts : List Expr} {kk : Nat} (hg : Gl X "enumerate") (hm : X.mg "enumerate" = none) (ha : PA X [e] ta) (hs : starEach [e] X.env = [(false, eval e X.env)] := by rfl) :
    PI X (.Tuple elts kk tpos) (.Call (.Name "enumerate" p) [e] [] pos) (iEnumM X.K ta) := by
  refine ⟨fun pins s σ H R I h => ?_⟩
  refine Call_ (ld_blt I hg hm boot_enumerate (PyProof.Rows.callWith_type1 (thn (ha.run pos pins s σ H _ I h) fun us s1 ⟨vs, H1, I1, r1, q1⟩ => ?_) hs rfl))
  obtain ⟨k, a, xs, ex, hq, q⟩ := q1
  subst ex
  cases r1 with
  | cons r rr =>
    cases rr
    cases r
    obtain ⟨its, rv, _, la⟩ := inv_seqK I1 hq
    obtain ⟨o1, Hs1, B1, g1, k1⟩ := beginsK I1 hq
    refine enum_begins1 B1 g1 fun h' he hit hsz hk => wpAny_pyIter_enum he ?_
    have I2 : Inv X pins σ H1 { s1 with heap := h' } := I1.kept (t' := s1.toks) hk
    refine ⟨s1.heap.objs.size + 1, [s1.heap.objs.size + 1, s1.heap.objs.size], _, _, H1, rfl, I2, turn_enumM a (s1.heap.objs.size + 1) s1.heap.objs.size (Nat.ne_of_lt la) (Nat.ne_of_gt (Nat.lt_succ_of_lt la)), ⟨⟨.none, he⟩, k1 _ _ hit, Nat.succ_ne_self _⟩, fun b hb => ?_, q⟩
    have e' : b = s1.heap.objs.size + 1 ∨ b = s1.heap.objs.size := by simpa using hb
    have hle : s1.heap.objs.size ≤ b := by
      rcases e' with z | z
      · rw [z]; exact Nat.le_add_right _ _
      · rw [z]; exact Nat.le_refl _
    exact I1.fpOk hle (I1.hok.fresh hle)
end CL

/-! CL, part e: the text against the row's text; what is known where a def runs -/
namespace CL
open PySem PySem.Spec PyProof.Rows L2

/-! ### forms -/
def nostar : Expr → Bool
  | .Starred _ _ => false
  | _ => true
def noslice : Expr → Bool
  | .Slice _ _ _ _ => false
  | _ => true
def noset : Expr → Bool
  | .Set _ _ _ => false
  | _ => true
def nolc : Expr → Bool
  | .ListComp _ _ _ _ => false
  | .SetComp _ _ _ _ => false
  | .DictComp _ _ _ _ _ => false
  | _ => true
/-- not a call without arguments (super() is one) -/
def nobare : Expr → Bool
  | .Call (.Name _ _) [] [] _ => false
  | _ => true
/-- a test that is its value's truth -/
def plainT : Expr → Bool
  | .UnaryOp .Not _ _ => false
  | .BoolOp _ _ _ => false
  | .IfExp _ _ _ _ => false
  | .Compare _ _ _ _ => false
  | _ => true
theorem star_cons {p : Expr} {ps : List Expr} {env : PySem.Env} (h : nostar p = true) : starEach (p :: ps) env = (false, eval p env) :: starEach ps env := by
  cases p <;> first | rfl | cases h
theorem star_map {pos : Pos} {env : PySem.Env} : ∀ {ps : List Expr}, ps.all nostar = true → backTo pos (starEach ps env) = starEach ps env ∧ (starEach ps env).any (·.1) = false ∧ (starEach ps env).all (fun x => !x.1) = true
  | [], _ => ⟨rfl, rfl, rfl⟩
  | p :: ps, h => by
    rw [List.all_cons, Bool.and_eq_true] at h
    obtain ⟨h1, h2, h3⟩ := star_map (pos := pos) (env := env) h.2
    rw [star_cons h.1]
    refine ⟨?_, ?_, ?_⟩
    · show (false, _) :: backTo pos (starEach ps env) = _
      rw [h1]; rfl
    · rw [List.any_cons, h2]; rfl
    · rw [List.all_cons, h3]; rfl
theorem star_any {pos : Pos} {env : PySem.Env} {ps : List Expr} (h : ps.all nostar = true) : (backTo pos (starEach ps env)).any (·.1) = false := by
  rw [(star_map h).1, (star_map (pos := pos) h).2.1]
theorem plain_ix {p : Expr} (h : noslice p = true) : PlainIx p := fun o i => by
  cases p <;> first | rfl | cases h
theorem folded {p : Expr} {env : PySem.Env} (h : noset p = true) : ∀ x, foldedSetIterable p env x = pure x := fun x => by
  cases p <;> first | rfl | cases h
theorem base_of {o : Expr} {f : Str} {env : PySem.Env} (h : nobare o = true) (whole : Sem Value) : attributeBase o f env whole = whole := by
  unfold attributeBase
  split
  · cases h
  · rfl
theorem swap_none {p : Expr} {t : Option Expr} {l : Nat} {env : PySem.Env} (h : nolc p = true) : swapsWith p t l env = pure false := by
  cases p <;> first | rfl | cases h
theorem swap_sub {p o i : Expr} {pos : Pos} {l : Nat} {env : PySem.Env} : swapsWith p (some (.Subscript o i pos)) l env = pure false := by
  cases p <;> rfl
theorem swap_att {p o : Expr} {f : Str} {pos : Pos} {l : Nat} {env : PySem.Env} : swapsWith p (some (.Attribute o f pos)) l env = pure false := by
  cases p <;> rfl
theorem plain_true {e : Expr} {env : PySem.Env} (h : plainT e = true) : ∀ whole, isTrue e env whole = (do let v ← whole; standAt e.pos; holding [v] (truthy v)) := fun whole => by
  cases e with
  | UnaryOp op x p => cases op <;> first | rfl | cases h
  | _ => first | rfl | cases h
theorem meth_eval {o : Expr} {m : Str} {apos pos : Pos} {es : List Expr} {env : PySem.Env} (hb : nobare o = true) (hs : es.all nostar = true) (hl : (apos.endLine == pos.line) = true) (hn : es.length < 30) :
    eval (.Call (.Attribute o m apos) es [] pos) env = (do
      let ov ← eval o env
      standAt apos.atName
      let (f, first) ← holding [ov] (getMethod ov m (do return (← importBound o env).getD true))
      callWith pos f first (backTo pos (starEach es env)) (backToKw pos (keywordEach [] env))) := by
  show (do let ov ← attributeBase o m env (eval o env); standAt apos.atName; methodCall o m apos pos env ov (es.length + ([] : List Keyword).length) (backTo pos (starEach es env)) (backToKw pos (keywordEach [] env))) = _
  rw [base_of hb]
  have hf : methodCallForm (es.length + ([] : List Keyword).length) (backTo pos (starEach es env)) (backToKw pos (keywordEach [] env)) = true := by
    unfold methodCallForm
    rw [(star_map hs).1, (star_map (pos := pos) hs).2.2]
    show (true && true && decide (es.length + 0 + 0 < 30)) = true
    simp; omega
  unfold methodCall
  rw [hf]
  have e1 : ∀ ov, calleeOf true o env ov m = getMethod ov m (do return (← importBound o env).getD true) := fun ov => rfl
  have e2 : methodCallPos true o env apos pos = pure pos := by
    unfold methodCallPos
    rw [hl]; rfl
  simp only [e1, e2, pure_bind]

/-! ### names -/
structure Nms where
  fn : Nat → Str
  isG : Nat → Bool
  cl : Nat → Str
  gl : Nat → Str
def visB (sc : Scope) (x : Str) : Bool := match sc.names.lookup x with
  | some .local => true
  | some .cell => true
  | some .free => true
  | _ => false
def locB (sc : Scope) (ow : Str → Bool) (x : Str) : Bool := match sc.names.lookup x with
  | some .local => true
  | some .cell => ow x
  | _ => false
def glB (sc : Scope) (x : Str) : Bool := match sc.names.lookup x with
  | some .globalImplicit => true
  | _ => false
def debB (x : Str) : Bool := !(x == ("__debug__" : Str)) && !(x == ("__classdict__" : Str))
theorem visB_ok {sc : Scope} {x : Str} (h : visB sc x = true) : Vis sc x := by
  unfold visB at h
  split at h <;> first | exact .inl (by assumption) | exact .inr (.inl (by assumption)) | exact .inr (.inr (by assumption)) | cases h
theorem locB_ok {sc : Scope} {ow : Str → Bool} {x : Str} (h : locB sc ow x = true) : Loc sc x ∧ (ow x = true ∨ sc.names.lookup x = some .local) := by
  unfold locB at h
  split at h
  · rename_i e; exact ⟨.inl e, .inr e⟩
  · rename_i e; exact ⟨.inr e, .inl h⟩
  · cases h
theorem glB_ok {sc : Scope} {x : Str} (h : glB sc x = true) : sc.names.lookup x = some .globalImplicit := by
  unfold glB at h
  split at h
  · assumption
  · cases h
theorem debB_ok {x : Str} (h : debB x = true) : (x == ("__debug__" : Str)) = false ∧ (x == ("__classdict__" : Str)) = false := by
  unfold debB at h
  simpa using h
/-- a name of slot i that is read, that is stored -/
def rdB (N : List Str) (sc : Scope) (i : Nat) (x : Str) : Bool := decide (N[i]? = some x) && visB sc x && debB x
def stB (N : List Str) (sc : Scope) (ow : Str → Bool) (i : Nat) (x : Str) : Bool := decide (N[i]? = some x) && locB sc ow x
def gB (sc : Scope) (x y : Str) : Bool := decide (x = y) && glB sc x && debB x
def namesB (N : List Str) (sc : Scope) (ow : Str → Bool) : List Nat → List Expr → Bool
  | [], [] => true
  | i :: is, .Name x _ :: r => stB N sc ow i x && namesB N sc ow is r
  | _, _ => false
def tgB (N : List Str) (sc : Scope) (ow : Str → Bool) : Tg → Expr → Bool
  | .one i, .Name x _ => stB N sc ow i x
  | .many is, .Tuple es _ _ => namesB N sc ow is es
  | _, _ => false
def tgOwn (N : List Str) : Tg → List (Str × Nat)
  | .one i => match N[i]? with
    | some x => [(x, i)]
    | none => []
  | .many is => is.filterMap fun i => match N[i]? with
    | some x => some (x, i)
    | none => none
def tupB : Expr → Bool
  | .Tuple _ _ _ => true
  | _ => false
def isCmp : E → Bool
  | .cmp _ _ _ => true
  | .cm2 _ _ _ _ _ => true
  | .isN _ => true
  | .noN _ => true
  | _ => false
def isYes : B → Bool
  | .yes => true
  | _ => false
def ifsB (f : Expr → Bool) (y : Bool) : List Expr → Bool
  | [] => y
  | [q] => f q
  | _ => false
def tyB : Ty → Bool
  | .cls _ => false
  | _ => true
mutual
def chE (T : Nms) (N : List Str) : E → Scope → Expr → Bool
  | .v i, sc, p => match p with
    | .Name x _ => rdB N sc i x
    | _ => false
  | .int i, _, p => match p with
    | .Constant (.int j) _ _ => decide (i = j)
    | _ => false
  | .str x, _, p => match p with
    | .Constant (.str y) _ _ => decide (x = y)
    | _ => false
  | .bl b, _, p => match p with
    | .Constant (.bool d) _ _ => b == d
    | _ => false
  | .non, _, p => match p with
    | .Constant .none _ _ => true
    | _ => false
  | .gl g, sc, p => match p with
    | .Name x _ => gB sc x (T.gl g)
    | _ => false
  | .tup es, sc, p => match p with
    | .Tuple ps _ _ => chEs T N es sc ps
    | _ => false
  | .lst es, sc, p => match p with
    | .List ps _ => chEs T N es sc ps
    | _ => false
  | .dic d, sc, p => match p with
    | .Dict ks vs _ => chPs T N d sc ks vs && decide (ks.length ≤ 15)
    | _ => false
  | .neg a, sc, p => match p with
    | .UnaryOp .USub q _ => chE T N a sc q
    | _ => false
  | .bin o a b, sc, p => match p with
    | .BinOp q o' r _ => decide (o' = opOf o) && chE T N a sc q && chE T N b sc r
    | _ => false
  | .cmp o a b, sc, p => match p with
    | .Compare q [o'] [r] _ => decide (o' = copOf o) && chE T N a sc q && chE T N b sc r && noset r
    | _ => false
  | .cm2 o o2 a b c, sc, p => match p with
    | .Compare q [o', o2'] [r, t] _ => decide (o' = copOf o) && decide (o2' = copOf o2) && chE T N a sc q && chE T N b sc r && chE T N c sc t && noset r && noset t
    | _ => false
  | .isN a, sc, p => match p with
    | .Compare q [.Is] [.Constant .none _ _] _ => chE T N a sc q
    | _ => false
  | .noN a, sc, p => match p with
    | .Compare q [.IsNot] [.Constant .none _ _] _ => chE T N a sc q
    | _ => false
  | .and a b, sc, p => match p with
    | .BoolOp .And [q, r] _ => chE T N a sc q && chE T N b sc r
    | .BoolOp .And (q :: r :: t :: u) pos => chE T N a sc q && chE T N b sc (.BoolOp .And (r :: t :: u) pos)
    | _ => false
  | .or a b, sc, p => match p with
    | .BoolOp .Or [q, r] _ => chE T N a sc q && chE T N b sc r
    | .BoolOp .Or (q :: r :: t :: u) pos => chE T N a sc q && chE T N b sc (.BoolOp .Or (r :: t :: u) pos)
    | _ => false
  | .not a, sc, p => match p with
    | .UnaryOp .Not q _ => chE T N a sc q
    | _ => false
  | .ite c a b, sc, p => match p with
    | .IfExp q r t _ => chB T N c sc q && chE T N a sc r && chE T N b sc t
    | _ => false
  | .sub a i, sc, p => match p with
    | .Subscript q r _ => chE T N a sc q && chE T N i sc r && noslice r
    | _ => false
  | .cut a lo hi, sc, p => match p with
    | .Subscript q (.Slice l h none _) _ => chE T N a sc q && chO T N lo sc l && chO T N hi sc h
    | _ => false
  | .cut3 a lo hi k, sc, p => match p with
    | .Subscript q (.Slice l h (some (.Constant (.int j) _ _)) _) _ => decide (k = j) && decide (k ≠ 0) && chE T N a sc q && chO T N lo sc l && chO T N hi sc h
    | .Subscript q (.Slice l h (some (.UnaryOp .USub (.Constant (.int j) _ _) _)) _) _ => decide (k = -j) && decide (k ≠ 0) && chE T N a sc q && chO T N lo sc l && chO T N hi sc h
    | _ => false
  | .fld a f, sc, p => match p with
    | .Attribute q g _ => decide (f = g) && chE T N a sc q && nobare q
    | _ => false
  | .call f es, sc, p => match p with
    | .Call (.Name x _) ps [] _ => gB sc x (T.fn f) && T.isG f && chEs T N es sc ps
    | _ => false
  | .make c es, sc, p => match p with
    | .Call (.Name x _) ps [] _ => gB sc x (T.cl c) && chEs T N es sc ps
    | _ => false
  | .met a m es, sc, p => match p with
    | .Call (.Attribute q g ap) ps [] pos => decide (m = g) && chE T N a sc q && nobare q && (ap.endLine == pos.line) && decide (ps.length < 29) && chEs T N es sc ps
    | _ => false
  | .bm b a es, sc, p => match p with
    | .Call (.Attribute q g ap) ps [] pos => decide (bmName b = g) && chE T N a sc q && nobare q && (ap.endLine == pos.line) && decide (ps.length < 29) && chEs T N es sc ps
    | _ => false
  | .bf b es, sc, p => match p with
    | .Call (.Name x _) ps [] _ => gB sc x (bfName b) && chEs T N es sc ps
    | _ => false
  | .isi a t, sc, p => match p with
    | .Call (.Name x _) [q, .Name y _] [] _ => gB sc x "isinstance" && gB sc y (Str.ofString (tyName t)) && tyB t && chE T N a sc q && nostar q
    | _ => false
  | .lc t w c e, sc, p => match p with
    | .ListComp pe [⟨tg, it, ifs, 0⟩] scope _ => chI T N w sc tg it && noset it && blkC N sc scope (tgOwn N t) && tgB N (relS scope sc) (fun x => scope.names.lookup x == some .cell) t tg &&
        ifsB (fun q => chB T N c (relS scope sc) q) (isYes c) ifs && chE T N e (relS scope sc) pe
    | _ => false
  | .dcall f, sc, p => match p with
    | .Call (.Name x _) [.Call (.Name y _) [] [] _] [] _ => gB sc x "dict" && gB sc y (T.fn f) && T.isG f
    | _ => false
  | .sset a, sc, p => match p with
    | .Call (.Name x _) [.Call (.Name y _) [q] [] _] [] _ => gB sc x "sorted" && gB sc y "set" && chE T N a sc q && nostar q
    | _ => false
  | .lzip a b, sc, p => match p with
    | .Call (.Name x _) [.Call (.Name y _) [q, r] [] _] [] _ => gB sc x "list" && gB sc y "zip" && chE T N a sc q && nostar q && chE T N b sc r && nostar r
    | _ => false
  | .lrg1 a, sc, p => match p with
    | .Call (.Name x _) [.Call (.Name y _) [q] [] _] [] _ => gB sc x "list" && gB sc y "range" && chE T N a sc q && nostar q
    | _ => false
  | .lrg2 a b, sc, p => match p with
    | .Call (.Name x _) [.Call (.Name y _) [q, r] [] _] [] _ => gB sc x "list" && gB sc y "range" && chE T N a sc q && nostar q && chE T N b sc r && nostar r
    | _ => false
  | .bad, _, p => nolc p && noset p && nostar p && noslice p
def chEs (T : Nms) (N : List Str) : Es → Scope → List Expr → Bool
  | .nil, _, ps => match ps with
    | [] => true
    | _ => false
  | .cons e es, sc, ps => match ps with
    | p :: r => chE T N e sc p && nostar p && chEs T N es sc r
    | _ => false
def chO (T : Nms) (N : List Str) : Eo → Scope → Option Expr → Bool
  | .no, _, p => match p with
    | none => true
    | _ => false
  | .so e, sc, p => match p with
    | some p => chE T N e sc p
    | none => false
def chPs (T : Nms) (N : List Str) : Ps → Scope → List (Option Expr) → List Expr → Bool
  | .nil, _, ks, vs => match ks, vs with
    | [], [] => true
    | _, _ => false
  | .cons k v r, sc, ks, vs => match ks, vs with
    | some p :: ks, q :: vs => chE T N k sc p && chE T N v sc q && chPs T N r sc ks vs
    | _, _ => false
def chB (T : Nms) (N : List Str) : B → Scope → Expr → Bool
  | .yes, _, _ => false
  | .of e, sc, p => chE T N e sc p && (plainT p || isCmp e)
  | .and a b, sc, p => match p with
    | .BoolOp .And [q, r] _ => chB T N a sc q && chB T N b sc r
    | .BoolOp .And (q :: r :: t :: u) pos => chB T N a sc q && chB T N b sc (.BoolOp .And (r :: t :: u) pos)
    | _ => false
  | .or a b, sc, p => match p with
    | .BoolOp .Or [q, r] _ => chB T N a sc q && chB T N b sc r
    | .BoolOp .Or (q :: r :: t :: u) pos => chB T N a sc q && chB T N b sc (.BoolOp .Or (r :: t :: u) pos)
    | _ => false
  | .not a, sc, p => match p with
    | .UnaryOp .Not q _ => chB T N a sc q
    | _ => false
def chI (T : Nms) (N : List Str) : I → Scope → Expr → Expr → Bool
  | .of e, sc, _, p => chE T N e sc p
  | .rg1 a, sc, _, p => match p with
    | .Call (.Name x _) [q] [] _ => gB sc x "range" && chE T N a sc q && nostar q
    | _ => false
  | .rg2 a b, sc, _, p => match p with
    | .Call (.Name x _) [q, r] [] _ => gB sc x "range" && chE T N a sc q && nostar q && chE T N b sc r && nostar r
    | _ => false
  | .enu e, sc, tg, p => match p with
    | .Call (.Name x _) [q] [] _ => gB sc x "enumerate" && chE T N e sc q && nostar q && tupB tg
    | _ => false
  | .zip a b, sc, tg, p => match p with
    | .Call (.Name x _) [q, r] [] _ => gB sc x "zip" && chE T N a sc q && nostar q && chE T N b sc r && nostar r && tupB tg
    | _ => false
end
def chTs (T : Nms) (N : List Str) (sc : Scope) (ow : Str → Bool) : CL.T → Expr → Bool
  | .one i, p => match p with
    | .Name x _ => stB N sc ow i x
    | _ => false
  | .sub o i, p => match p with
    | .Subscript q r _ => chE T N o sc q && chE T N i sc r && noslice r
    | _ => false
  | .fld o f, p => false
def chTL (T : Nms) (N : List Str) (sc : Scope) (ow : Str → Bool) : List CL.T → List Expr → Bool
  | [], [] => true
  | t :: ts, p :: ps => chTs T N sc ow t p && nostar p && chTL T N sc ow ts ps
  | _, _ => false
/-- a, b = x, y: what the model does of it: none: it is not told; some none: a plain tuple; some names: stored one by one -/
def swMir (sc : Scope) (ts : List Expr) (value : Expr) : Option (Option (List Str)) := match value with
  | .Tuple vs _ _ =>
    if !(ts.length == 2 || ts.length == 3) || vs.length != ts.length then some none
    else if vs.any (fun | .Starred .. => true | _ => false) then some none
    else
      let line := (ts.head?.map (·.pos.line)).getD 0
      let names := ts.filterMap fun
        | .Name id pos => if sc.names.lookup id == some .local && pos.line == line then some id else none
        | _ => none
      if names.length != ts.length || names.eraseDups.length != names.length then some none
      else if vs.all (foldedForSure 8) then some none
      else if vs.all (constantsAlone 8) then none
      else some (some names)
  | _ => some none
def lcSw (sc : Scope) (y : Str) (py : Pos) : Expr → Bool
  | .ListComp _ _ scope pos => sc.names.lookup y == some .local && (py.line == pos.line) && !(scope.names.any fun (n, k) => n == y && (k == .local || k == .cell))
  | _ => false
mutual
def chS (T : Nms) (N : List Str) (sc : Scope) (ow : Str → Bool) : S → Stmt → Bool
  | .asg t e, p => match p with
    | .Assign [tg] v _ => chE T N e sc v && (match t with
      | .one i => (match tg with
        | .Name x _ => stB N sc ow i x
        | _ => false)
      | .sub o i => (match tg with
        | .Subscript q r _ => chE T N o sc q && chE T N i sc r && noslice r
        | _ => false)
      | .fld o f => (match tg with
        | .Attribute q g _ => decide (f = g) && chE T N o sc q
        | _ => false))
    | _ => false
  | .asT ts e, p => match p with
    | .Assign [.Tuple tg _ _] v _ => chE T N e sc v && chTL T N sc ow ts tg && (match swMir sc tg v with
      | some none => true
      | _ => false)
    | _ => false
  | .par is es, p => match p with
    | .Assign [.Tuple tg _ _] (.Tuple vs k2 p2) _ => chEs T N es sc vs && namesB N sc ow is tg && (match swMir sc tg (.Tuple vs k2 p2) with
      | some (some _) => true
      | _ => false)
    | _ => false
  | .aug i o e, p => match p with
    | .AugAssign (.Name x _) o' v _ => decide (o' = opOf o) && stB N sc ow i x && chE T N e sc v
    | _ => false
  | .aus a i o e, p => match p with
    | .AugAssign (.Subscript q r _) o' v _ => decide (o' = opOf o) && chE T N a sc q && chE T N i sc r && noslice r && chE T N e sc v
    | _ => false
  | .auf a f o e, p => match p with
    | .AugAssign (.Attribute q g _) o' v _ => decide (o' = opOf o) && decide (f = g) && chE T N a sc q && chE T N e sc v
    | _ => false
  | .ex e, p => match p with
    | .Expr v _ => chE T N e sc v && nolc v
    | _ => false
  | .ret e, p => match p with
    | .Return (some v) _ => chE T N e sc v
    | _ => false
  | .rtN, p => match p with
    | .Return none _ => true
    | _ => false
  | .cond c a b, p => match p with
    | .If q r t _ => chB T N c sc q && chSs T N sc ow a r && chSs T N sc ow b t
    | _ => false
  | .whl c b, p => match p with
    | .While q r [] _ => chB T N c sc q && chSs T N sc ow b r
    | _ => false
  | .for t w b, p => match p with
    | .For tg it r [] _ => chI T N w sc tg it && noset it && tgB N sc ow t tg && chSs T N sc ow b r
    | _ => false
  | .pass, p => match p with
    | .Pass _ => true
    | _ => false
  | .brk, p => match p with
    | .Break _ => true
    | _ => false
  | .cnt, p => match p with
    | .Continue _ => true
    | _ => false
  | .bad, _ => true
def chSs (T : Nms) (N : List Str) (sc : Scope) (ow : Str → Bool) : Ss → List Stmt → Bool
  | .nil, ps => match ps with
    | [] => true
    | _ => false
  | .cons s r, ps => match ps with
    | p :: ps => chS T N sc ow s p && chSs T N sc ow r ps
    | _ => false
end
end CL

/-! CL, part f: expressions: what the run says holds of the model -/
namespace CL
open PySem PySem.Spec PyProof.Rows L2

structure Tab where
  G : Prog
  fuel : Nat
  nm : Nms
  ca : Nat → Addr
  fa : Nat → Addr
  fdt : Nat → FuncData
  psn : Nat → List Str
def Tab.cx (T : Tab) (d : Nat) : Ctx := cxN T.G T.fuel d
/-- a def's promise: what the run says -/
def spF (K : PySem.W.Frag) (T : Tab) (run : List Val → Store → Res Val) (np : Nat) : Sp := fun vs H Q _ => vs.length = np ∧ ∃ (io : Nat → Addr) (st : Store) (us : List Val) (v : Val) (st' : Store),
  Rl K T.G.kt T.ca io st H ∧ RVs K T.G.kt io st.n H us vs ∧ run us st = .ok v st' ∧ Post K T.G.kt T.ca io st H v st' Q
/-- what the top has left -/
structure Top (T : Tab) (K : PySem.W.Frag) (mg : Str → Option Value) : Prop where
  bf : ∀ b : Bf, mg (bfName b) = none
  isi : mg "isinstance" = none
  ty : ∀ t : Ty, tyB t = true → mg (Str.ofString (tyName t)) = none
  rng : mg "range" = none
  enu : mg "enumerate" = none
  zip : mg "zip" = none
  gl : ∀ g v, T.G.gl g = some v → ∃ u w, mg (T.nm.gl g) = some u ∧ RelV w u ∧ ∀ io n H, RV K T.G.kt io n H v w
  fn : ∀ f fd, T.G.fn f = some fd → Binds K (T.fdt f) (T.psn f) [] ∧ (T.psn f).length = fd.np ∧ (T.nm.isG f = true → mg (T.nm.fn f) = some (.ref (T.fa f)) ∧ PySem.W.keepIn K (.ref (T.fa f)) = true)
  mt : ∀ c m f, T.G.mt c m = some f → Cls K (T.ca c) ∧ Meth K (T.ca c) m (T.fa f) ∧ ∃ fd, T.G.fn f = some fd
  ini : ∀ c f, T.G.ini c = some f → mg (T.nm.cl c) = some (.ref (T.ca c)) ∧ Mk K (T.ca c) (T.fa f) ∧ ∃ fd, T.G.fn f = some fd
  fl : ∀ c f, T.G.fl c f = true → Cls K (T.ca c) ∧ NoAttr K (T.ca c) f
def Fns (T : Tab) (X : Cx) (d : Nat) : Prop := ∀ f fd, T.G.fn f = some fd → FnOk X.prog X.w X.K X.mg X.base CX0 d (T.fa f) (T.fdt f) (T.psn f) (spF X.K T (callN T.G T.fuel d f) (T.psn f).length)
/-- the promise of a def that gives a tuple as it is written: it is known to the object -/
def spD (K : PySem.W.Frag) (T : Tab) (run : List Val → Store → Res Val) : Sp := fun vs H Q _ => vs = [] ∧ ∃ (io : Nat → Addr) (st : Store) (xs : List Val) (st' : Store),
  Rl K T.G.kt T.ca io st H ∧ run [] st = .ok (.tup xs) st' ∧ ∀ (io' : Nat → Addr) (H' : Hp) (a : Addr) (o : Obj) (ys : List V), Up io st.n H io' st'.n H' → Rl K T.G.kt T.ca io' st' H' → H' a = some (.frz o (.tup ys)) → o.dict = none → RVs K T.G.kt io' st'.n H' xs ys → Q (.ref a) H'
def DFns (T : Tab) (X : Cx) (d : Nat) : Prop := ∀ f, litF T.G f = true → FnOk X.prog X.w X.K X.mg X.base CX0 d (T.fa f) (T.fdt f) (T.psn f) (spD X.K T (callN T.G T.fuel d f))
structure At (T : Tab) (d : Nat) (X : Cx) (N : List Str) (sc : Scope) (ow : Str → Bool) : Prop where
  top : Top T X.K X.mg
  fns : ∀ e, e ≤ d → Fns T X e
  dfs : ∀ e, e ≤ d → DFns T X e
  hN : X.N = N
  nd : N.Nodup
  hsc : X.env.scope = sc
  kind : sc.kind = .function
  how : ∀ x, ow x = true → X.fn x = true
  calm : X.calm = true
  room : Room d X.A
/-- slots -/
def RS (K : PySem.W.Frag) (kt : List (List Val)) (io : Nat → Addr) (n : Nat) (H : Hp) (s : Env) (t : L2.St) : Prop :=
  s.length = t.length ∧ ∀ (i : Nat) (v : Val), s[i]? = some (some v) → ∃ w, t[i]? = some (some w) ∧ RV K kt io n H v w
theorem RS.up {K : PySem.W.Frag} {kt : List (List Val)} {io io' : Nat → Addr} {n n' : Nat} {H H' : Hp} {s : Env} {t : L2.St} (u : Up io n H io' n' H') (h : RS K kt io n H s t) : RS K kt io' n' H' s t :=
  ⟨h.1, fun i v e => let ⟨w, e', r⟩ := h.2 i v e; ⟨w, e', r.up u⟩⟩
theorem RS.set {K : PySem.W.Frag} {kt : List (List Val)} {io : Nat → Addr} {n : Nat} {H : Hp} {s : Env} {t : L2.St} (h : RS K kt io n H s t) {v : Val} {w : V} (r : RV K kt io n H v w) (i : Nat) : RS K kt io n H (s.set i (some v)) (t.set i (some w)) := by
  refine ⟨by rw [List.length_set, List.length_set]; exact h.1, fun j u e => ?_⟩
  by_cases hj : i = j
  · subst hj
    rw [List.getElem?_set] at e ⊢
    rw [← h.1]
    split at e
    · split at e
      · cases e; rename_i h1 h2; rw [if_pos rfl, if_pos h2]; exact ⟨w, rfl, r⟩
      · cases e
    · rename_i h1; exact absurd rfl h1
  · rw [List.getElem?_set_ne hj] at e ⊢
    exact h.2 j u e
def PostA (K : PySem.W.Frag) (kt : List (List Val)) (ca io : Nat → Addr) (st : Store) (H : Hp) (vs : List Val) (st' : Store) (Q : List V → Hp → Prop) : Prop :=
  ∀ (io' : Nat → Addr) (H' : Hp) (ws : List V), Up io st.n H io' st'.n H' → Rl K kt ca io' st' H' → RVs K kt io' st'.n H' vs ws → Q ws H'
def PostB (K : PySem.W.Frag) (kt : List (List Val)) (ca io : Nat → Addr) (st : Store) (H : Hp) (k : Bool) (st' : Store) (Q : Bool → Hp → Prop) : Prop :=
  ∀ (io' : Nat → Addr) (H' : Hp), Up io st.n H io' st'.n H' → Rl K kt ca io' st' H' → Q k H'
theorem Post.after {K : PySem.W.Frag} {kt : List (List Val)} {ca io io1 : Nat → Addr} {st st1 st' : Store} {H H1 : Hp} {v : Val} {Q : VK} (p : Post K kt ca io st H v st' Q) (u : Up io st.n H io1 st1.n H1) : Post K kt ca io1 st1 H1 v st' Q :=
  fun io' H' w u' R r => p io' H' w (u.trans u') R r
theorem PostA.after {K : PySem.W.Frag} {kt : List (List Val)} {ca io io1 : Nat → Addr} {st st1 st' : Store} {H H1 : Hp} {v : List Val} {Q : List V → Hp → Prop} (p : PostA K kt ca io st H v st' Q) (u : Up io st.n H io1 st1.n H1) : PostA K kt ca io1 st1 H1 v st' Q :=
  fun io' H' w u' R r => p io' H' w (u.trans u') R r
theorem PostB.after {K : PySem.W.Frag} {kt : List (List Val)} {ca io io1 : Nat → Addr} {st st1 st' : Store} {H H1 : Hp} {v : Bool} {Q : Bool → Hp → Prop} (p : PostB K kt ca io st H v st' Q) (u : Up io st.n H io1 st1.n H1) : PostB K kt ca io1 st1 H1 v st' Q :=
  fun io' H' u' R => p io' H' (u.trans u') R
def aSem (X : Cx) (es : List Expr) : TA := fun σ H Q => ∀ (pos : Pos) (pins : List (Addr × Obj)) (s : Shared), Inv X pins σ H s → wpAny (model X.prog X.w) X.A (spliced (backTo pos (starEach es X.env))) (AP X pins σ Q) X.xe s
theorem pa_sem {X : Cx} {es : List Expr} : PA X es (aSem X es) := ⟨fun pos pins s σ H Q I h => h pos pins s I⟩

/-- an expression's run holds of the model -/
def SE (T : Tab) (d : Nat) (N : List Str) (e : E) : Prop := ∀ (X : Cx) (sc : Scope) (ow : Str → Bool) (p : Expr), At T d X N sc ow → chE T.nm N e sc p = true →
  ∀ (s : Env) (st : Store) (v : Val) (st' : Store) (io : Nat → Addr) (H : Hp) (t : L2.St) (Q : VK), RS X.K T.G.kt io st.n H s t → Rl X.K T.G.kt T.ca io st H → ev (T.cx d) e s st = .ok v st' →
    Post X.K T.G.kt T.ca io st H v st' Q → tSem X p t H Q
def SA (T : Tab) (d : Nat) (N : List Str) (es : Es) : Prop := ∀ (X : Cx) (sc : Scope) (ow : Str → Bool) (ps : List Expr), At T d X N sc ow → chEs T.nm N es sc ps = true →
  ∀ (s : Env) (st : Store) (vs : List Val) (st' : Store) (io : Nat → Addr) (H : Hp) (t : L2.St) (Q : List V → Hp → Prop), RS X.K T.G.kt io st.n H s t → Rl X.K T.G.kt T.ca io st H → evs (T.cx d) es s st = .ok vs st' →
    PostA X.K T.G.kt T.ca io st H vs st' Q → aSem X ps t H Q
def SB (T : Tab) (d : Nat) (N : List Str) (b : B) : Prop := ∀ (X : Cx) (sc : Scope) (ow : Str → Bool) (p : Expr), At T d X N sc ow → chB T.nm N b sc p = true →
  ∀ (s : Env) (st : Store) (k : Bool) (st' : Store) (io : Nat → Addr) (H : Hp) (t : L2.St) (Q : Bool → Hp → Prop), RS X.K T.G.kt io st.n H s t → Rl X.K T.G.kt T.ca io st H → ts (T.cx d) b s st = .ok k st' →
    PostB X.K T.G.kt T.ca io st H k st' Q → bSem X p t H Q

section
variable {T : Tab} {d : Nat} {N : List Str}
theorem chEs_star : ∀ {es : Es} {sc : Scope} {ps : List Expr}, chEs T.nm N es sc ps = true → ps.all nostar = true
  | .nil, sc, ps, h => by
    simp only [chEs] at h
    split at h
    · rfl
    · cases h
  | .cons e es, sc, ps, h => by
    simp only [chEs] at h
    split at h
    · rename_i p r
      simp only [Bool.and_eq_true] at h
      rw [List.all_cons, h.1.2, chEs_star h.2]; rfl
    · cases h
theorem sa_nil : SA T d N .nil := by
  intro X sc ow ps A hc s st vs st' io H t Q rs R e p
  simp only [chEs] at hc
  split at hc
  · simp only [evs] at e
    cases e
    intro pos pins sh I
    exact pa_nil.run pos pins sh t H Q I (p io H [] (.refl _ _ _) R .nil)
  · cases hc
theorem sa_cons {a : E} {es : Es} (ha : SE T d N a) (hs : SA T d N es) : SA T d N (.cons a es) := by
  intro X sc ow ps A hc s st vs st' io H t Q rs R e p
  simp only [chEs] at hc
  split at hc
  · rename_i q r
    simp only [Bool.and_eq_true] at hc
    simp only [evs] at e
    obtain ⟨v, st1, e1, e⟩ := bind_eq_ok.mp e
    obtain ⟨ws, st2, e2, e⟩ := bind_eq_ok.mp e
    cases e
    intro pos pins sh I
    refine (pa_cons pe_sem pa_sem (star_cons hc.1.2)).run pos pins sh t H Q I ?_
    refine ha X sc ow q A hc.1.1 s st v st1 io H t _ rs R e1 fun io1 H1 w u1 R1 r1 => ?_
    refine hs X sc ow r A hc.2 s st1 ws _ io1 H1 t _ (rs.up u1) R1 e2 fun io2 H2 w2 u2 R2 r2 => ?_
    exact p io2 H2 _ (u1.trans u2) R2 (.cons (r1.up u2) r2)
  · cases hc
theorem se_v {i : Nat} : SE T d N (.v i) := by
  intro X sc ow q A hc s st v st' io H t Q rs R e p
  simp only [chE] at hc
  split at hc
  · rename_i x pos
    unfold rdB at hc
    simp only [Bool.and_eq_true, decide_eq_true_eq] at hc
    simp only [ev] at e
    split at e
    · rename_i v' e1
      cases e
      obtain ⟨w, e2, r⟩ := rs.2 i v e1
      intro pins sh I
      exact (pe_var (by rw [A.hN]; exact hc.1.1) (by rw [A.hsc]; exact visB_ok hc.1.2) (debB_ok hc.2).1 (debB_ok hc.2).2).run pins sh t H Q I ⟨w, e2, p.here R r⟩
    · cases e
  · cases hc
theorem se_int {i : Int} : SE T d N (.int i) := by
  intro X sc ow q A hc s st v st' io H t Q rs R e p
  simp only [chE] at hc
  split at hc
  · simp only [decide_eq_true_eq] at hc
    subst hc
    simp only [ev] at e
    cases e
    intro pins sh I
    exact pe_int.run pins sh t H Q I (p.here R (.int _))
  · cases hc
theorem se_str {x : Str} : SE T d N (.str x) := by
  intro X sc ow q A hc s st v st' io H t Q rs R e p
  simp only [chE] at hc
  split at hc
  · simp only [decide_eq_true_eq] at hc
    subst hc
    simp only [ev] at e
    cases e
    intro pins sh I
    exact pe_str.run pins sh t H Q I (p.here R (.str _))
  · cases hc
theorem se_bl {b : Bool} : SE T d N (.bl b) := by
  intro X sc ow q A hc s st v st' io H t Q rs R e p
  simp only [chE] at hc
  split at hc
  · simp only [beq_iff_eq] at hc
    subst hc
    simp only [ev] at e
    cases e
    intro pins sh I
    exact pe_bl.run pins sh t H Q I (p.here R (.bl _))
  · cases hc
theorem se_non : SE T d N .non := by
  intro X sc ow q A hc s st v st' io H t Q rs R e p
  simp only [chE] at hc
  split at hc
  · simp only [ev] at e
    cases e
    intro pins sh I
    exact pe_non.run pins sh t H Q I (p.here R .non)
  · cases hc
theorem gB_ok {sc : Scope} {x y : Str} (h : gB sc x y = true) : x = y ∧ sc.names.lookup x = some .globalImplicit ∧ (x == ("__debug__" : Str)) = false := by
  unfold gB at h
  simp only [Bool.and_eq_true, decide_eq_true_eq] at h
  exact ⟨h.1.1, glB_ok h.1.2, (debB_ok h.2).1⟩
theorem At.gl {X : Cx} {sc : Scope} {ow : Str → Bool} (A : At T d X N sc ow) {x y : Str} (h : gB sc x y = true) : Gl X x := by
  show X.env.scope.names.lookup x = _
  rw [A.hsc]; exact (gB_ok h).2.1
theorem se_gl {g : Nat} : SE T d N (.gl g) := by
  intro X sc ow q A hc s st v st' io H t Q rs R e p
  simp only [chE] at hc
  split at hc
  · simp only [ev] at e
    split at e
    · rename_i v' e1
      cases e
      have e1 : T.G.gl g = some v := e1
      obtain ⟨u, w, h1, h2, h3⟩ := A.top.gl g v e1
      obtain ⟨rfl, _, hd⟩ := gB_ok hc
      intro pins sh I
      exact (pe_glob (A.gl hc) h1 h2 hd).run pins sh t H Q I (p.here R (h3 _ _ _))
    · cases e
  · cases hc
theorem se_tup {es : Es} (h : SA T d N es) : SE T d N (.tup es) := by
  intro X sc ow q A hc s st v st' io H t Q rs R e p
  simp only [chE] at hc
  split at hc
  · simp only [ev] at e
    obtain ⟨vs, st1, e1, e⟩ := bind_eq_ok.mp e
    unfold mkT at e
    split at e
    · rename_i hf
      cases e
      intro pins sh I
      refine (pe_tup pa_sem).run pins sh t H Q I ?_
      refine h X sc ow _ A hc s st vs _ io H t _ rs R e1 fun io1 H1 ws u1 R1 r1 => ⟨by rw [← r1.length]; exact fits_le hf, fun a ha => (p.after u1).tup R1 r1 a ha⟩
    · cases e
  · cases hc
theorem se_lst {es : Es} (h : SA T d N es) : SE T d N (.lst es) := by
  intro X sc ow q A hc s st v st' io H t Q rs R e p
  simp only [chE] at hc
  split at hc
  · simp only [ev] at e
    obtain ⟨vs, st1, e1, e⟩ := bind_eq_ok.mp e
    unfold mkL at e
    split at e
    · rename_i hf
      cases e
      intro pins sh I
      refine (pe_lst pa_sem).run pins sh t H Q I ?_
      refine h X sc ow _ A hc s st vs _ io H t _ rs R e1 fun io1 H1 ws u1 R1 r1 => ⟨by rw [← r1.length]; exact fits_le hf, fun a ha => (p.after u1).list R1 r1 a ha⟩
    · cases e
  · cases hc
theorem se_neg {a : E} (h : SE T d N a) : SE T d N (.neg a) := by
  intro X sc ow q A hc s st v st' io H t Q rs R e p
  simp only [chE] at hc
  split at hc
  · simp only [ev] at e
    obtain ⟨x, st1, e1, e⟩ := bind_eq_ok.mp e
    split at e
    · cases e
      intro pins sh I
      refine (pe_un un_neg pe_sem).run pins sh t H Q I ?_
      refine h X sc ow _ A hc s st _ _ io H t _ rs R e1 fun io1 H1 w u1 R1 r1 => ?_
      obtain rfl := r1.iint
      exact ⟨_, rfl, (p.after u1).here R1 (.int _)⟩
    · cases e
  · cases hc
theorem se_bin {o : Bop} {a b : E} (ha : SE T d N a) (hb : SE T d N b) : SE T d N (.bin o a b) := by
  intro X sc ow q A hc s st v st' io H t Q rs R e p
  simp only [chE] at hc
  split at hc
  · simp only [Bool.and_eq_true, decide_eq_true_eq] at hc
    obtain ⟨⟨rfl, c1⟩, c2⟩ := hc
    simp only [ev] at e
    obtain ⟨x, st1, e1, e⟩ := bind_eq_ok.mp e
    obtain ⟨y, st2, e2, e⟩ := bind_eq_ok.mp e
    intro pins sh I
    refine (pe_op op_sem pe_sem pe_sem).run pins sh t H Q I ?_
    refine ha X sc ow _ A c1 s st x st1 io H t _ rs R e1 fun io1 H1 w u1 R1 r1 => ?_
    refine hb X sc ow _ A c2 s st1 y st2 io1 H1 t _ (rs.up u1) R1 e2 fun io2 H2 w2 u2 R2 r2 => ?_
    exact bop_ok R2 (r1.up u2) r2 e (p.after (u1.trans u2))
  · cases hc
theorem At.hu {X : Cx} {sc : Scope} {ow : Str → Bool} (A : At T d X N sc ow) : X.A.units + 65 < cLine := by have := A.room.un; omega
theorem noset_in {p : Expr} (h : noset p = true) (op : CmpOp) : behindInMarks op p = false := by
  cases p <;> first | rfl | cases h
/-- a comparison's reading, as a value and as a test -/
theorem cmp_read {o : Cop} {a b : E} (ha : SE T d N a) (hb : SE T d N b) {X : Cx} {sc : Scope} {ow : Str → Bool} {q r : Expr} (A : At T d X N sc ow) (c1 : chE T.nm N a sc q = true) (c2 : chE T.nm N b sc r = true)
    {s : Env} {st : Store} {v : Val} {st' : Store} {io : Nat → Addr} {H : Hp} {t : L2.St} {Q : VK} (rs : RS X.K T.G.kt io st.n H s t) (R : Rl X.K T.G.kt T.ca io st H) (e : ev (T.cx d) (.cmp o a b) s st = .ok v st')
    (p : Post X.K T.G.kt T.ca io st H v st' Q) : tOp (oSem X (compareOp (copOf o))) (tSem X q) (tSem X r) t H Q := by
  simp only [ev] at e
  obtain ⟨x, st1, e1, e⟩ := bind_eq_ok.mp e
  obtain ⟨y, st2, e2, e⟩ := bind_eq_ok.mp e
  refine ha X sc ow _ A c1 s st x st1 io H t _ rs R e1 fun io1 H1 w u1 R1 r1 => ?_
  refine hb X sc ow _ A c2 s st1 y st2 io1 H1 t _ (rs.up u1) R1 e2 fun io2 H2 w2 u2 R2 r2 => ?_
  exact cop_ok A.hu R2 (r1.up u2) r2 e (p.after (u1.trans u2))
theorem se_cmp {o : Cop} {a b : E} (ha : SE T d N a) (hb : SE T d N b) : SE T d N (.cmp o a b) := by
  intro X sc ow q A hc s st v st' io H t Q rs R e p
  simp only [chE] at hc
  split at hc
  · simp only [Bool.and_eq_true, decide_eq_true_eq] at hc
    obtain ⟨⟨⟨rfl, c1⟩, c2⟩, c3⟩ := hc
    intro pins sh I
    exact (pe_cmpR op_sem pe_sem pe_sem (noset_in c3 _)).run pins sh t H Q I (cmp_read ha hb A c1 c2 rs R e p)
  · cases hc
theorem cop_bl {kt : List (List Val)} {o : Cop} {x y v : Val} {st st' : Store} (e : cop kt o x y st = .ok v st') : ∃ k, v = .bl k ∧ st' = st := by
  unfold cop at e
  split at e
  · split at e
    · cases e; exact ⟨_, rfl, rfl⟩
    · split at e
      · cases e; exact ⟨_, rfl, rfl⟩
      · cases e
  · obtain ⟨k, _, h, h'⟩ := okB_inv e; exact ⟨k, h, h'⟩
  · obtain ⟨k, _, h, h'⟩ := okB_inv e; exact ⟨k, h, h'⟩
  · obtain ⟨k, _, h, h'⟩ := okB_inv e; exact ⟨k, h, h'⟩
  all_goals (split at e <;> cases e; exact ⟨_, rfl, rfl⟩)
theorem cm2_read {o o2 : Cop} {a b c : E} (ha : SE T d N a) (hb : SE T d N b) (hd : SE T d N c) {X : Cx} {sc : Scope} {ow : Str → Bool} {q r z : Expr} (A : At T d X N sc ow) (c1 : chE T.nm N a sc q = true) (c2 : chE T.nm N b sc r = true) (c3 : chE T.nm N c sc z = true)
    {s : Env} {st : Store} {v : Val} {st' : Store} {io : Nat → Addr} {H : Hp} {t : L2.St} {Q : VK} (rs : RS X.K T.G.kt io st.n H s t) (R : Rl X.K T.G.kt T.ca io st H) (e : ev (T.cx d) (.cm2 o o2 a b c) s st = .ok v st')
    (p : Post X.K T.G.kt T.ca io st H v st' Q) : tChain (oSem X (compareOp (copOf o))) (oSem X (compareOp (copOf o2))) (tSem X q) (tSem X r) (tSem X z) t H Q := by
  simp only [ev] at e
  obtain ⟨x, st1, e1, e⟩ := bind_eq_ok.mp e
  obtain ⟨y, st2, e2, e⟩ := bind_eq_ok.mp e
  obtain ⟨m, st3, e3, e⟩ := bind_eq_ok.mp e
  refine ha X sc ow _ A c1 s st x st1 io H t _ rs R e1 fun io1 H1 w u1 R1 r1 => ?_
  refine hb X sc ow _ A c2 s st1 y st2 io1 H1 t _ (rs.up u1) R1 e2 fun io2 H2 w2 u2 R2 r2 => ?_
  refine cop_ok A.hu R2 (r1.up u2) r2 e3 fun io3 H3 w3 u3 R3 r3 => ?_
  have U := (u1.trans u2).trans u3
  split at e
  · obtain rfl := r3.ibl
    refine ⟨true, rfl, ?_⟩
    rw [if_pos rfl]
    obtain ⟨f, st4, e4, e⟩ := bind_eq_ok.mp e
    refine hd X sc ow _ A c3 s st3 f st4 io3 H3 t _ (rs.up U) R3 e4 fun io4 H4 w4 u4 R4 r4 => ?_
    exact cop_ok A.hu R4 (r2.up (u3.trans u4)) r4 e (p.after (U.trans u4))
  · obtain rfl := r3.ibl
    cases e
    refine ⟨false, rfl, ?_⟩
    rw [if_neg (by decide)]
    exact (p.after U).here R3 (.bl _)
  · cases e
theorem last_of {r z : Expr} {o o' : CmpOp} (h : noset z = true) : lastMarks [o, o'] [r, z] = false := noset_in h o'
theorem se_cm2 {o o2 : Cop} {a b c : E} (ha : SE T d N a) (hb : SE T d N b) (hd : SE T d N c) : SE T d N (.cm2 o o2 a b c) := by
  intro X sc ow q A hc s st v st' io H t Q rs R e p
  simp only [chE] at hc
  split at hc
  · simp only [Bool.and_eq_true, decide_eq_true_eq] at hc
    obtain ⟨⟨⟨⟨⟨⟨rfl, rfl⟩, c1⟩, c2⟩, c3⟩, c4⟩, c5⟩ := hc
    intro pins sh I
    exact (pe_chain op_sem op_sem pe_sem pe_sem pe_sem (last_of c5)).run pins sh t H Q I (cm2_read ha hb hd A c1 c2 c3 rs R e p)
  · cases hc
theorem isN_read {a : E} (ha : SE T d N a) {X : Cx} {sc : Scope} {ow : Str → Bool} {q : Expr} (A : At T d X N sc ow) (c1 : chE T.nm N a sc q = true)
    {s : Env} {st : Store} {v : Val} {st' : Store} {io : Nat → Addr} {H : Hp} {t : L2.St} {Q : VK} (rs : RS X.K T.G.kt io st.n H s t) (R : Rl X.K T.G.kt T.ca io st H) (e : ev (T.cx d) (.isN a) s st = .ok v st')
    (p : Post X.K T.G.kt T.ca io st H v st' Q) : tIsN (tSem X q) t H Q := by
  simp only [ev] at e
  obtain ⟨x, st1, e1, e⟩ := bind_eq_ok.mp e
  cases e
  refine ha X sc ow _ A c1 s st x _ io H t _ rs R e1 fun io1 H1 w u1 R1 r1 => ?_
  have q1 := (p.after u1).here R1 (.bl _)
  cases r1 <;> exact q1
theorem noN_read {a : E} (ha : SE T d N a) {X : Cx} {sc : Scope} {ow : Str → Bool} {q : Expr} (A : At T d X N sc ow) (c1 : chE T.nm N a sc q = true)
    {s : Env} {st : Store} {v : Val} {st' : Store} {io : Nat → Addr} {H : Hp} {t : L2.St} {Q : VK} (rs : RS X.K T.G.kt io st.n H s t) (R : Rl X.K T.G.kt T.ca io st H) (e : ev (T.cx d) (.noN a) s st = .ok v st')
    (p : Post X.K T.G.kt T.ca io st H v st' Q) : tNotN (tSem X q) t H Q := by
  simp only [ev] at e
  obtain ⟨x, st1, e1, e⟩ := bind_eq_ok.mp e
  cases e
  refine ha X sc ow _ A c1 s st x _ io H t _ rs R e1 fun io1 H1 w u1 R1 r1 => ?_
  have q1 := (p.after u1).here R1 (.bl _)
  cases r1 <;> exact q1
theorem se_isN {a : E} (ha : SE T d N a) : SE T d N (.isN a) := by
  intro X sc ow q A hc s st v st' io H t Q rs R e p
  simp only [chE] at hc
  split at hc
  · intro pins sh I
    exact (pe_cmp (pc_isN pe_sem)).run pins sh t H Q I (isN_read ha A hc rs R e p)
  · cases hc
theorem se_noN {a : E} (ha : SE T d N a) : SE T d N (.noN a) := by
  intro X sc ow q A hc s st v st' io H t Q rs R e p
  simp only [chE] at hc
  split at hc
  · intro pins sh I
    exact (pe_cmp (pc_notN pe_sem)).run pins sh t H Q I (noN_read ha A hc rs R e p)
  · cases hc
end
end CL

/-! CL, part g: more expressions; tests -/
namespace CL
open PySem PySem.Spec PyProof.Rows L2
section
variable {T : Tab} {d : Nat} {N : List Str}
/-- what and, or ask of the rest, be it one expression or more -/
theorem and_rest {b : E} (hb : SE T d N b) {X : Cx} {sc : Scope} {ow : Str → Bool} {r : Expr} {t : List Expr} {pos : Pos} {op : BoolOp} (A : At T d X N sc ow)
    (c : (match t with | [] => chE T.nm N b sc r = true | _ => chE T.nm N b sc (.BoolOp op (r :: t) pos) = true))
    {s : Env} {st : Store} {v : Val} {st' : Store} {io : Nat → Addr} {H : Hp} {t' : L2.St} {Q : VK} (rs : RS X.K T.G.kt io st.n H s t') (R : Rl X.K T.G.kt T.ca io st H) (e : ev (T.cx d) b s st = .ok v st')
    (p : Post X.K T.G.kt T.ca io st H v st' Q) : tSem X (.BoolOp op (r :: t) pos) t' H Q := by
  cases t with
  | nil =>
    intro pins sh I
    exact (pe_one pe_sem).run pins sh t' H Q I (hb X sc ow r A c s st v st' io H t' Q rs R e p)
  | cons t1 t2 => exact hb X sc ow _ A c s st v st' io H t' Q rs R e p
theorem se_and {a b : E} (ha : SE T d N a) (hb : SE T d N b) : SE T d N (.and a b) := by
  intro X sc ow q A hc s st v st' io H t Q rs R e p
  simp only [ev] at e
  obtain ⟨x, st1, e1, e⟩ := bind_eq_ok.mp e
  have go : ∀ (q1 r : Expr) (u : List Expr) (pos : Pos), chE T.nm N a sc q1 = true → (match u with | [] => chE T.nm N b sc r = true | _ => chE T.nm N b sc (.BoolOp .And (r :: u) pos) = true) → tSem X (.BoolOp .And (q1 :: r :: u) pos) t H Q := by
    intro q1 r u pos c1 c2 pins sh I
    refine (pe_and pe_sem pe_sem).run pins sh t H Q I ?_
    refine ha X sc ow q1 A c1 s st x st1 io H t _ rs R e1 fun io1 H1 w u1 R1 r1 => ?_
    split at e
    · obtain rfl := r1.ibl
      refine ⟨true, rfl, ?_⟩
      rw [if_pos rfl]
      exact and_rest hb A c2 (rs.up u1) R1 e (p.after u1)
    · obtain rfl := r1.ibl
      cases e
      refine ⟨false, rfl, ?_⟩
      rw [if_neg (by decide)]
      exact (p.after u1).here R1 (.bl _)
    · cases e
  simp only [chE] at hc
  split at hc
  · rw [Bool.and_eq_true] at hc; exact go _ _ [] _ hc.1 hc.2
  · rw [Bool.and_eq_true] at hc; exact go _ _ (_ :: _) _ hc.1 hc.2
  · cases hc
theorem se_or {a b : E} (ha : SE T d N a) (hb : SE T d N b) : SE T d N (.or a b) := by
  intro X sc ow q A hc s st v st' io H t Q rs R e p
  simp only [ev] at e
  obtain ⟨x, st1, e1, e⟩ := bind_eq_ok.mp e
  have go : ∀ (q1 r : Expr) (u : List Expr) (pos : Pos), chE T.nm N a sc q1 = true → (match u with | [] => chE T.nm N b sc r = true | _ => chE T.nm N b sc (.BoolOp .Or (r :: u) pos) = true) → tSem X (.BoolOp .Or (q1 :: r :: u) pos) t H Q := by
    intro q1 r u pos c1 c2 pins sh I
    refine (pe_or pe_sem pe_sem).run pins sh t H Q I ?_
    refine ha X sc ow q1 A c1 s st x st1 io H t _ rs R e1 fun io1 H1 w u1 R1 r1 => ?_
    split at e
    · obtain rfl := r1.ibl
      cases e
      refine ⟨true, rfl, ?_⟩
      rw [if_pos rfl]
      exact (p.after u1).here R1 (.bl _)
    · obtain rfl := r1.ibl
      refine ⟨false, rfl, ?_⟩
      rw [if_neg (by decide)]
      exact and_rest hb A c2 (rs.up u1) R1 e (p.after u1)
    · cases e
  simp only [chE] at hc
  split at hc
  · rw [Bool.and_eq_true] at hc; exact go _ _ [] _ hc.1 hc.2
  · rw [Bool.and_eq_true] at hc; exact go _ _ (_ :: _) _ hc.1 hc.2
  · cases hc
theorem se_not {a : E} (ha : SE T d N a) : SE T d N (.not a) := by
  intro X sc ow q A hc s st v st' io H t Q rs R e p
  simp only [chE] at hc
  split at hc
  · simp only [ev] at e
    obtain ⟨x, st1, e1, e⟩ := bind_eq_ok.mp e
    split at e
    · cases e
      intro pins sh I
      refine (pe_not pe_sem).run pins sh t H Q I ?_
      refine ha X sc ow _ A hc s st _ _ io H t _ rs R e1 fun io1 H1 w u1 R1 r1 => ?_
      obtain rfl := r1.ibl
      exact ⟨_, rfl, (p.after u1).here R1 (.bl _)⟩
    · cases e
  · cases hc
theorem se_ite {c : B} {a b : E} (hc' : SB T d N c) (ha : SE T d N a) (hb : SE T d N b) : SE T d N (.ite c a b) := by
  intro X sc ow q A hc s st v st' io H t Q rs R e p
  simp only [chE] at hc
  split at hc
  · simp only [Bool.and_eq_true] at hc
    simp only [ev] at e
    obtain ⟨k, st1, e1, e⟩ := bind_eq_ok.mp e
    intro pins sh I
    refine (pe_ifExp pt_sem pe_sem pe_sem).run pins sh t H Q I ?_
    refine hc' X sc ow _ A hc.1.1 s st k st1 io H t _ rs R e1 fun io1 H1 u1 R1 => ?_
    cases k with
    | true =>
      rw [if_pos rfl]
      exact ha X sc ow _ A hc.1.2 s st1 v st' io1 H1 t Q (rs.up u1) R1 e (p.after u1)
    | false =>
      rw [if_neg (by decide)]
      exact hb X sc ow _ A hc.2 s st1 v st' io1 H1 t Q (rs.up u1) R1 e (p.after u1)
  · cases hc
theorem se_sub {a b : E} (ha : SE T d N a) (hb : SE T d N b) : SE T d N (.sub a b) := by
  intro X sc ow q A hc s st v st' io H t Q rs R e p
  simp only [chE] at hc
  split at hc
  · simp only [Bool.and_eq_true] at hc
    simp only [ev] at e
    obtain ⟨x, st1, e1, e⟩ := bind_eq_ok.mp e
    obtain ⟨y, st2, e2, e⟩ := bind_eq_ok.mp e
    intro pins sh I
    refine (pe_ix ix_sem pe_sem pe_sem (plain_ix hc.2)).run pins sh t H Q I ?_
    refine ha X sc ow _ A hc.1.1 s st x st1 io H t _ rs R e1 fun io1 H1 w u1 R1 r1 => ?_
    refine hb X sc ow _ A hc.1.2 s st1 y st2 io1 H1 t _ (rs.up u1) R1 e2 fun io2 H2 w2 u2 R2 r2 => ?_
    exact sub_ok A.hu R2 (r1.up u2) r2 e (p.after (u1.trans u2))
  · cases hc
/-- a slice's part -/
def pSem (X : Cx) (e : Option Expr) : TO := fun σ H Q => ∀ (pins : List (Addr × Obj)) (s : Shared), Inv X pins σ H s → wpAny (model X.prog X.w) X.A (evalPart e X.env) (fun u s' => ∃ o H', Inv X pins σ H' s' ∧ IsPart u o ∧ Q o H') X.xe s
theorem po_sem {X : Cx} {e : Option Expr} : PO X e (pSem X e) := ⟨fun pins s σ H Q I h => h pins s I⟩
def SO (T : Tab) (d : Nat) (N : List Str) (e : Eo) : Prop := ∀ (X : Cx) (sc : Scope) (ow : Str → Bool) (p : Option Expr), At T d X N sc ow → chO T.nm N e sc p = true →
  ∀ (s : Env) (st : Store) (v : Option Val) (o : Option Int) (st' : Store) (io : Nat → Addr) (H : Hp) (t : L2.St) (Q : Option Int → Hp → Prop), RS X.K T.G.kt io st.n H s t → Rl X.K T.G.kt T.ca io st H → evo (T.cx d) e s st = .ok v st' → part v = some o →
    (∀ (io' : Nat → Addr) (H' : Hp), Up io st.n H io' st'.n H' → Rl X.K T.G.kt T.ca io' st' H' → Q o H') → pSem X p t H Q
theorem so_no : SO T d N .no := by
  intro X sc ow q A hc s st v o st' io H t Q rs R e eo p
  simp only [chO] at hc
  split at hc
  · simp only [evo] at e
    cases e
    cases eo
    intro pins sh I
    exact po_none.run pins sh t H Q I (p io H (.refl _ _ _) R)
  · cases hc
theorem so_so {a : E} (ha : SE T d N a) : SO T d N (.so a) := by
  intro X sc ow q A hc s st v o st' io H t Q rs R e eo p
  simp only [chO] at hc
  split at hc
  · simp only [evo] at e
    obtain ⟨x, st1, e1, e⟩ := bind_eq_ok.mp e
    cases e
    intro pins sh I
    refine (po_some pe_sem).run pins sh t H Q I ?_
    refine ha X sc ow _ A hc s st x _ io H t _ rs R e1 fun io1 H1 w u1 R1 r1 => ?_
    cases r1 with
    | int i => cases eo; exact ⟨i, rfl, p io1 H1 u1 R1⟩
    | _ => cases eo
  · cases hc
theorem se_cut {a : E} {lo hi : Eo} (ha : SE T d N a) (hl : SO T d N lo) (hh : SO T d N hi) : SE T d N (.cut a lo hi) := by
  intro X sc ow q A hc s st v st' io H t Q rs R e p
  simp only [chE] at hc
  split at hc
  · simp only [Bool.and_eq_true] at hc
    simp only [ev] at e
    obtain ⟨x, st1, e1, e⟩ := bind_eq_ok.mp e
    obtain ⟨l, st2, e2, e⟩ := bind_eq_ok.mp e
    obtain ⟨h, st3, e3, e⟩ := bind_eq_ok.mp e
    have hp : ∃ ol oh, part l = some ol ∧ part h = some oh := by
      unfold cutV at e
      split at e
      · rename_i ol oh el eh; exact ⟨ol, oh, el, eh⟩
      · cases e
    obtain ⟨ol, oh, el, eh⟩ := hp
    intro pins sh I
    refine (pe_slice sl_sem pe_sem po_sem po_sem).run pins sh t H Q I ?_
    refine ha X sc ow _ A hc.1.1 s st x st1 io H t _ rs R e1 fun io1 H1 w u1 R1 r1 => ?_
    refine hl X sc ow _ A hc.1.2 s st1 l ol st2 io1 H1 t _ (rs.up u1) R1 e2 el fun io2 H2 u2 R2 => ?_
    refine hh X sc ow _ A hc.2 s st2 h oh st3 io2 H2 t _ (rs.up (u1.trans u2)) R2 e3 eh fun io3 H3 u3 R3 => ?_
    exact cut_ok R3 (r1.up (u2.trans u3)) el eh e (p.after ((u1.trans u2).trans u3))
  · cases hc
/-- a[lo:hi:k] of a list -/
def tStL (K : PySem.W.Frag) (k : Int) (te : TE) (tl th : L2.St → Hp → (Option Int → Hp → Prop) → Prop) : TE := fun σ H Q => te σ H fun x H1 => tl σ H1 fun lo H2 => th σ H2 fun hi H3 => ∃ a xs, x = .ref a ∧ SqL K H3 a xs ∧ (pickL xs lo hi k).length ≤ sizeLine ∧ ∀ p, H3 p = none → Q (.ref p) (upd H3 p (.lst (pickL xs lo hi k)))
theorem pick_toArray (its : List Value) (lo hi : Option Int) (k : Int) : slicePick its.toArray lo hi (some k) = (pickL its lo hi k).toArray := by
  unfold slicePick pickL
  have e : (fun i : Nat => its.toArray[i]?) = fun i => its[i]? := by funext i; simp
  rw [List.size_toArray, e]
theorem vals_pickN : ∀ (ix : List Nat) {xs : List V} {us : List Value}, Vals xs us → Vals (ix.filterMap (xs[·]?)) (ix.filterMap (us[·]?))
  | [], _, _, _ => .nil
  | i :: r, xs, us, h => by
    rw [List.filterMap_cons, List.filterMap_cons]
    cases e : xs[i]? with
    | none =>
      have : us[i]? = none := by
        rw [List.getElem?_eq_none_iff] at e ⊢
        rw [← h.length]; exact e
      rw [this]; exact vals_pickN r h
    | some x =>
      obtain ⟨u, e2, ru⟩ := h.get e
      rw [e2]; exact .cons ru (vals_pickN r h)
theorem vals_pick {xs : List V} {us : List Value} (h : Vals xs us) (lo hi : Option Int) (k : Int) : Vals (pickL xs lo hi k) (pickL us lo hi k) := by
  unfold pickL
  rw [h.length]
  exact vals_pickN _ h
theorem rvs_pickN {K : PySem.W.Frag} {kt : List (List Val)} {io : Nat → Addr} {n : Nat} {H : Hp} : ∀ (ix : List Nat) {xs : List CL.Val} {ys : List V}, RVs K kt io n H xs ys → RVs K kt io n H (ix.filterMap (xs[·]?)) (ix.filterMap (ys[·]?))
  | [], _, _, _ => .nil
  | i :: r, xs, ys, h => by
    rw [List.filterMap_cons, List.filterMap_cons]
    cases e : xs[i]? with
    | none =>
      have : ys[i]? = none := by
        rw [List.getElem?_eq_none_iff] at e ⊢
        rw [← h.length]; exact e
      rw [this]; exact rvs_pickN r h
    | some x =>
      obtain ⟨u, e2, ru⟩ := h.get e
      rw [e2]; exact .cons ru (rvs_pickN r h)
theorem rvs_pick {K : PySem.W.Frag} {kt : List (List Val)} {io : Nat → Addr} {n : Nat} {H : Hp} {xs : List CL.Val} {ys : List V} (h : RVs K kt io n H xs ys) (lo hi : Option Int) (k : Int) : RVs K kt io n H (pickL xs lo hi k) (pickL ys lo hi k) := by
  unfold pickL
  rw [h.length]
  exact rvs_pickN _ h
theorem pe_stepL {X : Cx} {e : Expr} {lo hi : Option Expr} {st : Expr} {k : Int} {te : TE} {tl th : L2.St → Hp → (Option Int → Hp → Prop) → Prop} {p3 pos : Pos} (he : PE X e te) (hl : PO X lo tl) (hh : PO X hi th)
    (hk : k ≠ 0) (hst : ∀ (pins : List (Addr × Obj)) (s : Shared) (σ : L2.St) (H : Hp), Inv X pins σ H s → wpAny (model X.prog X.w) X.A (eval st X.env) (fun v s' => Inv X pins σ H s' ∧ IsPart v (some k)) X.xe s)
    (htl : ∀ (a b : Addr), subscripted (.Slice lo hi (some st) p3) false (.ref a) (.ref b) = operate [.ref a, .ref b] (getItem (.ref a) (.ref b))) :
    PE X (.Subscript e (.Slice lo hi (some st) p3) pos) (tStL X.K k te tl th) := by
  refine ⟨fun pins s σ H Q I h => ?_⟩
  refine Subscript_ (thn (he.run pins s σ H _ I h) fun v s1 ⟨x, H1, I1, r1, q1⟩ => ?_)
  refine wpAny_Slice (thn (hl.run pins s1 σ H1 _ I1 q1) fun vl s2 ⟨l, H2, I2, pl, q2⟩ => ?_)
  refine thn (hh.run pins s2 σ H2 _ I2 q2) fun vu s3 ⟨u, H3, I3, pu, a, xs, ex, hx, hz3, q⟩ => ?_
  subst ex
  cases r1
  refine thn (hst pins s3 σ H3 I3) fun vs s4 ⟨I4, ps⟩ => ?_
  have I5 : Inv X pins σ H3 { s4 with heap := s4.heap.push { cls := .type "slice", data := .fields #[vl, vu, vs] } } := I4.kept (t' := s4.toks) fun b ob q => Heap.get?_push_of_some _ q
  obtain ⟨its, r, ht, hz⟩ := I5.list hx
  have hlen := r.length
  show wpAny (model X.prog X.w) X.A (subscriptTail e (.Slice lo hi (some st) p3) (.ref a) (.ref s4.heap.objs.size)) (EP X pins σ Q) X.xe { s4 with heap := s4.heap.push { cls := .type "slice", data := .fields #[vl, vu, vs] } }
  refine tail_any (ops := [.ref a, .ref s4.heap.objs.size]) ht.isList.typeIs (PySem.slot_list_getitem.lookup) ?_ (htl _ _)
  refine wpAny_getItem_list_slice ht.isList (Heap.IsSliceOf.new _ vl vu vs) pl pu ps (fun z => hk (Option.some.inj z)) ?_ (by rw [List.size_toArray]; omega)
  rw [pick_toArray]
  refine ⟨.ref _, _, I5.laid (t' := s4.toks) (o := .lst (pickL xs l u k)) (fun b ob q => Heap.get?_push_of_some _ q) (Nat.le_refl _) ?_, rfl, q _ (I5.hok.fresh (Nat.le_refl _))⟩
  exact ⟨hz3, _, 0, vals_pick r l u k, Heap.get?_push_size _ rfl⟩
theorem part_int {X : Cx} {j : Int} {m : Nat} {p : Pos} (pins : List (Addr × Obj)) (s : Shared) (σ : L2.St) (H : Hp) (I : Inv X pins σ H s) : wpAny (model X.prog X.w) X.A (eval (.Constant (.int j) m p) X.env) (fun v s' => Inv X pins σ H s' ∧ IsPart v (some j)) X.xe s := by
  have hst : PO X (some (.Constant (.int j) m p)) (tPart (tC (.int j))) := po_some pe_int
  refine thn (hst.run pins s σ H (fun o H4 => o = some j ∧ H4 = H) I ⟨_, rfl, rfl, rfl⟩) fun vs s4 ⟨o, H4, I4, ps, eo, e4⟩ => ?_
  subst eo e4
  exact ⟨I4, ps⟩
theorem part_neg {X : Cx} {j : Int} {m : Nat} {p p2 : Pos} (pins : List (Addr × Obj)) (s : Shared) (σ : L2.St) (H : Hp) (I : Inv X pins σ H s) : wpAny (model X.prog X.w) X.A (eval (.UnaryOp .USub (.Constant (.int j) m p) p2) X.env) (fun v s' => Inv X pins σ H s' ∧ IsPart v (some (-j))) X.xe s := by
  have hst : PO X (some (.UnaryOp .USub (.Constant (.int j) m p) p2)) (tPart (tUn (rU fun i => .int (-i)) (tC (.int j)))) := po_some (pe_un un_neg pe_int)
  refine thn (hst.run pins s σ H (fun o H4 => o = some (-j) ∧ H4 = H) I ⟨j, rfl, -j, rfl, rfl, rfl⟩) fun vs s4 ⟨o, H4, I4, ps, eo, e4⟩ => ?_
  subst eo e4
  exact ⟨I4, ps⟩
theorem se_cut3 {a : E} {lo hi : Eo} {k : Int} (ha : SE T d N a) (hl : SO T d N lo) (hh : SO T d N hi) : SE T d N (.cut3 a lo hi k) := by
  intro X sc ow q A hc s st v st' io H t Q rs R e p
  simp only [chE] at hc
  simp only [ev] at e
  obtain ⟨x, st1, e1, e⟩ := bind_eq_ok.mp e
  obtain ⟨l, st2, e2, e⟩ := bind_eq_ok.mp e
  obtain ⟨h, st3, e3, e⟩ := bind_eq_ok.mp e
  have hp : ∃ ol oh, part l = some ol ∧ part h = some oh := by
    unfold cut3V at e
    split at e
    · rename_i ol oh el eh; exact ⟨ol, oh, el, eh⟩
    · cases e
  obtain ⟨ol, oh, el, eh⟩ := hp
  have fin : ∀ (io3 : Nat → Addr) (H3 : Hp) (w : V), Up io st.n H io3 st3.n H3 → Rl X.K T.G.kt T.ca io3 st3 H3 → RV X.K T.G.kt io3 st3.n H3 x w →
      ∃ a xs, w = .ref a ∧ SqL X.K H3 a xs ∧ (pickL xs ol oh k).length ≤ sizeLine ∧ ∀ p, H3 p = none → Q (.ref p) (upd H3 p (.lst (pickL xs ol oh k))) := by
    intro io3 H3 w u3 R3 r3
    unfold cut3V at e
    rw [el, eh] at e
    simp only at e
    split at e
    · split at e
      · rename_i xs em
        split at e
        · rename_i hf
          cases e
          obtain ⟨rfl, hi'⟩ := r3.iref
          obtain ⟨ys, sl, rs3, _⟩ := R3.list em
          have rp := rvs_pick rs3 ol oh k
          exact ⟨_, ys, rfl, sl, by rw [← rp.length]; exact fits_le hf.2, fun q hq => (p.after u3).list R3 rp q hq⟩
        · cases e
      · cases e
    · cases e
  split at hc
  · simp only [Bool.and_eq_true, decide_eq_true_eq] at hc
    obtain ⟨⟨⟨⟨rfl, hk⟩, c1⟩, c2⟩, c3⟩ := hc
    intro pins sh I
    refine (pe_stepL pe_sem po_sem po_sem hk part_int (fun _ _ => by with_unfolding_all rfl)).run pins sh t H Q I ?_
    refine ha X sc ow _ A c1 s st x st1 io H t _ rs R e1 fun io1 H1 w u1 R1 r1 => ?_
    refine hl X sc ow _ A c2 s st1 l ol st2 io1 H1 t _ (rs.up u1) R1 e2 el fun io2 H2 u2 R2 => ?_
    refine hh X sc ow _ A c3 s st2 h oh st3 io2 H2 t _ (rs.up (u1.trans u2)) R2 e3 eh fun io3 H3 u3 R3 => ?_
    exact fin io3 H3 w ((u1.trans u2).trans u3) R3 (r1.up (u2.trans u3))
  · simp only [Bool.and_eq_true, decide_eq_true_eq] at hc
    obtain ⟨⟨⟨⟨rfl, hk⟩, c1⟩, c2⟩, c3⟩ := hc
    intro pins sh I
    refine (pe_stepL pe_sem po_sem po_sem hk part_neg (fun _ _ => by with_unfolding_all rfl)).run pins sh t H Q I ?_
    refine ha X sc ow _ A c1 s st x st1 io H t _ rs R e1 fun io1 H1 w u1 R1 r1 => ?_
    refine hl X sc ow _ A c2 s st1 l ol st2 io1 H1 t _ (rs.up u1) R1 e2 el fun io2 H2 u2 R2 => ?_
    refine hh X sc ow _ A c3 s st2 h oh st3 io2 H2 t _ (rs.up (u1.trans u2)) R2 e3 eh fun io3 H3 u3 R3 => ?_
    exact fin io3 H3 w ((u1.trans u2).trans u3) R3 (r1.up (u2.trans u3))
  · cases hc
theorem se_fld {a : E} {f : Str} (ha : SE T d N a) : SE T d N (.fld a f) := by
  intro X sc ow q A hc s st v st' io H t Q rs R e p
  simp only [chE] at hc
  split at hc
  · simp only [Bool.and_eq_true, decide_eq_true_eq] at hc
    obtain ⟨⟨rfl, c1⟩, c2⟩ := hc
    simp only [ev] at e
    obtain ⟨x, st1, e1, e⟩ := bind_eq_ok.mp e
    intro pins sh I
    refine (pe_fld pe_sem (base_of c2 _)).run pins sh t H Q I ?_
    refine ha X sc ow _ A c1 s st x st1 io H t _ rs R e1 fun io1 H1 w u1 R1 r1 => ?_
    unfold getF at e
    split at e
    · obtain ⟨rfl, hi⟩ := r1.iref
      split at e
      · rename_i c fs em
        split at e
        · rename_i hf
          split at e
          · rename_i u el
            cases e
            obtain ⟨_, _, dx, gs, h1, rk⟩ := R1.inst em
            obtain ⟨cl, na⟩ := A.top.fl c f hf
            rcases rk.lookup f with ⟨e2, _⟩ | ⟨v', w', e2, e3, rv⟩
            · rw [el] at e2; cases e2
            · rw [el] at e2; cases e2
              exact ⟨_, _, dx, gs, w', rfl, h1, cl, na, e3, (p.after u1).here R1 rv⟩
          · cases e
        · cases e
      · cases e
    · cases e
  · cases hc
/-- a call of a def of the table -/
theorem sp_call {X : Cx} {f : Nat} {io : Nat → Addr} {st st' : Store} {H : Hp} {vs : List Val} {ws : List V} {v : Val} {Q : VK} {E : XK} {d' : Nat} {fd : FDef} (tp : Top T X.K X.mg) (hf : T.G.fn f = some fd)
    (R : Rl X.K T.G.kt T.ca io st H) (r : RVs X.K T.G.kt io st.n H vs ws) (e : callN T.G T.fuel d' f vs st = .ok v st') (p : Post X.K T.G.kt T.ca io st H v st' Q) :
    spF X.K T (callN T.G T.fuel d' f) (T.psn f).length ws H Q E := by
  refine ⟨?_, io, st, vs, v, st', R, r, e, p⟩
  cases d' with
  | zero => cases e
  | succ d' =>
    rw [callN_succ, hf] at e
    simp only at e
    unfold runF at e
    split at e
    · rename_i h; rw [← r.length, h]; exact (tp.fn f fd hf).2.1.symm
    · cases e
theorem call_fn {f : Nat} {vs : List Val} {st st' : Store} {v : Val} {d' : Nat} (e : callN T.G T.fuel d' f vs st = .ok v st') : ∃ fd, T.G.fn f = some fd := by
  cases d' with
  | zero => cases e
  | succ d' =>
    rw [callN_succ] at e
    split at e
    · rename_i fd h; exact ⟨fd, h⟩
    · cases e
theorem se_call {f : Nat} {es : Es} (hs : SA T d N es) : SE T d N (.call f es) := by
  intro X sc ow q A hc s st v st' io H t Q rs R e p
  simp only [chE] at hc
  split at hc
  · rename_i x p1 ps pos
    simp only [Bool.and_eq_true] at hc
    obtain ⟨⟨c1, c2⟩, c3⟩ := hc
    simp only [ev] at e
    obtain ⟨vs, st1, e1, e⟩ := bind_eq_ok.mp e
    have e : callN T.G T.fuel d f vs st1 = .ok v st' := e
    obtain ⟨fd, hf⟩ := call_fn e
    obtain ⟨hb, hl, hg⟩ := A.top.fn f fd hf
    obtain ⟨hm, hk⟩ := hg c2
    obtain ⟨rfl, _, hd⟩ := gB_ok c1
    have F := A.fns d (Nat.le_refl _) f fd hf
    have st_ := chEs_star c3
    intro pins sh I
    have read := hs X sc ow ps A c3 s st vs st1 io H t (fun ws H1 => spF X.K T (callN T.G T.fuel d f) (T.psn f).length (ws ++ []) H1 Q E0) rs R e1 fun io1 H1 ws u1 R1 r1 => by
      simp only [List.append_nil]
      exact sp_call A.top hf R1 r1 e (p.after u1)
    cases ps with
    | nil =>
      have r2 := read pos pins sh I
      refine (pe_call0 F A.room (A.gl c1) hm hk hb .nil pass0 hd).run pins sh t H Q I ?_
      cases es with
      | nil =>
        simp only [evs] at e1
        cases e1
        show spF _ _ _ _ ([] ++ []) H Q E0
        exact sp_call A.top hf R .nil e p
      | cons a b => simp [chEs] at c3
    | cons p2 ps =>
      rw [List.all_cons, Bool.and_eq_true] at st_
      exact (pe_call F A.room (A.gl c1) hm hk hb .nil pass0 pa_sem hd (star_cons st_.1) (star_any st_.2)).run pins sh t H Q I read
  · cases hc
theorem se_make {c : Nat} {es : Es} (hs : SA T d N es) : SE T d N (.make c es) := by
  intro X sc ow q A hc s st v st' io H t Q rs R e p
  simp only [chE] at hc
  split at hc
  · rename_i x p1 ps pos
    simp only [Bool.and_eq_true] at hc
    obtain ⟨c1, c3⟩ := hc
    simp only [ev] at e
    obtain ⟨vs, st1, e1, e⟩ := bind_eq_ok.mp e
    split at e
    · rename_i f hi
      obtain ⟨u, st2, e2, e⟩ := bind_eq_ok.mp e
      split at e
      · cases e
        cases d with
        | zero => cases e2
        | succ d =>
          have e2 : callN T.G T.fuel d f (.ref st1.n :: vs) (st1.new (.ins c [])) = .ok .non st' := e2
          have hi : T.G.ini c = some f := hi
          obtain ⟨hm, M, fd, hf⟩ := A.top.ini c f hi
          obtain ⟨hb, hl, _⟩ := A.top.fn f fd hf
          obtain ⟨rfl, _, hd⟩ := gB_ok c1
          have F := A.fns d (Nat.le_succ _) f fd hf
          have st_ := chEs_star c3
          have made : ∀ (io1 : Nat → Addr) (H1 : Hp) (ws : List V), Up io st.n H io1 st1.n H1 → Rl X.K T.G.kt T.ca io1 st1 H1 → RVs X.K T.G.kt io1 st1.n H1 vs ws → ∀ a dx, H1 a = none → H1 dx = none → dx ≠ a →
              spF X.K T (callN T.G T.fuel d f) (T.psn f).length (.ref a :: (ws ++ [])) (upd (upd H1 dx (.own a)) a (.ins (T.ca c) dx [])) (fun v H2 => v = .non ∧ Q (.ref a) H2) E0 := by
            intro io1 H1 ws u1 R1 r1 a dx ha hdx hne
            rw [List.append_nil]
            -- the dict's own place is laid first: nothing of the store
            have uo : Up io1 st1.n H1 io1 st1.n (upd H1 dx (.own a)) := ⟨Nat.le_refl _, fun _ _ => rfl, .new _ hdx⟩
            have Ro : Rl X.K T.G.kt T.ca io1 st1 (upd H1 dx (.own a)) := ⟨fun i hi => by
              obtain ⟨o, eo, ro⟩ := R1.ob i hi
              refine ⟨o, eo, ro.up uo fun hr => ?_⟩
              rw [hr] at ro
              obtain ⟨y, ey, _⟩ := ro.mutO
              exact upd_ne (ne_of_none ey hdx), R1.no, R1.inj⟩
            have ha' : upd H1 dx (.own a) a = none := by rw [upd_ne (Ne.symm hne)]; exact ha
            have un := Up.new (io := io1) (st := st1) (.ins (T.ca c) dx []) ha'
            have Rn := Ro.new (o := .ins c []) (u := .ins (T.ca c) dx []) ha' (.ins upd_same .nil)
            refine sp_call A.top hf Rn ?_ e2 fun io2 H2 w u2 R2 r2 => ?_
            · refine .cons ?_ (r1.up (uo.trans un))
              have h : RV X.K T.G.kt (ioNew io1 st1.n a) (st1.n + 1) (upd (upd H1 dx (.own a)) a (.ins (T.ca c) dx [])) (.ref st1.n) (.ref (ioNew io1 st1.n a st1.n)) := .ref (Nat.lt_succ_self _)
              rw [ioNew_at] at h; exact h
            · obtain rfl := r2.inon
              refine ⟨rfl, p io2 H2 _ ((u1.trans (uo.trans un)).trans u2) R2 ?_⟩
              have h : RV X.K T.G.kt io2 st'.n H2 (.ref st1.n) (.ref (io2 st1.n)) := .ref (Nat.lt_of_lt_of_le (Nat.lt_succ_self _) u2.le)
              rw [u2.io _ (Nat.lt_succ_self _), ioNew_at] at h; exact h
          intro pins sh I
          have read := hs X sc ow ps A c3 s st vs st1 io H t (fun ws H1 => ∀ a dx, H1 a = none → H1 dx = none → dx ≠ a →
              spF X.K T (callN T.G T.fuel d f) (T.psn f).length (.ref a :: (ws ++ [])) (upd (upd H1 dx (.own a)) a (.ins (T.ca c) dx [])) (fun v H2 => v = .non ∧ Q (.ref a) H2) E0) rs R e1 made
          cases ps with
          | nil =>
            refine (pe_make0 M F A.room (A.gl c1) hm hb .nil pass0 hd).run pins sh t H Q I ?_
            cases es with
            | nil =>
              simp only [evs] at e1
              cases e1
              exact made io H [] (.refl _ _ _) R .nil
            | cons a b => simp [chEs] at c3
          | cons p2 ps =>
            rw [List.all_cons, Bool.and_eq_true] at st_
            exact (pe_make M F A.room (A.gl c1) hm hb .nil pass0 pa_sem hd (star_cons st_.1) (star_any st_.2)).run pins sh t H Q I read
      · cases e
    · cases e
  · cases hc
end
end CL

/-! CL, part h: methods, built-ins, dict displays, tests -/
namespace CL
open PySem PySem.Spec PyProof.Rows L2
section
variable {T : Tab} {d : Nat} {N : List Str}
theorem se_met {a : E} {m : Str} {es : Es} (ha : SE T d N a) (hs : SA T d N es) : SE T d N (.met a m es) := by
  intro X sc ow q A hc s st v st' io H t Q rs R e p
  simp only [chE] at hc
  split at hc
  · rename_i q1 g ap ps pos
    simp only [Bool.and_eq_true, decide_eq_true_eq] at hc
    obtain ⟨⟨⟨⟨⟨rfl, c1⟩, c2⟩, c3⟩, c4⟩, c5⟩ := hc
    simp only [ev] at e
    obtain ⟨x, st1, e1, e⟩ := bind_eq_ok.mp e
    split at e
    · rename_i i
      split at e
      · rename_i k fs em
        split at e
        · rename_i hl
          split at e
          · rename_i f hm
            obtain ⟨vs, st2, e2, e⟩ := bind_eq_ok.mp e
            have e : callN T.G T.fuel d f (.ref i :: vs) st2 = .ok v st' := e
            have hm : T.G.mt k m = some f := hm
            obtain ⟨cl, mm, fd, hf⟩ := A.top.mt k m f hm
            obtain ⟨hb, _, _⟩ := A.top.fn f fd hf
            have F := A.fns d (Nat.le_refl _) f fd hf
            have st_ := chEs_star c5
            have he := meth_eval (o := q1) (m := m) (apos := ap) (pos := pos) (es := ps) (env := X.env) c2 st_ c3 (by omega)
            have fin : ∀ (io1 : Nat → Addr) (H1 : Hp) (w : V), Up io st.n H io1 st1.n H1 → Rl X.K T.G.kt T.ca io1 st1 H1 → RV X.K T.G.kt io1 st1.n H1 (.ref i) w → ∃ b dx gs, w = .ref b ∧ H1 b = some (.ins (T.ca k) dx gs) ∧ gs.lookup m = none ∧
                aSem X ps t H1 fun ws H2 => spF X.K T (callN T.G T.fuel d f) (T.psn f).length (w :: (ws ++ [])) H2 Q E0 := by
              intro io1 H1 w u1 R1 r1
              obtain ⟨rfl, hi⟩ := r1.iref
              obtain ⟨_, _, dx, gs, h1, rk⟩ := R1.inst em
              have hg : gs.lookup m = none := by
                rcases rk.lookup m with ⟨_, z⟩ | ⟨v', w', z, _, _⟩
                · exact z
                · rw [hl] at z; cases z
              refine ⟨_, dx, gs, rfl, h1, hg, ?_⟩
              refine hs X sc ow ps A c5 s st1 vs st2 io1 H1 t _ (rs.up u1) R1 e2 fun io2 H2 ws u2 R2 r2 => ?_
              simp only [List.append_nil]
              exact sp_call A.top hf R2 (.cons (r1.up u2) r2) e (p.after (u1.trans u2))
            intro pins sh I
            cases ps with
            | nil =>
              refine (pe_meth0 (pl := do return (← importBound q1 X.env).getD true) pe_sem cl mm F A.room hb .nil pass0 he).run pins sh t H Q I ?_
              refine ha X sc ow q1 A c1 s st _ st1 io H t _ rs R e1 fun io1 H1 w u1 R1 r1 => ?_
              obtain ⟨b, dx, gs, rfl, h1, h2, h3⟩ := fin io1 H1 w u1 R1 r1
              refine ⟨b, dx, gs, rfl, h1, h2, ?_⟩
              cases es with
              | nil =>
                simp only [evs] at e2
                cases e2
                show spF _ _ _ _ (.ref b :: ([] ++ [])) H1 Q E0
                exact sp_call A.top hf R1 (.cons r1 .nil) e (p.after u1)
              | cons a b => simp [chEs] at c5
            | cons p2 ps =>
              rw [List.all_cons, Bool.and_eq_true] at st_
              refine (pe_meth (pl := do return (← importBound q1 X.env).getD true) pe_sem cl mm F A.room hb .nil pass0 pa_sem (star_cons st_.1) (star_any st_.2) he).run pins sh t H Q I ?_
              exact ha X sc ow q1 A c1 s st _ st1 io H t _ rs R e1 fun io1 H1 w u1 R1 r1 => fin io1 H1 w u1 R1 r1
          · cases e
        · cases e
      · cases e
    · cases e
  · cases hc
theorem bm_slot (b : Bm) : Slot "list" (bmName b) (bmId b) ∧ typeOf (.builtin (bmId b)) = pure (.type "method_descriptor") := by
  cases b
  · exact ⟨PySem.F.slot_list_append, PySem.F.type_list_append⟩
  · exact ⟨PySem.F.slot_list_pop, PySem.F.type_list_pop⟩
  · exact ⟨PySem.F.slot_list_count, PySem.F.type_list_count⟩
  · exact ⟨PySem.F.slot_list_index, PySem.F.type_list_index⟩
theorem se_bm {b : Bm} {a : E} {es : Es} (ha : SE T d N a) (hs : SA T d N es) : SE T d N (.bm b a es) := by
  intro X sc ow q A hc s st v st' io H t Q rs R e p
  simp only [chE] at hc
  split at hc
  · rename_i q1 g ap ps pos
    simp only [Bool.and_eq_true, decide_eq_true_eq] at hc
    obtain ⟨⟨⟨⟨⟨rfl, c1⟩, c2⟩, c3⟩, c4⟩, c5⟩ := hc
    simp only [ev] at e
    obtain ⟨x, st1, e1, e⟩ := bind_eq_ok.mp e
    split at e
    · rename_i i
      split at e
      · rename_i xs em
        obtain ⟨vs, st2, e2, e⟩ := bind_eq_ok.mp e
        obtain ⟨sl, ty⟩ := bm_slot b
        have st_ := chEs_star c5
        intro pins sh I
        have ty1 : ∀ (io1 : Nat → Addr) (H1 : Hp) (w : V), Rl X.K T.G.kt T.ca io1 st1 H1 → RV X.K T.G.kt io1 st1.n H1 (.ref i) w → tyV X.K "list" w H1 := by
          intro io1 H1 w R1 r1
          obtain ⟨rfl, hi⟩ := r1.iref
          obtain ⟨ys, s1, _, _⟩ := R1.list em
          exact .inl ⟨rfl, ys, s1⟩
        cases ps with
        | nil =>
          refine (pe_bm0 PySem.F.plainAttrs_list sl ty mt_sem pe_sem (base_of c2 _) c3).run pins sh t H Q I ?_
          refine ha X sc ow q1 A c1 s st _ st1 io H t _ rs R e1 fun io1 H1 w u1 R1 r1 => ⟨ty1 io1 H1 w R1 r1, ?_⟩
          cases es with
          | nil =>
            simp only [evs] at e2
            cases e2
            exact bm_ok A.hu R1 r1 .nil e (p.after u1)
          | cons a b => simp [chEs] at c5
        | cons p2 ps =>
          have st2_ := st_
          rw [List.all_cons, Bool.and_eq_true] at st2_
          refine (pe_bm PySem.F.plainAttrs_list sl ty mt_sem pe_sem pa_sem (base_of c2 _) ?_ c3 (star_cons st2_.1) (star_any st2_.2)).run pins sh t H Q I ?_
          · rw [(star_map st_).1, (star_map (pos := pos) st_).2.2]
            show (true && true && decide ((p2 :: ps).length + 0 + 0 < 30)) = true
            simp only [Bool.true_and, decide_eq_true_eq]; omega
          · refine ha X sc ow q1 A c1 s st _ st1 io H t _ rs R e1 fun io1 H1 w u1 R1 r1 => ⟨ty1 io1 H1 w R1 r1, ?_⟩
            refine hs X sc ow _ A c5 s st1 vs st2 io1 H1 t _ (rs.up u1) R1 e2 fun io2 H2 ws u2 R2 r2 => ?_
            exact bm_ok A.hu R2 (r1.up u2) r2 e (p.after (u1.trans u2))
      · cases e
    · cases e
  · cases hc
theorem bf_some {b : Bf} {st st' : Store} {v : Val} (e : bfn b [] st = .ok v st') : False := by
  unfold bfn at e
  cases b <;> cases e
theorem bf_boot (b : Bf) : bootBuiltins (bfName b) = some (bfVal b) ∧ bfName b ≠ "__name__" := by
  cases b <;> exact ⟨by decide +kernel, by decide⟩
theorem bf_val (b : Bf) : (∃ id, bfVal b = .builtin id) ∨ ∃ n, bfVal b = .type n := by cases b <;> first | exact .inl ⟨_, rfl⟩ | exact .inr ⟨_, rfl⟩
theorem se_bf {b : Bf} {es : Es} (hs : SA T d N es) : SE T d N (.bf b es) := by
  intro X sc ow q A hc s st v st' io H t Q rs R e p
  simp only [chE] at hc
  split at hc
  · rename_i x p1 ps pos
    rw [Bool.and_eq_true] at hc
    obtain ⟨c1, c2⟩ := hc
    simp only [ev] at e
    obtain ⟨vs, st1, e1, e⟩ := bind_eq_ok.mp e
    obtain ⟨rfl, _, hd⟩ := gB_ok c1
    have st_ := chEs_star c2
    obtain ⟨b1, b2⟩ := bf_boot b
    have read := hs X sc ow ps A c2 s st vs st1 io H t (fun ws H1 => cSem X (bfVal b) ws H1 Q) rs R e1 fun io1 H1 ws u1 R1 r1 => bf_ok A.calm R1 r1 e (p.after u1)
    cases ps with
    | nil =>
      cases es with
      | nil =>
        simp only [evs] at e1
        cases e1
        exact (bf_some e).elim
      | cons a b => simp [chEs] at c2
    | cons p2 ps =>
      rw [List.all_cons, Bool.and_eq_true] at st_
      intro pins sh I
      rcases bf_val b with ⟨id, hv⟩ | ⟨n, hv⟩
      · rw [hv] at b1 read
        exact (pe_callB call_sem (A.gl c1) (A.top.bf b) b1 pa_sem b2 hd (star_cons st_.1) (star_any st_.2)).run pins sh t H Q I read
      · rw [hv] at b1 read
        exact (pe_callTy call_sem (A.gl c1) (A.top.bf b) b1 pa_sem b2 hd (star_cons st_.1) (star_any st_.2)).run pins sh t H Q I read
  · cases hc
theorem ty_boot (t : Ty) (h : tyB t = true) : bootBuiltins (Str.ofString (tyName t)) = some (.type (tyName t)) ∧ (Str.ofString (tyName t)) ≠ "__name__" := by
  cases t <;> first | exact ⟨by decide +kernel, by decide⟩ | cases h
theorem se_isi {a : E} {y : Ty} (ha : SE T d N a) : SE T d N (.isi a y) := by
  intro X sc ow q A hc s st v st' io H t Q rs R e p
  simp only [chE] at hc
  split at hc
  · rename_i x p1 q1 z p2 pos
    simp only [Bool.and_eq_true] at hc
    obtain ⟨⟨⟨⟨c1, c2⟩, c3⟩, c4⟩, c5⟩ := hc
    simp only [ev] at e
    obtain ⟨u, st1, e1, e⟩ := bind_eq_ok.mp e
    obtain ⟨k, e2, rfl, rfl⟩ := okB_inv e
    obtain ⟨rfl, _, hd⟩ := gB_ok c1
    obtain ⟨rfl, _, hd2⟩ := gB_ok c2
    obtain ⟨b1, b2⟩ := ty_boot y c3
    intro pins sh I
    refine (pe_callB (x := "isinstance") (id := "isinstance") call_sem (A.gl c1) A.top.isi (by decide +kernel) (pa_cons pe_sem (pa_cons (pe_bltn (A.gl c2) (A.top.ty y c3) b1 (v := .ty (tyName y)) rfl b2 hd2) pa_nil (by rfl)) (star_cons c5)) (by decide) hd (star_cons c5) (by rfl)).run pins sh t H Q I ?_
    refine ha X sc ow q1 A c4 s st u _ io H t _ rs R e1 fun io1 H1 w u1 R1 r1 => ?_
    refine isi_ok R1 r1 ?_ e2 ((p.after u1).here R1 (.bl _))
    cases y <;> first | exact trivial | cases c3
  · cases hc

/-! ### dict displays -/
def SPp (T : Tab) (d : Nat) (N : List Str) (ps : Ps) : Prop := ∀ (X : Cx) (sc : Scope) (ow : Str → Bool) (ks : List (Option Expr)) (vs : List Expr) (pos : Pos), At T d X N sc ow → chPs T.nm N ps sc ks vs = true →
  ∃ trs, PPs X pos ks vs trs ∧ ks.all (·.isSome) = true ∧ ks.length = vs.length ∧
  ∀ (s : Env) (st : Store) (rs : List (Val × Val)) (st' : Store) (io : Nat → Addr) (H : Hp) (t : L2.St) (Q : List (V × V) → Hp → Prop), RS X.K T.G.kt io st.n H s t → Rl X.K T.G.kt T.ca io st H → evp (T.cx d) ps s st = .ok rs st' →
    (∀ (io' : Nat → Addr) (H' : Hp) (ws : List (V × V)), Up io st.n H io' st'.n H' → Rl X.K T.G.kt T.ca io' st' H' → Paired (fun (p : Val × Val) (q : V × V) => RV X.K T.G.kt io' st'.n H' p.1 q.1 ∧ RV X.K T.G.kt io' st'.n H' p.2 q.2) rs ws → Q ws H') → tPairs trs t H Q
theorem sp_nil : SPp T d N .nil := by
  intro X sc ow ks vs pos A hc
  simp only [chPs] at hc
  split at hc
  · refine ⟨[], pps_nil, rfl, rfl, fun s st rs st' io H t Q r R e p => ?_⟩
    simp only [evp] at e
    cases e
    exact p io H [] (.refl _ _ _) R .nil
  · cases hc
theorem Paired.imp2 {α β : Type} {F G : α → β → Prop} {l1 : List α} {l2 : List β} (h : Paired F l1 l2) (f : ∀ a b, F a b → G a b) : Paired G l1 l2 := L2.Paired.mapP h f
theorem sp_cons {k v : E} {ps : Ps} (hk : SE T d N k) (hv : SE T d N v) (hp : SPp T d N ps) : SPp T d N (.cons k v ps) := by
  intro X sc ow ks vs pos A hc
  simp only [chPs] at hc
  split at hc
  · simp only [Bool.and_eq_true] at hc
    obtain ⟨trs, h1, h2, h3, h4⟩ := hp X sc ow _ _ pos A hc.2
    refine ⟨_, pps_cons pe_sem pe_sem h1, by rw [List.all_cons, h2]; rfl, by rw [List.length_cons, List.length_cons, h3], fun s st rs st' io H t Q r R e p => ?_⟩
    simp only [evp] at e
    obtain ⟨x, st1, e1, e⟩ := bind_eq_ok.mp e
    obtain ⟨y, st2, e2, e⟩ := bind_eq_ok.mp e
    obtain ⟨z, st3, e3, e⟩ := bind_eq_ok.mp e
    cases e
    refine hk X sc ow _ A hc.1.1 s st x st1 io H t _ r R e1 fun io1 H1 w u1 R1 r1 => ?_
    refine hv X sc ow _ A hc.1.2 s st1 y st2 io1 H1 t _ (r.up u1) R1 e2 fun io2 H2 w2 u2 R2 r2 => ?_
    refine h4 s st2 z _ io2 H2 t _ (r.up (u1.trans u2)) R2 e3 fun io3 H3 w3 u3 R3 r3 => ?_
    exact p io3 H3 _ ((u1.trans u2).trans u3) R3 (.cons ⟨r1.up (u2.trans u3), r2.up u3⟩ r3)
  · cases hc
theorem keyed_ok {K : PySem.W.Frag} {kt : List (List Val)} {io : Nat → Addr} {n : Nat} {H : Hp} : ∀ {rs : List (Val × Val)} {ws : List (V × V)} {kvs : List (Key × Val)},
    Paired (fun (p : Val × Val) (q : V × V) => RV K kt io n H p.1 q.1 ∧ RV K kt io n H p.2 q.2) rs ws → keyed rs = some kvs → ∃ kws : List (Key × V), ws = kws.map (fun kv => (kV kv.1, kv.2)) ∧ RKs K kt io n H kvs kws
  | _, _, _, .nil, e => by cases e; exact ⟨[], rfl, .nil⟩
  | (k, v) :: _, _, _, .cons h t, e => by
    unfold keyed at e
    split at e
    · rename_i k' r e1 e2
      cases e
      obtain ⟨kws, rfl, q⟩ := keyed_ok t e2
      have hk := key1_kV h.1 e1
      refine ⟨(k', _) :: kws, ?_, .cons h.2 q⟩
      rw [List.map_cons, ← hk]
    · cases e
theorem se_dic {ps : Ps} (hp : SPp T d N ps) : SE T d N (.dic ps) := by
  intro X sc ow q A hc s st v st' io H t Q rs R e p
  simp only [chE] at hc
  split at hc
  · rename_i ks vs pos
    simp only [Bool.and_eq_true, decide_eq_true_eq] at hc
    obtain ⟨trs, h1, h2, h3, h4⟩ := hp X sc ow ks vs pos A hc.1
    simp only [ev] at e
    obtain ⟨rr, st1, e1, e⟩ := bind_eq_ok.mp e
    split at e
    · rename_i kvs ek
      split at e
      · rename_i hz
        obtain ⟨z, st2, e2, e⟩ := bind_eq_ok.mp e
        obtain ⟨hr, rfl, rfl⟩ := wr_inv e2
        cases e
        intro pins sh I
        by_cases h0 : ks = []
        · subst h0
          cases ps with
          | cons _ _ _ => simp [chPs] at hc
          | nil =>
            have hv : vs = [] := by cases vs with
              | nil => rfl
              | cons _ _ => simp at h3
            subst hv
            simp only [evp] at e1
            cases e1
            cases ek
            refine pe_dnewK.run pins sh t H Q I fun a ha => ?_
            have R2 := R.new (o := .dK []) (u := .dK []) ha (.dK upd_same .nil)
            have hi : st.n < (st.new (.dK [])).n := Nat.lt_succ_self _
            have p2 := p.after (io1 := ioNew io st.n a) (st1 := st.new (.dK [])) (Up.new (.dK []) ha)
            have := p2.wrote (u := .dK []) (w := .ref a) R2 hi hr fun up => ⟨.dK upd_same .nil, by
              have h : RV X.K T.G.kt (ioNew io st.n a) (st.n + 1) (upd (upd H a (.dK [])) (ioNew io st.n a st.n) (.dK [])) (.ref st.n) (.ref (ioNew io st.n a st.n)) := .ref (Nat.lt_succ_self _)
              have h2 := h
              rw [show (V.ref (ioNew io st.n a st.n)) = V.ref a by rw [ioNew_at]] at h2
              exact h2⟩
            rw [ioNew_at, upd_upd] at this
            exact this
        · refine (pe_disp h1 h2 h3 h0 hc.2).run pins sh t H Q I fun a ha => ?_
          have R1 := R.new (o := .dK []) (u := .dK []) ha (.dK upd_same .nil)
          have u1 := Up.new (io := io) (st := st) (.dK []) ha
          refine h4 s (st.new (.dK [])) rr st1 (ioNew io st.n a) _ t _ (rs.up u1) R1 e1 fun io2 H2 ws u2 R2 r2 => ?_
          obtain ⟨kws, rfl, rk⟩ := keyed_ok r2 ek
          have ha2 : io2 st.n = a := by rw [u2.io _ (Nat.lt_succ_self _), ioNew_at]
          obtain ⟨kw0, _, q0, hl0⟩ := R2.dictK hz.1
          have hl1 := hl0 hr
          rw [ha2] at hl1
          cases q0
          refine ⟨hl1, kws, rfl, by rw [← rk.length]; exact hz.2, ?_⟩
          have hi : st.n < st1.n := Nat.lt_of_lt_of_le (Nat.lt_succ_self _) u2.le
          have := (p.after (u1.trans u2)).wrote (u := .dK (mergeK [] kws)) (w := .ref a) R2 hi hr fun up => ⟨.dK upd_same ((rk.merge .nil).up up), by
            have h : RV X.K T.G.kt io2 st1.n (upd H2 (io2 st.n) (.dK (mergeK [] kws))) (.ref st.n) (.ref (io2 st.n)) := .ref hi
            have h2 := h
            rw [show (V.ref (io2 st.n)) = V.ref a by rw [ha2]] at h2
            exact h2⟩
          rw [ha2] at this
          exact this
      · cases e
    · cases e
  · cases hc

/-! ### tests -/
theorem okO_inv {o : Option Bool} {k : Bool} {st st' : Store} (h : okO o st = .ok k st') : o = some k ∧ st' = st := by
  cases o with
  | none => cases h
  | some j => cases h; exact ⟨rfl, rfl⟩
theorem tru_bl {st : Store} {j k : Bool} (h : tru st (.bl j) = some k) : j = k := by cases h; rfl
/-- a test by the reading of its value, which is a truth -/
theorem post_bl {X : Cx} {io : Nat → Addr} {st st1 st' : Store} {H : Hp} {v : Val} {k : Bool} {Q : Bool → Hp → Prop} (e2 : okO (tru st1 v) st1 = .ok k st') (hb : ∃ j, v = .bl j) (p : PostB X.K T.G.kt T.ca io st H k st' Q) :
    Post X.K T.G.kt T.ca io st H v st1 (fun x H' => ∃ c, x = .bl c ∧ Q c H') := by
  intro io1 H1 w u1 R1 r1
  obtain ⟨j, rfl⟩ := hb
  obtain ⟨e3, rfl⟩ := okO_inv e2
  obtain rfl := tru_bl e3
  obtain rfl := r1.ibl
  exact ⟨_, rfl, p io1 H1 u1 R1⟩
theorem ev_cmp_bl {o : Cop} {a b : E} {s : Env} {st st' : Store} {v : Val} (e : ev (T.cx d) (.cmp o a b) s st = .ok v st') : ∃ j, v = .bl j := by
  simp only [ev] at e
  obtain ⟨x, st1, e1, e⟩ := bind_eq_ok.mp e
  obtain ⟨y, st2, e2, e⟩ := bind_eq_ok.mp e
  obtain ⟨k, h, _⟩ := cop_bl e
  exact ⟨k, h⟩
theorem ev_cm2_bl {o o2 : Cop} {a b c : E} {s : Env} {st st' : Store} {v : Val} (e : ev (T.cx d) (.cm2 o o2 a b c) s st = .ok v st') : ∃ j, v = .bl j := by
  simp only [ev] at e
  obtain ⟨x, st1, e1, e⟩ := bind_eq_ok.mp e
  obtain ⟨y, st2, e2, e⟩ := bind_eq_ok.mp e
  obtain ⟨z, st3, e3, e⟩ := bind_eq_ok.mp e
  split at e
  · obtain ⟨u, st4, e4, e⟩ := bind_eq_ok.mp e
    obtain ⟨k, h, _⟩ := cop_bl e
    exact ⟨k, h⟩
  · cases e; exact ⟨_, rfl⟩
  · cases e

theorem sb_cmp {o : Cop} {a b : E} (ha : SE T d N a) (hb : SE T d N b) : SB T d N (.of (.cmp o a b)) := by
  intro X sc ow q A hc s st k st' io H t Q rs R e p
  simp only [chB, Bool.and_eq_true] at hc
  replace hc := hc.1
  simp only [chE] at hc
  split at hc
  · simp only [Bool.and_eq_true, decide_eq_true_eq] at hc
    obtain ⟨⟨⟨rfl, c1⟩, c2⟩, c3⟩ := hc
    simp only [ts] at e
    obtain ⟨v, st1, e1, e2⟩ := bind_eq_ok.mp e
    intro pins sh I
    exact (pt_cmpR op_sem pe_sem pe_sem (noset_in c3 _)).run pins sh t H Q I (cmp_read ha hb A c1 c2 rs R e1 (post_bl e2 (ev_cmp_bl e1) p))
  · cases hc
theorem sb_cm2 {o o2 : Cop} {a b c : E} (ha : SE T d N a) (hb : SE T d N b) (hd : SE T d N c) : SB T d N (.of (.cm2 o o2 a b c)) := by
  intro X sc ow q A hc s st k st' io H t Q rs R e p
  simp only [chB, Bool.and_eq_true] at hc
  replace hc := hc.1
  simp only [chE] at hc
  split at hc
  · simp only [Bool.and_eq_true, decide_eq_true_eq] at hc
    obtain ⟨⟨⟨⟨⟨⟨rfl, rfl⟩, c1⟩, c2⟩, c3⟩, c4⟩, c5⟩ := hc
    simp only [ts] at e
    obtain ⟨v, st1, e1, e2⟩ := bind_eq_ok.mp e
    intro pins sh I
    exact (pt_chain op_sem op_sem pe_sem pe_sem pe_sem (last_of c5)).run pins sh t H Q I (cm2_read ha hb hd A c1 c2 c3 rs R e1 (post_bl e2 (ev_cm2_bl e1) p))
  · cases hc
theorem sb_isN {a : E} (ha : SE T d N a) : SB T d N (.of (.isN a)) := by
  intro X sc ow q A hc s st k st' io H t Q rs R e p
  simp only [chB, Bool.and_eq_true] at hc
  replace hc := hc.1
  simp only [chE] at hc
  split at hc
  · simp only [ts] at e
    obtain ⟨v, st1, e1, e2⟩ := bind_eq_ok.mp e
    have hb : ∃ j, v = .bl j := by
      simp only [ev] at e1
      obtain ⟨x, st2, _, e4⟩ := bind_eq_ok.mp e1
      cases e4; exact ⟨_, rfl⟩
    intro pins sh I
    exact (pt_cmp (pc_isN pe_sem)).run pins sh t H Q I (isN_read ha A hc rs R e1 (post_bl e2 hb p))
  · cases hc
theorem sb_noN {a : E} (ha : SE T d N a) : SB T d N (.of (.noN a)) := by
  intro X sc ow q A hc s st k st' io H t Q rs R e p
  simp only [chB, Bool.and_eq_true] at hc
  replace hc := hc.1
  simp only [chE] at hc
  split at hc
  · simp only [ts] at e
    obtain ⟨v, st1, e1, e2⟩ := bind_eq_ok.mp e
    have hb : ∃ j, v = .bl j := by
      simp only [ev] at e1
      obtain ⟨x, st2, _, e4⟩ := bind_eq_ok.mp e1
      cases e4; exact ⟨_, rfl⟩
    intro pins sh I
    exact (pt_cmp (pc_notN pe_sem)).run pins sh t H Q I (noN_read ha A hc rs R e1 (post_bl e2 hb p))
  · cases hc
theorem sb_plain {a : E} (ha : SE T d N a) (hp : isCmp a = false) : SB T d N (.of a) := by
  intro X sc ow q A hc s st k st' io H t Q rs R e p
  simp only [chB, Bool.and_eq_true] at hc
  obtain ⟨c1, c2⟩ := hc
  have c2 : plainT q = true := by
    rw [Bool.or_eq_true] at c2
    rcases c2 with c2 | c2
    · exact c2
    · rw [hp] at c2; cases c2
  simp only [ts] at e
  obtain ⟨v, st1, e1, e2⟩ := bind_eq_ok.mp e
  obtain ⟨e3, rfl⟩ := okO_inv e2
  intro pins sh I
  refine (pt_truth pe_sem (plain_true c2)).run pins sh t H Q I ?_
  exact ha X sc ow q A c1 s st v _ io H t _ rs R e1 fun io1 H1 w u1 R1 r1 => ⟨k, tru_ok R1 r1 e3, p io1 H1 u1 R1⟩
theorem sb_yes : SB T d N .yes := by
  intro X sc ow q A hc
  simp [chB] at hc
theorem sb_not {a : B} (ha : SB T d N a) : SB T d N (.not a) := by
  intro X sc ow q A hc s st k st' io H t Q rs R e p
  simp only [chB] at hc
  split at hc
  · simp only [ts] at e
    obtain ⟨j, st1, e1, e2⟩ := bind_eq_ok.mp e
    cases e2
    intro pins sh I
    refine (pt_not pt_sem).run pins sh t H Q I ?_
    exact ha X sc ow _ A hc s st j _ io H t _ rs R e1 fun io1 H1 u1 R1 => p io1 H1 u1 R1
  · cases hc
/-- the rest of a chain of tests -/
def wSem (X : Cx) (e : Expr) : TT := fun σ H Q => ∀ (whole : Sem Value) (pins : List (Addr × Obj)) (s : Shared), Inv X pins σ H s → wpAny (model X.prog X.w) X.A (isTrue e X.env whole) (TP X pins σ Q) X.xe s
theorem pw_sem {X : Cx} {e : Expr} : PW X e (wSem X e) := ⟨fun wh pins s σ H Q I h => h wh pins s I⟩
theorem bool_whole {X : Cx} {op : BoolOp} {es : List Expr} {pos : Pos} {σ : L2.St} {H : Hp} {Q : Bool → Hp → Prop} (h : bSem X (.BoolOp op es pos) σ H Q) : wSem X (.BoolOp op es pos) σ H Q := fun _ pins s I => h pins s I
theorem rest_and {b : B} (hb : SB T d N b) {X : Cx} {sc : Scope} {ow : Str → Bool} {r : Expr} {t : List Expr} {pos : Pos} (A : At T d X N sc ow)
    (c : (match t with | [] => chB T.nm N b sc r = true | _ => chB T.nm N b sc (.BoolOp .And (r :: t) pos) = true))
    {s : Env} {st : Store} {k : Bool} {st' : Store} {io : Nat → Addr} {H : Hp} {t' : L2.St} {Q : Bool → Hp → Prop} (rs : RS X.K T.G.kt io st.n H s t') (R : Rl X.K T.G.kt T.ca io st H) (e : ts (T.cx d) b s st = .ok k st')
    (p : PostB X.K T.G.kt T.ca io st H k st' Q) : wSem X (.BoolOp .And (r :: t) pos) t' H Q := by
  cases t with
  | nil =>
    intro wh pins sh I
    exact (pw_and1 pt_sem).run wh pins sh t' H Q I (hb X sc ow r A c s st k st' io H t' Q rs R e p)
  | cons t1 t2 => exact bool_whole (hb X sc ow _ A c s st k st' io H t' Q rs R e p)
theorem rest_or {b : B} (hb : SB T d N b) {X : Cx} {sc : Scope} {ow : Str → Bool} {r : Expr} {t : List Expr} {pos : Pos} (A : At T d X N sc ow)
    (c : (match t with | [] => chB T.nm N b sc r = true | _ => chB T.nm N b sc (.BoolOp .Or (r :: t) pos) = true))
    {s : Env} {st : Store} {k : Bool} {st' : Store} {io : Nat → Addr} {H : Hp} {t' : L2.St} {Q : Bool → Hp → Prop} (rs : RS X.K T.G.kt io st.n H s t') (R : Rl X.K T.G.kt T.ca io st H) (e : ts (T.cx d) b s st = .ok k st')
    (p : PostB X.K T.G.kt T.ca io st H k st' Q) : wSem X (.BoolOp .Or (r :: t) pos) t' H Q := by
  cases t with
  | nil =>
    intro wh pins sh I
    exact (pw_or1 pt_sem).run wh pins sh t' H Q I (hb X sc ow r A c s st k st' io H t' Q rs R e p)
  | cons t1 t2 => exact bool_whole (hb X sc ow _ A c s st k st' io H t' Q rs R e p)
theorem sb_and {a b : B} (ha : SB T d N a) (hb : SB T d N b) : SB T d N (.and a b) := by
  intro X sc ow q A hc s st k st' io H t Q rs R e p
  simp only [ts] at e
  obtain ⟨j, st1, e1, e⟩ := bind_eq_ok.mp e
  have go : ∀ (q1 r : Expr) (u : List Expr) (pos : Pos), chB T.nm N a sc q1 = true → (match u with | [] => chB T.nm N b sc r = true | _ => chB T.nm N b sc (.BoolOp .And (r :: u) pos) = true) → bSem X (.BoolOp .And (q1 :: r :: u) pos) t H Q := by
    intro q1 r u pos c1 c2 pins sh I
    refine (PW.pt (pw_and pt_sem pw_sem)).run pins sh t H Q I ?_
    refine ha X sc ow q1 A c1 s st j st1 io H t _ rs R e1 fun io1 H1 u1 R1 => ?_
    cases j with
    | true =>
      rw [if_pos rfl] at e ⊢
      exact rest_and hb A c2 (rs.up u1) R1 e (p.after u1)
    | false =>
      rw [if_neg (by decide)] at e ⊢
      cases e
      exact p io1 H1 u1 R1
  simp only [chB] at hc
  split at hc
  · rw [Bool.and_eq_true] at hc; exact go _ _ [] _ hc.1 hc.2
  · rw [Bool.and_eq_true] at hc; exact go _ _ (_ :: _) _ hc.1 hc.2
  · cases hc
theorem sb_or {a b : B} (ha : SB T d N a) (hb : SB T d N b) : SB T d N (.or a b) := by
  intro X sc ow q A hc s st k st' io H t Q rs R e p
  simp only [ts] at e
  obtain ⟨j, st1, e1, e⟩ := bind_eq_ok.mp e
  have go : ∀ (q1 r : Expr) (u : List Expr) (pos : Pos), chB T.nm N a sc q1 = true → (match u with | [] => chB T.nm N b sc r = true | _ => chB T.nm N b sc (.BoolOp .Or (r :: u) pos) = true) → bSem X (.BoolOp .Or (q1 :: r :: u) pos) t H Q := by
    intro q1 r u pos c1 c2 pins sh I
    refine (PW.pt (pw_or pt_sem pw_sem)).run pins sh t H Q I ?_
    refine ha X sc ow q1 A c1 s st j st1 io H t _ rs R e1 fun io1 H1 u1 R1 => ?_
    cases j with
    | true =>
      rw [if_pos rfl] at e ⊢
      cases e
      exact p io1 H1 u1 R1
    | false =>
      rw [if_neg (by decide)] at e ⊢
      exact rest_or hb A c2 (rs.up u1) R1 e (p.after u1)
  simp only [chB] at hc
  split at hc
  · rw [Bool.and_eq_true] at hc; exact go _ _ [] _ hc.1 hc.2
  · rw [Bool.and_eq_true] at hc; exact go _ _ (_ :: _) _ hc.1 hc.2
  · cases hc
end
end CL

/-! CL, part i: what is walked; targets; comprehensions -/
namespace CL
open PySem PySem.Spec PyProof.Rows L2

structure Wlk (K : PySem.W.Frag) (kt : List (List Val)) (ca io0 : Nat → Addr) (n0 : Nat) (H0 : Hp) (J : It) (xs : List Val) (w : Watch) : Prop where
  go : ∀ (i : Nat) (io : Nat → Addr) (st : Store) (H : Hp), Up io0 n0 H0 io st.n H → Rl K kt ca io st H → st.sees w = true → i < xs.length → J.go i H
  stop : ∀ (io : Nat → Addr) (st : Store) (H : Hp), Up io0 n0 H0 io st.n H → Rl K kt ca io st H → st.sees w = true → J.stop xs.length H
  yld : ∀ (i : Nat) (v : Val) (io : Nat → Addr) (st : Store) (H : Hp) (x : V) (H' : Hp), Up io0 n0 H0 io st.n H → Rl K kt ca io st H → st.sees w = true → xs[i]? = some v → J.yld i H x H' →
    Up io st.n H io st.n H' ∧ Rl K kt ca io st H' ∧ RV K kt io st.n H' v x
def wkSem (X : Cx) (tg it : Expr) : TI := fun σ H R => ∀ (pins : List (Addr × Obj)) (s : Shared), Inv X pins σ H s → wpAny (model X.prog X.w) X.A (eval it X.env) (fun v s1 => wpAny (model X.prog X.w) X.A (pyIter v) (PIE X pins σ tg R) X.xe s1) X.xe s
theorem pi_sem {X : Cx} {tg it : Expr} : PI X tg it (wkSem X tg it) := ⟨fun pins s σ H R I h => h pins s I⟩
def SI (T : Tab) (d : Nat) (N : List Str) (w : I) : Prop := ∀ (X : Cx) (sc : Scope) (ow : Str → Bool) (tg it : Expr), At T d X N sc ow → chI T.nm N w sc tg it = true →
  ∀ (s : Env) (st : Store) (p : List Val × Watch) (st' : Store) (io : Nat → Addr) (H : Hp) (t : L2.St) (R : It → Hp → Prop), RS X.K T.G.kt io st.n H s t → Rl X.K T.G.kt T.ca io st H → evw (T.cx d) w s st = .ok p st' →
    (∀ (io' : Nat → Addr) (H' : Hp) (J : It), Up io st.n H io' st'.n H' → Rl X.K T.G.kt T.ca io' st' H' → Wlk X.K T.G.kt T.ca io' st'.n H' J p.1 p.2 → R J H') → wkSem X tg it t H R

section
variable {K : PySem.W.Frag} {kt : List (List Val)} {ca io0 : Nat → Addr} {n0 : Nat} {H0 : Hp}
theorem sees1 {st : Store} {i : Nat} {xs : List Val} {w : Watch} (h : st.sees ((i, xs) :: w) = true) : st.m i = some (.lst xs) ∧ st.sees w = true := by
  unfold Store.sees at h
  rw [Bool.and_eq_true, decide_eq_true_eq] at h
  exact h
/-- a tuple laid: the store is as it was -/
theorem Rl.laid {io : Nat → Addr} {st : Store} {H : Hp} (R : Rl K kt ca io st H) {a : Addr} {ys : List V} (ha : H a = none) : Up io st.n H io st.n (upd H a (.tup ys)) ∧ Rl K kt ca io st (upd H a (.tup ys)) := by
  have up : Up io st.n H io st.n (upd H a (.tup ys)) := ⟨Nat.le_refl _, fun _ _ => rfl, .new _ ha⟩
  refine ⟨up, fun i hi => ?_, R.no, R.inj⟩
  obtain ⟨q, e, rq⟩ := R.ob i hi
  refine ⟨q, e, rq.up up fun hr => ?_⟩
  rw [hr] at rq
  obtain ⟨x, ex, _⟩ := rq.mutO
  exact upd_ne (ne_of_none ex ha)
theorem Rl.laidO {io : Nat → Addr} {st : Store} {H : Hp} (R : Rl K kt ca io st H) {a : Addr} (o : HO) (ha : H a = none) : Up io st.n H io st.n (upd H a o) ∧ Rl K kt ca io st (upd H a o) := by
  have up : Up io st.n H io st.n (upd H a o) := ⟨Nat.le_refl _, fun _ _ => rfl, .new _ ha⟩
  refine ⟨up, fun i hi => ?_, R.no, R.inj⟩
  obtain ⟨q, e, rq⟩ := R.ob i hi
  refine ⟨q, e, rq.up up fun hr => ?_⟩
  rw [hr] at rq
  obtain ⟨x, ex, _⟩ := rq.mutO
  exact upd_ne (ne_of_none ex ha)
theorem wlk_list {i : Nat} {xs : List Val} (hi : i < n0) : Wlk K kt ca io0 n0 H0 (Itl K (io0 i)) xs [(i, xs)] := by
  refine ⟨fun j io st H u R h hj => ?_, fun io st H u R h => ?_, fun j v io st H x H' u R h e y => ?_⟩
  · obtain ⟨ys, sl, rs, _⟩ := R.list (sees1 h).1
    rw [u.io i hi] at sl
    obtain ⟨w, ew, _⟩ := rs.get (List.getElem?_eq_getElem hj)
    exact ⟨ys, w, sl, ew⟩
  · obtain ⟨ys, sl, rs, _⟩ := R.list (sees1 h).1
    rw [u.io i hi] at sl
    exact ⟨ys, sl, by rw [rs.length]; exact Nat.le_refl _⟩
  · obtain ⟨ys, sl, rs, _⟩ := R.list (sees1 h).1
    rw [u.io i hi] at sl
    obtain ⟨rfl, q⟩ := y
    obtain ⟨w, ew, r⟩ := rs.get e
    have := q ys sl
    rw [ew] at this; cases this
    exact ⟨.refl _ _ _, R, r⟩
theorem wlk_tup {a : Addr} {xs : List Val} {ys : List V} (s : SqT K H0 a ys) (rs : RVs K kt io0 n0 H0 xs ys) : Wlk K kt ca io0 n0 H0 (Itt K a) xs [] := by
  refine ⟨fun j io st H u R h hj => ?_, fun io st H u R h => ?_, fun j v io st H x H' u R h e y => ?_⟩
  · obtain ⟨w, ew, _⟩ := rs.get (List.getElem?_eq_getElem hj)
    exact ⟨ys, w, u.ext.sqT s, ew⟩
  · exact ⟨ys, u.ext.sqT s, by rw [rs.length]; exact Nat.le_refl _⟩
  · obtain ⟨rfl, q⟩ := y
    obtain ⟨w, ew, r⟩ := rs.get e
    have := q ys (u.ext.sqT s)
    rw [ew] at this; cases this
    exact ⟨.refl _ _ _, R, r.up u⟩
theorem rangeL_len : ∀ (n : Nat) (lo : Int), (rangeL lo n).length = n
  | 0, _ => rfl
  | n + 1, lo => by unfold rangeL; rw [List.length_cons, rangeL_len n]
theorem rangeL_get : ∀ (n : Nat) (lo : Int) (i : Nat), i < n → (rangeL lo n)[i]? = some (.int (lo + i))
  | 0, _, _, h => absurd h (Nat.not_lt_zero _)
  | n + 1, lo, 0, _ => by unfold rangeL; simp
  | n + 1, lo, i + 1, h => by
    unfold rangeL
    rw [List.getElem?_cons_succ, rangeL_get n (lo + 1) i (by omega)]
    congr 2; push_cast; omega
theorem wlk_range {lo : Int} {n : Nat} : Wlk K kt ca io0 n0 H0 (Itr lo n) (rangeL lo n) [] := by
  refine ⟨fun j io st H u R h hj => ?_, fun io st H u R h => ?_, fun j v io st H x H' u R h e y => ?_⟩
  · rw [rangeL_len] at hj; exact hj
  · rw [rangeL_len]; exact Nat.le_refl _
  · obtain ⟨rfl, rfl⟩ := y
    have hj : j < n := by
      have := (List.getElem?_eq_some_iff.mp e).1
      rw [rangeL_len] at this; exact this
    rw [rangeL_get n lo j hj] at e
    cases e
    exact ⟨.refl _ _ _, R, .int _⟩
theorem enumL_len : ∀ (xs : List Val) (k : Int), (enumL k xs).length = xs.length
  | [], _ => rfl
  | x :: r, k => by unfold enumL; rw [List.length_cons, List.length_cons, enumL_len r]
theorem enumL_get : ∀ (xs : List Val) (k : Int) (i : Nat), (enumL k xs)[i]? = (xs[i]?).map fun x => .tup [.int (k + i), x]
  | [], _, _ => by unfold enumL; simp
  | x :: r, k, 0 => by unfold enumL; simp
  | x :: r, k, i + 1 => by
    unfold enumL
    rw [List.getElem?_cons_succ, List.getElem?_cons_succ, enumL_get r (k + 1) i]
    congr 2; funext y; congr 3; push_cast; omega
theorem wlk_enum {i : Nat} {xs : List Val} (hi : i < n0) : Wlk K kt ca io0 n0 H0 (Ite K (io0 i)) (enumL 0 xs) [(i, xs)] := by
  refine ⟨fun j io st H u R h hj => ?_, fun io st H u R h => ?_, fun j v io st H x H' u R h e y => ?_⟩
  · obtain ⟨ys, sl, rs, _⟩ := R.list (sees1 h).1
    rw [u.io i hi] at sl
    rw [enumL_len] at hj
    obtain ⟨w, ew, _⟩ := rs.get (List.getElem?_eq_getElem hj)
    exact ⟨ys, w, sl, ew⟩
  · obtain ⟨ys, sl, rs, _⟩ := R.list (sees1 h).1
    rw [u.io i hi] at sl
    rw [enumL_len]
    exact ⟨ys, sl, by rw [rs.length]; exact Nat.le_refl _⟩
  · obtain ⟨ys, sl, rs, _⟩ := R.list (sees1 h).1
    rw [u.io i hi] at sl
    rw [enumL_get] at e
    cases ex : xs[j]? with
    | none => rw [ex] at e; cases e
    | some z =>
      rw [ex] at e; cases e
      obtain ⟨a, x', rfl, ha, rfl, q⟩ := y
      obtain ⟨w, ew, r⟩ := rs.get ex
      have := q ys sl
      rw [ew] at this; cases this
      obtain ⟨u1, R1⟩ := R.laid (ys := [.int (j : Nat), _]) ha
      refine ⟨u1, R1, .tup (.inl upd_same) (.cons ?_ (.cons (r.up u1) .nil))⟩
      rw [Int.zero_add]; exact .int _
theorem wlk_enumT {a : Addr} {xs : List Val} {ys : List V} (sq : SqT K H0 a ys) (rs : RVs K kt io0 n0 H0 xs ys) : Wlk K kt ca io0 n0 H0 (IteM false K a) (enumL 0 xs) [] := by
  refine ⟨fun j io st H u R h hj => ?_, fun io st H u R h => ?_, fun j v io st H x H' u R h e y => ?_⟩
  · rw [enumL_len] at hj
    obtain ⟨w, ew, _⟩ := rs.get (List.getElem?_eq_getElem hj)
    exact ⟨ys, w, u.ext.sqT sq, ew⟩
  · rw [enumL_len]
    exact ⟨ys, u.ext.sqT sq, rs.length.symm⟩
  · rw [enumL_get] at e
    cases ex : xs[j]? with
    | none => rw [ex] at e; cases e
    | some z =>
      rw [ex] at e; cases e
      obtain ⟨a', x', rfl, ha, rfl, q⟩ := y
      obtain ⟨w, ew, r⟩ := rs.get ex
      have := q ys (u.ext.sqT sq)
      rw [ew] at this; cases this
      obtain ⟨u1, R1⟩ := R.laid (ys := [.int (j : Nat), _]) ha
      refine ⟨u1, R1, .tup (.inl upd_same) (.cons ?_ (.cons (r.up (u.trans u1)) .nil))⟩
      rw [Int.zero_add]; exact .int _
theorem zipL_len : ∀ (xs ys : List Val), (zipL xs ys).length = min xs.length ys.length
  | [], ys => by unfold zipL; simp
  | x :: r, [] => by unfold zipL; simp
  | x :: r, y :: t => by unfold zipL; rw [List.length_cons, List.length_cons, List.length_cons, zipL_len r t]; omega
theorem zipL_get : ∀ (xs ys : List Val) (i : Nat) (v : Val), (zipL xs ys)[i]? = some v → ∃ x y, xs[i]? = some x ∧ ys[i]? = some y ∧ v = .tup [x, y]
  | [], ys, i, v, h => by unfold zipL at h; simp at h
  | x :: r, [], i, v, h => by unfold zipL at h; simp at h
  | x :: r, y :: t, 0, v, h => by unfold zipL at h; simp at h; exact ⟨x, y, rfl, rfl, h.symm⟩
  | x :: r, y :: t, i + 1, v, h => by
    unfold zipL at h
    rw [List.getElem?_cons_succ] at h
    obtain ⟨a, b, h1, h2, h3⟩ := zipL_get r t i v h
    exact ⟨a, b, by rw [List.getElem?_cons_succ]; exact h1, by rw [List.getElem?_cons_succ]; exact h2, h3⟩
theorem wlk_zip {i k : Nat} {xs ys : List Val} (hi : i < n0) (hk : k < n0) : Wlk K kt ca io0 n0 H0 (Itz K (io0 i) (io0 k)) (zipL xs ys) [(i, xs), (k, ys)] := by
  refine ⟨fun j io st H u R h hj => ?_, fun io st H u R h => ?_, fun j v io st H x H' u R h e y => ?_⟩
  · obtain ⟨us, sl, rs, _⟩ := R.list (sees1 h).1
    obtain ⟨vs, sl2, rs2, _⟩ := R.list (sees1 (sees1 h).2).1
    rw [u.io i hi] at sl
    rw [u.io k hk] at sl2
    rw [zipL_len] at hj
    obtain ⟨w, ew, _⟩ := rs.get (List.getElem?_eq_getElem (show j < xs.length by omega))
    obtain ⟨w2, ew2, _⟩ := rs2.get (List.getElem?_eq_getElem (show j < ys.length by omega))
    exact ⟨us, vs, w, w2, sl, sl2, ew, ew2⟩
  · obtain ⟨us, sl, rs, _⟩ := R.list (sees1 h).1
    obtain ⟨vs, sl2, rs2, _⟩ := R.list (sees1 (sees1 h).2).1
    rw [u.io i hi] at sl
    rw [u.io k hk] at sl2
    refine ⟨us, vs, sl, sl2, ?_⟩
    rw [zipL_len, rs.length, rs2.length]; omega
  · obtain ⟨us, sl, rs, _⟩ := R.list (sees1 h).1
    obtain ⟨vs, sl2, rs2, _⟩ := R.list (sees1 (sees1 h).2).1
    rw [u.io i hi] at sl
    rw [u.io k hk] at sl2
    obtain ⟨z, z2, h1, h2, rfl⟩ := zipL_get _ _ _ _ e
    obtain ⟨a, x', y', rfl, ha, rfl, q, q2⟩ := y
    obtain ⟨w, ew, r⟩ := rs.get h1
    obtain ⟨w2, ew2, r2⟩ := rs2.get h2
    have := q us sl
    rw [ew] at this; cases this
    have := q2 vs sl2
    rw [ew2] at this; cases this
    obtain ⟨u1, R1⟩ := R.laid (ys := [_, _]) ha
    exact ⟨u1, R1, .tup (.inl upd_same) (.cons (r.up u1) (.cons (r2.up u1) .nil))⟩
theorem wlk_zipT {a b : Addr} {xs ys : List Val} {us vs : List V} (s : SqT K H0 a us) (rs : RVs K kt io0 n0 H0 xs us) (s2 : SqT K H0 b vs) (rs2 : RVs K kt io0 n0 H0 ys vs) : Wlk K kt ca io0 n0 H0 (RZ.ItzT K a b) (zipL xs ys) [] := by
  refine ⟨fun j io st H u R h hj => ?_, fun io st H u R h => ?_, fun j v io st H x H' u R h e y => ?_⟩
  · rw [zipL_len] at hj
    obtain ⟨w, ew, _⟩ := rs.get (List.getElem?_eq_getElem (show j < xs.length by omega))
    obtain ⟨w2, ew2, _⟩ := rs2.get (List.getElem?_eq_getElem (show j < ys.length by omega))
    exact ⟨us, vs, w, w2, u.ext.sqT s, u.ext.sqT s2, ew, ew2⟩
  · refine ⟨us, vs, u.ext.sqT s, u.ext.sqT s2, ?_⟩
    rw [zipL_len, rs.length, rs2.length]; omega
  · obtain ⟨z, z2, h1, h2, rfl⟩ := zipL_get _ _ _ _ e
    obtain ⟨a', x', y', rfl, ha, rfl, q, q2⟩ := y
    obtain ⟨w, ew, r⟩ := rs.get h1
    obtain ⟨w2, ew2, r2⟩ := rs2.get h2
    have := q us (u.ext.sqT s)
    rw [ew] at this; cases this
    have := q2 vs (u.ext.sqT s2)
    rw [ew2] at this; cases this
    obtain ⟨u1, R1⟩ := R.laid (ys := [_, _]) ha
    exact ⟨u1, R1, .tup (.inl upd_same) (.cons (r.up (u.trans u1)) (.cons (r2.up (u.trans u1)) .nil))⟩
theorem wlk_str {z : Str} : Wlk K kt ca io0 n0 H0 (Its z) (z.cps.toList.map fun c => .str ⟨#[c]⟩) [] := by
  refine ⟨fun j io st H u R h hj => ?_, fun io st H u R h => ?_, fun j v io st H x H' u R h e y => ?_⟩
  · rw [List.length_map, Array.length_toList] at hj; exact hj
  · rw [List.length_map, Array.length_toList]; exact Nat.le_refl _
  · obtain ⟨rfl, c, ec, rfl⟩ := y
    rw [List.getElem?_map, Array.getElem?_toList, ec] at e
    cases e
    exact ⟨.refl _ _ _, R, .str _⟩
end

section
variable {T : Tab} {d : Nat} {N : List Str}
theorem si_of {a : E} (ha : SE T d N a) : SI T d N (.of a) := by
  intro X sc ow tg it A hc s st q st' io H t Rr rs R e p
  simp only [chI] at hc
  simp only [evw] at e
  obtain ⟨v, st1, e1, e⟩ := bind_eq_ok.mp e
  have main := ha X sc ow it A hc s st v st1 io H t
  unfold walkOf at e
  intro pins sh I
  split at e
  · cases e
    refine (pi_tup pe_sem).run pins sh t H Rr I ?_
    refine main _ rs R e1 fun io1 H1 w u1 R1 r1 => ?_
    obtain ⟨a1, ys, rfl, sq, r⟩ := r1.itup
    exact ⟨a1, rfl, ⟨ys, sq.sqT⟩, p io1 H1 _ u1 R1 (wlk_tup sq.sqT r)⟩
  · cases e
    refine (pi_str pe_sem).run pins sh t H Rr I ?_
    refine main _ rs R e1 fun io1 H1 w u1 R1 r1 => ?_
    obtain rfl := r1.istr
    exact ⟨_, rfl, p io1 H1 _ u1 R1 wlk_str⟩
  · split at e
    · rename_i i xs em
      cases e
      refine (pi_list pe_sem).run pins sh t H Rr I ?_
      refine main _ rs R e1 fun io1 H1 w u1 R1 r1 => ?_
      obtain ⟨rfl, hi⟩ := r1.iref
      obtain ⟨ys, sl, r, _⟩ := R1.list em
      exact ⟨_, rfl, ⟨ys, sl⟩, p io1 H1 _ u1 R1 (wlk_list hi)⟩
    · cases e
  · cases e
theorem small62_ok {i : Int} (h : small62 i = true) : -(2 ^ 62) ≤ i ∧ i < 2 ^ 62 := by
  unfold small62 at h
  rw [Bool.and_eq_true, decide_eq_true_eq, decide_eq_true_eq] at h
  exact h
theorem small24_ok {i j : Int} (h : small24 i j = true) : RgOk i j := by
  unfold small24 at h
  rw [Bool.and_eq_true, Bool.and_eq_true, decide_eq_true_eq] at h
  exact ⟨(small62_ok h.1.1).1, (small62_ok h.1.1).2, (small62_ok h.1.2).1, (small62_ok h.1.2).2, h.2⟩
theorem rangeL_rv {K : PySem.W.Frag} {kt : List (List Val)} {io : Nat → Addr} {m : Nat} {H : Hp} : ∀ (n : Nat) (lo : Int), RVs K kt io m H (rangeL lo n) ((List.range n).map fun i => V.int (lo + (i : Nat)))
  | 0, _ => .nil
  | n + 1, lo => by
    rw [List.range_succ_eq_map, List.map_cons, List.map_map]
    unfold rangeL
    have h := rangeL_rv (K := K) (kt := kt) (io := io) (m := m) (H := H) n (lo + 1)
    have e : ((fun i : Nat => V.int (lo + 1 + (i : Nat)))) = ((fun i : Nat => V.int (lo + (i : Nat))) ∘ Nat.succ) := by
      funext i
      show V.int _ = V.int _
      congr 1
      have : ((Nat.succ i : Nat) : Int) = (i : Int) + 1 := by push_cast; rfl
      rw [this]; omega
    rw [e] at h
    exact .cons (by rw [show lo + ((0 : Nat) : Int) = lo by simp]; exact .int lo) h
theorem se_lrg1 {a : E} (ha : SE T d N a) : SE T d N (.lrg1 a) := by
  intro X sc ow q A hc s st v st' io H t Q rs R e p
  simp only [chE] at hc
  split at hc
  · rename_i x p1 y p2 q1 pos2 pos
    simp only [Bool.and_eq_true] at hc
    obtain ⟨⟨⟨c1, c2⟩, c3⟩, c4⟩ := hc
    simp only [ev] at e
    obtain ⟨u, st1, e1, e⟩ := bind_eq_ok.mp e
    split at e
    · split at e
      · rename_i hs
        cases e
        have g1 := A.gl c1
        have g2 := A.gl c2
        obtain ⟨rfl, _, _⟩ := gB_ok c1
        obtain ⟨rfl, _, _⟩ := gB_ok c2
        intro pins sh I
        refine (pe_listRg A.calm g1 (A.top.bf .list) (prg_1 g2 A.top.rng pe_sem (star_cons c4)) (star_cons rfl)).run pins sh t H Q I ?_
        refine ha X sc ow _ A c3 s st _ st1 io H t _ rs R e1 fun io1 H1 w u1 R1 r1 => ?_
        obtain rfl := r1.iint
        refine ⟨_, rfl, small24_ok hs, fun l hl => ?_⟩
        refine (p.after u1).list R1 ?_ l hl
        unfold rgV
        rw [Int.sub_zero]
        exact rangeL_rv _ _
      · cases e
    · cases e
  · cases hc
theorem litF_ok {G : Prog} {f : Nat} (h : litF G f = true) : ∃ fd, G.fn f = some fd ∧ litB fd.body = true ∧ fd.np = 0 := by
  unfold litF at h
  split at h
  · rename_i fd e
    rw [Bool.and_eq_true, decide_eq_true_eq] at h
    exact ⟨fd, e, h.1, h.2⟩
  · cases h
theorem se_dcall {f : Nat} : SE T d N (.dcall f) := by
  intro X sc ow q A hc s st v st' io H t Q rs R e p
  simp only [chE] at hc
  split at hc
  · rename_i x p1 y p2 pos2 pos
    simp only [Bool.and_eq_true] at hc
    obtain ⟨⟨c1, c2⟩, c3⟩ := hc
    simp only [ev] at e
    split at e
    · rename_i hlit
      obtain ⟨u, st1, e1, e⟩ := bind_eq_ok.mp e
      have e1 : callN T.G T.fuel d f [] st = .ok u st1 := e1
      unfold dictT at e
      cases u with
      | tup xs =>
        dsimp only at e
        split at e
        · rename_i kvs eb
          cases e
          obtain ⟨fd, hf, _, _⟩ := litF_ok hlit
          obtain ⟨hb, hl, hg⟩ := A.top.fn f fd hf
          obtain ⟨hm, hk⟩ := hg c3
          have g1 := A.gl c1
          have g2 := A.gl c2
          obtain ⟨rfl, _, hd1⟩ := gB_ok c1
          obtain ⟨rfl, _, hd2⟩ := gB_ok c2
          have F := A.dfs d (Nat.le_refl _) f hlit
          obtain ⟨b1, b2⟩ := bf_boot .dict
          intro pins sh I
          refine (pe_callTy (call_dictT A.calm) g1 (A.top.bf .dict) b1 (pa_cons (pe_call0 F A.room g2 hm hk hb .nil pass0 hd2) pa_nil (star_cons rfl)) b2 hd1 (star_cons rfl) (star_any rfl)).run pins sh t H Q I ?_
          refine ⟨rfl, io, st, xs, st1, R, e1, fun io1 H1 a o ys u1 R1 h1 h2 r1 => ?_⟩
          obtain ⟨ps, kws, rfl, hp, hk2⟩ := pairs_okV r1 eb
          exact ⟨a, o, ps, kws, rfl, h1, h2, hp, fun q hq => (p.after u1).made (u := .dK (mergeK [] kws)) R1 (fun a ha => .dK upd_same ((RKs.merge hk2 .nil).up (Up.new _ ha))) q hq⟩
        · cases e
      | _ => cases e
    · cases e
  · cases hc
theorem uniqI_mem : ∀ (is : List Int) (k : Int), k ∈ uniqI is ↔ k ∈ is
  | [], k => by simp [uniqI]
  | x :: r, k => by
    have ih := uniqI_mem r k
    unfold uniqI
    split
    · rename_i h
      rw [ih, List.mem_cons]
      exact ⟨.inr, fun z => z.elim (fun e => by rw [e]; exact h) id⟩
    · rw [List.mem_cons, List.mem_cons, ih]
theorem uniqI_nodup : ∀ is : List Int, (uniqI is).Nodup
  | [] => by simp [uniqI]
  | x :: r => by
    unfold uniqI
    split
    · exact uniqI_nodup r
    · rename_i h
      exact List.nodup_cons.mpr ⟨fun z => h ((uniqI_mem r x).mp z), uniqI_nodup r⟩
theorem uniq_sset {ns is : List Int} (h1 : ns.Pairwise (· < ·)) (h2 : ∀ k, k ∈ ns ↔ k ∈ is) : ns = (uniqI is).mergeSort (fun i j => decide (i ≤ j)) := by
  refine sort_uniq ?_ (h1.imp fun h => Int.le_of_lt h)
  have nd1 : ns.Nodup := h1.imp fun h => Int.ne_of_lt h
  have nd2 : (uniqI is).Nodup := uniqI_nodup is
  refine (List.perm_ext_iff_of_nodup nd1 nd2).mpr fun k => ?_
  rw [h2 k, uniqI_mem]
theorem se_sset {a : E} (ha : SE T d N a) : SE T d N (.sset a) := by
  intro X sc ow q A hc s st v st' io H t Q rs R e p
  simp only [chE] at hc
  split at hc
  · rename_i x p1 y p2 q1 pos2 pos
    simp only [Bool.and_eq_true] at hc
    obtain ⟨⟨⟨c1, c2⟩, c3⟩, c4⟩ := hc
    simp only [ev] at e
    obtain ⟨u, st1, e1, e⟩ := bind_eq_ok.mp e
    unfold ssetV at e
    split at e
    · split at e
      · rename_i is eb
        split at e
        · rename_i hlen
          cases e
          have g1 := A.gl c1
          have g2 := A.gl c2
          obtain ⟨rfl, _, hd1⟩ := gB_ok c1
          obtain ⟨rfl, _, hd2⟩ := gB_ok c2
          obtain ⟨b1, b2⟩ := bf_boot .sorted
          obtain ⟨b3, b4⟩ := bf_boot .set
          intro pins sh I
          refine (pe_callB (cr_sortedSet A.calm) g1 (A.top.bf .sorted) b1 (pa_cons (pe_callTy (cr_setT A.calm) g2 (A.top.bf .set) b3 (pa_cons pe_sem pa_nil (star_cons c4)) b4 hd2 (star_cons c4) (star_any rfl)) pa_nil (star_cons rfl)) b2 hd1 (star_cons rfl) (star_any rfl)).run pins sh t H Q I ?_
          refine ha X sc ow _ A c3 s st _ st1 io H t _ rs R e1 fun io1 H1 w u1 R1 r1 => ?_
          obtain ⟨l, ys, rfl, sq, rs1⟩ := r1.itup
          obtain rfl := ints_ok rs1 eb
          refine ⟨l, is, rfl, sq.sqT, by have : (64 : Nat) < scanBound := by decide
                                         omega, fun q c hcl hq => ?_⟩
          refine ⟨q, _, c, rfl, upd_same, by omega, fun ns' q2 h1 h2 h3 hq2 => ?_⟩
          obtain ⟨u2, R2⟩ := R1.laidO (SetO X.w q (fun j => decide (j ∈ is)) c) hq
          rw [uniq_sset (is := is) h1 (fun k => by rw [h2 k, decide_eq_true_eq])]
          exact ((p.after u1).after u2).list R2 (ints_rvs _) q2 hq2
        · cases e
      · cases e
    · cases e
  · cases hc
theorem se_lrg2 {a b : E} (ha : SE T d N a) (hb : SE T d N b) : SE T d N (.lrg2 a b) := by
  intro X sc ow q A hc s st v st' io H t Q rs R e p
  simp only [chE] at hc
  split at hc
  · simp only [Bool.and_eq_true] at hc
    obtain ⟨⟨⟨⟨⟨c1, c2⟩, c3⟩, c4⟩, c5⟩, c6⟩ := hc
    simp only [ev] at e
    obtain ⟨u, st1, e1, e⟩ := bind_eq_ok.mp e
    obtain ⟨u2, st2, e2, e⟩ := bind_eq_ok.mp e
    split at e
    · split at e
      · rename_i hs
        cases e
        have g1 := A.gl c1
        have g2 := A.gl c2
        obtain ⟨rfl, _, _⟩ := gB_ok c1
        obtain ⟨rfl, _, _⟩ := gB_ok c2
        intro pins sh I
        refine (pe_listRg A.calm g1 (A.top.bf .list) (prg_2 g2 A.top.rng pe_sem pe_sem (star_cons c4) (star_cons c6) (by rw [star_cons c6]; rfl)) (star_cons rfl)).run pins sh t H Q I ?_
        refine ha X sc ow _ A c3 s st _ st1 io H t _ rs R e1 fun io1 H1 w u1 R1 r1 => ?_
        refine hb X sc ow _ A c5 s st1 _ _ io1 H1 t _ (rs.up u1) R1 e2 fun io2 H2 w2 u2 R2 r2 => ?_
        obtain rfl := r1.iint
        obtain rfl := r2.iint
        refine ⟨_, _, rfl, rfl, small24_ok hs, fun l hl => ?_⟩
        refine (p.after (u1.trans u2)).list R2 ?_ l hl
        exact rangeL_rv _ _
      · cases e
    · cases e
  · cases hc
theorem se_lzip {a b : E} (ha : SE T d N a) (hb : SE T d N b) : SE T d N (.lzip a b) := by
  intro X sc ow q A hc s st v st' io H t Q rs R e p
  simp only [chE] at hc
  split at hc
  · simp only [Bool.and_eq_true] at hc
    obtain ⟨⟨⟨⟨⟨c1, c2⟩, c3⟩, c4⟩, c5⟩, c6⟩ := hc
    simp only [ev] at e
    obtain ⟨u, st1, e1, e⟩ := bind_eq_ok.mp e
    obtain ⟨u2, st2, e2, e⟩ := bind_eq_ok.mp e
    split at e
    · rename_i xs ys ex ey
      cases e
      have g1 := A.gl c1
      have g2 := A.gl c2
      obtain ⟨rfl, _, _⟩ := gB_ok c1
      obtain ⟨rfl, _, _⟩ := gB_ok c2
      intro pins sh I
      refine (pe_lzip g1 (A.top.bf .list) g2 A.top.zip pe_sem pe_sem (star_cons rfl) (star_cons c4) (star_cons c6) (by rw [star_cons c6]; rfl)).run pins sh t H Q I ?_
      refine ha X sc ow _ A c3 s st _ st1 io H t _ rs R e1 fun io1 H1 w u1 R1 r1 => ?_
      refine hb X sc ow _ A c5 s st1 _ _ io1 H1 t _ (rs.up u1) R1 e2 fun io2 H2 w2 u2 R2 r2 => ?_
      exact zip_ok A.calm R2 (r1.up u2) r2 ex ey (p.after (u1.trans u2))
    · cases e
  · cases hc
theorem si_rg1 {a : E} (ha : SE T d N a) : SI T d N (.rg1 a) := by
  intro X sc ow tg it A hc s st q st' io H t Rr rs R e p
  simp only [chI] at hc
  split at hc
  · simp only [Bool.and_eq_true] at hc
    obtain ⟨⟨c1, c2⟩, c3⟩ := hc
    simp only [evw] at e
    obtain ⟨v, st1, e1, e⟩ := bind_eq_ok.mp e
    split at e
    · split at e
      · rename_i hs
        cases e
        have g := A.gl c1
        obtain ⟨rfl, _, _⟩ := gB_ok c1
        intro pins sh I
        refine (pi_range1 g A.top.rng (pa_cons pe_sem pa_nil (star_cons c3)) (star_cons c3)).run pins sh t H Rr I ?_
        refine ha X sc ow _ A c2 s st _ _ io H t _ rs R e1 fun io1 H1 w u1 R1 r1 => ?_
        obtain rfl := r1.iint
        exact ⟨_, rfl, (small62_ok hs).1, (small62_ok hs).2, p io1 H1 _ u1 R1 wlk_range⟩
      · cases e
    · cases e
  · cases hc
theorem si_rg2 {a b : E} (ha : SE T d N a) (hb : SE T d N b) : SI T d N (.rg2 a b) := by
  intro X sc ow tg it A hc s st q st' io H t Rr rs R e p
  simp only [chI] at hc
  split at hc
  · simp only [Bool.and_eq_true] at hc
    obtain ⟨⟨⟨⟨c1, c2⟩, c3⟩, c4⟩, c5⟩ := hc
    simp only [evw] at e
    obtain ⟨v, st1, e1, e⟩ := bind_eq_ok.mp e
    obtain ⟨v2, st2, e2, e⟩ := bind_eq_ok.mp e
    split at e
    · split at e
      · rename_i hs
        cases e
        rw [Bool.and_eq_true] at hs
        have g := A.gl c1
        obtain ⟨rfl, _, _⟩ := gB_ok c1
        intro pins sh I
        refine (pi_range2 g A.top.rng (pa_cons pe_sem (pa_cons pe_sem pa_nil (star_cons c5)) (star_cons c3)) (by rw [star_cons c3, star_cons c5]; rfl) (star_cons c5)).run pins sh t H Rr I ?_
        refine ha X sc ow _ A c2 s st _ st1 io H t _ rs R e1 fun io1 H1 w u1 R1 r1 => ?_
        refine hb X sc ow _ A c4 s st1 _ _ io1 H1 t _ (rs.up u1) R1 e2 fun io2 H2 w2 u2 R2 r2 => ?_
        obtain rfl := r1.iint
        obtain rfl := r2.iint
        exact ⟨_, _, rfl, ⟨(small62_ok hs.1).1, (small62_ok hs.1).2, (small62_ok hs.2).1, (small62_ok hs.2).2⟩, p io2 H2 _ (u1.trans u2) R2 wlk_range⟩
      · cases e
    · cases e
  · cases hc
theorem tup_of {tg : Expr} (h : tupB tg = true) : ∃ es k pos, tg = .Tuple es k pos := by
  cases tg <;> first | exact ⟨_, _, _, rfl⟩ | cases h
theorem si_enu {a : E} (ha : SE T d N a) : SI T d N (.enu a) := by
  intro X sc ow tg it A hc s st q st' io H t Rr rs R e p
  simp only [chI] at hc
  split at hc
  · simp only [Bool.and_eq_true] at hc
    obtain ⟨⟨⟨c1, c2⟩, c3⟩, c4⟩ := hc
    obtain ⟨es, k, tp, rfl⟩ := tup_of c4
    simp only [evw] at e
    obtain ⟨v, st1, e1, e⟩ := bind_eq_ok.mp e
    split at e
    · rename_i xs
      cases e
      have g := A.gl c1
      obtain ⟨rfl, _, _⟩ := gB_ok c1
      intro pins sh I
      refine (pi_enumM g A.top.enu (pa_cons pe_sem pa_nil (star_cons c3)) (star_cons c3)).run pins sh t H Rr I ?_
      refine ha X sc ow _ A c2 s st _ _ io H t _ rs R e1 fun io1 H1 w u1 R1 r1 => ?_
      obtain ⟨a1, ys, rfl, sq, r⟩ := r1.itup
      exact ⟨false, _, ys, rfl, sq.sqT, p io1 H1 _ u1 R1 (wlk_enumT sq.sqT r)⟩
    · split at e
      · rename_i i xs em
        cases e
        have g := A.gl c1
        obtain ⟨rfl, _, _⟩ := gB_ok c1
        intro pins sh I
        refine (pi_enum g A.top.enu (pa_cons pe_sem pa_nil (star_cons c3)) (star_cons c3)).run pins sh t H Rr I ?_
        refine ha X sc ow _ A c2 s st _ _ io H t _ rs R e1 fun io1 H1 w u1 R1 r1 => ?_
        obtain ⟨rfl, hi⟩ := r1.iref
        obtain ⟨ys, sl, r, _⟩ := R1.list em
        exact ⟨_, ys, rfl, sl, p io1 H1 _ u1 R1 (wlk_enum hi)⟩
      · cases e
    · cases e
  · cases hc
section
variable {K : PySem.W.Frag} {kt : List (List Val)} {ca io0 : Nat → Addr} {n0 : Nat} {H0 : Hp}
/-- a value that is walked, as it stands later -/
theorem src_later {io : Nat → Addr} {st : Store} {H : Hp} {x : Val} {xs : List Val} {w : V} (R : Rl K kt ca io st H) (r : RV K kt io st.n H x w) (e : itemsOf x st = some xs) :
    ∃ (k : Bool) (a : Addr), w = .ref a ∧ (∃ us, SqK k K H a us) ∧ ∀ (io' : Nat → Addr) (st' : Store) (H' : Hp), Up io st.n H io' st'.n H' → Rl K kt ca io' st' H' → st'.sees (wOf x xs) = true → ∃ us, SqK k K H' a us ∧ RVs K kt io' st'.n H' xs us := by
  cases x with
  | tup ys =>
    cases e
    obtain ⟨a, us, rfl, sq, rs⟩ := r.itup
    exact ⟨false, a, rfl, ⟨us, sq.sqT⟩, fun io' st' H' u _ _ => ⟨us, u.ext.sqT sq.sqT, rs.up u⟩⟩
  | ref i =>
    obtain ⟨rfl, hi⟩ := r.iref
    have em : st.m i = some (.lst xs) := by
      have e : st.lst i = some xs := e
      unfold Store.lst at e
      split at e
      · cases e; assumption
      · cases e
    obtain ⟨us, sl, _, _⟩ := R.list em
    refine ⟨true, io i, rfl, ⟨us, sl⟩, fun io' st' H' u R' h => ?_⟩
    obtain ⟨us, sl, rs, _⟩ := R'.list (sees1 h).1
    rw [u.io i hi] at sl
    exact ⟨us, sl, rs⟩
  | _ => cases e
theorem sees_app {st : Store} : ∀ {w v : Watch}, st.sees (w ++ v) = true → st.sees w = true ∧ st.sees v = true
  | [], _, h => ⟨rfl, h⟩
  | (i, xs) :: r, v, h => by
    rw [List.cons_append, Store.sees, Bool.and_eq_true] at h
    have := sees_app h.2
    exact ⟨by rw [Store.sees, Bool.and_eq_true]; exact ⟨h.1, this.1⟩, this.2⟩
theorem wlk_zipM {k l : Bool} {a b : Addr} {xs ys : List Val} {w v : Watch}
    (s1 : ∀ (io' : Nat → Addr) (st' : Store) (H' : Hp), Up io0 n0 H0 io' st'.n H' → Rl K kt ca io' st' H' → st'.sees w = true → ∃ us, SqK k K H' a us ∧ RVs K kt io' st'.n H' xs us)
    (s2 : ∀ (io' : Nat → Addr) (st' : Store) (H' : Hp), Up io0 n0 H0 io' st'.n H' → Rl K kt ca io' st' H' → st'.sees v = true → ∃ us, SqK l K H' b us ∧ RVs K kt io' st'.n H' ys us) : Wlk K kt ca io0 n0 H0 (ItM k l K a b) (zipL xs ys) (w ++ v) := by
  refine ⟨fun j io st H u R h hj => ?_, fun io st H u R h => ?_, fun j v io st H x H' u R h e y => ?_⟩
  · obtain ⟨us, sl, rs⟩ := s1 io st H u R (sees_app h).1
    obtain ⟨vs, sl2, rs2⟩ := s2 io st H u R (sees_app h).2
    rw [zipL_len] at hj
    obtain ⟨w, ew, _⟩ := rs.get (List.getElem?_eq_getElem (show j < xs.length by omega))
    obtain ⟨w2, ew2, _⟩ := rs2.get (List.getElem?_eq_getElem (show j < ys.length by omega))
    exact ⟨us, vs, w, w2, sl, sl2, ew, ew2⟩
  · obtain ⟨us, sl, rs⟩ := s1 io st H u R (sees_app h).1
    obtain ⟨vs, sl2, rs2⟩ := s2 io st H u R (sees_app h).2
    refine ⟨us, vs, sl, sl2, ?_⟩
    rw [zipL_len, rs.length, rs2.length]
  · obtain ⟨us, sl, rs⟩ := s1 io st H u R (sees_app h).1
    obtain ⟨vs, sl2, rs2⟩ := s2 io st H u R (sees_app h).2
    obtain ⟨z, z2, h1, h2, rfl⟩ := zipL_get _ _ _ _ e
    obtain ⟨a, x', y', rfl, ha, rfl, q, q2⟩ := y
    obtain ⟨w, ew, r⟩ := rs.get h1
    obtain ⟨w2, ew2, r2⟩ := rs2.get h2
    have := q us sl
    rw [ew] at this; cases this
    have := q2 vs sl2
    rw [ew2] at this; cases this
    obtain ⟨u1, R1⟩ := R.laid (ys := [_, _]) ha
    exact ⟨u1, R1, .tup (.inl upd_same) (.cons (r.up u1) (.cons (r2.up u1) .nil))⟩
end
theorem si_zip {a b : E} (ha : SE T d N a) (hb : SE T d N b) : SI T d N (.zip a b) := by
  intro X sc ow tg it A hc s st q st' io H t Rr rs R e p
  simp only [chI] at hc
  split at hc
  · simp only [Bool.and_eq_true] at hc
    obtain ⟨⟨⟨⟨⟨c1, c2⟩, c3⟩, c4⟩, c5⟩, c6⟩ := hc
    obtain ⟨es, k, tp, rfl⟩ := tup_of c6
    simp only [evw] at e
    obtain ⟨v, st1, e1, e⟩ := bind_eq_ok.mp e
    obtain ⟨v2, st2, e2, e⟩ := bind_eq_ok.mp e
    have g := A.gl c1
    obtain ⟨rfl, _, _⟩ := gB_ok c1
    intro pins sh I
    refine (pi_zipM g A.top.zip (pa_cons pe_sem (pa_cons pe_sem pa_nil (star_cons c5)) (star_cons c3)) (star_cons c3) (star_any (by simp [c5]))).run pins sh t H Rr I ?_
    refine ha X sc ow _ A c2 s st _ st1 io H t _ rs R e1 fun io1 H1 w u1 R1 r1 => ?_
    refine hb X sc ow _ A c4 s st1 _ _ io1 H1 t _ (rs.up u1) R1 e2 fun io2 H2 w2 u2 R2 r2 => ?_
    split at e
    · rename_i em em2
      cases e
      obtain ⟨k1, a1, e3, ⟨us, sl⟩, g1⟩ := src_later R2 (r1.up u2) em
      obtain ⟨k2, a2, e4, ⟨vs, sl2⟩, g2⟩ := src_later R2 r2 em2
      exact ⟨k1, k2, a1, a2, us, vs, by rw [e3, e4], sl, sl2, p io2 H2 _ (u1.trans u2) R2 (wlk_zipM g1 g2)⟩
    · cases e
  · cases hc

/-! ### targets -/
def setAllV : List Nat → List V → L2.St → L2.St
  | i :: is, v :: vs, s => setAllV is vs (s.set i (some v))
  | _, _, s => s
def setTgV (t : Tg) (w : V) (ws : List V) (s : L2.St) : L2.St := match t with
  | .one i => s.set i (some w)
  | .many is => setAllV is ws s
def tgIx : Tg → List Nat
  | .one i => [i]
  | .many is => is
theorem setAll_rs {K : PySem.W.Frag} {kt : List (List Val)} {io : Nat → Addr} {n : Nat} {H : Hp} : ∀ {is : List Nat} {vs : List Val} {ws : List V} {s s' : Env} {t : L2.St}, RS K kt io n H s t → RVs K kt io n H vs ws → setAll is vs s = some s' → RS K kt io n H s' (setAllV is ws t) ∧ is.length = ws.length
  | [], [], _, s, s', t, r, .nil, e => by cases e; exact ⟨r, rfl⟩
  | i :: is, v :: vs, _, s, s', t, r, .cons a b, e => by
    obtain ⟨h1, h2⟩ := setAll_rs (r.set a i) b e
    exact ⟨h1, by rw [List.length_cons, List.length_cons, h2]⟩
  | [], v :: vs, _, s, s', t, r, .cons a b, e => by cases e
  | i :: is, [], _, s, s', t, r, .nil, e => by cases e
/-- names stored one after another -/
theorem names_pgs {X : Cx} {sc : Scope} {ow : Str → Bool} (A : At T d X N sc ow) : ∀ {is : List Nat} {es : List Expr}, namesB N sc ow is es = true → ∃ g, PGs X es g ∧ (assignEach es X.env).length = is.length ∧ (assignEach es X.env).findIdx? (·.1) = none ∧
    ∀ (ws : List V) (t : L2.St) (H : Hp) (Q : L2.St → Hp → Prop), is.length = ws.length → Q (setAllV is ws t) H → g ws t H Q
  | [], [], _ => ⟨_, pgs_nil, rfl, rfl, fun ws t H Q hl q => by
      cases ws with
      | nil => exact ⟨rfl, q⟩
      | cons _ _ => cases hl⟩
  | i :: is, .Name x pos :: es, h => by
    unfold namesB at h
    rw [Bool.and_eq_true] at h
    obtain ⟨g, h1, h2, h3, h4⟩ := names_pgs A h.2
    have hs := h.1
    unfold stB at hs
    rw [Bool.and_eq_true, decide_eq_true_eq] at hs
    obtain ⟨l1, l2⟩ := locB_ok hs.2
    have pn : PG X (.Name x pos) (gName i) := pg_name (by rw [A.hN]; exact A.nd) (by rw [A.hN]; exact hs.1) (by rw [A.hsc]; exact l1) (by rw [A.hsc]; exact l2.imp (A.how x) id)
    refine ⟨_, pgs_cons pn h1 (by rfl), ?_, ?_, fun ws t H Q hl q => ?_⟩
    · show ((false, _) :: assignEach es X.env).length = _
      rw [List.length_cons, List.length_cons, h2]
    · show ((false, assign (.Name x pos) X.env) :: assignEach es X.env).findIdx? (·.1) = none
      rw [List.findIdx?_cons, h3]; rfl
    · cases ws with
      | nil => cases hl
      | cons w ws => exact ⟨w, ws, rfl, h4 ws _ H Q (by simpa using hl) q⟩
  | [], _ :: _, h => by unfold namesB at h; cases h
  | _ :: _, [], h => by unfold namesB at h; cases h
theorem tg_pg {X : Cx} {sc : Scope} {ow : Str → Bool} (A : At T d X N sc ow) {tt : Tg} {tg : Expr} (h : tgB N sc ow tt tg = true) : ∃ g, PG X tg g ∧
    ∀ (v : Val) (s s' : Env) (io : Nat → Addr) (n : Nat) (H : Hp) (w : V) (t : L2.St) (Q : L2.St → Hp → Prop), RS X.K T.G.kt io n H s t → RV X.K T.G.kt io n H v w → setTg tt v s = some s' →
      (∀ ws, RS X.K T.G.kt io n H s' (setTgV tt w ws t) → Q (setTgV tt w ws t) H) → g w t H Q := by
  cases tt with
  | one i =>
    cases tg with
    | Name x pos =>
      unfold tgB at h
      unfold stB at h
      rw [Bool.and_eq_true, decide_eq_true_eq] at h
      obtain ⟨l1, l2⟩ := locB_ok h.2
      refine ⟨_, pg_name (by rw [A.hN]; exact A.nd) (by rw [A.hN]; exact h.1) (by rw [A.hsc]; exact l1) (by rw [A.hsc]; exact l2.imp (A.how x) id), fun v s s' io n H w t Q rs r e q => ?_⟩
      cases e
      exact q [] (rs.set r i)
    | _ => cases h
  | many is =>
    cases tg with
    | Tuple es k pos =>
      unfold tgB at h
      obtain ⟨g, h1, h2, h3, h4⟩ := names_pgs A h
      refine ⟨_, pg_tup A.calm h1 h2 h3, fun v s s' io n H w t Q rs r e q => ?_⟩
      unfold setTg at e
      cases r with
      | tup sq rr =>
        obtain ⟨z, hl⟩ := setAll_rs rs rr e
        exact ⟨_, _, rfl, sq.sqT, hl.symm, h4 _ t H Q hl (q _ z)⟩
      | _ => cases e
    | _ => cases h
end
end CL

/-! CL, part j: comprehensions; statements -/
namespace CL
open PySem PySem.Spec PyProof.Rows L2
section
variable {T : Tab} {d : Nat} {N : List Str}
theorem wipe_get {s : L2.St} {i : Nat} : ∀ {vs : List Nat}, (L2.wipe s vs)[i]? = if i ∈ vs then (if i < s.length then some none else none) else s[i]?
  | [] => by simp [L2.wipe]
  | v :: vs => by
    unfold L2.wipe
    rw [List.getElem?_set, wipe_get (vs := vs), wipe_length]
    by_cases h : v = i
    · subst h; simp
    · have : ¬ i = v := fun z => h z.symm
      simp [h, this]
theorem setAllV_get : ∀ {is : List Nat} {ws : List V} {s : L2.St} {j : Nat}, j ∉ is → (setAllV is ws s)[j]? = s[j]?
  | [], ws, s, j, _ => by cases ws <;> rfl
  | i :: is, [], s, j, _ => rfl
  | i :: is, w :: ws, s, j, h => by
    simp only [List.mem_cons, not_or] at h
    show (setAllV is ws (s.set i (some w)))[j]? = _
    rw [setAllV_get h.2, List.getElem?_set_ne (fun z => h.1 z.symm)]
theorem setAllV_len : ∀ {is : List Nat} {ws : List V} {s : L2.St}, (setAllV is ws s).length = s.length
  | [], ws, s => by cases ws <;> rfl
  | i :: is, [], s => rfl
  | i :: is, w :: ws, s => by
    show (setAllV is ws (s.set i (some w))).length = _
    rw [setAllV_len, List.length_set]
theorem setTgV_get {tt : Tg} {w : V} {ws : List V} {s : L2.St} {j : Nat} (h : j ∉ tgIx tt) : (setTgV tt w ws s)[j]? = s[j]? := by
  cases tt with
  | one i =>
    have : ¬ i = j := fun z => h (by simp [tgIx, z])
    show (s.set i (some w))[j]? = _
    rw [List.getElem?_set_ne this]
  | many is => exact setAllV_get h
theorem setTgV_len {tt : Tg} {w : V} {ws : List V} {s : L2.St} : (setTgV tt w ws s).length = s.length := by
  cases tt with
  | one i => exact List.length_set
  | many is => exact setAllV_len
theorem wipe_set {tt : Tg} {w : V} {ws : List V} {s : L2.St} {vs : List Nat} (h : ∀ i ∈ tgIx tt, i ∈ vs) : L2.wipe (setTgV tt w ws (L2.wipe s vs)) vs = L2.wipe s vs := by
  apply List.ext_getElem?
  intro i
  rw [wipe_get, wipe_get, setTgV_len, wipe_length]
  by_cases hi : i ∈ vs
  · simp [hi]
  · rw [if_neg hi, if_neg hi, setTgV_get (fun z => hi (h i z)), wipe_get, if_neg hi]
theorem names_own {sc : Scope} {ow : Str → Bool} : ∀ {is : List Nat} {es : List Expr}, namesB N sc ow is es = true → ∀ i ∈ is, ∃ x, N[i]? = some x
  | [], _, _, i, h => absurd h (by simp)
  | i :: is, .Name x pos :: es, h, j, hj => by
    unfold namesB at h
    rw [Bool.and_eq_true] at h
    have hs := h.1
    unfold stB at hs
    rw [Bool.and_eq_true, decide_eq_true_eq] at hs
    rcases List.mem_cons.mp hj with rfl | hj
    · exact ⟨x, hs.1⟩
    · exact names_own h.2 j hj
  | i :: is, [], h, _, _ => by unfold namesB at h; cases h
theorem tg_own {sc : Scope} {ow : Str → Bool} {tt : Tg} {tg : Expr} (h : tgB N sc ow tt tg = true) : ∀ i ∈ tgIx tt, i ∈ (tgOwn N tt).map (·.2) := by
  cases tt with
  | one i =>
    cases tg with
    | Name x pos =>
      unfold tgB at h
      unfold stB at h
      rw [Bool.and_eq_true, decide_eq_true_eq] at h
      intro j hj
      have : j = i := by simpa [tgIx] using hj
      subst this
      simp [tgOwn, h.1]
    | _ => cases h
  | many is =>
    cases tg with
    | Tuple es k pos =>
      unfold tgB at h
      intro j hj
      have hj : j ∈ is := hj
      obtain ⟨x, hx⟩ := names_own h j hj
      rw [List.mem_map]
      refine ⟨(x, j), ?_, rfl⟩
      show (x, j) ∈ is.filterMap _
      rw [List.mem_filterMap]
      exact ⟨j, hj, by rw [hx]⟩
    | _ => cases h
/-- the context of a comprehension's block -/
theorem At.blk {X : Cx} {sc scope : Scope} {ow : Str → Bool} {own : List (Str × Nat)} (A : At T d X N sc ow) (hb : blkC N sc scope own = true) (s : Shared) (H : Hp) (C : Addr) (cl : List (Str × Addr)) (fp : List Addr) :
    At T d (X.blk s H scope (compEnvC scope cl C X.env) fp) N (relS scope sc) (fun x => scope.names.lookup x == some .cell) := by
  refine ⟨A.top, A.fns, A.dfs, A.hN, A.nd, ?_, ?_, fun x h => h, A.calm, A.room⟩
  · show relabel scope X.env = relS scope sc
    rw [← A.hsc]; rfl
  · exact (blkOk_by hb).kind
def wipeE (s : Env) : List Nat → Env
  | [] => s
  | v :: vs => (wipeE s vs).set v none
theorem wipeE_len (s : Env) : ∀ vs, (wipeE s vs).length = s.length
  | [] => rfl
  | v :: vs => by unfold wipeE; rw [List.length_set, wipeE_len s vs]
theorem wipeE_get {s : Env} {i : Nat} : ∀ {vs : List Nat}, (wipeE s vs)[i]? = if i ∈ vs then (if i < s.length then some none else none) else s[i]?
  | [] => by simp [wipeE]
  | v :: vs => by
    unfold wipeE
    rw [List.getElem?_set, wipeE_get (vs := vs), wipeE_len]
    by_cases h : v = i
    · subst h; simp
    · have : ¬ i = v := fun z => h z.symm
      simp [h, this]
theorem set_agree {s u : Env} {i : Nat} {is : List Nat} {o : Option Val} (hl : s.length = u.length) (h : ∀ j, j ∉ i :: is → s[j]? = u[j]?) : ∀ j, j ∉ is → (s.set i o)[j]? = (u.set i o)[j]? := by
  intro j hj
  by_cases e : i = j
  · subst e; rw [List.getElem?_set, List.getElem?_set, hl]
    split
    · split
      · rfl
      · rename_i h1 h2; rfl
    · rename_i h1; exact absurd rfl h1
  · rw [List.getElem?_set_ne e, List.getElem?_set_ne e]
    exact h j (by simp only [List.mem_cons, not_or]; exact ⟨fun z => e z.symm, hj⟩)
theorem setAll_agree : ∀ {is : List Nat} {vs : List Val} {s u s' : Env}, setAll is vs s = some s' → s.length = u.length → (∀ j, j ∉ is → s[j]? = u[j]?) → setAll is vs u = some s'
  | [], [], s, u, s', e, hl, h => by
    cases e
    show some u = some s
    congr 1
    exact (List.ext_getElem? fun j => h j (by simp)).symm
  | i :: is, v :: vs, s, u, s', e, hl, h => by
    have e : setAll is vs (s.set i (some v)) = some s' := e
    show setAll is vs (u.set i (some v)) = some s'
    exact setAll_agree e (by rw [List.length_set, List.length_set, hl]) (set_agree hl h)
  | [], _ :: _, _, _, _, e, _, _ => by cases e
  | _ :: _, [], _, _, _, e, _, _ => by cases e
theorem setTg_agree {tt : Tg} {v : Val} {s u s' : Env} (e : setTg tt v s = some s') (hl : s.length = u.length) (h : ∀ j, j ∉ tgIx tt → s[j]? = u[j]?) : setTg tt v u = some s' := by
  cases tt with
  | one i =>
    cases e
    show some (u.set i (some v)) = some (s.set i (some v))
    congr 1
    exact (List.ext_getElem? fun j => set_agree (is := []) hl h j (by simp)).symm
  | many is =>
    unfold setTg at e ⊢
    cases v with
    | tup xs => exact setAll_agree e hl h
    | _ => cases e
theorem rs_wipe {K : PySem.W.Frag} {kt : List (List Val)} {io : Nat → Addr} {n : Nat} {H : Hp} {s : Env} {t : L2.St} {tt : Tg} {v : Val} {s' : Env} {vs : List Nat} (hv : ∀ i ∈ vs, i ∈ tgIx tt) (rs : RS K kt io n H s t) (e : setTg tt v s = some s') :
    RS K kt io n H (wipeE s vs) (L2.wipe t vs) ∧ setTg tt v (wipeE s vs) = some s' := by
  refine ⟨⟨by rw [wipeE_len, wipe_length, rs.1], fun i u h => ?_⟩, setTg_agree e (wipeE_len _ _).symm fun j hj => ?_⟩
  · rw [wipeE_get] at h
    rw [wipe_get]
    by_cases hi : i ∈ vs
    · rw [if_pos hi] at h
      split at h <;> cases h
    · rw [if_neg hi] at h ⊢
      exact rs.2 i u h
  · rw [wipeE_get, if_neg (fun z => hj (hv j z))]
theorem own_ix {N : List Str} {tt : Tg} : ∀ i ∈ (tgOwn N tt).map (·.2), i ∈ tgIx tt := by
  intro i hi
  obtain ⟨⟨x, j⟩, h, rfl⟩ := List.mem_map.mp hi
  cases tt with
  | one k =>
    unfold tgOwn at h
    simp only at h
    split at h
    · simp at h; simp [tgIx, h.2]
    · simp at h
  | many is =>
    have h : (x, j) ∈ is.filterMap _ := h
    rw [List.mem_filterMap] at h
    obtain ⟨k, hk, e⟩ := h
    split at e
    · cases e; exact hk
    · cases e
theorem lcLoop_inv {D : Nat} {w : Watch} {f : Val → Store → Res (Option Val)} {x : Val} {r : List Val} {st st' : Store} {v : Val} (e : lcLoop D w f (x :: r) st = .ok v st') :
    st.sees w = true ∧ ∃ o st1, f x st = .ok o st1 ∧ ((o = none ∧ lcLoop D w f r st1 = .ok v st') ∨ ∃ y st2 z, o = some y ∧ bmt .append (.ref D) [y] st1 = .ok z st2 ∧ lcLoop D w f r st2 = .ok v st') := by
  unfold lcLoop at e
  split at e
  · rename_i h
    refine ⟨h, ?_⟩
    obtain ⟨o, st1, e1, e⟩ := bind_eq_ok.mp e
    refine ⟨o, st1, e1, ?_⟩
    cases o with
    | none => exact .inl ⟨rfl, e⟩
    | some y =>
      obtain ⟨z, st2, e2, e⟩ := bind_eq_ok.mp e
      exact .inr ⟨y, st2, z, rfl, e2, e⟩
  · cases e
theorem append_inv {D : Nat} {y z : Val} {st st' : Store} (e : bmt .append (.ref D) [y] st = .ok z st') : ∃ xs, st.m D = some (.lst xs) ∧ xs.length < sizeLine ∧ st.ro D = false ∧ st' = st.set D (.lst (xs ++ [y])) := by
  unfold bmt at e
  simp only at e
  cases hm : st.m D with
  | none => rw [hm] at e; cases e
  | some o =>
    rw [hm] at e
    cases o with
    | lst xs =>
      simp only at e
      split at e
      · rename_i hz
        obtain ⟨hr, _, rfl⟩ := wr_inv e
        exact ⟨xs, rfl, hz, hr, rfl⟩
      · cases e
    | _ => cases e
def gtSem (X : Cx) (tg : Expr) : TG := fun v σ H Q => ∀ (pins : List (Addr × Obj)) (s : Shared) (u : Value), Inv X pins σ H s → RelV v u → wpAny (model X.prog X.w) X.A (assign tg X.env u) (fun _ s' => ∃ σ' H', Inv X pins σ' H' s' ∧ Q σ' H') X.xe s
theorem pg_sem {X : Cx} {tg : Expr} : PG X tg (gtSem X tg) := ⟨fun pins s σ H v u Q I r h => h pins s u I r⟩
theorem tg_sem {X : Cx} {sc : Scope} {ow : Str → Bool} (A : At T d X N sc ow) {tt : Tg} {tg : Expr} (h : tgB N sc ow tt tg = true)
    {v : Val} {s s' : Env} {io : Nat → Addr} {n : Nat} {H : Hp} {w : V} {t : L2.St} {Q : L2.St → Hp → Prop} (rs : RS X.K T.G.kt io n H s t) (r : RV X.K T.G.kt io n H v w) (e : setTg tt v s = some s')
    (q : ∀ ws, RS X.K T.G.kt io n H s' (setTgV tt w ws t) → Q (setTgV tt w ws t) H) : gtSem X tg w t H Q := by
  obtain ⟨g, h1, h2⟩ := tg_pg A h
  intro pins sh u I ru
  exact h1.run pins sh t H w u Q I ru (h2 v s s' io n H w t Q rs r e q)
def tsSem (X : Cx) (ifs : List Expr) : TT := fun σ H Q => ∀ (pins : List (Addr × Obj)) (s : Shared), Inv X pins σ H s →
    wpAny (model X.prog X.w) X.A (forIn ifs true fun c r => if r = true then do let ok ← isTrue c X.env (eval c X.env); pure (ForInStep.yield ok) else pure (ForInStep.yield r)) (TP X pins σ Q) X.xe s
theorem tests_ok {c : B} (hb : SB T d N c) {X : Cx} {sc : Scope} {ow : Str → Bool} (A : At T d X N sc ow) {ifs : List Expr} (h : ifsB (fun q => chB T.nm N c sc q) (isYes c) ifs = true)
    {s : Env} {st : Store} {k : Bool} {st' : Store} {io : Nat → Addr} {H : Hp} {t : L2.St} {Q : Bool → Hp → Prop} (rs : RS X.K T.G.kt io st.n H s t) (R : Rl X.K T.G.kt T.ca io st H) (e : ts (T.cx d) c s st = .ok k st')
    (p : PostB X.K T.G.kt T.ca io st H k st' Q) : tsSem X ifs t H Q := by
  intro pins sh I
  cases ifs with
  | nil =>
    cases c with
    | yes =>
      simp only [ts] at e
      cases e
      exact pts_nil.run pins sh t H Q I (p io H (.refl _ _ _) R)
    | _ => cases h
  | cons q r =>
    cases r with
    | nil => exact (pts_one pt_sem).run pins sh t H Q I (hb X sc ow q A h s st k st' io H t Q rs R e p)
    | cons _ _ => cases h
/-- a comprehension's reading -/
theorem lc_read {tt : Tg} {w : I} {c : B} {a : E} (hw : SI T d N w) (hb : SB T d N c) (ha : SE T d N a) {X : Cx} {sc : Scope} {ow : Str → Bool} (A : At T d X N sc ow) {pe tg it : Expr} {ifs : List Expr} {scope : Scope}
    (c1 : chI T.nm N w sc tg it = true) (c2 : blkC N sc scope (tgOwn N tt) = true) (c3 : tgB N (relS scope sc) (fun x => scope.names.lookup x == some .cell) tt tg = true)
    (c4 : ifsB (fun q => chB T.nm N c (relS scope sc) q) (isYes c) ifs = true) (c5 : chE T.nm N a (relS scope sc) pe = true) :
    ∃ g tb te, (∀ (s : Shared) (H : Hp) (C : Addr) (cl : List (Str × Addr)) (fp : List Addr), PG (X.blk s H scope (compEnvC scope cl C X.env) fp) tg g) ∧
      (∀ (s : Shared) (H : Hp) (C : Addr) (cl : List (Str × Addr)) (fp : List Addr), PTs (X.blk s H scope (compEnvC scope cl C X.env) fp) ifs tb) ∧
      (∀ (s : Shared) (H : Hp) (C : Addr) (cl : List (Str × Addr)) (fp : List Addr), PE (X.blk s H scope (compEnvC scope cl C X.env) fp) pe te) ∧
      ∀ (s : Env) (st : Store) (v : Val) (st' : Store) (io : Nat → Addr) (H : Hp) (t : L2.St) (Q : VK), RS X.K T.G.kt io st.n H s t → Rl X.K T.G.kt T.ca io st H → ev (T.cx d) (.lc tt w c a) s st = .ok v st' →
        Post X.K T.G.kt T.ca io st H v st' Q → tLc (wkSem X tg it) g tb te ((tgOwn N tt).map (·.2)) t H Q := by
  refine ⟨fun v σ H Q => ∀ (s : Shared) (H0 : Hp) (C : Addr) (cl : List (Str × Addr)) (fp : List Addr), gtSem (X.blk s H0 scope (compEnvC scope cl C X.env) fp) tg v σ H Q,
    fun σ H Q => ∀ (s : Shared) (H0 : Hp) (C : Addr) (cl : List (Str × Addr)) (fp : List Addr), tsSem (X.blk s H0 scope (compEnvC scope cl C X.env) fp) ifs σ H Q,
    fun σ H Q => ∀ (s : Shared) (H0 : Hp) (C : Addr) (cl : List (Str × Addr)) (fp : List Addr), tSem (X.blk s H0 scope (compEnvC scope cl C X.env) fp) pe σ H Q,
    fun s H C cl fp => ⟨fun pins sh σ H v u Q I r h => h s _ C cl fp pins sh u I r⟩, fun s H C cl fp => ⟨fun pins sh σ H Q I h => h s _ C cl fp pins sh I⟩, fun s H C cl fp => ⟨fun pins sh σ H Q I h => h s _ C cl fp pins sh I⟩, ?_⟩
  intro s st v st' io H t Q rs R e p
  simp only [ev] at e
  obtain ⟨q, st1, e1, e⟩ := bind_eq_ok.mp e
  refine hw X sc ow tg it A c1 s st q st1 io H t _ rs R e1 fun io1 H1 J u1 R1 wl D hD => ?_
  have Rn := R1.new (o := .lst []) (u := .lst []) hD (.lst upd_same .nil)
  have un := Up.new (io := io1) (st := st1) (.lst []) hD
  generalize hf : onLc tt (fun s st => ts (T.cx d) c s st) (fun s st => ev (T.cx d) a s st) s = f at e
  refine ⟨fun i m H' => m = q.1.length - i ∧ i ≤ q.1.length ∧ ∃ (io2 : Nat → Addr) (st2 : Store), Up (ioNew io1 st1.n D) (st1.n + 1) (upd H1 D (.lst [])) io2 st2.n H' ∧ Rl X.K T.G.kt T.ca io2 st2 H' ∧ lcLoop st1.n q.2 f (q.1.drop i) st2 = .ok v st',
    ⟨_, rfl, Nat.zero_le _, _, _, .refl _ _ _, Rn, by rw [List.drop_zero]; exact e⟩, ?_⟩
  rintro i m H2 ⟨rfl, hi, io2, st2, u2, R2, e2⟩
  have U2 := un.trans u2
  by_cases hlt : i < q.1.length
  · rw [List.drop_eq_getElem_cons hlt] at e2
    obtain ⟨hse, o, st3, e3, e4⟩ := lcLoop_inv e2
    refine .inr ⟨wl.go i io2 st2 H2 U2 R2 hse hlt, fun H' => ∃ (io3 : Nat → Addr) (st3 : Store), Up (ioNew io1 st1.n D) (st1.n + 1) (upd H1 D (.lst [])) io3 st3.n H' ∧ Rl X.K T.G.kt T.ca io3 st3 H' ∧ lcLoop st1.n q.2 f (q.1.drop (i + 1)) st3 = .ok v st',
      fun H' ⟨io3, st3, a1, a2, a3⟩ => ⟨q.1.length - (i + 1), by omega, rfl, hlt, io3, st3, a1, a2, a3⟩, fun x H3 hy => ?_⟩
    obtain ⟨u3, R3, r3⟩ := wl.yld i _ io2 st2 H2 x H3 U2 R2 hse (List.getElem?_eq_getElem hlt) hy
    rw [← hf] at e3
    unfold onLc at e3
    split at e3
    · cases e3
    · rename_i s' es
      obtain ⟨b, st4, e5, e6⟩ := bind_eq_ok.mp e3
      have U3 := U2.trans u3
      obtain ⟨rw1, rw2⟩ := rs_wipe (vs := (tgOwn N tt).map (·.2)) own_ix (rs.up (u1.trans U3)) es
      intro sh0 H00 C0 cl0 fp0
      refine tg_sem (A.blk c2 sh0 H00 C0 cl0 fp0) c3 rw1 r3 rw2 fun ws rs3 => ⟨wipe_set (tg_own c3), ?_⟩
      intro sh1 H01 C1 cl1 fp1
      refine tests_ok hb (A.blk c2 sh1 H01 C1 cl1 fp1) c4 rs3 R3 e5 fun io4 H4 u4 R4 => ?_
      cases b with
      | false =>
        rw [if_neg (by decide)] at e6 ⊢
        cases e6
        rcases e4 with ⟨_, e4⟩ | ⟨_, _, _, z, _⟩
        · exact ⟨io4, _, u2.trans (u3.trans u4), R4, e4⟩
        · cases z
      | true =>
        rw [if_pos rfl] at e6 ⊢
        obtain ⟨y, st5, e7, e8⟩ := bind_eq_ok.mp e6
        cases e8
        intro sh2 H02 C2 cl2 fp2
        refine ha _ _ _ pe (A.blk c2 sh2 H02 C2 cl2 fp2) c5 s' st4 y _ io4 H4 _ _ (rs3.up u4) R4 e7 fun io5 H5 w5 u5 R5 r5 => ?_
        rcases e4 with ⟨z, _⟩ | ⟨y', st6, z6, z, e8, e9⟩
        · cases z
        · cases z
          obtain ⟨acc, hm, hz, hr, rfl⟩ := append_inv e8
          have hD5 : st1.n < _ := Nat.lt_of_lt_of_le (Nat.lt_succ_self _) (u2.trans (u3.trans (u4.trans u5))).le
          have ioD : io5 st1.n = D := by rw [(u2.trans (u3.trans (u4.trans u5))).io _ (Nat.lt_succ_self _), ioNew_at]
          obtain ⟨ys, _, rl, hl⟩ := R5.list hm
          have hl5 := hl hr
          have up := Up.wr (io := io5) (st := st3) (.lst (ys ++ [w5])) hl5 trivial
          have R6 := R5.wr (u := .lst (ys ++ [w5])) hD5 hr (.lst upd_same ((rl.append (.cons r5 .nil)).up up))
          rw [ioD] at hl5 up R6
          exact ⟨ys, hl5, by rw [← rl.length]; exact hz, io5, st3.set st1.n (.lst (acc ++ [y])), (u2.trans (u3.trans (u4.trans u5))).trans up, R6, e9⟩
  · have hi' : i = q.1.length := by omega
    subst hi'
    rw [List.drop_length] at e2
    unfold lcLoop at e2
    split at e2
    · rename_i hse
      cases e2
      refine .inl ⟨wl.stop io2 _ H2 U2 R2 hse, p io2 H2 _ (u1.trans U2) R2 ?_⟩
      have ioD : io2 st1.n = D := by rw [u2.io _ (Nat.lt_succ_self _), ioNew_at]
      have h : RV X.K T.G.kt io2 st'.n H2 (.ref st1.n) (.ref (io2 st1.n)) := .ref (Nat.lt_of_lt_of_le (Nat.lt_succ_self _) u2.le)
      rw [ioD] at h; exact h
    · cases e2
theorem lc_ch {tt : Tg} {w : I} {c : B} {a : E} {sc : Scope} {p : Expr} (hc : chE T.nm N (.lc tt w c a) sc p = true) : ∃ pe tg it ifs scope pos, p = .ListComp pe [⟨tg, it, ifs, 0⟩] scope pos ∧ chI T.nm N w sc tg it = true ∧ noset it = true ∧ blkC N sc scope (tgOwn N tt) = true ∧
    tgB N (relS scope sc) (fun x => scope.names.lookup x == some .cell) tt tg = true ∧ ifsB (fun q => chB T.nm N c (relS scope sc) q) (isYes c) ifs = true ∧ chE T.nm N a (relS scope sc) pe = true := by
  simp only [chE] at hc
  split at hc
  · rename_i pe tg it ifs scope pos
    simp only [Bool.and_eq_true] at hc
    obtain ⟨⟨⟨⟨⟨c1, c2⟩, c3⟩, c4⟩, c5⟩, c6⟩ := hc
    exact ⟨pe, tg, it, ifs, scope, pos, rfl, c1, c2, c3, c4, c5, c6⟩
  · cases hc
theorem se_lc {tt : Tg} {w : I} {c : B} {a : E} (hw : SI T d N w) (hb : SB T d N c) (ha : SE T d N a) : SE T d N (.lc tt w c a) := by
  intro X sc ow q A hc s st v st' io H t Q rs R e p
  obtain ⟨pe, tg, it, ifs, scope, pos, rfl, c1, c2, c3, c4, c5, c6⟩ := lc_ch hc
  obtain ⟨g, tb, te, h1, h2, h3, h4⟩ := lc_read hw hb ha A c1 c3 c4 c5 c6
  intro pins sh I
  exact (pe_lc A.calm (by rw [A.hN]; exact A.nd) pi_sem (by rw [A.hN, A.hsc]; exact blkOk_by c3) h1 h2 h3 (folded c2)).run pins sh t H Q I (h4 s st v st' io H t Q rs R e p)
end
end CL

/-! CL, part k: statements -/
namespace CL
open PySem PySem.Spec PyProof.Rows L2
def PostF (K : PySem.W.Frag) (kt : List (List Val)) (ca io : Nat → Addr) (st : Store) (H : Hp) (fl : Fl) (st' : Store) (D : Ends) : Prop := match fl with
  | .nx s => ∀ (io' : Nat → Addr) (H' : Hp) (t : L2.St), Up io st.n H io' st'.n H' → Rl K kt ca io' st' H' → RS K kt io' st'.n H' s t → D.nx t H'
  | .rt v => ∀ (io' : Nat → Addr) (H' : Hp) (w : V), Up io st.n H io' st'.n H' → Rl K kt ca io' st' H' → RV K kt io' st'.n H' v w → D.rt w H'
  | .bk s => ∀ (io' : Nat → Addr) (H' : Hp) (t : L2.St), Up io st.n H io' st'.n H' → Rl K kt ca io' st' H' → RS K kt io' st'.n H' s t → D.bk t H'
  | .ct s => ∀ (io' : Nat → Addr) (H' : Hp) (t : L2.St), Up io st.n H io' st'.n H' → Rl K kt ca io' st' H' → RS K kt io' st'.n H' s t → D.ct t H'
theorem PostF.after {K : PySem.W.Frag} {kt : List (List Val)} {ca io io1 : Nat → Addr} {st st1 st' : Store} {H H1 : Hp} {fl : Fl} {D : Ends} (p : PostF K kt ca io st H fl st' D) (u : Up io st.n H io1 st1.n H1) : PostF K kt ca io1 st1 H1 fl st' D := by
  cases fl with
  | nx s => exact fun io' H' t u' R r => p io' H' t (u.trans u') R r
  | rt s => exact fun io' H' t u' R r => p io' H' t (u.trans u') R r
  | bk s => exact fun io' H' t u' R r => p io' H' t (u.trans u') R r
  | ct s => exact fun io' H' t u' R r => p io' H' t (u.trans u') R r
def xSem (X : Cx) (p : Stmt) : TS := fun D σ H => ∀ (pins : List (Addr × Obj)) (s : Shared), Inv X pins σ H s → wpAny (model X.prog X.w) X.A (PySem.exec p X.env) (L2.SP X pins D) X.xe s
theorem ps_sem {X : Cx} {p : Stmt} : PS X p (xSem X p) := ⟨fun pins s σ H D I h => h pins s I⟩
def xsSem (X : Cx) (ps : List Stmt) : TS := fun D σ H => ∀ (pins : List (Addr × Obj)) (s : Shared), Inv X pins σ H s → wpAny (model X.prog X.w) X.A (PySem.execs ps X.env) (L2.SP X pins D) X.xe s
theorem pss_sem {X : Cx} {ps : List Stmt} : PSs X ps (xsSem X ps) := ⟨fun pins s σ H D I h => h pins s I⟩
structure AtS (T : Tab) (d : Nat) (X : Cx) (N : List Str) (sc : Scope) (ow : Str → Bool) : Prop extends At T d X N sc ow where
  own : PassesOwn (model X.prog X.w) X.A X.env X.xe
def SS (T : Tab) (d : Nat) (N : List Str) (x : S) : Prop := ∀ (X : Cx) (sc : Scope) (ow : Str → Bool) (p : Stmt), AtS T d X N sc ow → chS T.nm N sc ow x p = true →
  ∀ (s : Env) (st : Store) (fl : Fl) (st' : Store) (io : Nat → Addr) (H : Hp) (t : L2.St) (D : Ends), RS X.K T.G.kt io st.n H s t → Rl X.K T.G.kt T.ca io st H → exec (T.cx d) x s st = .ok fl st' →
    PostF X.K T.G.kt T.ca io st H fl st' D → xSem X p D t H
def SSs (T : Tab) (d : Nat) (N : List Str) (x : Ss) : Prop := ∀ (X : Cx) (sc : Scope) (ow : Str → Bool) (ps : List Stmt), AtS T d X N sc ow → chSs T.nm N sc ow x ps = true →
  ∀ (s : Env) (st : Store) (fl : Fl) (st' : Store) (io : Nat → Addr) (H : Hp) (t : L2.St) (D : Ends), RS X.K T.G.kt io st.n H s t → Rl X.K T.G.kt T.ca io st H → execs (T.cx d) x s st = .ok fl st' →
    PostF X.K T.G.kt T.ca io st H fl st' D → xsSem X ps D t H
section
variable {T : Tab} {d : Nat} {N : List Str}
theorem nolc_or {e : E} {sc : Scope} {p : Expr} (h : chE T.nm N e sc p = true) : nolc p = true ∨ ∃ tt w c a, e = .lc tt w c a := by
  cases p with
  | ListComp _ _ _ _ => cases e <;> first | (simp [chE, nolc] at h; done) | exact .inr ⟨_, _, _, _, rfl⟩
  | SetComp _ _ _ _ => cases e <;> (simp [chE, nolc] at h)
  | DictComp _ _ _ _ _ => cases e <;> (simp [chE, nolc] at h)
  | _ => exact .inl rfl
/-! ### one target -/
theorem stB_ok {X : Cx} {sc : Scope} {ow : Str → Bool} (A : At T d X N sc ow) {i : Nat} {x : Str} (h : stB N sc ow i x = true) : X.N[i]? = some x ∧ Loc X.env.scope x ∧ (X.fn x = true ∨ X.env.scope.names.lookup x = some .local) := by
  unfold stB at h
  rw [Bool.and_eq_true, decide_eq_true_eq] at h
  obtain ⟨l1, l2⟩ := locB_ok h.2
  rw [A.hN, A.hsc]
  exact ⟨h.1, l1, l2.imp (A.how x) id⟩
theorem At.nodup {X : Cx} {sc : Scope} {ow : Str → Bool} (A : At T d X N sc ow) : X.N.Nodup := by rw [A.hN]; exact A.nd
theorem swap_lc {elt : Expr} {gs : List Comprehension} {scope : Scope} {pos py : Pos} {y : Str} {l : Nat} {env : PySem.Env} (hk : env.scope.kind = .function) :
    swapsWith (.ListComp elt gs scope pos) (some (.Name y py)) l env = pure (lcSw env.scope y py (.ListComp elt gs scope pos)) := by
  have hb : env.blockKind = .function := by unfold PySem.Env.blockKind; rw [hk]; rfl
  unfold swapsWith lcSw
  simp only [hb, Expr.pos, PySem.Env.kindOf]
  rfl
def PostN (K : PySem.W.Frag) (kt : List (List Val)) (ca io : Nat → Addr) (st : Store) (H : Hp) (s' : Env) (st' : Store) (Q : L2.St → Hp → Prop) : Prop :=
  ∀ (io' : Nat → Addr) (H' : Hp) (t : L2.St), Up io st.n H io' st'.n H' → Rl K kt ca io' st' H' → RS K kt io' st'.n H' s' t → Q t H'
theorem sub_asg {X : Cx} {o i : Expr} {pos : Pos} (h : noslice i = true) : ∀ v, assign (.Subscript o i pos) X.env v = (do
      let ov ← holding [v] (eval o X.env)
      let iv ← holding [v, ov] (eval i X.env)
      standAt pos
      holding [v, ov, iv] (setItem ov iv v)
      release [v, ov, iv] []) := fun v => by
  cases i <;> first | rfl | cases h
theorem asg1_sub {a b : E} (ha : SE T d N a) (hb : SE T d N b) {X : Cx} {sc : Scope} {ow : Str → Bool} (A : At T d X N sc ow) {q r : Expr} {pos : Pos} (c1 : chE T.nm N a sc q = true) (c2 : chE T.nm N b sc r = true) (c3 : noslice r = true)
    {v : Val} {s s' : Env} {st st' : Store} {io : Nat → Addr} {H : Hp} {w : V} {t : L2.St} {Q : L2.St → Hp → Prop} (rs : RS X.K T.G.kt io st.n H s t) (R : Rl X.K T.G.kt T.ca io st H) (rv : RV X.K T.G.kt io st.n H v w) (e : asg1 (T.cx d) (.sub a b) v s st = .ok s' st')
    (p : PostN X.K T.G.kt T.ca io st H s' st' Q) : gtSem X (.Subscript q r pos) w t H Q := by
  unfold asg1 at e
  simp only at e
  obtain ⟨x, st1, e1, e⟩ := bind_eq_ok.mp e
  obtain ⟨y, st2, e2, e⟩ := bind_eq_ok.mp e
  obtain ⟨z, st3, e3, e⟩ := bind_eq_ok.mp e
  cases e
  intro pins sh u I ru
  refine (pg_sub pe_sem pe_sem set_sem (sub_asg c3)).run pins sh t H w u Q I ru ?_
  refine ha X sc ow _ A c1 s st x st1 io H t _ rs R e1 fun io1 H1 w1 u1 R1 r1 => ?_
  refine hb X sc ow _ A c2 s st1 y st2 io1 H1 t _ (rs.up u1) R1 e2 fun io2 H2 w2 u2 R2 r2 => ?_
  refine put_ok A.hu R2 (r1.up u2) r2 (rv.up (u1.trans u2)) e3 fun H3 u3 R3 => ?_
  exact p io2 H3 t ((u1.trans u2).trans u3) R3 (rs.up ((u1.trans u2).trans u3))
theorem asg1_one {X : Cx} {sc : Scope} {ow : Str → Bool} (A : At T d X N sc ow) {i : Nat} {x : Str} {pos : Pos} (c1 : stB N sc ow i x = true)
    {v : Val} {s s' : Env} {st st' : Store} {io : Nat → Addr} {H : Hp} {w : V} {t : L2.St} {Q : L2.St → Hp → Prop} (rs : RS X.K T.G.kt io st.n H s t) (R : Rl X.K T.G.kt T.ca io st H) (rv : RV X.K T.G.kt io st.n H v w) (e : asg1 (T.cx d) (.one i) v s st = .ok s' st')
    (p : PostN X.K T.G.kt T.ca io st H s' st' Q) : gtSem X (.Name x pos) w t H Q := by
  cases e
  obtain ⟨h1, h2, h3⟩ := stB_ok A c1
  intro pins sh u I ru
  exact (pg_name A.nodup h1 h2 h3).run pins sh t H w u Q I ru (p io H _ (.refl _ _ _) R (rs.set rv i))
/-! ### x = e -/
theorem ss_asg_one {i : Nat} {a : E} (ha : SE T d N a) (hl : ∀ tt w c b, a = .lc tt w c b → SI T d N w ∧ SB T d N c ∧ SE T d N b) : SS T d N (.asg (.one i) a) := by
  intro X sc ow q A hc s st fl st' io H t D rs R e p
  simp only [chS] at hc
  split at hc
  · rename_i tg v pos
    rw [Bool.and_eq_true] at hc
    obtain ⟨c1, c2⟩ := hc
    split at c2
    · rename_i x px
      simp only [exec] at e
      obtain ⟨u, st1, e1, e⟩ := bind_eq_ok.mp e
      obtain ⟨s1, st2, e2, e⟩ := bind_eq_ok.mp e
      cases e
      cases e2
      obtain ⟨h1, h2, h3⟩ := stB_ok A.toAt c2
      have post : Post X.K T.G.kt T.ca io st H u st' (fun y H1 => gName i y t H1 D.nx) := fun io1 H1 w u1 R1 r1 => p io1 H1 _ u1 R1 ((rs.up u1).set r1 i)
      intro pins sh I
      rcases nolc_or c1 with hn | ⟨tt, w, c, b, rfl⟩
      · exact (ps_set A.nodup h1 h2 pe_sem (swap_none hn) h3).run pins sh t H D I (ha X sc ow v A.toAt c1 s st u st' io H t _ rs R e1 post)
      · obtain ⟨hw, hb, hbe⟩ := hl tt w c b rfl
        obtain ⟨pe, tg, it, ifs, scope, lpos, rfl, d1, d2, d3, d4, d5, d6⟩ := lc_ch c1
        have hsw := swap_lc (elt := pe) (gs := [⟨tg, it, ifs, 0⟩]) (scope := scope) (pos := lpos) (py := px) (y := x) (l := pos.line) (env := X.env) (by rw [A.hsc]; exact A.kind)
        cases hb2 : lcSw X.env.scope x px (.ListComp pe [⟨tg, it, ifs, 0⟩] scope lpos) with
        | false =>
          rw [hb2] at hsw
          exact (ps_set A.nodup h1 h2 pe_sem hsw h3).run pins sh t H D I (ha X sc ow _ A.toAt c1 s st u st' io H t _ rs R e1 post)
        | true =>
          rw [hb2] at hsw
          have hloc : X.env.scope.names.lookup x = some .local := by
            unfold lcSw at hb2
            simp only [Bool.and_eq_true, beq_iff_eq] at hb2
            exact hb2.1.1
          obtain ⟨g, tb, te, k1, k2, k3, k4⟩ := lc_read hw hb hbe A.toAt d1 d3 d4 d5 d6
          exact (ps_setLc A.calm A.nodup h1 hloc hsw pi_sem (by rw [A.hN, A.hsc]; exact blkOk_by d3) k1 k2 k3 (folded d2)).run pins sh t H D I (k4 s st u st' io H t _ rs R e1 post)
    · cases c2
  · cases hc
theorem ss_asg_sub {a b c : E} (ha : SE T d N a) (hb : SE T d N b) (hv : SE T d N c) : SS T d N (.asg (.sub a b) c) := by
  intro X sc ow q A hc s st fl st' io H t D rs R e p
  simp only [chS] at hc
  split at hc
  · rename_i tg v pos
    rw [Bool.and_eq_true] at hc
    obtain ⟨c1, c2⟩ := hc
    split at c2
    · rename_i x y px
      simp only [Bool.and_eq_true] at c2
      simp only [exec] at e
      obtain ⟨u, st1, e1, e⟩ := bind_eq_ok.mp e
      obtain ⟨s1, st2, e2, e⟩ := bind_eq_ok.mp e
      cases e
      intro pins sh I
      refine (ps_asg pe_sem pg_sem (by unfold swapsWithSole; exact swap_sub) (by rfl) (by rfl)).run pins sh t H D I ?_
      refine hv X sc ow v A.toAt c1 s st u st1 io H t _ rs R e1 fun io1 H1 w u1 R1 r1 => ?_
      exact asg1_sub ha hb A.toAt c2.1.1 c2.1.2 c2.2 (rs.up u1) R1 r1 e2 fun io2 H2 t2 u2 R2 r2 => p io2 H2 t2 (u1.trans u2) R2 r2
    · cases c2
  · cases hc
theorem ss_asg_fld {a c : E} {f : Str} (ha : SE T d N a) (hv : SE T d N c) : SS T d N (.asg (.fld a f) c) := by
  intro X sc ow q A hc s st fl st' io H t D rs R e p
  simp only [chS] at hc
  split at hc
  · rename_i tg v pos
    rw [Bool.and_eq_true] at hc
    obtain ⟨c1, c2⟩ := hc
    split at c2
    · rename_i x g px
      simp only [Bool.and_eq_true, decide_eq_true_eq] at c2
      obtain ⟨rfl, c2⟩ := c2
      simp only [exec] at e
      obtain ⟨u, st1, e1, e⟩ := bind_eq_ok.mp e
      obtain ⟨s1, st2, e2, e⟩ := bind_eq_ok.mp e
      cases e
      unfold asg1 at e2
      simp only at e2
      obtain ⟨x', st3, e3, e2⟩ := bind_eq_ok.mp e2
      obtain ⟨z, st4, e4, e2⟩ := bind_eq_ok.mp e2
      cases e2
      intro pins sh I
      refine (ps_fld pe_sem pe_sem swap_att).run pins sh t H D I ?_
      refine hv X sc ow v A.toAt c1 s st u st1 io H t _ rs R e1 fun io1 H1 w u1 R1 r1 => ?_
      refine ha X sc ow _ A.toAt c2 s st1 x' st3 io1 H1 t _ (rs.up u1) R1 e3 fun io2 H2 w2 u2 R2 r2 => ?_
      unfold putF at e4
      split at e4
      · obtain ⟨rfl, hi⟩ := r2.iref
        split at e4
        · rename_i c fs em
          split at e4
          · rename_i hf
            obtain ⟨hr, _, rfl⟩ := wr_inv e4
            obtain ⟨_, _, dx, gs, h1, rk⟩ := R2.inst em
            obtain ⟨cl, na⟩ := A.top.fl c f hf.1
            refine ⟨_, _, dx, gs, rfl, h1, cl, na, by rw [← rk.length]; exact hf.2, ?_⟩
            have up := Up.wr (io := io2) (st := st3) (.ins (T.ca c) dx (L2.putF f w gs)) h1 trivial
            exact p io2 _ t ((u1.trans u2).trans up) (R2.wr hi hr (.ins upd_same ((rk.setF f (r1.up u2)).up up))) (rs.up ((u1.trans u2).trans up))
          · cases e4
        · cases e4
      · cases e4
    · cases c2
  · cases hc
end
end CL

/-! CL, part l: more statements; a def; the whole -/
namespace CL
open PySem PySem.Spec PyProof.Rows L2
section
variable {T : Tab} {d : Nat} {N : List Str}
/-! ### a, b = e -/
def gsSem (X : Cx) (ts : List Expr) : TGs := fun vs σ H Q => ∀ (pins : List (Addr × Obj)) (s : Shared) (us : List Value), Inv X pins σ H s → Vals vs us → wpAny (model X.prog X.w) X.A (assignInOrder ((assignEach ts X.env).map (·.2)) us) (fun _ s' => ∃ σ' H', Inv X pins σ' H' s' ∧ Q σ' H') X.xe s
theorem pgs_sem {X : Cx} {ts : List Expr} : PGs X ts (gsSem X ts) := ⟨fun pins s σ H vs us Q I r h => h pins s us I r⟩
theorem each_cons {p : Expr} {ps : List Expr} {env : PySem.Env} (h : nostar p = true) : assignEach (p :: ps) env = (false, assign p env) :: assignEach ps env := by
  cases p <;> first | rfl | cases h
theorem each_len {env : PySem.Env} : ∀ {ps : List Expr}, ps.all nostar = true → (assignEach ps env).length = ps.length ∧ (assignEach ps env).findIdx? (·.1) = none
  | [], _ => ⟨rfl, rfl⟩
  | p :: ps, h => by
    rw [List.all_cons, Bool.and_eq_true] at h
    obtain ⟨h1, h2⟩ := each_len (env := env) h.2
    rw [each_cons h.1]
    refine ⟨by rw [List.length_cons, List.length_cons, h1], ?_⟩
    rw [List.findIdx?_cons, h2]; rfl
/-- what each target of a list wants -/
inductive ST (T : Tab) (d : Nat) (N : List Str) : List CL.T → Prop
  | nil : ST T d N []
  | one {i : Nat} {ts : List CL.T} : ST T d N ts → ST T d N (.one i :: ts)
  | sub {a b : E} {ts : List CL.T} : SE T d N a → SE T d N b → ST T d N ts → ST T d N (.sub a b :: ts)
  | fld {a : E} {f : Str} {ts : List CL.T} : ST T d N ts → ST T d N (.fld a f :: ts)
theorem chTL_star {sc : Scope} {ow : Str → Bool} : ∀ {ts : List CL.T} {ps : List Expr}, chTL T.nm N sc ow ts ps = true → ps.all nostar = true ∧ ts.length = ps.length
  | [], [], _ => ⟨rfl, rfl⟩
  | t :: ts, p :: ps, h => by
    unfold chTL at h
    simp only [Bool.and_eq_true] at h
    obtain ⟨h1, h2⟩ := chTL_star h.2
    exact ⟨by rw [List.all_cons, h.1.2, h1]; rfl, by rw [List.length_cons, List.length_cons, h2]⟩
  | [], _ :: _, h => by unfold chTL at h; cases h
  | _ :: _, [], h => by unfold chTL at h; cases h
theorem asgs_sem {X : Cx} {sc : Scope} {ow : Str → Bool} (A : At T d X N sc ow) : ∀ {ts : List CL.T} (_ : ST T d N ts) {ps : List Expr}, chTL T.nm N sc ow ts ps = true →
    ∀ {vs : List Val} {s s' : Env} {st st' : Store} {io : Nat → Addr} {H : Hp} {ws : List V} {t : L2.St} {Q : L2.St → Hp → Prop}, RS X.K T.G.kt io st.n H s t → Rl X.K T.G.kt T.ca io st H → RVs X.K T.G.kt io st.n H vs ws → asgs (T.cx d) ts vs s st = .ok s' st' →
      PostN X.K T.G.kt T.ca io st H s' st' Q → gsSem X ps ws t H Q := by
  intro ts hts
  induction hts with
  | nil =>
    intro ps h vs s s' st st' io H ws t Q rs R rv e p
    cases ps with
    | cons _ _ => unfold chTL at h; cases h
    | nil =>
      cases rv with
      | cons _ _ => cases e
      | nil =>
        cases e
        intro pins sh us I ru
        exact pgs_nil.run pins sh t H [] us Q I ru ⟨rfl, p io H t (.refl _ _ _) R rs⟩
  | one hts ih =>
    intro ps h vs s s' st st' io H ws t Q rs R rv e p
    cases ps with
    | nil => unfold chTL at h; cases h
    | cons q ps =>
      unfold chTL at h
      simp only [Bool.and_eq_true] at h
      cases rv with
      | nil => cases e
      | cons r1 r2 =>
        obtain ⟨s1, st1, e1, e⟩ := bind_eq_ok.mp e
        intro pins sh us I ru
        refine (pgs_cons pg_sem pgs_sem (by rw [each_cons h.1.2]; rfl)).run pins sh t H _ us Q I ru ⟨_, _, rfl, ?_⟩
        have hc := h.1.1
        unfold chTs at hc
        simp only at hc
        split at hc
        · exact asg1_one A hc rs R r1 e1 fun io1 H1 t1 u1 R1 rs1 => ih h.2 rs1 R1 (r2.up u1) e fun io2 H2 t2 u2 R2 rs2 => p io2 H2 t2 (u1.trans u2) R2 rs2
        · cases hc
  | sub ha hb hts ih =>
    intro ps h vs s s' st st' io H ws t Q rs R rv e p
    cases ps with
    | nil => unfold chTL at h; cases h
    | cons q ps =>
      unfold chTL at h
      simp only [Bool.and_eq_true] at h
      cases rv with
      | nil => cases e
      | cons r1 r2 =>
        obtain ⟨s1, st1, e1, e⟩ := bind_eq_ok.mp e
        intro pins sh us I ru
        refine (pgs_cons pg_sem pgs_sem (by rw [each_cons h.1.2]; rfl)).run pins sh t H _ us Q I ru ⟨_, _, rfl, ?_⟩
        have hc := h.1.1
        unfold chTs at hc
        simp only at hc
        split at hc
        · simp only [Bool.and_eq_true] at hc
          exact asg1_sub ha hb A hc.1.1 hc.1.2 hc.2 rs R r1 e1 fun io1 H1 t1 u1 R1 rs1 => ih h.2 rs1 R1 (r2.up u1) e fun io2 H2 t2 u2 R2 rs2 => p io2 H2 t2 (u1.trans u2) R2 rs2
        · cases hc
  | fld hts ih =>
    intro ps h
    cases ps with
    | nil => unfold chTL at h; cases h
    | cons q ps =>
      unfold chTL at h
      simp only [Bool.and_eq_true] at h
      have hc := h.1.1
      unfold chTs at hc
      cases hc
theorem sw_eq {ts : List Expr} {k : Nat} {p : Pos} {value : Expr} {env : PySem.Env} (hk : env.scope.kind = .function) {r : Option (List Str)} (h : swMir env.scope ts value = some r) : swappedStores [.Tuple ts k p] value env = pure r := by
  have hb : env.blockKind = .function := by unfold PySem.Env.blockKind; rw [hk]; rfl
  cases value with
  | Tuple vs k2 p2 =>
    unfold swMir at h
    simp only at h
    unfold swappedStores
    simp only [hb, PySem.Env.kindOf, bne_self_eq_false, Bool.or_false]
    split at h
    · rename_i h1; cases h; exact if_pos h1
    · rename_i h1
      refine (if_neg h1).trans ?_
      split at h
      · rename_i h2; cases h; exact if_pos h2
      · rename_i h2
        refine (if_neg h2).trans ?_
        split at h
        · rename_i h3; cases h; exact if_pos h3
        · rename_i h3
          refine (if_neg h3).trans ?_
          split at h
          · rename_i h4; cases h; exact if_pos h4
          · rename_i h4
            refine (if_neg h4).trans ?_
            split at h
            · cases h
            · rename_i h5; cases h; exact if_neg h5
  | _ => cases h; rfl
theorem ss_asT {ts : List CL.T} {a : E} (hts : ST T d N ts) (ha : SE T d N a) : SS T d N (.asT ts a) := by
  intro X sc ow q A hc s st fl st' io H t D rs R e p
  simp only [chS] at hc
  split at hc
  · rename_i tg k tp v pos
    simp only [Bool.and_eq_true] at hc
    obtain ⟨⟨c1, c2⟩, c3⟩ := hc
    have c3 : swMir sc tg v = some none := by
      split at c3
      · assumption
      · cases c3
    have hw := sw_eq (k := k) (p := tp) (env := X.env) (by rw [A.hsc]; exact A.kind) (by rw [A.hsc]; exact c3)
    obtain ⟨s1, s2⟩ := chTL_star c2
    obtain ⟨l1, l2⟩ := each_len (env := X.env) s1
    simp only [exec] at e
    obtain ⟨u, st1, e1, e⟩ := bind_eq_ok.mp e
    split at e
    · rename_i xs ex
      obtain ⟨s', st2, e2, e⟩ := bind_eq_ok.mp e
      cases e
      have hsw : swapsWithSole [.Tuple tg k tp] v pos.line X.env = pure false := by
        unfold swapsWithSole
        cases v <;> rfl
      intro pins sh I
      have fin : ∀ (io1 : Nat → Addr) (H1 : Hp) (ys : List V), Up io st.n H io1 st1.n H1 → Rl X.K T.G.kt T.ca io1 st1 H1 → RVs X.K T.G.kt io1 st1.n H1 xs ys → gsSem X tg ys t H1 D.nx := fun io1 H1 ys u1 R1 ry =>
        asgs_sem A.toAt hts c2 (rs.up u1) R1 ry e2 fun io2 H2 t2 u2 R2 r2 => p io2 H2 t2 (u1.trans u2) R2 r2
      have hlen : xs.length = tg.length := by
        have : ∀ {ts : List CL.T} {xs : List Val} {s s' : Env} {st st' : Store}, asgs (T.cx d) ts xs s st = .ok s' st' → ts.length = xs.length := by
          intro ts
          induction ts with
          | nil => intro xs s s' st st' e; cases xs with
            | nil => rfl
            | cons _ _ => cases e
          | cons t ts ih => intro xs s s' st st' e; cases xs with
            | nil => cases e
            | cons x xs =>
              obtain ⟨_, _, _, e⟩ := bind_eq_ok.mp e
              rw [List.length_cons, List.length_cons, ih e]
        rw [← this e2, s2]
      unfold itemsOf at ex
      split at ex
      · cases ex
        refine (ps_asg pe_sem (pg_tup A.calm pgs_sem l1 l2) hsw hw (by rfl)).run pins sh t H D I ?_
        refine ha X sc ow v A.toAt c1 s st _ st1 io H t _ rs R e1 fun io1 H1 w u1 R1 r1 => ?_
        obtain ⟨a1, ys, rfl, sq, ry⟩ := r1.itup
        exact ⟨a1, ys, rfl, sq.sqT, by rw [← ry.length]; exact hlen, fin io1 H1 ys u1 R1 ry⟩
      · refine (ps_asg pe_sem (pg_lst A.calm pgs_sem l1 l2) hsw hw (by rfl)).run pins sh t H D I ?_
        refine ha X sc ow v A.toAt c1 s st _ st1 io H t _ rs R e1 fun io1 H1 w u1 R1 r1 => ?_
        obtain ⟨rfl, hi⟩ := r1.iref
        unfold Store.lst at ex
        split at ex
        · rename_i zs em
          cases ex
          obtain ⟨ys, sl, ry, _⟩ := R1.list em
          exact ⟨_, ys, rfl, sl, by rw [← ry.length]; exact hlen, fin io1 H1 ys u1 R1 ry⟩
        · cases ex
      · cases ex
    · cases e
  · cases hc
theorem len2 {α : Type} {l : List α} (h : l.length = 2) : ∃ a b, l = [a, b] := by
  match l, h with
  | [a, b], _ => exact ⟨a, b, rfl⟩
theorem len3 {α : Type} {l : List α} (h : l.length = 3) : ∃ a b c, l = [a, b, c] := by
  match l, h with
  | [a, b, c], _ => exact ⟨a, b, c, rfl⟩
theorem dups2 {x y : Str} (h : ([x, y] : List Str).eraseDups.length = 2) : x ≠ y := by
  rintro rfl
  simp [List.eraseDups, List.eraseDupsBy, List.eraseDupsBy.loop] at h
theorem dups3 {x y z : Str} (h : ([x, y, z] : List Str).eraseDups.length = 3) : x ≠ y ∧ x ≠ z ∧ y ≠ z := by
  refine ⟨?_, ?_, ?_⟩ <;> rintro rfl
  · simp [List.eraseDups, List.eraseDupsBy, List.eraseDupsBy.loop] at h
    split at h <;> simp at h
  · simp [List.eraseDups, List.eraseDupsBy, List.eraseDupsBy.loop] at h
    split at h <;> simp at h
  · simp [List.eraseDups, List.eraseDupsBy, List.eraseDupsBy.loop] at h
    split at h <;> simp at h
theorem fm_all {α β : Type} {f : α → Option β} : ∀ {l : List α}, (l.filterMap f).length = l.length → l.map f = (l.filterMap f).map some
  | [], _ => rfl
  | x :: r, h => by
    rw [List.filterMap_cons] at h ⊢
    cases e : f x with
    | none =>
      rw [e] at h
      have := List.length_filterMap_le f r
      simp only [List.length_cons] at h
      omega
    | some y =>
      rw [e] at h
      simp only [List.length_cons, Nat.add_right_cancel_iff] at h
      rw [List.map_cons, e, fm_all h]
      rfl
theorem sw_some {sc : Scope} {ts vs : List Expr} {k : Nat} {p : Pos} {ns : List Str} (h : swMir sc ts (.Tuple vs k p) = some (some ns)) :
    (ts.length = 2 ∨ ts.length = 3) ∧ vs.length = ts.length ∧ ns.eraseDups.length = ts.length ∧ ∃ l : Nat, ts.map (fun t => match t with | .Name id pos => if sc.names.lookup id == some .local && pos.line == l then some id else none | _ => none) = ns.map some := by
  unfold swMir at h
  simp only at h
  split at h
  · cases h
  · rename_i h1
    split at h
    · cases h
    · split at h
      · cases h
      · rename_i h3
        split at h
        · cases h
        · split at h
          · cases h
          · cases h
            simp only [Bool.or_eq_true, Bool.not_eq_true', bne_iff_ne, ne_eq, not_or, Bool.not_eq_false, beq_iff_eq, Decidable.not_not] at h1 h3
            refine ⟨h1.1, h1.2, by rw [h3.2, h3.1], _, fm_all h3.1⟩

theorem name_some {sc : Scope} {x y : Str} {px : Pos} {l : Nat} (h : (match (Expr.Name x px) with | .Name id pos => if sc.names.lookup id == some .local && pos.line == l then some id else none | _ => none) = some y) : sc.names.lookup x = some .local ∧ y = x := by
  simp only at h
  split at h
  · rename_i hc
    cases h
    rw [Bool.and_eq_true, beq_iff_eq] at hc
    exact ⟨hc.1, rfl⟩
  · cases h
theorem ix_ne {N : List Str} {i j : Nat} {x y : Str} (h1 : N[i]? = some x) (h2 : N[j]? = some y) (h : x ≠ y) : i ≠ j := by
  rintro rfl
  rw [h1] at h2
  exact h (Option.some.inj h2)
theorem ss_par {is : List Nat} {es : Es} (hs : SA T d N es) : SS T d N (.par is es) := by
  intro X sc ow q A hc s st fl st' io H t D rs R e p
  simp only [chS] at hc
  split at hc
  · rename_i tg k tp vs k2 p2 pos
    simp only [Bool.and_eq_true] at hc
    obtain ⟨⟨c1, c2⟩, c3⟩ := hc
    have c3 : ∃ ns, swMir sc tg (.Tuple vs k2 p2) = some (some ns) := by
      split at c3
      · rename_i ns h; exact ⟨ns, h⟩
      · cases c3
    obtain ⟨ns, c3⟩ := c3
    have hw := sw_eq (k := k) (p := tp) (env := X.env) (by rw [A.hsc]; exact A.kind) (by rw [A.hsc]; exact c3)
    obtain ⟨hlen, hv, hd, l, hm⟩ := sw_some c3
    simp only [exec] at e
    obtain ⟨us, st1, e1, e⟩ := bind_eq_ok.mp e
    split at e
    · rename_i s1 es1
      cases e
      have hsw : ∀ tg' vs', swapsWithSole [.Tuple tg' k tp] (.Tuple vs' k2 p2) pos.line X.env = pure false := fun _ _ => rfl
      have fin : ∀ (io1 : Nat → Addr) (H1 : Hp) (ws : List V), Up io st.n H io1 st'.n H1 → Rl X.K T.G.kt T.ca io1 st' H1 → RVs X.K T.G.kt io1 st'.n H1 us ws → is.length = ws.length ∧ D.nx (setAllV is ws t) H1 := fun io1 H1 ws u1 R1 r1 => by
        obtain ⟨z, hl⟩ := setAll_rs (rs.up u1) r1 es1
        exact ⟨hl, p io1 H1 _ u1 R1 z⟩
      intro pins sh I
      cases is with
      | nil =>
        cases tg with
        | nil => simp at hlen
        | cons _ _ => unfold namesB at c2; cases c2
      | cons i is =>
        cases tg with
        | nil => simp at hlen
        | cons t1 tg =>
          cases t1 with
          | Name x px =>
            unfold namesB at c2
            rw [Bool.and_eq_true] at c2
            obtain ⟨ci, c2⟩ := c2
            cases is with
            | nil =>
              cases tg with
              | nil => simp at hlen
              | cons _ _ => unfold namesB at c2; cases c2
            | cons j is =>
              cases tg with
              | nil => simp at hlen
              | cons t2 tg =>
                cases t2 with
                | Name y py =>
                  unfold namesB at c2
                  rw [Bool.and_eq_true] at c2
                  obtain ⟨cj, c2⟩ := c2
                  have hi := (stB_ok A.toAt ci).1
                  have hj := (stB_ok A.toAt cj).1
                  cases is with
                  | nil =>
                    cases tg with
                    | cons _ _ => unfold namesB at c2; cases c2
                    | nil =>
                      have h2 : ns.length = 2 := by have := congrArg List.length hm; simpa using this.symm
                      obtain ⟨a, b, rfl⟩ := len2 h2
                      · simp only [List.map_cons, List.map_nil, List.cons.injEq, and_true] at hm
                        obtain ⟨hx, rfl⟩ := name_some hm.1
                        obtain ⟨hy, rfl⟩ := name_some hm.2
                        match vs, hv, c1, hs X sc ow vs A.toAt c1 with
                        | [v1, v2], hv, c1, hs' =>
                          refine (ps_par A.calm A.nodup hi hj (ix_ne hi hj (dups2 hd)) (by rw [A.hsc]; exact hx) (by rw [A.hsc]; exact hy) pa_sem hw (hsw _ _)).run pins sh t H D I ?_
                          refine hs' s st us st' io H t _ rs R e1 fun io1 H1 ws u1 R1 r1 => ?_
                          obtain ⟨hl, z⟩ := fin io1 H1 ws u1 R1 r1
                          match ws, hl, z with
                          | [w1, w2], hl, z => exact ⟨w1, w2, rfl, z⟩
                  | cons k3 is =>
                    cases tg with
                    | nil => unfold namesB at c2; cases c2
                    | cons t3 tg =>
                      cases t3 with
                      | Name z3 pz =>
                        unfold namesB at c2
                        rw [Bool.and_eq_true] at c2
                        obtain ⟨ck, c2⟩ := c2
                        have hk := (stB_ok A.toAt ck).1
                        cases tg with
                        | cons _ _ => simp at hlen
                        | nil =>
                          cases is with
                          | cons _ _ => unfold namesB at c2; cases c2
                          | nil =>
                            have h2 : ns.length = 3 := by have := congrArg List.length hm; simpa using this.symm
                            obtain ⟨a, b, c, rfl⟩ := len3 h2
                            · simp only [List.map_cons, List.map_nil, List.cons.injEq, and_true] at hm
                              obtain ⟨hx, rfl⟩ := name_some hm.1
                              obtain ⟨hy, rfl⟩ := name_some hm.2.1
                              obtain ⟨hz, rfl⟩ := name_some hm.2.2
                              obtain ⟨n1, n2, n3⟩ := dups3 hd
                              match vs, hv, c1, hs X sc ow vs A.toAt c1 with
                              | [v1, v2, v3], hv, c1, hs' =>
                                refine (ps_par3 A.calm A.nodup hi hj hk (ix_ne hi hj n1) (ix_ne hi hk n2) (ix_ne hj hk n3) (by rw [A.hsc]; exact hx) (by rw [A.hsc]; exact hy) (by rw [A.hsc]; exact hz) pa_sem hw (hsw _ _)).run pins sh t H D I ?_
                                refine hs' s st us st' io H t _ rs R e1 fun io1 H1 ws u1 R1 r1 => ?_
                                obtain ⟨hl, z⟩ := fin io1 H1 ws u1 R1 r1
                                match ws, hl, z with
                                | [w1, w2, w3], hl, z => exact ⟨w1, w2, w3, rfl, z⟩
                      | _ => unfold namesB at c2; cases c2
                | _ => unfold namesB at c2; cases c2
          | _ => unfold namesB at c2; cases c2
    · cases e
  · cases hc

/-! ### x op= e -/
theorem iop_ok {X : Cx} {o : Bop} {a b v : Val} {x y : V} {io : Nat → Addr} {st st' : Store} {H : Hp} {Q : VK} (R : Rl X.K T.G.kt T.ca io st H) (ra : RV X.K T.G.kt io st.n H a x) (rb : RV X.K T.G.kt io st.n H b y) (e : iop o a b st = .ok v st') (p : Post X.K T.G.kt T.ca io st H v st' Q) :
    oSem X (inplaceOp (opOf o)) x y H Q ∧ st' = st := by
  unfold iop at e
  split at e
  · cases e
    obtain rfl := ra.iint
    obtain rfl := rb.iint
    exact ⟨oSem.of iop_add ⟨_, _, rfl, rfl, p.here R (.int _)⟩, rfl⟩
  · cases e
    obtain rfl := ra.iint
    obtain rfl := rb.iint
    exact ⟨oSem.of iop_sub ⟨_, _, rfl, rfl, p.here R (.int _)⟩, rfl⟩
  · cases e
theorem ss_aug {i : Nat} {o : Bop} {a : E} (ha : SE T d N a) : SS T d N (.aug i o a) := by
  intro X sc ow q A hc s st fl st' io H t D rs R e p
  simp only [chS] at hc
  split at hc
  · simp only [Bool.and_eq_true, decide_eq_true_eq] at hc
    obtain ⟨⟨rfl, c1⟩, c2⟩ := hc
    obtain ⟨h1, h2, h3⟩ := stB_ok A.toAt c1
    simp only [exec] at e
    split at e
    · rename_i x ex
      obtain ⟨y, st1, e1, e⟩ := bind_eq_ok.mp e
      obtain ⟨z, st2, e2, e⟩ := bind_eq_ok.mp e
      cases e
      obtain ⟨w, ew, rw'⟩ := rs.2 i x ex
      intro pins sh I
      refine (ps_aug (ti := oSem X (inplaceOp (opOf o))) A.nodup h1 h2 pe_sem (fun pins s σ H x y v u Q I r1 r2 h => h pins s σ v u I r1 r2) h3).run pins sh t H D I ⟨w, ew, ?_⟩
      refine ha X sc ow _ A.toAt c2 s st y st1 io H t _ rs R e1 fun io1 H1 w1 u1 R1 r1 => ?_
      exact (iop_ok R1 (rw'.up u1) r1 e2 fun io2 H2 w2 u2 R2 r2 => p io2 H2 _ (u1.trans u2) R2 ((rs.up (u1.trans u2)).set r2 i)).1
    · cases e
  · cases hc
theorem aug_store {i : Expr} (h : noslice i = true) : ∀ ov iv new, augStore i ov iv new = (do holding [new, ov, iv] (setItem ov iv new); release [new, ov, iv] []; pure .next) := fun ov iv new => by
  cases i <;> first | rfl | cases h
theorem ss_aus {a b c : E} {o : Bop} (ha : SE T d N a) (hb : SE T d N b) (hv : SE T d N c) : SS T d N (.aus a b o c) := by
  intro X sc ow q A hc s st fl st' io H t D rs R e p
  simp only [chS] at hc
  split at hc
  · simp only [Bool.and_eq_true, decide_eq_true_eq] at hc
    obtain ⟨⟨⟨⟨rfl, c1⟩, c2⟩, c3⟩, c4⟩ := hc
    simp only [exec] at e
    obtain ⟨x, st1, e1, e⟩ := bind_eq_ok.mp e
    obtain ⟨y, st2, e2, e⟩ := bind_eq_ok.mp e
    obtain ⟨old, st3, e3, e⟩ := bind_eq_ok.mp e
    obtain ⟨v, st4, e4, e⟩ := bind_eq_ok.mp e
    obtain ⟨z, st5, e5, e⟩ := bind_eq_ok.mp e
    obtain ⟨n, st6, e6, e⟩ := bind_eq_ok.mp e
    cases e
    obtain ⟨i, v0, w0, rfl, gg⟩ : ∃ (i : Nat) (v0 : Val) (w0 : Unit), x = .ref i ∧ dget T.G.kt (st2.m i) y = some (some old) ∧ st3 = st2 := by
      unfold getD at e3
      split at e3
      · split at e3
        · rename_i h; cases e3; exact ⟨_, old, (), rfl, h, rfl⟩
        · cases e3
      · cases e3
    obtain ⟨gg, rfl⟩ := gg
    have hu := A.hu
    intro pins sh I
    refine (ps_daug (rd := oSem X (inplaceOp (opOf o))) (by omega) pe_sem pe_sem pe_sem (fun pins s σ H x y u v Q I r1 r2 h => h pins s σ u v I r1 r2) (aug_store c3)).run pins sh t H D I ?_
    refine ha X sc ow _ A.toAt c1 s st _ st1 io H t _ rs R e1 fun io1 H1 w1 u1 R1 r1 => ?_
    refine hb X sc ow _ A.toAt c2 s st1 y _ io1 H1 t _ (rs.up u1) R1 e2 fun io2 H2 w2 u2 R2 r2 => ?_
    have r1' := r1.up u2
    obtain ⟨rfl, hi⟩ := r1'.iref
    obtain ⟨rw', g, rr⟩ := dget_ok R2 rfl r2 gg
    cases rw' with
    | none => cases rr
    | some wz =>
      refine ⟨_, wz, rfl, g, ?_⟩
      refine hv X sc ow _ A.toAt c4 s _ v st4 io2 H2 t _ (rs.up (u1.trans u2)) R2 e4 fun io3 H3 w3 u3 R3 r3 => ?_
      refine (iop_ok R3 (RV.up u3 rr) r3 e5 fun io4 H4 w4 u4 R4 r4 => ?_).1
      have U := (u1.trans u2).trans (u3.trans u4)
      have hio : io4 i = io2 i := (u3.trans u4).io i hi
      have hi4 : i < st5.n := Nat.lt_of_lt_of_le hi (u3.trans u4).le
      have r2' := r2.up (u3.trans u4)
      rw [← hio]
      unfold putD at e6
      simp only at e6
      split at e6
      · rename_i kvs em
        split at e6
        · rename_i k ek
          split at e6
          · rename_i hz
            obtain ⟨hr, _, rfl⟩ := wr_inv e6
            obtain rfl := key1_kV r2' ek
            obtain ⟨kws, _, q, hl⟩ := R4.dictK em
            have up := Up.wr (io := io4) (st := st5) (.dK (putK kws k w4)) (hl hr) trivial
            exact ⟨_, .k (hl hr) (by rw [← q.length]; exact hz), p io4 _ t (U.trans up) (R4.wr hi4 hr (.dK upd_same ((q.put k r4).up up))) (rs.up (U.trans up))⟩
          · cases e6
        · cases e6
      · rename_i kvs em
        split at e6
        · rename_i ks ek
          split at e6
          · rename_i hz
            obtain ⟨hr, _, rfl⟩ := wr_inv e6
            obtain ⟨b1, rfl, hb1⟩ := keyT_ok r2' ek
            obtain ⟨kws, _, q, hl⟩ := R4.dictT em
            have up := Up.wr (io := io4) (st := st5) (.dT (putK kws ks w4)) (hl hr) trivial
            exact ⟨_, .t (hl hr) hb1 (by rw [← q.length]; exact hz), p io4 _ t (U.trans up) (R4.wr hi4 hr (.dT upd_same ((q.put ks r4).up up))) (rs.up (U.trans up))⟩
          · cases e6
        · cases e6
      · cases e6
  · cases hc
theorem ss_auf {a c : E} {f : Str} {o : Bop} (ha : SE T d N a) (hv : SE T d N c) : SS T d N (.auf a f o c) := by
  intro X sc ow q A hc s st fl st' io H t D rs R e p
  simp only [chS] at hc
  split at hc
  · simp only [Bool.and_eq_true, decide_eq_true_eq] at hc
    obtain ⟨⟨⟨rfl, rfl⟩, c1⟩, c2⟩ := hc
    simp only [exec] at e
    obtain ⟨x, st1, e1, e⟩ := bind_eq_ok.mp e
    obtain ⟨old, st2, e2, e⟩ := bind_eq_ok.mp e
    obtain ⟨v, st3, e3, e⟩ := bind_eq_ok.mp e
    obtain ⟨z, st4, e4, e⟩ := bind_eq_ok.mp e
    split at e
    case isFalse => cases e
    rename_i hcl
    obtain ⟨n, st5, e5, e⟩ := bind_eq_ok.mp e
    cases e
    intro pins sh I
    refine (ps_fldaug (rd := oSem X (inplaceOp (opOf o))) pe_sem pe_sem (fun pins s σ H x y u v Q I r1 r2 h => h pins s σ u v I r1 r2)).run pins sh t H D I ?_
    refine ha X sc ow _ A.toAt c1 s st x st1 io H t _ rs R e1 fun io1 H1 w1 u1 R1 r1 => ?_
    obtain ⟨i, rfl⟩ : ∃ i, x = .ref i := by
      unfold getF at e2
      split at e2
      · exact ⟨_, rfl⟩
      · cases e2
    unfold getF at e2
    simp only at e2
    · obtain ⟨rfl, hi⟩ := r1.iref
      split at e2
      · rename_i cc fs em
        split at e2
        · rename_i hf
          split at e2
          · rename_i u el
            cases e2
            obtain ⟨_, _, dx, gs, h1, rk⟩ := R1.inst em
            obtain ⟨cl, na⟩ := A.top.fl cc f hf
            rcases rk.lookup f with ⟨e6, _⟩ | ⟨v', w', e6, e7, rv⟩
            · rw [el] at e6; cases e6
            · rw [el] at e6; cases e6
              refine ⟨_, _, dx, gs, w', rfl, h1, cl, na, e7, ?_⟩
              refine hv X sc ow _ A.toAt c2 s _ v st3 io1 H1 t _ (rs.up u1) R1 e3 fun io2 H2 w2 u2 R2 r2 => ?_
              refine (iop_ok R2 (rv.up u2) r2 e4 fun io3 H3 w3 u3 R3 r3 => ?_).1
              have hio : io3 i = io1 i := (u2.trans u3).io i hi
              have hi3 : i < st4.n := Nat.lt_of_lt_of_le hi (u2.trans u3).le
              unfold putF at e5
              simp only at e5
              split at e5
              · rename_i cc2 fs2 em2
                split at e5
                · rename_i hf2
                  obtain ⟨hr, _, rfl⟩ := wr_inv e5
                  obtain ⟨_, _, dx2, gs2, h2, rk2⟩ := R3.inst em2
                  have up := Up.wr (io := io3) (st := st4) (.ins (T.ca cc2) dx2 (L2.putF f w3 gs2)) h2 trivial
                  have R4 := R3.wr hi3 hr (.ins upd_same ((rk2.setF f r3).up up))
                  have hcc : cc2 = cc := by
                    unfold clsOf at hcl
                    simp only [em, em2] at hcl
                    exact Option.some.inj hcl
                  subst hcc
                  rw [hio] at h2 up R4
                  exact ⟨dx2, gs2, h2, by rw [← rk2.length]; exact hf2.2, p io3 _ t ((u1.trans (u2.trans u3)).trans up) R4 (rs.up ((u1.trans (u2.trans u3)).trans up))⟩
                · cases e5
              · cases e5
          · cases e2
        · cases e2
      · cases e2
  · cases hc

/-! ### small ones -/
theorem ss_ex {a : E} (ha : SE T d N a) : SS T d N (.ex a) := by
  intro X sc ow q A hc s st fl st' io H t D rs R e p
  simp only [chS] at hc
  split at hc
  · rw [Bool.and_eq_true] at hc
    simp only [exec] at e
    obtain ⟨u, st1, e1, e⟩ := bind_eq_ok.mp e
    cases e
    intro pins sh I
    refine (ps_expr pe_sem (swap_none hc.2)).run pins sh t H D I ?_
    exact ha X sc ow _ A.toAt hc.1 s st u _ io H t _ rs R e1 fun io1 H1 w u1 R1 r1 => p io1 H1 t u1 R1 (rs.up u1)
  · cases hc
theorem ss_ret {a : E} (ha : SE T d N a) : SS T d N (.ret a) := by
  intro X sc ow q A hc s st fl st' io H t D rs R e p
  simp only [chS] at hc
  split at hc
  · simp only [exec] at e
    obtain ⟨u, st1, e1, e⟩ := bind_eq_ok.mp e
    cases e
    intro pins sh I
    refine (ps_ret pe_sem).run pins sh t H D I ?_
    exact ha X sc ow _ A.toAt hc s st u _ io H t _ rs R e1 p
  · cases hc
theorem ss_rtN : SS T d N .rtN := by
  intro X sc ow q A hc s st fl st' io H t D rs R e p
  simp only [chS] at hc
  split at hc
  · simp only [exec] at e
    cases e
    intro pins sh I
    exact ps_retN.run pins sh t H D I (p io H .non (.refl _ _ _) R .non)
  · cases hc
theorem ss_pass : SS T d N .pass := by
  intro X sc ow q A hc s st fl st' io H t D rs R e p
  simp only [chS] at hc
  split at hc
  · simp only [exec] at e
    cases e
    intro pins sh I
    exact ps_pass.run pins sh t H D I (p io H t (.refl _ _ _) R rs)
  · cases hc
theorem ss_brk : SS T d N .brk := by
  intro X sc ow q A hc s st fl st' io H t D rs R e p
  simp only [chS] at hc
  split at hc
  · simp only [exec] at e
    cases e
    intro pins sh I
    exact ps_break.run pins sh t H D I (p io H t (.refl _ _ _) R rs)
  · cases hc
theorem ss_cnt : SS T d N .cnt := by
  intro X sc ow q A hc s st fl st' io H t D rs R e p
  simp only [chS] at hc
  split at hc
  · simp only [exec] at e
    cases e
    intro pins sh I
    exact ps_continue.run pins sh t H D I (p io H t (.refl _ _ _) R rs)
  · cases hc
theorem ss_cond {c : B} {a b : Ss} (hb : SB T d N c) (h1 : SSs T d N a) (h2 : SSs T d N b) : SS T d N (.cond c a b) := by
  intro X sc ow q A hc s st fl st' io H t D rs R e p
  simp only [chS] at hc
  split at hc
  · simp only [Bool.and_eq_true] at hc
    simp only [exec] at e
    obtain ⟨k, st1, e1, e⟩ := bind_eq_ok.mp e
    intro pins sh I
    refine (ps_if pt_sem pss_sem pss_sem).run pins sh t H D I ?_
    refine hb X sc ow _ A.toAt hc.1.1 s st k st1 io H t _ rs R e1 fun io1 H1 u1 R1 => ?_
    cases k with
    | true =>
      rw [if_pos rfl] at e ⊢
      exact h1 X sc ow _ A hc.1.2 s st1 fl st' io1 H1 t D (rs.up u1) R1 e (p.after u1)
    | false =>
      rw [if_neg (by decide)] at e ⊢
      exact h2 X sc ow _ A hc.2 s st1 fl st' io1 H1 t D (rs.up u1) R1 e (p.after u1)
  · cases hc
theorem whl_inv {tf : Env → Store → Res Bool} {bf : Env → Store → Res Fl} {n : Nat} {s : Env} {st st' : Store} {fl : Fl} (e : whlLoop tf bf n s st = .ok fl st') : ∃ m k st1, n = m + 1 ∧ tf s st = .ok k st1 ∧
    ((k = false ∧ fl = .nx s ∧ st' = st1) ∨ (k = true ∧ ∃ f2 st2, bf s st1 = .ok f2 st2 ∧ ((∃ s2, (f2 = .nx s2 ∨ f2 = .ct s2) ∧ whlLoop tf bf m s2 st2 = .ok fl st') ∨ (∃ s2, f2 = .bk s2 ∧ fl = .nx s2 ∧ st' = st2) ∨ ∃ v, f2 = .rt v ∧ fl = .rt v ∧ st' = st2))) := by
  cases n with
  | zero => cases e
  | succ m =>
    unfold whlLoop at e
    obtain ⟨k, st1, e1, e⟩ := bind_eq_ok.mp e
    refine ⟨m, k, st1, rfl, e1, ?_⟩
    cases k with
    | false =>
      rw [if_neg (by decide)] at e
      cases e
      exact .inl ⟨rfl, rfl, rfl⟩
    | true =>
      rw [if_pos rfl] at e
      obtain ⟨f2, st2, e2, e⟩ := bind_eq_ok.mp e
      refine .inr ⟨rfl, f2, st2, e2, ?_⟩
      cases f2 with
      | nx s2 => exact .inl ⟨s2, .inl rfl, e⟩
      | ct s2 => exact .inl ⟨s2, .inr rfl, e⟩
      | bk s2 => cases e; exact .inr (.inl ⟨s2, rfl, rfl, rfl⟩)
      | rt v => cases e; exact .inr (.inr ⟨v, rfl, rfl, rfl⟩)
theorem ss_whl {c : B} {b : Ss} (hb : SB T d N c) (h1 : SSs T d N b) : SS T d N (.whl c b) := by
  intro X sc ow q A hc s st fl st' io H t D rs R e p
  simp only [chS] at hc
  split at hc
  · rename_i q1 r pos
    simp only [Bool.and_eq_true] at hc
    simp only [exec] at e
    intro pins sh I
    refine (ps_while A.own pt_sem pss_sem).run pins sh t H D I ?_
    refine ⟨fun m t2 H2 => ∃ (io2 : Nat → Addr) (st2 : Store) (s2 : Env), Up io st.n H io2 st2.n H2 ∧ Rl X.K T.G.kt T.ca io2 st2 H2 ∧ RS X.K T.G.kt io2 st2.n H2 s2 t2 ∧ whlLoop (ts (T.cx d) c) (fun s st => execs (T.cx d) b s st) m s2 st2 = .ok fl st',
      ⟨T.fuel, io, st, s, .refl _ _ _, R, rs, e⟩, ?_⟩
    rintro m t2 H2 ⟨io2, st2, s2, u2, R2, rs2, e2⟩
    obtain ⟨m', k, st3, rfl, e3, e4⟩ := whl_inv e2
    refine hb X sc ow _ A.toAt hc.1 s2 st2 k st3 io2 H2 t2 _ rs2 R2 e3 fun io3 H3 u3 R3 => ?_
    rcases e4 with ⟨rfl, rfl, rfl⟩ | ⟨rfl, f2, st4, e5, e6⟩
    · rw [if_neg (by decide)]
      exact p io3 H3 t2 (u2.trans u3) R3 (rs2.up u3)
    · rw [if_pos rfl]
      refine ⟨fun t4 H4 => ∃ (io4 : Nat → Addr) (st4 : Store) (s4 : Env), Up io st.n H io4 st4.n H4 ∧ Rl X.K T.G.kt T.ca io4 st4 H4 ∧ RS X.K T.G.kt io4 st4.n H4 s4 t4 ∧ whlLoop (ts (T.cx d) c) (fun s st => execs (T.cx d) b s st) m' s4 st4 = .ok fl st',
        fun t4 H4 ⟨io4, st4, s4, a1, a2, a3, a4⟩ => ⟨m', Nat.lt_succ_self _, io4, st4, s4, a1, a2, a3, a4⟩, ?_⟩
      refine h1 X sc ow r A hc.2 s2 st3 f2 st4 io3 H3 t2 _ (rs2.up u3) R3 e5 ?_
      have U := u2.trans u3
      rcases e6 with ⟨s4, rfl | rfl, e7⟩ | ⟨s4, rfl, rfl, rfl⟩ | ⟨v, rfl, rfl, rfl⟩
      · exact fun io4 H4 t4 u4 R4 rs4 => ⟨io4, st4, s4, U.trans u4, R4, rs4, e7⟩
      · exact fun io4 H4 t4 u4 R4 rs4 => ⟨io4, st4, s4, U.trans u4, R4, rs4, e7⟩
      · exact fun io4 H4 t4 u4 R4 rs4 => p io4 H4 t4 (U.trans u4) R4 rs4
      · exact fun io4 H4 w u4 R4 r4 => p io4 H4 w (U.trans u4) R4 r4
  · cases hc
theorem for_inv {w : Watch} {f : Val → Env → Store → Res Fl} {x : Val} {r : List Val} {s : Env} {st st' : Store} {fl : Fl} (e : forLoop w f (x :: r) s st = .ok fl st') : st.sees w = true ∧ ∃ f2 st2, f x s st = .ok f2 st2 ∧
    ((∃ s2, (f2 = .nx s2 ∨ f2 = .ct s2) ∧ forLoop w f r s2 st2 = .ok fl st') ∨ (∃ s2, f2 = .bk s2 ∧ fl = .nx s2 ∧ st' = st2) ∨ ∃ v, f2 = .rt v ∧ fl = .rt v ∧ st' = st2) := by
  unfold forLoop at e
  split at e
  · rename_i h
    obtain ⟨f2, st2, e2, e⟩ := bind_eq_ok.mp e
    refine ⟨h, f2, st2, e2, ?_⟩
    cases f2 with
    | nx s2 => exact .inl ⟨s2, .inl rfl, e⟩
    | ct s2 => exact .inl ⟨s2, .inr rfl, e⟩
    | bk s2 => cases e; exact .inr (.inl ⟨s2, rfl, rfl, rfl⟩)
    | rt v => cases e; exact .inr (.inr ⟨v, rfl, rfl, rfl⟩)
  · cases e
theorem ss_for {tt : Tg} {w : I} {b : Ss} (hw : SI T d N w) (h1 : SSs T d N b) : SS T d N (.for tt w b) := by
  intro X sc ow q A hc s st fl st' io H t D rs R e p
  simp only [chS] at hc
  split at hc
  · rename_i tg it r pos
    simp only [Bool.and_eq_true] at hc
    obtain ⟨⟨⟨c1, c2⟩, c3⟩, c4⟩ := hc
    simp only [exec] at e
    obtain ⟨q1, st1, e1, e⟩ := bind_eq_ok.mp e
    intro pins sh I
    refine (ps_for A.own A.calm pi_sem pg_sem pss_sem (folded c2)).run pins sh t H D I ?_
    refine hw X sc ow tg it A.toAt c1 s st q1 st1 io H t _ rs R e1 fun io1 H1 J u1 R1 wl => ?_
    generalize hf : onTg tt (fun s st => execs (T.cx d) b s st) = f at e
    refine ⟨fun i m t2 H2 => m = q1.1.length - i ∧ i ≤ q1.1.length ∧ ∃ (io2 : Nat → Addr) (st2 : Store) (s2 : Env), Up io1 st1.n H1 io2 st2.n H2 ∧ Rl X.K T.G.kt T.ca io2 st2 H2 ∧ RS X.K T.G.kt io2 st2.n H2 s2 t2 ∧ forLoop q1.2 f (q1.1.drop i) s2 st2 = .ok fl st',
      ⟨_, rfl, Nat.zero_le _, io1, st1, s, .refl _ _ _, R1, rs.up u1, by rw [List.drop_zero]; exact e⟩, ?_⟩
    rintro i m t2 H2 ⟨rfl, hi, io2, st2, s2, u2, R2, rs2, e2⟩
    by_cases hlt : i < q1.1.length
    · rw [List.drop_eq_getElem_cons hlt] at e2
      obtain ⟨hse, f2, st3, e3, e4⟩ := for_inv e2
      refine .inr ⟨wl.go i io2 st2 H2 u2 R2 hse hlt, fun t4 H4 => ∃ (io4 : Nat → Addr) (st4 : Store) (s4 : Env), Up io1 st1.n H1 io4 st4.n H4 ∧ Rl X.K T.G.kt T.ca io4 st4 H4 ∧ RS X.K T.G.kt io4 st4.n H4 s4 t4 ∧ forLoop q1.2 f (q1.1.drop (i + 1)) s4 st4 = .ok fl st',
        fun t4 H4 ⟨io4, st4, s4, a1, a2, a3, a4⟩ => ⟨q1.1.length - (i + 1), by omega, rfl, hlt, io4, st4, s4, a1, a2, a3, a4⟩, fun x H3 hy => ?_⟩
      obtain ⟨u3, R3, r3⟩ := wl.yld i _ io2 st2 H2 x H3 u2 R2 hse (List.getElem?_eq_getElem hlt) hy
      rw [← hf] at e3
      unfold onTg at e3
      split at e3
      · rename_i s' es
        refine tg_sem A.toAt c3 (rs2.up u3) r3 es fun ws rs3 => ?_
        refine h1 X sc ow r A c4 s' st2 f2 st3 io2 H3 _ _ rs3 R3 e3 ?_
        have U := u2.trans u3
        rcases e4 with ⟨s4, rfl | rfl, e7⟩ | ⟨s4, rfl, rfl, rfl⟩ | ⟨v, rfl, rfl, rfl⟩
        · exact fun io4 H4 t4 u4 R4 rs4 => ⟨io4, st3, s4, U.trans u4, R4, rs4, e7⟩
        · exact fun io4 H4 t4 u4 R4 rs4 => ⟨io4, st3, s4, U.trans u4, R4, rs4, e7⟩
        · exact fun io4 H4 t4 u4 R4 rs4 => p io4 H4 t4 (u1.trans (U.trans u4)) R4 rs4
        · exact fun io4 H4 w u4 R4 r4 => p io4 H4 w (u1.trans (U.trans u4)) R4 r4
      · cases e3
    · have hi' : i = q1.1.length := by omega
      subst hi'
      rw [List.drop_length] at e2
      unfold forLoop at e2
      split at e2
      · rename_i hse
        cases e2
        exact .inl ⟨wl.stop io2 _ H2 u2 R2 hse, p io2 H2 t2 (u1.trans u2) R2 rs2⟩
      · cases e2
  · cases hc
theorem sss_nil : SSs T d N .nil := by
  intro X sc ow ps A hc s st fl st' io H t D rs R e p
  simp only [chSs] at hc
  split at hc
  · simp only [execs] at e
    cases e
    intro pins sh I
    exact pss_nil.run pins sh t H D I (p io H t (.refl _ _ _) R rs)
  · cases hc
theorem sss_cons {x : S} {r : Ss} (h1 : SS T d N x) (h2 : SSs T d N r) : SSs T d N (.cons x r) := by
  intro X sc ow ps A hc s st fl st' io H t D rs R e p
  simp only [chSs] at hc
  split at hc
  · rw [Bool.and_eq_true] at hc
    simp only [execs] at e
    obtain ⟨f2, st1, e1, e⟩ := bind_eq_ok.mp e
    intro pins sh I
    refine (pss_cons ps_sem pss_sem).run pins sh t H D I ?_
    refine h1 X sc ow _ A hc.1 s st f2 st1 io H t _ rs R e1 ?_
    cases f2 with
    | nx s1 => exact fun io1 H1 t1 u1 R1 rs1 => h2 X sc ow _ A hc.2 s1 st1 fl st' io1 H1 t1 D rs1 R1 e (p.after u1)
    | rt v => cases e; exact p
    | bk s1 => cases e; exact p
    | ct s1 => cases e; exact p
  · cases hc
end
end CL

/-! CL, part m: the whole: every def of the table keeps its promise; a law from its run -/
namespace CL
open PySem PySem.Spec PyProof.Rows L2
section
variable {T : Tab} {d : Nat} {N : List Str}
/-- what is wanted of an expression's parts -/
def Pt (T : Tab) (d : Nat) (N : List Str) : E → Prop
  | .cmp _ a b => SE T d N a ∧ SE T d N b
  | .cm2 _ _ a b c => SE T d N a ∧ SE T d N b ∧ SE T d N c
  | .isN a => SE T d N a
  | .noN a => SE T d N a
  | .lc _ w c e => SI T d N w ∧ SB T d N c ∧ SE T d N e
  | _ => True
theorem sb_of {e : E} (h : SE T d N e) (p : Pt T d N e) : SB T d N (.of e) := by
  cases e with
  | cmp o a b => exact sb_cmp p.1 p.2
  | cm2 o o2 a b c => exact sb_cm2 p.1 p.2.1 p.2.2
  | isN a => exact sb_isN p
  | noN a => exact sb_noN p
  | _ => exact sb_plain h rfl
variable (T d N)
mutual
theorem all_e : ∀ e : E, SE T d N e ∧ Pt T d N e
  | .v _ => ⟨se_v, trivial⟩
  | .int _ => ⟨se_int, trivial⟩
  | .str _ => ⟨se_str, trivial⟩
  | .bl _ => ⟨se_bl, trivial⟩
  | .non => ⟨se_non, trivial⟩
  | .gl _ => ⟨se_gl, trivial⟩
  | .tup es => ⟨se_tup (all_es es), trivial⟩
  | .lst es => ⟨se_lst (all_es es), trivial⟩
  | .dic ps => ⟨se_dic (all_ps ps), trivial⟩
  | .neg a => ⟨se_neg (all_e a).1, trivial⟩
  | .bin _ a b => ⟨se_bin (all_e a).1 (all_e b).1, trivial⟩
  | .cmp _ a b => ⟨se_cmp (all_e a).1 (all_e b).1, (all_e a).1, (all_e b).1⟩
  | .cm2 _ _ a b c => ⟨se_cm2 (all_e a).1 (all_e b).1 (all_e c).1, (all_e a).1, (all_e b).1, (all_e c).1⟩
  | .isN a => ⟨se_isN (all_e a).1, (all_e a).1⟩
  | .noN a => ⟨se_noN (all_e a).1, (all_e a).1⟩
  | .and a b => ⟨se_and (all_e a).1 (all_e b).1, trivial⟩
  | .or a b => ⟨se_or (all_e a).1 (all_e b).1, trivial⟩
  | .not a => ⟨se_not (all_e a).1, trivial⟩
  | .ite c a b => ⟨se_ite (all_b c) (all_e a).1 (all_e b).1, trivial⟩
  | .sub a i => ⟨se_sub (all_e a).1 (all_e i).1, trivial⟩
  | .cut a lo hi => ⟨se_cut (all_e a).1 (all_o lo) (all_o hi), trivial⟩
  | .cut3 a lo hi _ => ⟨se_cut3 (all_e a).1 (all_o lo) (all_o hi), trivial⟩
  | .fld a _ => ⟨se_fld (all_e a).1, trivial⟩
  | .call _ es => ⟨se_call (all_es es), trivial⟩
  | .make _ es => ⟨se_make (all_es es), trivial⟩
  | .met a _ es => ⟨se_met (all_e a).1 (all_es es), trivial⟩
  | .bm _ a es => ⟨se_bm (all_e a).1 (all_es es), trivial⟩
  | .bf _ es => ⟨se_bf (all_es es), trivial⟩
  | .isi a _ => ⟨se_isi (all_e a).1, trivial⟩
  | .lzip a b => ⟨se_lzip (all_e a).1 (all_e b).1, trivial⟩
  | .lrg1 a => ⟨se_lrg1 (all_e a).1, trivial⟩
  | .lrg2 a b => ⟨se_lrg2 (all_e a).1 (all_e b).1, trivial⟩
  | .dcall _ => ⟨se_dcall, trivial⟩
  | .sset a => ⟨se_sset (all_e a).1, trivial⟩
  | .lc _ w c e => ⟨se_lc (all_i w) (all_b c) (all_e e).1, all_i w, all_b c, (all_e e).1⟩
  | .bad => ⟨fun _ _ _ _ _ _ _ _ _ _ _ _ _ _ _ _ e => (nomatch e), trivial⟩
theorem all_es : ∀ es : Es, SA T d N es
  | .nil => sa_nil
  | .cons e es => sa_cons (all_e e).1 (all_es es)
theorem all_o : ∀ o : Eo, SO T d N o
  | .no => so_no
  | .so e => so_so (all_e e).1
theorem all_ps : ∀ ps : Ps, SPp T d N ps
  | .nil => sp_nil
  | .cons k v ps => sp_cons (all_e k).1 (all_e v).1 (all_ps ps)
theorem all_b : ∀ b : B, SB T d N b
  | .yes => sb_yes
  | .of e => sb_of (all_e e).1 (all_e e).2
  | .and a b => sb_and (all_b a) (all_b b)
  | .or a b => sb_or (all_b a) (all_b b)
  | .not a => sb_not (all_b a)
theorem all_i : ∀ w : I, SI T d N w
  | .of e => si_of (all_e e).1
  | .rg1 a => si_rg1 (all_e a).1
  | .rg2 a b => si_rg2 (all_e a).1 (all_e b).1
  | .enu e => si_enu (all_e e).1
  | .zip a b => si_zip (all_e a).1 (all_e b).1
end
theorem all_ts : ∀ ts : List CL.T, ST T d N ts
  | [] => .nil
  | .one _ :: ts => .one (all_ts ts)
  | .sub a b :: ts => .sub (all_e T d N a).1 (all_e T d N b).1 (all_ts ts)
  | .fld _ _ :: ts => .fld (all_ts ts)
mutual
theorem all_s : ∀ x : S, SS T d N x
  | .asg (.one i) e => ss_asg_one (all_e T d N e).1 fun tt w c b h => by
      have p := (all_e T d N e).2
      rw [h] at p
      exact p
  | .asg (.sub a b) e => ss_asg_sub (all_e T d N a).1 (all_e T d N b).1 (all_e T d N e).1
  | .asg (.fld a f) e => ss_asg_fld (all_e T d N a).1 (all_e T d N e).1
  | .asT ts e => ss_asT (all_ts T d N ts) (all_e T d N e).1
  | .par is es => ss_par (all_es T d N es)
  | .aug i o e => ss_aug (all_e T d N e).1
  | .aus a i o e => ss_aus (all_e T d N a).1 (all_e T d N i).1 (all_e T d N e).1
  | .auf a f o e => ss_auf (all_e T d N a).1 (all_e T d N e).1
  | .ex e => ss_ex (all_e T d N e).1
  | .ret e => ss_ret (all_e T d N e).1
  | .rtN => ss_rtN
  | .cond c a b => ss_cond (all_b T d N c) (all_ss a) (all_ss b)
  | .whl c b => ss_whl (all_b T d N c) (all_ss b)
  | .for t w b => ss_for (all_i T d N w) (all_ss b)
  | .pass => ss_pass
  | .brk => ss_brk
  | .cnt => ss_cnt
  | .bad => fun _ _ _ _ _ _ _ _ _ _ _ _ _ _ _ _ e => (nomatch e)
theorem all_ss : ∀ x : Ss, SSs T d N x
  | .nil => sss_nil
  | .cons s ss => sss_cons (all_s s) (all_ss ss)
end
end

/-! ### defs -/
/-- a def of the text, as it stands, is the table's f -/
structure DefOk (T : Tab) (K : PySem.W.Frag) (f : Nat) (fd : FDef) : Prop where
  ex : ∃ (x qual : Str) (st : Stmt) (N : List Str), Fun K x qual st (T.fa f) (T.fdt f) ∧ FnScope N (T.psn f) (defScope st) ∧ N.length = fd.nl ∧ chSs T.nm N (defScope st) (fun _ => true) fd.body (defBody st) = true
theorem rs_start {K : PySem.W.Frag} {kt : List (List Val)} {io : Nat → Addr} {n : Nat} {H : Hp} {vs : List Val} {ws : List V} (r : RVs K kt io n H vs ws) (k : Nat) : RS K kt io n H (vs.map some ++ List.replicate k none) (ws.map some ++ List.replicate k none) := by
  refine ⟨by simp [r.length], fun i v e => ?_⟩
  by_cases hi : i < vs.length
  · rw [List.getElem?_append_left (by simpa using hi), List.getElem?_map] at e
    cases q : vs[i]? with
    | none => rw [q] at e; cases e
    | some x =>
      rw [q] at e
      have : x = v := by simpa using e
      subst this
      obtain ⟨w, ew, rw'⟩ := r.get q
      refine ⟨w, ?_, rw'⟩
      rw [List.getElem?_append_left (by rw [List.length_map, ← r.length]; exact hi), List.getElem?_map, ew]; rfl
  · rw [List.getElem?_append_right (by simpa using hi)] at e
    rw [List.getElem?_replicate] at e
    split at e <;> cases e
theorem litX_nx {c : Ctx} {x : S} (hx : litX x = true) {s : Env} {st st' : Store} {fl : Fl} (e : exec c x s st = .ok fl st') : ∃ s', fl = .nx s' := by
  unfold litX at hx
  split at hx
  · simp only [exec] at e
    obtain ⟨vs, st0, e0, e1⟩ := bind_eq_ok.mp e
    split at e1
    · cases e1; exact ⟨_, rfl⟩
    · cases e1
  · simp only [exec] at e
    obtain ⟨v, st0, e0, e1⟩ := bind_eq_ok.mp e
    split at e1
    · obtain ⟨s2, st2, e2, e3⟩ := bind_eq_ok.mp e1
      cases e3; exact ⟨_, rfl⟩
    · cases e1
  · cases hx
theorem lit_ss {T : Tab} {d : Nat} {N : List Str} {x : S} {es2 : Es} (hx : litX x = true) : ∀ (X : Cx) (sc : Scope) (ow : Str → Bool) (ps : List Stmt), AtS T d X N sc ow → chSs T.nm N sc ow (.cons x (.cons (.ret (.tup es2)) .nil)) ps = true →
  ∀ (s : Env) (st : Store) (xs : List Val) (st' : Store) (io : Nat → Addr) (H : Hp) (t : L2.St) (D : Ends), RS X.K T.G.kt io st.n H s t → Rl X.K T.G.kt T.ca io st H → execs (T.cx d) (.cons x (.cons (.ret (.tup es2)) .nil)) s st = .ok (.rt (.tup xs)) st' →
    (∀ (io' : Nat → Addr) (H' : Hp) (a : Addr) (o : Obj) (ys : List V), Up io st.n H io' st'.n H' → Rl X.K T.G.kt T.ca io' st' H' → H' a = some (.frz o (.tup ys)) → o.dict = none → RVs X.K T.G.kt io' st'.n H' xs ys → D.rt (.ref a) H') → xsSem X ps D t H := by
  intro X sc ow ps A hc s st xs st' io H t D rs R e p
  rw [chSs.eq_def] at hc
  simp only at hc
  split at hc
  · rw [Bool.and_eq_true] at hc
    simp only [execs] at e
    obtain ⟨f2, st1, e1, e⟩ := bind_eq_ok.mp e
    intro pins sh I
    refine (pss_cons ps_sem pss_sem).run pins sh t H D I ?_
    refine all_s T d N _ X sc ow _ A hc.1 s st f2 st1 io H t _ rs R e1 ?_
    obtain ⟨s9, rfl⟩ := litX_nx hx e1
    · intro io1 H1 t1 u1 R1 rs1
      have hc2 := hc.2
      rw [chSs.eq_def] at hc2
      simp only at hc2
      split at hc2
      · rw [Bool.and_eq_true] at hc2
        simp only [thenF, exec, ev] at e
        obtain ⟨f3, st3, e3, e⟩ := bind_eq_ok.mp e
        obtain ⟨v3, st4, e4, e3⟩ := bind_eq_ok.mp e3
        cases e3
        obtain ⟨vs2, st5, e5, e4⟩ := bind_eq_ok.mp e4
        unfold mkT at e4
        split at e4
        · rename_i hf
          cases e4
          cases e
          have hc3 := hc2.1
          simp only [chS] at hc3
          split at hc3
          · simp only [chE] at hc3
            split at hc3
            · intro pins2 sh2 I2
              refine (pss_cons (ps_ret (pe_tupF pa_sem)) pss_sem).run pins2 sh2 t1 H1 D I2 ?_
              refine all_es T d N es2 X sc ow _ A.toAt hc3 _ _ _ _ io1 H1 t1 _ rs1 R1 e5 fun io2 H2 ws u2 R2 r2 => ⟨by rw [← r2.length]; exact fits_le hf, fun a o ha ho => ?_⟩
              obtain ⟨u3, R3⟩ := R2.laidO (.frz o (.tup ws)) ha
              exact p io2 _ a o ws ((u1.trans u2).trans u3) R3 upd_same ho (r2.up u3)
            · cases hc3
          · cases hc3
        · cases e4
      · cases hc2
  · cases hc
theorem litB_ok {b : Ss} (h : litB b = true) : ∃ x es2, litX x = true ∧ b = .cons x (.cons (.ret (.tup es2)) .nil) := by
  unfold litB at h
  split at h
  · exact ⟨_, _, h, rfl⟩
  · cases h
theorem fns_both {T : Tab} {P : Program} {w : World} {K : PySem.W.Frag} {mg : Str → Option Value} {base : Heap} (tp : Top T K mg) (dk : ∀ f fd, T.G.fn f = some fd → DefOk T K f fd) :
    ∀ d, (∀ f fd, T.G.fn f = some fd → FnOk P w K mg base CX0 d (T.fa f) (T.fdt f) (T.psn f) (spF K T (callN T.G T.fuel d f) (T.psn f).length)) ∧ ∀ f, litF T.G f = true → FnOk P w K mg base CX0 d (T.fa f) (T.fdt f) (T.psn f) (spD K T (callN T.G T.fuel d f)) := by
  intro d
  induction d using Nat.strongRecOn with
  | _ d ih =>
    cases d with
    | zero => exact ⟨fun f fd hf => ⟨fun vs H Q E h => h.1, fun A outer s H args us vs Q E _ _ _ _ h => by
        obtain ⟨_, _, _, _, _, _, _, _, e, _⟩ := h
        cases e⟩, fun f hf => ⟨fun vs H Q E h => by
          obtain ⟨fd, h1, _, h2⟩ := litF_ok hf
          rw [h.1, (tp.fn f fd h1).2.1, h2]; rfl, fun A outer s H args us vs Q E _ _ _ _ h => by
        obtain ⟨_, _, _, _, _, _, e, _⟩ := h
        cases e⟩⟩
    | succ d =>
      refine ⟨fun f fd hf => ?_, fun f hlit => ?_⟩
      · obtain ⟨x, qual, st, N, F, S, hN, hch⟩ := (dk f fd hf).ex
        refine F.ok S (fun vs H Q E h => h.1) fun cdv A outer s H vs Q E hr h => ?_
        obtain ⟨hlen, io, st0, us, v, st', R, rv, e, p⟩ := h
        rw [callN_succ, hf] at e
        simp only at e
        unfold runF at e
        split at e
        · rename_i hnp
          obtain ⟨fl, st1, e1, e⟩ := bind_eq_ok.mp e
          have hps := (tp.fn f fd hf).2.1
          have hst : L2.start N vs = vs.map some ++ List.replicate (fd.nl - fd.np) none := by
            unfold L2.start
            rw [hN, ← rv.length, hnp]
          refine ⟨_, pss_sem, ?_⟩
          have At' : AtS T d (cxOf CX0 P w K mg base N qual (defScope st) (T.fa f) cdv A outer s H E).nox N (defScope st) (fun _ => true) :=
            { top := tp, fns := fun e he f' fd' hf' => (ih e (Nat.lt_succ_of_le he)).1 f' fd' hf', dfs := fun e he f' hf' => (ih e (Nat.lt_succ_of_le he)).2 f' hf', hN := rfl, nd := S.nd, hsc := rfl, kind := S.kind, how := fun _ _ => rfl, calm := rfl, room := hr, own := PassesOwn.never }
          rw [hst]
          refine all_ss T d N fd.body _ (defScope st) (fun _ => true) (defBody st) At' hch _ st0 fl st1 io H _ _ (rs_start rv _) R e1 ?_
          cases fl with
          | nx s' => cases e; exact fun io1 H1 t1 u1 R1 _ => p io1 H1 .non u1 R1 .non
          | rt v' => cases e; exact fun io1 H1 w1 u1 R1 r1 => p io1 H1 w1 u1 R1 r1
          | bk s' => cases e
          | ct s' => cases e
        · cases e
      · obtain ⟨fd, hf, hlb, hnp0⟩ := litF_ok hlit
        obtain ⟨x, qual, st, N, F, S, hN, hch⟩ := (dk f fd hf).ex
        have hps := (tp.fn f fd hf).2.1
        refine F.ok S (fun vs H Q E h => by rw [h.1, hps, hnp0]; rfl) fun cdv A outer s H vs Q E hr h => ?_
        obtain ⟨rfl, io, st0, xs, st', R, e, p⟩ := h
        rw [callN_succ, hf] at e
        simp only at e
        unfold runF at e
        split at e
        · rename_i hnp
          obtain ⟨fl, st1, e1, e⟩ := bind_eq_ok.mp e
          have hst : L2.start N [] = ([] : List V).map some ++ List.replicate (fd.nl - fd.np) none := by
            unfold L2.start
            rw [hN, hnp0]; rfl
          refine ⟨_, pss_sem, ?_⟩
          have At' : AtS T d (cxOf CX0 P w K mg base N qual (defScope st) (T.fa f) cdv A outer s H E).nox N (defScope st) (fun _ => true) :=
            { top := tp, fns := fun e he f' fd' hf' => (ih e (Nat.lt_succ_of_le he)).1 f' fd' hf', dfs := fun e he f' hf' => (ih e (Nat.lt_succ_of_le he)).2 f' hf', hN := rfl, nd := S.nd, hsc := rfl, kind := S.kind, how := fun _ _ => rfl, calm := rfl, room := hr, own := PassesOwn.never }
          rw [hst]
          obtain ⟨x1, es2, hx1, hbody⟩ := litB_ok hlb
          rw [hbody] at hch e1
          have hfl : fl = .rt (.tup xs) ∧ st1 = st' := by
            cases fl with
            | nx s' => cases e
            | rt v' => cases e; exact ⟨rfl, rfl⟩
            | bk s' => cases e
            | ct s' => cases e
          obtain ⟨rfl, rfl⟩ := hfl
          exact lit_ss hx1 _ (defScope st) (fun _ => true) (defBody st) At' hch _ st0 xs st1 io H _ _ (rs_start .nil _) R e1 fun io1 H1 a o ys u1 R1 h1 h2 r1 => p io1 H1 a o ys u1 R1 h1 h2 r1
        · cases e
theorem fns_ok {T : Tab} {P : Program} {w : World} {K : PySem.W.Frag} {mg : Str → Option Value} {base : Heap} (tp : Top T K mg) (dk : ∀ f fd, T.G.fn f = some fd → DefOk T K f fd) :
    ∀ d f fd, T.G.fn f = some fd → FnOk P w K mg base CX0 d (T.fa f) (T.fdt f) (T.psn f) (spF K T (callN T.G T.fuel d f) (T.psn f).length) := fun d f fd h => (fns_both tp dk d).1 f fd h

/-! ### a law -/
/-- the store at a law's call: the script alone -/
def st0 (ns : List Int) : Store := ⟨1, fun i => if i = 0 then some (.lst (ns.map .int)) else none, fun _ => true⟩
theorem ints_rv {K : PySem.W.Frag} {kt : List (List Val)} {io : Nat → Addr} {n : Nat} {H : Hp} : ∀ ns : List Int, RVs K kt io n H (ns.map .int) (ns.map V.int)
  | [] => .nil
  | x :: r => .cons (.int x) (ints_rv r)
theorem only_sqR {K : PySem.W.Frag} {H : Hp} {a : Addr} {xs : List V} (o : Only H) (h : SqL K H a xs) : SqR K H a xs := by
  rcases h with (h | ⟨q, h⟩) | h
  · rcases o a with z | ⟨q, ys, z⟩
    · rw [h] at z; cases z
    · rw [h] at z; cases z
  · exact .inl ⟨q, h⟩
  · exact .inr h
theorem law_sp {T : Tab} {K : PySem.W.Frag} {H : Hp} {a : Addr} {ns : List Int} {run : List Val → Store → Res Val} {st' : Store} (o : Only H) (h : SqL K H a (ns.map V.int)) (e : run [.ref 0] (st0 ns) = .ok (.bl true) st') :
    spF K T run 1 [.ref a] H (fun v _ => v = .bl true) (fun _ _ _ => False) := by
  refine ⟨rfl, fun _ => a, st0 ns, [.ref 0], .bl true, st', ⟨fun i hi => ?_, fun i hi => ?_, fun i j _ _ hr _ _ => by cases hr⟩, .cons (.ref (show 0 < 1 by omega)) .nil, e, fun io' H' w _ _ r => r.ibl⟩
  · have hi : i < 1 := hi
    have : i = 0 := by omega
    subst this
    exact ⟨.lst (ns.map .int), rfl, .lstR (only_sqR o h) (ints_rv ns)⟩
  · have hi : 1 ≤ i := hi
    exact if_neg (by omega)
end CL
namespace CL
open PySem PySem.Spec PyProof.Rows L2
/-- what a law promises -/
def spL (K : PySem.W.Frag) (n : Nat) : Sp := fun vs H Q _ => ∃ (a : Addr) (ns : List Int), vs = [.ref a] ∧ ns.length ≤ n ∧ Only H ∧ SqL K H a (ns.map V.int) ∧ ∀ H', Q (.bl true) H'
/-- what the top must have left for the table to be the text's -/
structure Laid (G : Prog) (fuel fl : Nat) (x : Str) (K : PySem.W.Frag) (mg : Str → Option Value) (fa : Addr) (T : Tab) : Prop where
  hG : T.G = G
  hf : T.fuel = fuel
  ha : T.fa fl = fa
  hp : T.psn fl = [x]
  top : Top T K mg
  defs : ∀ f fd, T.G.fn f = some fd → DefOk T K f fd
  bind : ∀ (s : Shared) (u : Value), BindsTo s (T.fdt fl) ⟨[u], []⟩ [(x, u)]
theorem law_walk {l : PySem.W.OpenLaw} {n k : Nat} {q : Program} {loose : List Str} {XP : (Str → Option Value) → Heap → Prop} {YP : World → Heap → Prop} {dr : DefRec} {K : Params → PySem.W.Frag} {x : Str} (G : Prog) (fuel fl : Nat) (fd : FDef) (hfd : G.fn fl = some fd)
    (hn : l.most = some n) (hn2 : n ≤ sizeLine) (hdf : dr.params.defaults = []) (hr : Room k callerA) (hY : ∀ (w : World) (h : Heap), YP w h → (K w.params).In h)
    (hrun : ∀ ns : List Int, ns.length ≤ n → ∃ st', callN G fuel k fl [.ref 0] (st0 ns) = .ok (.bl true) st')
    (F : ∀ (w : World) (mg : Str → Option Value) (fa : Addr) (h : Heap), (K w.params).In h → h.Ns mainGlobals mg → mg dr.name = some (.ref fa) → ∃ T : Tab, Laid G fuel fl x (K w.params) mg fa T) :
    PySem.W.WalkO q loose XP YP l.row.toRowW dr [] (fun f vs => PySem.call f vs) := by
  refine walk_of (n := n) (k := k) (x := x) (CX := fun _ => CX0) (sp := fun w => spL (K w.params) n) hn hn2 hdf hr hY (fun w mg fa h kin ns hmg => ?_) (fun w H a ns hl o h => ⟨a, ns, rfl, hl, o, h, fun _ => rfl⟩) fun _ _ _ _ _ z => z
  obtain ⟨T, L⟩ := F w mg fa h kin ns hmg
  refine ⟨T.fdt fl, L.bind, fun base _ _ => ?_⟩
  have hG := L.hG
  have hf := L.hf
  subst hG hf
  have FF := fns_ok (P := l.prog) (w := w) (base := base) L.top L.defs k fl fd hfd
  rw [L.ha, L.hp] at FF
  refine FF.imp fun vs H Q E h => ?_
  obtain ⟨a, ns, rfl, hl, o, hs, hq⟩ := h
  obtain ⟨st', e⟩ := hrun ns hl
  obtain ⟨h1, io, st, us, v, st2, R, rv, e2, p⟩ := law_sp (T := T) o hs e
  exact ⟨h1, io, st, us, v, st2, R, rv, e2, fun io' H' w u R' r => by
    have := p io' H' w u R' r
    rw [this]; exact hq H'⟩
/-- each of a list, by its place -/
def AllI {α : Type} (P : Nat → α → Prop) : Nat → List α → Prop
  | _, [] => True
  | i, x :: r => P i x ∧ AllI P (i + 1) r
theorem allI {α : Type} {P : Nat → α → Prop} : ∀ {l : List α} {k : Nat}, AllI P k l → ∀ (i : Nat) (x : α), l[i]? = some x → P (k + i) x
  | [], _, _, i, x, e => by simp at e
  | a :: r, k, h, 0, x, e => by simp at e; subst e; exact h.1
  | a :: r, k, h, i + 1, x, e => by
    have := allI h.2 i x (by simpa using e)
    rw [show k + (i + 1) = k + 1 + i by omega]; exact this
theorem allI0 {α : Type} {P : Nat → α → Prop} {l : List α} (h : AllI P 0 l) (i : Nat) (x : α) (e : l[i]? = some x) : P i x := by
  have := allI h i x e
  rwa [Nat.zero_add] at this
/-- each method of a table -/
def AllM (P : Nat → Str → Nat → Prop) : List (Nat × Str × Nat) → Prop
  | [] => True
  | x :: r => P x.1 x.2.1 x.2.2 ∧ AllM P r
theorem allM {P : Nat → Str → Nat → Prop} : ∀ {l : List (Nat × Str × Nat)}, AllM P l → ∀ (c : Nat) (m : Str) (f : Nat), (l.find? fun x => decide (x.1 = c) && decide (x.2.1 = m)).map (·.2.2) = some f → P c m f
  | [], _, c, m, f, e => by simp at e
  | x :: r, h, c, m, f, e => by
    rw [List.find?_cons] at e
    split at e
    · rename_i q
      rw [Bool.and_eq_true, decide_eq_true_eq, decide_eq_true_eq] at q
      have e : x.2.2 = f := Option.some.inj e
      rw [← q.1, ← q.2, ← e]; exact h.1
    · exact allM h.2 c m f e
def AllN (m : Str) (P : Nat → Nat → Prop) : List (Nat × Str × Nat) → Prop
  | [] => True
  | x :: r => (x.2.1 = m → P x.1 x.2.2) ∧ AllN m P r
theorem allN {m : Str} {P : Nat → Nat → Prop} : ∀ {l : List (Nat × Str × Nat)}, AllN m P l → ∀ (c : Nat) (f : Nat), (l.find? fun x => decide (x.1 = c) && decide (x.2.1 = m)).map (·.2.2) = some f → P c f
  | [], _, c, f, e => by simp at e
  | x :: r, h, c, f, e => by
    rw [List.find?_cons] at e
    split at e
    · rename_i q
      rw [Bool.and_eq_true, decide_eq_true_eq, decide_eq_true_eq] at q
      have e : x.2.2 = f := Option.some.inj e
      rw [← q.1, ← e]; exact h.1 q.2
    · exact allN h.2 c f e
def AllF (P : Nat → Str → Prop) : List (Nat × Str) → Prop
  | [] => True
  | x :: r => P x.1 x.2 ∧ AllF P r
theorem allF {P : Nat → Str → Prop} : ∀ {l : List (Nat × Str)}, AllF P l → ∀ (c : Nat) (f : Str), l.contains (c, f) = true → P c f
  | [], _, c, f, e => by simp at e
  | x :: r, h, c, f, e => by
    rw [List.contains_cons, Bool.or_eq_true] at e
    rcases e with e | e
    · have e : (c, f) = x := by simpa using e
      rw [← e] at h; exact h.1
    · exact allF h.2 c f e
end CL

/-! CL, part n: rows for reckoning a run -/
namespace CL
theorem cx_call (G : Prog) (fuel d : Nat) : (cxN G fuel d).call = callN G fuel d := rfl
theorem cx_G (G : Prog) (fuel d : Nat) : (cxN G fuel d).G = G := rfl
theorem cx_fuel (G : Prog) (fuel d : Nat) : (cxN G fuel d).fuel = fuel := rfl
theorem cx_init (G : Prog) (fuel d : Nat) : (cxN G fuel (d + 1)).init = callN G fuel d := rfl
theorem then_nx (k : Env → Store → Res Fl) (s : Env) (st : Store) : thenF k (.nx s) st = k s st := rfl
theorem then_rt (k : Env → Store → Res Fl) (v : Val) (st : Store) : thenF k (.rt v) st = .ok (.rt v) st := rfl
theorem then_bk (k : Env → Store → Res Fl) (s : Env) (st : Store) : thenF k (.bk s) st = .ok (.bk s) st := rfl
theorem then_ct (k : Env → Store → Res Fl) (s : Env) (st : Store) : thenF k (.ct s) st = .ok (.ct s) st := rfl
theorem end_nx (s : Env) (st : Store) : endF (.nx s) st = .ok .non st := rfl
theorem end_rt (v : Val) (st : Store) : endF (.rt v) st = .ok v st := rfl
theorem log64 {n : Nat} (h : n < 18446744073709551616) : n.log2 < 9000 := by
  by_cases h0 : n = 0
  · rw [h0]; decide
  · have := (Nat.log2_lt (k := 64) h0).mpr h
    omega
section
variable (st : Store) (i j : Int) (a b : PySem.Str) (xs ys : List Val) (kt : List (List Val))
theorem p_add : bop .add (.int i) (.int j) st = .ok (.int (i + j)) st := rfl
theorem p_sub : bop .sub (.int i) (.int j) st = .ok (.int (i - j)) st := rfl
theorem p_mul (h : mulOk i j = true) : bop .mul (.int i) (.int j) st = .ok (.int (i * j)) st := by simp only [bop, h, if_true]
theorem p_fdiv (h : j ≠ 0 ∧ j.natAbs < 18446744073709551616) : bop .fdiv (.int i) (.int j) st = .ok (.int (i.fdiv j)) st := by simp only [bop]; rw [if_pos ⟨h.1, log64 h.2⟩]
theorem p_mod (h : j ≠ 0) : bop .mod (.int i) (.int j) st = .ok (.int (i.fmod j)) st := by simp only [bop]; rw [if_pos h]
theorem p_adds (h : fits (a.length + b.length) = true) : bop .add (.str a) (.str b) st = .ok (.str (a ++ b)) st := by simp only [bop, h, if_true]
theorem p_addt (h : fits (xs.length + ys.length) = true) : bop .add (.tup xs) (.tup ys) st = .ok (.tup (xs ++ ys)) st := by simp only [bop, h, if_true]
theorem p_eqi : cop kt .eq (.int i) (.int j) st = .ok (.bl (decide (i = j))) st := rfl
theorem p_nei : cop kt .ne (.int i) (.int j) st = .ok (.bl (!decide (i = j))) st := rfl
theorem p_eqs : cop kt .eq (.str a) (.str b) st = .ok (.bl (decide (a = b))) st := rfl
theorem p_nes : cop kt .ne (.str a) (.str b) st = .ok (.bl (!decide (a = b))) st := rfl
theorem p_lt : cop kt .lt (.int i) (.int j) st = .ok (.bl (decide (i < j))) st := rfl
theorem p_le : cop kt .le (.int i) (.int j) st = .ok (.bl (decide (i ≤ j))) st := rfl
theorem p_gt : cop kt .gt (.int i) (.int j) st = .ok (.bl (decide (j < i))) st := rfl
theorem p_ge : cop kt .ge (.int i) (.int j) st = .ok (.bl (decide (j ≤ i))) st := rfl
theorem t_bl (k : Bool) : tru st (.bl k) = some k := rfl
theorem p_eqb (k l : Bool) : cop kt .eq (.bl k) (.bl l) st = .ok (.bl (k == l)) st := rfl
end
/-- a written product -/
theorem mulOk_left {i j : Int} (h : -(2 ^ 64) < i ∧ i < 2 ^ 64) : mulOk i j = true := by
  unfold mulOk
  simp only [Bool.or_eq_true, Bool.and_eq_true, decide_eq_true_eq]
  exact .inl h
theorem mulOk_right {i j : Int} (h : -(2 ^ 64) < j ∧ j < 2 ^ 64) : mulOk i j = true := by
  unfold mulOk
  simp only [Bool.or_eq_true, Bool.and_eq_true, decide_eq_true_eq]
  exact .inr h
/-- a script's cells and its length, as most laws walk them -/
theorem fdiv_pos {i j : Int} (h : 0 < j) : i.fdiv j = i / j := Int.fdiv_eq_ediv_of_nonneg _ (Int.le_of_lt h)
theorem fmod_pos {i j : Int} (h : 0 < j) : i.fmod j = i % j := Int.fmod_eq_emod_of_nonneg _ (Int.le_of_lt h)
/-- a for loop that keeps a word of store and slots: each item brings it on -/
theorem for_keep {w : Watch} {f : Val → Env → Store → Res Fl} (P : Env → Store → Prop) : ∀ (xs : List Val) (s : Env) (st : Store), P s st → (∀ s st, P s st → st.sees w = true) →
    (∀ x ∈ xs, ∀ s st, P s st → ∃ s' st', (f x s st = .ok (.nx s') st' ∨ f x s st = .ok (.ct s') st') ∧ P s' st') → ∃ s' st', forLoop w f xs s st = .ok (.nx s') st' ∧ P s' st'
  | [], s, st, h, hs, _ => ⟨s, st, by unfold forLoop; rw [hs s st h]; rfl, h⟩
  | x :: r, s, st, h, hs, hf => by
    obtain ⟨s1, st1, e, h1⟩ := hf x (by simp) s st h
    obtain ⟨s2, st2, e2, h2⟩ := for_keep P r s1 st1 h1 hs fun y hy => hf y (by simp [hy])
    refine ⟨s2, st2, ?_, h2⟩
    unfold forLoop
    rw [hs s st h, if_pos rfl]
    rcases e with e | e <;> rw [e] <;> exact e2

/-- what stood stays -/
def Keep (st st' : Store) : Prop := st.n ≤ st'.n ∧ ∀ i, i < st.n → st'.m i = st.m i
theorem Keep.refl (st : Store) : Keep st st := ⟨Nat.le_refl _, fun _ _ => rfl⟩
theorem Keep.trans {a b c : Store} (h : Keep a b) (k : Keep b c) : Keep a c := ⟨Nat.le_trans h.1 k.1, fun i hi => (k.2 i (Nat.lt_of_lt_of_le hi h.1)).trans (h.2 i hi)⟩
theorem Keep.new (st : Store) (o : Ob) : Keep st (st.new o) := ⟨Nat.le_succ _, fun i hi => if_neg (Nat.ne_of_lt hi)⟩
theorem enum_mem : ∀ (xs : List Val) (k : Int) (x : Val), x ∈ enumL k xs → ∃ (i : Nat) (y : Val), i < xs.length ∧ y ∈ xs ∧ x = .tup [.int (k + i), y]
  | [], k, x, h => by unfold enumL at h; simp at h
  | y :: r, k, x, h => by
    unfold enumL at h
    rcases List.mem_cons.mp h with rfl | h
    · exact ⟨0, y, by simp, by simp, by simp⟩
    · obtain ⟨i, z, h1, h2, rfl⟩ := enum_mem r (k + 1) x h
      refine ⟨i + 1, z, by simp; omega, by simp [h2], ?_⟩
      congr 3; push_cast; omega
theorem new_old {st : Store} {o : Ob} {i : Nat} (h : i < st.n) : (st.new o).m i = st.m i := if_neg (Nat.ne_of_lt h)
theorem new_at (st : Store) (o : Ob) : (st.new o).m st.n = some o := if_pos rfl
theorem cut63 {xs : List Val} (h : xs.length ≤ 63) : cutL xs none (some 63) = xs := by
  unfold cutL
  have e1 : HT.sIx xs.length 0 none = 0 := rfl
  have e2 : HT.sIx xs.length xs.length (some 63) = xs.length := by
    have := HT.sIx_nat xs.length xs.length 63
    rw [Nat.min_eq_right h] at this
    exact this
  rw [e1, e2]; simp
/-- script[:63] + [len(script)] -/
def stC (ns : List Int) : Store := (((st0 ns).new (.lst (ns.map .int))).new (.lst [.int ns.length])).new (.lst (ns.map .int ++ [.int ns.length]))
def cellE : E := .bin .add (.cut (.v 0) .no (.so (.int 63))) (.lst (.cons (.bf .len (.cons (.v 0) .nil)) .nil))
theorem cells_ev (c : Ctx) (ns : List Int) (h : ns.length ≤ 63) (s : Env) (hs : s[0]? = some (some (.ref 0))) : ev c cellE s (st0 ns) = .ok (.ref 3) (stC ns) := by
  have hm : (st0 ns).m 0 = some (.lst (ns.map .int)) := rfl
  have e1 : cutV (.ref 0) none (some (.int 63)) (st0 ns) = .ok (.ref 1) ((st0 ns).new (.lst (ns.map .int))) := by
    unfold cutV
    simp only [part, hm, mk]
    rw [cut63 (by simpa using h)]; rfl
  unfold cellE
  simp only [ev, evs, evo, hs, bind_ok, e1, bfn]
  have hm2 : ((st0 ns).new (.lst (ns.map .int))).m 0 = some (.lst (ns.map .int)) := rfl
  simp only [hm2, bind_ok, mkL]
  have f1 : fits [Val.int ((ns.map Val.int).length : Int)].length = true := rfl
  simp only [f1, if_true, mk, bind_ok, bop]
  have hm3 : (((st0 ns).new (.lst (ns.map .int))).new (.lst [.int ((ns.map Val.int).length : Int)])).m 1 = some (.lst (ns.map .int)) := rfl
  have hm4 : (((st0 ns).new (.lst (ns.map .int))).new (.lst [.int ((ns.map Val.int).length : Int)])).m ((st0 ns).new (.lst (ns.map .int))).n = some (.lst [.int ((ns.map Val.int).length : Int)]) := rfl
  simp only [hm3, hm4]
  have r1 : ((((st0 ns).new (.lst (ns.map .int))).new (.lst [.int ((ns.map Val.int).length : Int)])).ro 1 || (((st0 ns).new (.lst (ns.map .int))).new (.lst [.int ((ns.map Val.int).length : Int)])).ro ((st0 ns).new (.lst (ns.map .int))).n) = false := rfl
  have f2 : fits ((ns.map Val.int).length + [Val.int ((ns.map Val.int).length : Int)].length) = true := by
    unfold fits
    rw [PySem.sizeLine_eq]
    simp; omega
  simp only [r1, f2, if_true, Bool.false_eq_true, if_false]
  simp only [List.length_map]
  rfl
end CL

/-! CL, part s: runs over a heap that is told thing by thing -/
namespace CL
/-- things told, each with its place -/
abbrev HL := List (Nat × Ob)
/-- a store that holds these: B never changes, H may -/
structure Sep (B : HL) (st : Store) (H : HL) : Prop where
  at' : ∀ a o, (a, o) ∈ H → st.m a = some o
  nd : (H.map (·.1)).Nodup
  lt : ∀ a o, (a, o) ∈ H → a < st.n
  rw' : ∀ a o, (a, o) ∈ H → st.ro a = false
  fix : ∀ a o, (a, o) ∈ B → st.m a = some o ∧ a < st.n ∧ st.ro a = true
theorem Sep.perm {B : HL} {st : Store} {H K : HL} (p : H.Perm K) (h : Sep B st H) : Sep B st K :=
  ⟨fun a o m => h.at' a o (p.mem_iff.mpr m), (p.map _).nodup_iff.mp h.nd, fun a o m => h.lt a o (p.mem_iff.mpr m), fun a o m => h.rw' a o (p.mem_iff.mpr m), h.fix⟩
theorem Sep.sub {B : HL} {st : Store} {H K : HL} (p : K.Sublist H) (h : Sep B st H) : Sep B st K :=
  ⟨fun a o m => h.at' a o (p.mem m), h.nd.sublist (p.map _), fun a o m => h.lt a o (p.mem m), fun a o m => h.rw' a o (p.mem m), h.fix⟩
/-- a run that ends well: with what value, and what is then told of the heap -/
def WP {α : Type} (B : HL) (m : Store → Res α) (H : HL) (Q : α → HL → Prop) : Prop :=
  ∀ st F, Sep B st (H ++ F) → ∃ a K st', m st = .ok a st' ∧ Q a K ∧ Sep B st' (K ++ F)
/-- H is L and R, in some order -/
def Sub (H L R : HL) : Prop := H.Perm (L ++ R)
theorem sub_here {L R : HL} : Sub (L ++ R) L R := .refl _
theorem sub_one {a : Nat} {o : Ob} {R : HL} : Sub ((a, o) :: R) [(a, o)] R := .refl _
theorem sub_all {L : HL} : Sub L L [] := by unfold Sub; simp
theorem sub_nil {L : HL} : Sub L [] L := .refl _
theorem sub_cons {H L R : HL} {x : Nat × Ob} (h : Sub H L R) : Sub (x :: H) L (x :: R) :=
  (h.cons x).trans List.perm_middle.symm
theorem sub_there {H L R M : HL} (h : Sub H L R) : Sub (M ++ H) L (M ++ R) := by
  unfold Sub at *
  refine (h.append_left M).trans ?_
  rw [← List.append_assoc, ← List.append_assoc]
  exact List.perm_append_comm.append_right R
theorem sub_left {H L R M : HL} (h : Sub H L R) : Sub (H ++ M) L (R ++ M) := by
  unfold Sub at *
  refine (h.append_right M).trans ?_
  rw [List.append_assoc]
theorem sub_app {H L M R X : HL} (h : Sub H L R) (k : Sub R M X) : Sub H (L ++ M) X := by
  unfold Sub at *
  refine h.trans ?_
  rw [List.append_assoc]
  exact k.append_left L
theorem sub_add {H M R X : HL} {x : Nat × Ob} (h : Sub H [x] R) (k : Sub R M X) : Sub H (x :: M) X := sub_app h k
section
variable {α β : Type} {B H K L R X : HL}
theorem wp_perm {m : Store → Res α} {Q : α → HL → Prop} (p : H.Perm K) (h : WP B m K Q) : WP B m H Q := fun st F s => h st F (s.perm (p.append_right F))
/-- what is told at the end, in any order, less perhaps -/
def Conv (Q : α → HL → Prop) (a : α) (H : HL) : Prop := ∃ K X, Sub H K X ∧ Q a K
theorem wp_conv {m : Store → Res α} {Q : α → HL → Prop} (h : WP B m H (Conv Q)) : WP B m H Q := fun st F s => by
  obtain ⟨a, K, st', e, ⟨K2, X, p, q⟩, s'⟩ := h st F s
  refine ⟨a, K2, st', e, q, ?_⟩
  have p2 : (K ++ F).Perm (X ++ (K2 ++ F)) := by
    refine (List.Perm.append_right F p).trans ?_
    rw [List.append_assoc, ← List.append_assoc, ← List.append_assoc]
    refine (List.perm_append_comm).append_right F |>.trans ?_
    exact .refl _
  exact (s'.perm p2).sub (List.sublist_append_right _ _)
theorem conv {Q : α → HL → Prop} {a : α} (h : Sub H K X) (q : Q a K) : Conv Q a H := ⟨K, X, h, q⟩
theorem conv_perm {Q : α → HL → Prop} {a : α} (p : H.Perm K) (q : Q a K) : Conv Q a H := ⟨K, [], by unfold Sub; rw [List.append_nil]; exact p, q⟩
theorem conv0 {Q : α → HL → Prop} {a : α} (q : Q a H) : Conv Q a H := ⟨H, [], sub_all, q⟩
theorem wp_eq {m m' : Store → Res α} {Q : α → HL → Prop} (e : ∀ st, m' st = m st) (h : WP B m H Q) : WP B m' H Q := by
  have : m' = m := funext e
  rw [this]; exact h
theorem wp_mono {m : Store → Res α} {P Q : α → HL → Prop} (h : WP B m H P) (k : ∀ a K, P a K → Q a K) : WP B m H Q := fun st F s => by
  obtain ⟨a, K, st', e, p, s'⟩ := h st F s
  exact ⟨a, K, st', e, k a K p, s'⟩
/-- the rest stays -/
theorem wp_frame {m : Store → Res α} {P Q : α → HL → Prop} (x : Sub H L R) (h : WP B m L P) (k : ∀ a K, P a K → Q a (K ++ R)) : WP B m H Q := fun st F s => by
  have s1 : Sep B st (L ++ (R ++ F)) := by
    rw [← List.append_assoc]
    exact s.perm (List.Perm.append_right F x)
  obtain ⟨a, K, st', e, p, s'⟩ := h st _ s1
  exact ⟨a, K ++ R, st', e, k a K p, by rw [List.append_assoc]; exact s'⟩
theorem wp_ok {Q : α → HL → Prop} {a : α} (q : Q a H) : WP B (fun st => .ok a st) H Q := fun st F s => ⟨a, H, st, rfl, q, s⟩
theorem wp_bind {m : Store → Res α} {k : α → Store → Res β} {Q : β → HL → Prop} (h : WP B m H fun a K => WP B (k a) K Q) : WP B (fun st => (m st).bind k) H Q := fun st F s => by
  obtain ⟨a, K, st', e, p, s'⟩ := h st F s
  obtain ⟨b, K2, st2, e2, q, s2⟩ := p st' F s'
  exact ⟨b, K2, st2, by simp only [e, bind_ok, e2], q, s2⟩
theorem wp_of {m : Store → Res α} {a : α} {Q : α → HL → Prop} (e : ∀ st F, Sep B st (H ++ F) → m st = .ok a st) (q : Q a H) : WP B m H Q := fun st F s => ⟨a, H, st, e st F s, q, s⟩
theorem sub_at {st : Store} {F : HL} {a : Nat} {o : Ob} (x : Sub H [(a, o)] R) (s : Sep B st (H ++ F)) : st.m a = some o :=
  s.at' a o (List.mem_append_left _ ((List.Perm.mem_iff x).mpr (by simp)))
theorem sub_rw {st : Store} {F : HL} {a : Nat} {o : Ob} (x : Sub H [(a, o)] R) (s : Sep B st (H ++ F)) : st.ro a = false :=
  s.rw' a o (List.mem_append_left _ ((List.Perm.mem_iff x).mpr (by simp)))
/-- a thing that never changes -/
theorem fix_at {st : Store} {F : HL} {a : Nat} {o : Ob} (x : (a, o) ∈ B) (s : Sep B st F) : st.m a = some o := (s.fix a o x).1
theorem wp_mk {o : Ob} {Q : Val → HL → Prop} (q : ∀ p, Q (.ref p) ((p, o) :: H)) : WP B (mk o) H Q := fun st F s => by
  refine ⟨.ref st.n, (st.n, o) :: H, st.new o, rfl, q _, ⟨fun a o' m => ?_, ?_, fun a o' m => ?_, fun a o' m => ?_, fun a o' m => ?_⟩⟩
  · rcases List.mem_cons.mp m with e | m
    · cases e; exact if_pos rfl
    · have := s.lt a o' m
      exact (if_neg (by omega)).trans (s.at' a o' m)
  · rw [List.cons_append, List.map_cons, List.nodup_cons]
    refine ⟨fun h => ?_, s.nd⟩
    obtain ⟨⟨b, o'⟩, m, e⟩ := List.mem_map.mp h
    have := s.lt b o' m
    simp only at e
    omega
  · rcases List.mem_cons.mp m with e | m
    · cases e; exact Nat.lt_succ_self _
    · exact Nat.lt_succ_of_lt (s.lt a o' m)
  · rcases List.mem_cons.mp m with e | m
    · cases e; exact if_pos rfl
    · have := s.lt a o' m
      exact (if_neg (by omega)).trans (s.rw' a o' m)
  · obtain ⟨h1, h2, h3⟩ := s.fix a o' m
    exact ⟨(if_neg (by omega)).trans h1, Nat.lt_succ_of_lt h2, (if_neg (by omega)).trans h3⟩
theorem Sep.put {st : Store} {a : Nat} {o o' : Ob} (s : Sep B st ((a, o) :: H)) : Sep B (st.set a o') ((a, o') :: H) := by
  have ha : ∀ b p, (b, p) ∈ H → b ≠ a := fun b p m e => by
    have := s.nd
    rw [List.map_cons, List.nodup_cons] at this
    exact this.1 (List.mem_map.mpr ⟨(b, p), m, e⟩)
  refine ⟨fun b p m => ?_, s.nd, fun b p m => ?_, fun b p m => ?_, fun b p m => ?_⟩
  · rcases List.mem_cons.mp m with e | m
    · cases e; exact if_pos rfl
    · exact (if_neg (ha b p m)).trans (s.at' b p (List.mem_cons_of_mem _ m))
  · rcases List.mem_cons.mp m with e | m
    · cases e; exact s.lt a o (by simp)
    · exact s.lt b p (List.mem_cons_of_mem _ m)
  · rcases List.mem_cons.mp m with e | m
    · cases e; exact s.rw' a o (by simp)
    · exact s.rw' b p (List.mem_cons_of_mem _ m)
  · obtain ⟨h1, h2, h3⟩ := s.fix b p m
    refine ⟨(if_neg fun e => ?_).trans h1, h2, h3⟩
    have := s.rw' a o (by simp)
    rw [e] at h3
    rw [h3] at this; cases this
theorem wp_wr {a : Nat} {o o' : Ob} {Q : Val → HL → Prop} (x : Sub H [(a, o)] R) (q : Q .non ((a, o') :: R)) : WP B (wr a o') H Q := fun st F s => by
  have h : (H ++ F).Perm ((a, o) :: (R ++ F)) := List.Perm.append_right F x
  refine ⟨.non, (a, o') :: R, st.set a o', ?_, q, (s.perm h).put⟩
  unfold wr
  rw [sub_rw x s]; rfl
/-- a thing is told anew, in its place -/
inductive Upd : HL → Nat → Ob → Ob → HL → Prop
  | here {a : Nat} {o o' : Ob} {R : HL} : Upd ((a, o) :: R) a o o' ((a, o') :: R)
  | there {H K : HL} {a : Nat} {o o' : Ob} {x : Nat × Ob} (h : Upd H a o o' K) : Upd (x :: H) a o o' (x :: K)
  | left {H K M : HL} {a : Nat} {o o' : Ob} (h : Upd H a o o' K) : Upd (M ++ H) a o o' (M ++ K)
  | right {H K M : HL} {a : Nat} {o o' : Ob} (h : Upd H a o o' K) : Upd (H ++ M) a o o' (K ++ M)
theorem Upd.sub {a : Nat} {o o' : Ob} : ∀ {H K : HL}, Upd H a o o' K → ∃ R, Sub H [(a, o)] R ∧ Sub K [(a, o')] R
  | _, _, .here => ⟨_, sub_one, sub_one⟩
  | _, _, .there h => by
    obtain ⟨R, h1, h2⟩ := h.sub
    exact ⟨_, sub_cons h1, sub_cons h2⟩
  | _, _, .left h => by
    obtain ⟨R, h1, h2⟩ := h.sub
    exact ⟨_, sub_there h1, sub_there h2⟩
  | _, _, .right h => by
    obtain ⟨R, h1, h2⟩ := h.sub
    exact ⟨_, sub_left h1, sub_left h2⟩
theorem wp_reorder {m : Store → Res α} {P Q : α → HL → Prop} (h : WP B m H P) (k : ∀ a K, P a K → ∃ K', K.Perm K' ∧ Q a K') : WP B m H Q := fun st F s => by
  obtain ⟨a, K, st', e, p, s'⟩ := h st F s
  obtain ⟨K', p', q⟩ := k a K p
  exact ⟨a, K', st', e, q, s'.perm (p'.append_right F)⟩
theorem wp_upd {a : Nat} {o o' : Ob} {Q : Val → HL → Prop} (u : Upd H a o o' K) (q : Q .non K) : WP B (wr a o') H Q := by
  obtain ⟨R, h1, h2⟩ := u.sub
  exact wp_reorder (wp_wr (B := B) (Q := fun v K' => v = .non ∧ K' = (a, o') :: R) h1 ⟨rfl, rfl⟩) fun v K' ⟨e1, e2⟩ => by subst e1 e2; exact ⟨K, List.Perm.symm h2, q⟩
end

/-! ### expressions -/
section
variable {B H : HL} {c : Ctx} {s : Env}
/-- a test's two ways -/
def Br (k : Bool) (P Q : Prop) : Prop := (k = true → P) ∧ (k = false → Q)
theorem br_t {k : Bool} {P Q : Prop} (h : k = true) (p : P) : Br k P Q := ⟨fun _ => p, fun e => (by rw [h] at e; cases e)⟩
theorem br_f {k : Bool} {P Q : Prop} (h : k = false) (q : Q) : Br k P Q := ⟨fun e => (by rw [h] at e; cases e), fun _ => q⟩
theorem br_dec {P : Prop} [Decidable P] {X Y : Prop} (x : P → X) (y : ¬ P → Y) : Br (decide P) X Y := ⟨fun e => x (of_decide_eq_true e), fun e => y (of_decide_eq_false e)⟩
theorem br_ndec {P : Prop} [Decidable P] {X Y : Prop} (x : ¬ P → X) (y : P → Y) : Br (!decide P) X Y := ⟨fun e => x (by simpa using e), fun e => y (by simpa using e)⟩
theorem e_v {i : Nat} {v : Val} {Q : Val → HL → Prop} (h : s[i]? = some (some v)) (q : Q v H) : WP B (ev c (.v i) s) H Q :=
  wp_of (fun st F _ => by simp only [ev, h]) q
theorem e_int {i : Int} {Q : Val → HL → Prop} (q : Q (.int i) H) : WP B (ev c (.int i) s) H Q := wp_of (fun st F _ => by simp only [ev]) q
theorem e_str {i : PySem.Str} {Q : Val → HL → Prop} (q : Q (.str i) H) : WP B (ev c (.str i) s) H Q := wp_of (fun st F _ => by simp only [ev]) q
theorem e_bl {i : Bool} {Q : Val → HL → Prop} (q : Q (.bl i) H) : WP B (ev c (.bl i) s) H Q := wp_of (fun st F _ => by simp only [ev]) q
theorem e_non {Q : Val → HL → Prop} (q : Q .non H) : WP B (ev c .non s) H Q := wp_of (fun st F _ => by simp only [ev]) q
theorem e_gl {g : Nat} {v : Val} {Q : Val → HL → Prop} (h : c.G.gl g = some v) (q : Q v H) : WP B (ev c (.gl g) s) H Q := wp_of (fun st F _ => by simp only [ev, h]) q
theorem e_nil {Q : List Val → HL → Prop} (q : Q [] H) : WP B (evs c .nil s) H Q := wp_of (fun st F _ => by simp only [evs]) q
theorem e_cons {e : E} {es : Es} {Q : List Val → HL → Prop} (h : WP B (ev c e s) H fun v H1 => WP B (evs c es s) H1 fun vs H2 => Q (v :: vs) H2) : WP B (evs c (.cons e es) s) H Q := by
  have := wp_bind (k := fun v st => (evs c es s st).bind fun vs st => .ok (v :: vs) st) (Q := Q) (wp_mono h fun v H1 h1 => wp_bind (wp_mono h1 fun vs H2 h2 => wp_ok h2))
  exact wp_eq (fun st => by rw [evs] <;> rfl) this
theorem e_tup {es : Es} {Q : Val → HL → Prop} (h : WP B (evs c es s) H fun vs H1 => fits vs.length = true ∧ Q (.tup vs) H1) : WP B (ev c (.tup es) s) H Q := by
  have := wp_bind (k := mkT) (Q := Q) (wp_mono h fun vs H1 h1 => wp_of (fun st F _ => by simp only [mkT, h1.1, if_true]) h1.2)
  exact wp_eq (fun st => by rw [ev] <;> rfl) this
theorem e_lst {es : Es} {Q : Val → HL → Prop} (h : WP B (evs c es s) H fun vs H1 => fits vs.length = true ∧ ∀ p, Q (.ref p) ((p, .lst vs) :: H1)) : WP B (ev c (.lst es) s) H Q := by
  have := wp_bind (k := mkL) (Q := Q) (wp_mono h fun vs H1 h1 => by
    have := wp_mk (B := B) (o := .lst vs) h1.2
    intro st F s
    obtain ⟨a, K, st', e, q, s'⟩ := this st F s
    exact ⟨a, K, st', by simp only [mkL, h1.1, if_true, e], q, s'⟩)
  exact wp_eq (fun st => by rw [ev] <;> rfl) this
theorem e_neg {a : E} {Q : Val → HL → Prop} (h : WP B (ev c a s) H fun v H1 => ∃ i, v = .int i ∧ Q (.int (-i)) H1) : WP B (ev c (.neg a) s) H Q := by
  have := wp_bind (k := fun x st => match x with | .int i => .ok (.int (-i)) st | _ => .fail) (Q := Q) (wp_mono h fun v H1 ⟨i, e, q⟩ => by subst e; exact wp_ok q)
  exact wp_eq (fun st => by rw [ev] <;> rfl) this
theorem e_bin {o : Bop} {a b : E} {Q : Val → HL → Prop} (h : WP B (ev c a s) H fun x H1 => WP B (ev c b s) H1 fun y H2 => WP B (bop o x y) H2 Q) : WP B (ev c (.bin o a b) s) H Q := by
  have := wp_bind (k := fun x st => (ev c b s st).bind fun y st => bop o x y st) (Q := Q) (wp_mono h fun x H1 h1 => wp_bind h1)
  exact wp_eq (fun st => by rw [ev] <;> rfl) this
theorem e_cmp {o : Cop} {a b : E} {Q : Val → HL → Prop} (h : WP B (ev c a s) H fun x H1 => WP B (ev c b s) H1 fun y H2 => WP B (cop c.G.kt o x y) H2 Q) : WP B (ev c (.cmp o a b) s) H Q := by
  have := wp_bind (k := fun x st => (ev c b s st).bind fun y st => cop c.G.kt o x y st) (Q := Q) (wp_mono h fun x H1 h1 => wp_bind h1)
  exact wp_eq (fun st => by rw [ev] <;> rfl) this
theorem e_cm2 {o p : Cop} {a b d : E} {Q : Val → HL → Prop} (h : WP B (ev c a s) H fun x H1 => WP B (ev c b s) H1 fun y H2 => WP B (cop c.G.kt o x y) H2 fun z H3 =>
    ∃ k, z = .bl k ∧ Br k (WP B (ev c d s) H3 fun u H4 => WP B (cop c.G.kt p y u) H4 Q) (Q (.bl false) H3)) : WP B (ev c (.cm2 o p a b d) s) H Q := by
  have := wp_bind (k := fun x st => (ev c b s st).bind fun y st => (cop c.G.kt o x y st).bind fun z st => match z with
    | .bl true => (ev c d s st).bind fun u st => cop c.G.kt p y u st
    | .bl false => .ok (.bl false) st
    | _ => .fail) (Q := Q) (wp_mono h fun x H1 h1 => wp_bind (wp_mono h1 fun y H2 h2 => wp_bind (wp_mono h2 fun z H3 ⟨k, e, b⟩ => by
      subst e
      cases k
      · exact wp_ok (b.2 rfl)
      · exact wp_bind (b.1 rfl))))
  exact wp_eq (fun st => by rw [ev] <;> rfl) this
theorem e_isN {a : E} {Q : Val → HL → Prop} (h : WP B (ev c a s) H fun x H1 => Q (.bl (match x with | .non => true | _ => false)) H1) : WP B (ev c (.isN a) s) H Q := by
  have := wp_bind (k := fun x st => .ok (.bl (match x with | .non => true | _ => false)) st) (Q := Q) (wp_mono h fun x H1 h1 => wp_ok h1)
  exact wp_eq (fun st => by rw [ev] <;> rfl) this
theorem e_noN {a : E} {Q : Val → HL → Prop} (h : WP B (ev c a s) H fun x H1 => Q (.bl (match x with | .non => false | _ => true)) H1) : WP B (ev c (.noN a) s) H Q := by
  have := wp_bind (k := fun x st => .ok (.bl (match x with | .non => false | _ => true)) st) (Q := Q) (wp_mono h fun x H1 h1 => wp_ok h1)
  exact wp_eq (fun st => by rw [ev] <;> rfl) this
theorem e_and {a b : E} {Q : Val → HL → Prop} (h : WP B (ev c a s) H fun x H1 => ∃ k, x = .bl k ∧ Br k (WP B (ev c b s) H1 Q) (Q (.bl false) H1)) : WP B (ev c (.and a b) s) H Q := by
  have := wp_bind (k := fun x st => match x with | .bl true => ev c b s st | .bl false => .ok (.bl false) st | _ => .fail) (Q := Q) (wp_mono h fun x H1 ⟨k, e, h⟩ => by
    subst e
    cases k
    · exact wp_ok (h.2 rfl)
    · exact h.1 rfl)
  exact wp_eq (fun st => by rw [ev] <;> rfl) this
theorem e_or {a b : E} {Q : Val → HL → Prop} (h : WP B (ev c a s) H fun x H1 => ∃ k, x = .bl k ∧ Br k (Q (.bl true) H1) (WP B (ev c b s) H1 Q)) : WP B (ev c (.or a b) s) H Q := by
  have := wp_bind (k := fun x st => match x with | .bl true => .ok (.bl true) st | .bl false => ev c b s st | _ => .fail) (Q := Q) (wp_mono h fun x H1 ⟨k, e, h⟩ => by
    subst e
    cases k
    · exact h.2 rfl
    · exact wp_ok (h.1 rfl))
  exact wp_eq (fun st => by rw [ev] <;> rfl) this
theorem e_not {a : E} {Q : Val → HL → Prop} (h : WP B (ev c a s) H fun x H1 => ∃ k, x = .bl k ∧ Q (.bl (!k)) H1) : WP B (ev c (.not a) s) H Q := by
  have := wp_bind (k := fun x st => match x with | .bl b => .ok (.bl (!b)) st | _ => .fail) (Q := Q) (wp_mono h fun x H1 ⟨k, e, h⟩ => by
    subst e; exact wp_ok h)
  exact wp_eq (fun st => by rw [ev] <;> rfl) this
theorem e_ite {t : CL.B} {a b : E} {Q : Val → HL → Prop} (h : WP B (ts c t s) H fun k H1 => Br k (WP B (ev c a s) H1 Q) (WP B (ev c b s) H1 Q)) : WP B (ev c (.ite t a b) s) H Q := by
  have := wp_bind (k := fun (k : Bool) st => if k then ev c a s st else ev c b s st) (Q := Q) (wp_mono h fun x H1 h => by
    cases x
    · exact h.2 rfl
    · exact h.1 rfl)
  exact wp_eq (fun st => by rw [ev] <;> rfl) this
theorem e_sub {a i : E} {Q : Val → HL → Prop} (h : WP B (ev c a s) H fun x H1 => WP B (ev c i s) H1 fun y H2 => WP B (subV c.G.kt x y) H2 Q) : WP B (ev c (.sub a i) s) H Q := by
  have := wp_bind (k := fun x st => (ev c i s st).bind fun y st => subV c.G.kt x y st) (Q := Q) (wp_mono h fun x H1 h1 => wp_bind h1)
  exact wp_eq (fun st => by rw [ev] <;> rfl) this
theorem e_no {Q : Option Val → HL → Prop} (q : Q none H) : WP B (evo c .no s) H Q := wp_of (fun st F _ => by simp only [evo]) q
theorem e_so {e : E} {Q : Option Val → HL → Prop} (h : WP B (ev c e s) H fun v H1 => Q (some v) H1) : WP B (evo c (.so e) s) H Q := by
  have := wp_bind (k := fun v st => .ok (some v) st) (Q := Q) (wp_mono h fun x H1 h1 => wp_ok h1)
  exact wp_eq (fun st => by rw [evo] <;> rfl) this
theorem e_cut {a : E} {lo hi : Eo} {Q : Val → HL → Prop} (h : WP B (ev c a s) H fun x H1 => WP B (evo c lo s) H1 fun l H2 => WP B (evo c hi s) H2 fun u H3 => WP B (cutV x l u) H3 Q) : WP B (ev c (.cut a lo hi) s) H Q := by
  have := wp_bind (k := fun x st => (evo c lo s st).bind fun l st => (evo c hi s st).bind fun h st => cutV x l h st) (Q := Q) (wp_mono h fun x H1 h1 => wp_bind (wp_mono h1 fun l H2 h2 => wp_bind h2))
  exact wp_eq (fun st => by rw [ev] <;> rfl) this
theorem e_cut3 {a : E} {lo hi : Eo} {k : Int} {Q : Val → HL → Prop} (h : WP B (ev c a s) H fun x H1 => WP B (evo c lo s) H1 fun l H2 => WP B (evo c hi s) H2 fun u H3 => WP B (cut3V k x l u) H3 Q) : WP B (ev c (.cut3 a lo hi k) s) H Q := by
  have := wp_bind (k := fun x st => (evo c lo s st).bind fun l st => (evo c hi s st).bind fun h st => cut3V k x l h st) (Q := Q) (wp_mono h fun x H1 h1 => wp_bind (wp_mono h1 fun l H2 h2 => wp_bind h2))
  exact wp_eq (fun st => by rw [ev] <;> rfl) this
theorem e_fld {a : E} {f : PySem.Str} {Q : Val → HL → Prop} (h : WP B (ev c a s) H fun x H1 => WP B (getF c.G.fl x f) H1 Q) : WP B (ev c (.fld a f) s) H Q := by
  have := wp_bind (k := fun x st => getF c.G.fl x f st) (Q := Q) h
  exact wp_eq (fun st => by rw [ev] <;> rfl) this
theorem e_dcall {f : Nat} {Q : Val → HL → Prop} (hl : litF c.G f = true) (h : WP B (c.call f []) H fun v H1 => WP B (dictT v) H1 Q) : WP B (ev c (.dcall f) s) H Q := by
  have := wp_bind (k := dictT) (Q := Q) h
  intro st F sp
  obtain ⟨v, K, st', e, q, s'⟩ := this st F sp
  exact ⟨v, K, st', by simp only [ev, hl, if_true]; exact e, q, s'⟩
theorem e_sset {a : E} {Q : Val → HL → Prop} (h : WP B (ev c a s) H fun v H1 => WP B (ssetV v) H1 Q) : WP B (ev c (.sset a) s) H Q := by
  have := wp_bind (k := ssetV) (Q := Q) h
  intro st F sp
  obtain ⟨v, K, st', e, q, s'⟩ := this st F sp
  exact ⟨v, K, st', by simp only [ev]; exact e, q, s'⟩
theorem e_call {f : Nat} {es : Es} {Q : Val → HL → Prop} (h : WP B (evs c es s) H fun vs H1 => WP B (c.call f vs) H1 Q) : WP B (ev c (.call f es) s) H Q := by
  have := wp_bind (k := fun vs st => c.call f vs st) (Q := Q) h
  exact wp_eq (fun st => by rw [ev] <;> rfl) this
theorem e_bf {b : Bf} {es : Es} {Q : Val → HL → Prop} (h : WP B (evs c es s) H fun vs H1 => WP B (bfn b vs) H1 Q) : WP B (ev c (.bf b es) s) H Q := by
  have := wp_bind (k := fun vs st => bfn b vs st) (Q := Q) h
  exact wp_eq (fun st => by rw [ev] <;> rfl) this
theorem e_bm {b : Bm} {a : E} {es : Es} {Q : Val → HL → Prop} (h : WP B (ev c a s) H fun x H1 => ∃ i xs R, x = .ref i ∧ Sub H1 [(i, .lst xs)] R ∧ WP B (evs c es s) H1 fun vs H2 => WP B (bmt b (.ref i) vs) H2 Q) : WP B (ev c (.bm b a es) s) H Q := by
  have := wp_bind (k := fun x st => match x with
    | .ref i => match st.m i with
      | some (.lst _) => (evs c es s st).bind fun vs st => bmt b x vs st
      | _ => .fail
    | _ => .fail) (Q := Q) (wp_mono h fun x H1 ⟨i, xs, R, e, u, h⟩ => by
      subst e
      intro st F sp
      obtain ⟨a, K, st', e, q, s'⟩ := wp_bind h st F sp
      exact ⟨a, K, st', by simp only [sub_at u sp, e], q, s'⟩)
  exact wp_eq (fun st => by rw [ev] <;> rfl) this
theorem e_met {a : E} {m : PySem.Str} {es : Es} {Q : Val → HL → Prop} (h : WP B (ev c a s) H fun x H1 => ∃ i k fs R f, x = .ref i ∧ Sub H1 [(i, .ins k fs)] R ∧ fs.lookup m = none ∧ c.G.mt k m = some f ∧ WP B (evs c es s) H1 fun vs H2 => WP B (c.call f (.ref i :: vs)) H2 Q) :
    WP B (ev c (.met a m es) s) H Q := by
  have := wp_bind (k := fun x st => match x with
    | .ref i => match st.m i with
      | some (.ins k fs) => if fs.lookup m = none then match c.G.mt k m with
        | some f => (evs c es s st).bind fun vs st => c.call f (.ref i :: vs) st
        | none => .fail else .fail
      | _ => .fail
    | _ => .fail) (Q := Q) (wp_mono h fun x H1 ⟨i, k, fs, R, f, e, u, e2, e3, h⟩ => by
      subst e
      intro st F sp
      obtain ⟨a, K, st', e, q, s'⟩ := wp_bind h st F sp
      exact ⟨a, K, st', by simp only [sub_at u sp, e2, if_true, e3, e], q, s'⟩)
  exact wp_eq (fun st => by rw [ev] <;> rfl) this
theorem wp_new {α : Type} {o : Ob} {k : Nat → Store → Res α} {Q : α → HL → Prop} (h : ∀ p, WP B (k p) ((p, o) :: H) Q) : WP B (fun st => k st.n (st.new o)) H Q := fun st F s => by
  obtain ⟨a, K, st', e, q, s'⟩ := wp_mk (B := B) (H := H) (o := o) (Q := fun v K => ∃ p, v = .ref p ∧ K = (p, o) :: H) (fun p => ⟨p, rfl, rfl⟩) st F s
  obtain ⟨p, rfl, rfl⟩ := q
  cases e
  obtain ⟨a, K, st', e, q, s'⟩ := h st.n _ F s'
  exact ⟨a, K, st', e, q, s'⟩
theorem e_make {k : Nat} {es : Es} {Q : Val → HL → Prop} (h : WP B (evs c es s) H fun vs H1 => ∃ f, c.G.ini k = some f ∧ ∀ p, WP B (c.init f (.ref p :: vs)) ((p, .ins k []) :: H1) fun v H2 => v = .non ∧ Q (.ref p) H2) : WP B (ev c (.make k es) s) H Q := by
  have := wp_bind (k := fun vs st => match c.G.ini k with
    | some f => (c.init f (.ref st.n :: vs) (st.new (.ins k []))).bind fun v st' => match v with
      | .non => .ok (.ref st.n) st'
      | _ => .fail
    | none => .fail) (Q := Q) (wp_mono h fun vs H1 ⟨f, e, h⟩ => by
      simp only [e]
      exact wp_new (k := fun p st => (c.init f (.ref p :: vs) st).bind fun v st' => match v with
        | Val.non => .ok (Val.ref p) st'
        | _ => .fail) fun p => wp_bind (wp_mono (h p) fun v H2 ⟨e, q⟩ => by subst e; exact wp_ok q))
  exact wp_eq (fun st => by rw [ev] <;> rfl) this
theorem e_isi {a : E} {t : Ty} {Q : Val → HL → Prop} (h : WP B (ev c a s) H fun x H1 => WP B (fun st => okB (isT st x t) st) H1 Q) : WP B (ev c (.isi a t) s) H Q := by
  have := wp_bind (k := fun x st => okB (isT st x t) st) (Q := Q) h
  exact wp_eq (fun st => by rw [ev] <;> rfl) this
/-- what a value's items are, as told -/
def Its (B H : HL) (v : Val) (xs : List Val) : Prop := ∀ st F, Sep B st (H ++ F) → itemsOf v st = some xs
theorem its_tup {xs : List Val} : Its B H (.tup xs) xs := fun _ _ _ => rfl
theorem its_lst {R : HL} {a : Nat} {xs : List Val} (u : Sub H [(a, .lst xs)] R) : Its B H (.ref a) xs := fun st F s => by simp only [itemsOf, Store.lst, sub_at u s]
theorem e_lzip {a b : E} {Q : Val → HL → Prop} (h : WP B (ev c a s) H fun x H1 => WP B (ev c b s) H1 fun y H2 => ∃ xs ys, Its B H2 x xs ∧ Its B H2 y ys ∧ ∀ p, Q (.ref p) ((p, .lst (zipL xs ys)) :: H2)) : WP B (ev c (.lzip a b) s) H Q := by
  have := wp_bind (k := fun x st => (ev c b s st).bind fun y st => match itemsOf x st, itemsOf y st with
    | some xs, some ys => mk (.lst (zipL xs ys)) st
    | _, _ => .fail) (Q := Q) (wp_mono h fun x H1 h1 => wp_bind (wp_mono h1 fun y H2 ⟨xs, ys, e1, e2, q⟩ => by
      intro st F sp
      obtain ⟨a, K, st', e, q, s'⟩ := wp_mk (B := B) (o := .lst (zipL xs ys)) q st F sp
      exact ⟨a, K, st', by simp only [e1 st F sp, e2 st F sp, e], q, s'⟩))
  exact wp_eq (fun st => by rw [ev] <;> rfl) this
theorem e_lrg1 {a : E} {Q : Val → HL → Prop} (h : WP B (ev c a s) H fun x H1 => ∃ j, x = .int j ∧ small24 0 j = true ∧ ∀ p, Q (.ref p) ((p, .lst (rangeL 0 j.toNat)) :: H1)) : WP B (ev c (.lrg1 a) s) H Q := by
  have := wp_bind (k := fun x st => match x with
    | .int j => if small24 0 j then mk (.lst (rangeL 0 j.toNat)) st else .fail
    | _ => .fail) (Q := Q) (wp_mono h fun x H1 ⟨j, e, h, q⟩ => by
      subst e
      simp only [h, if_true]
      exact wp_mk q)
  exact wp_eq (fun st => by rw [ev] <;> rfl) this
theorem e_lrg2 {a b : E} {Q : Val → HL → Prop} (h : WP B (ev c a s) H fun x H1 => WP B (ev c b s) H1 fun y H2 => ∃ i j, x = .int i ∧ y = .int j ∧ small24 i j = true ∧ ∀ p, Q (.ref p) ((p, .lst (rangeL i (j - i).toNat)) :: H2)) : WP B (ev c (.lrg2 a b) s) H Q := by
  have := wp_bind (k := fun x st => (ev c b s st).bind fun y st => match x, y with
    | .int i, .int j => if small24 i j then mk (.lst (rangeL i (j - i).toNat)) st else .fail
    | _, _ => .fail) (Q := Q) (wp_mono h fun x H1 h1 => wp_bind (wp_mono h1 fun y H2 ⟨i, j, e, e2, h, q⟩ => by
      subst e e2
      simp only [h, if_true]
      exact wp_mk q))
  exact wp_eq (fun st => by rw [ev] <;> rfl) this
/-! tests -/
theorem b_yes {Q : Bool → HL → Prop} (q : Q true H) : WP B (ts c .yes s) H Q := wp_of (fun st F _ => by simp only [ts]) q
theorem b_and {a b : CL.B} {Q : Bool → HL → Prop} (h : WP B (ts c a s) H fun k H1 => Br k (WP B (ts c b s) H1 Q) (Q false H1)) : WP B (ts c (.and a b) s) H Q := by
  have := wp_bind (k := fun (k : Bool) st => if k then ts c b s st else .ok false st) (Q := Q) (wp_mono h fun k H1 h => by
    cases k
    · exact wp_ok (h.2 rfl)
    · exact h.1 rfl)
  exact wp_eq (fun st => by rw [ts] <;> rfl) this
theorem b_or {a b : CL.B} {Q : Bool → HL → Prop} (h : WP B (ts c a s) H fun k H1 => Br k (Q true H1) (WP B (ts c b s) H1 Q)) : WP B (ts c (.or a b) s) H Q := by
  have := wp_bind (k := fun (k : Bool) st => if k then .ok true st else ts c b s st) (Q := Q) (wp_mono h fun k H1 h => by
    cases k
    · exact h.2 rfl
    · exact wp_ok (h.1 rfl))
  exact wp_eq (fun st => by rw [ts] <;> rfl) this
theorem b_not {a : CL.B} {Q : Bool → HL → Prop} (h : WP B (ts c a s) H fun k H1 => Q (!k) H1) : WP B (ts c (.not a) s) H Q := by
  have := wp_bind (k := fun (k : Bool) st => .ok (!k) st) (Q := Q) (wp_mono h fun k H1 h => wp_ok h)
  exact wp_eq (fun st => by rw [ts] <;> rfl) this
theorem b_of {e : E} {Q : Bool → HL → Prop} (h : WP B (ev c e s) H fun v H1 => WP B (fun st => okO (tru st v) st) H1 Q) : WP B (ts c (.of e) s) H Q := by
  have := wp_bind (k := fun v st => okO (tru st v) st) (Q := Q) h
  exact wp_eq (fun st => by rw [ts] <;> rfl) this
theorem t_bool {k : Bool} {Q : Bool → HL → Prop} (q : Q k H) : WP B (fun st => okO (tru st (.bl k)) st) H Q := wp_ok q
theorem t_int {i : Int} {Q : Bool → HL → Prop} (q : Q (!decide (i = 0)) H) : WP B (fun st => okO (tru st (.int i)) st) H Q := by
  have : (i != 0) = !decide (i = 0) := by
    by_cases h : i = 0 <;> simp [h]
  exact wp_of (fun st F _ => by simp only [tru, okO, this]) q
/-! what is walked over -/
end
def WQ (B : HL) (m : Store → Res (List Val × Watch)) (H : HL) (Q : List Val → Watch → HL → Prop) : Prop := WP B m H fun p K => Q p.1 p.2 K
section
variable {B H : HL} {c : Ctx} {s : Env}
theorem e_lc {t : Tg} {w : I} {k : CL.B} {e : E} {Q : Val → HL → Prop} (h : WQ B (evw c w s) H fun xs wt H1 => ∀ D, WP B (lcLoop D wt (onLc t (fun s st => ts c k s st) (fun s st => ev c e s st) s) xs) ((D, .lst []) :: H1) Q) : WP B (ev c (.lc t w k e) s) H Q := by
  have := wp_bind (k := fun (p : List Val × Watch) st => lcLoop st.n p.2 (onLc t (fun s st => ts c k s st) (fun s st => ev c e s st) s) p.1 (st.new (.lst []))) (Q := Q) (wp_mono h fun p H1 h => wp_new (k := fun n st => lcLoop n p.2 (onLc t (fun s st => ts c k s st) (fun s st => ev c e s st) s) p.1 st) h)
  exact wp_eq (fun st => by rw [ev] <;> rfl) this
theorem i_of {e : E} {Q : List Val → Watch → HL → Prop} (h : WP B (ev c e s) H fun v H1 => WQ B (walkOf v) H1 Q) : WQ B (evw c (.of e) s) H Q := by
  have := wp_bind (k := fun v st => walkOf v st) (Q := fun p K => Q p.1 p.2 K) h
  exact wp_eq (fun st => by rw [evw] <;> rfl) this
theorem i_tup {xs : List Val} {Q : List Val → Watch → HL → Prop} (q : Q xs [] H) : WQ B (walkOf (.tup xs)) H Q := wp_ok (a := (xs, [])) q
theorem i_lst {i : Nat} {xs : List Val} {R : HL} {Q : List Val → Watch → HL → Prop} (x : Sub H [(i, .lst xs)] R) (q : Q xs [(i, xs)] H) : WQ B (walkOf (.ref i)) H Q :=
  wp_of (a := (xs, [(i, xs)])) (fun st F sp => by simp only [walkOf, sub_at x sp]) q
theorem i_rg1 {a : E} {Q : List Val → Watch → HL → Prop} (h : WP B (ev c a s) H fun x H1 => ∃ j, x = .int j ∧ small62 j = true ∧ Q (rangeL 0 j.toNat) [] H1) : WQ B (evw c (.rg1 a) s) H Q := by
  have := wp_bind (k := fun x st => match x with
    | .int j => if small62 j then .ok (rangeL 0 j.toNat, []) st else .fail
    | _ => .fail) (Q := fun p K => Q p.1 p.2 K) (wp_mono h fun x H1 ⟨j, e, h, q⟩ => by
      subst e
      simp only [h, if_true]
      exact wp_ok (a := (_, _)) q)
  exact wp_eq (fun st => by rw [evw] <;> rfl) this
theorem i_rg2 {a b : E} {Q : List Val → Watch → HL → Prop} (h : WP B (ev c a s) H fun x H1 => WP B (ev c b s) H1 fun y H2 => ∃ i j, x = .int i ∧ y = .int j ∧ (small62 i && small62 j) = true ∧ Q (rangeL i (j - i).toNat) [] H2) : WQ B (evw c (.rg2 a b) s) H Q := by
  have := wp_bind (k := fun x st => (ev c b s st).bind fun y st => match x, y with
    | .int i, .int j => if small62 i && small62 j then .ok (rangeL i (j - i).toNat, []) st else .fail
    | _, _ => .fail) (Q := fun p K => Q p.1 p.2 K) (wp_mono h fun x H1 h1 => wp_bind (wp_mono h1 fun y H2 ⟨i, j, e, e2, h, q⟩ => by
      subst e e2
      simp only [h, if_true]
      exact wp_ok (a := (_, _)) q))
  exact wp_eq (fun st => by rw [evw] <;> rfl) this
theorem enu_at {x : Val} {xs : List Val} {st : Store} (e : itemsOf x st = some xs) : (match x with
    | .tup xs => (.ok (enumL 0 xs, []) st : Res (List Val × Watch))
    | .ref i => match st.m i with
      | some (.lst xs) => .ok (enumL 0 xs, [(i, xs)]) st
      | _ => .fail
    | _ => .fail) = .ok (enumL 0 xs, wOf x xs) st := by
  cases x with
  | tup ys => cases e; rfl
  | ref i =>
    have e : st.lst i = some xs := e
    unfold Store.lst at e
    simp only
    split at e
    · rename_i ys em; cases e; first | rfl | (rw [em]; rfl)
    · cases e
  | _ => cases e
theorem i_enu {a : E} {Q : List Val → Watch → HL → Prop} (h : WP B (ev c a s) H fun x H1 => ∃ xs, Its B H1 x xs ∧ Q (enumL 0 xs) (wOf x xs) H1) : WQ B (evw c (.enu a) s) H Q := by
  have := wp_bind (k := fun v st => match v with
    | .tup xs => .ok (enumL 0 xs, []) st
    | .ref i => match st.m i with
      | some (.lst xs) => .ok (enumL 0 xs, [(i, xs)]) st
      | _ => .fail
    | _ => .fail) (Q := fun p K => Q p.1 p.2 K) (wp_mono h fun x H1 ⟨xs, hi, q⟩ => wp_of (a := (_, _)) (fun st F sp => enu_at (hi st F sp)) q)
  exact wp_eq (fun st => by rw [evw] <;> rfl) this
theorem i_zip {a b : E} {Q : List Val → Watch → HL → Prop} (h : WP B (ev c a s) H fun x H1 => WP B (ev c b s) H1 fun y H2 => ∃ xs ys, Its B H2 x xs ∧ Its B H2 y ys ∧ Q (zipL xs ys) (wOf x xs ++ wOf y ys) H2) : WQ B (evw c (.zip a b) s) H Q := by
  have := wp_bind (k := fun x st => (ev c b s st).bind fun y st => match itemsOf x st, itemsOf y st with
    | some xs, some ys => .ok (zipL xs ys, wOf x xs ++ wOf y ys) st
    | _, _ => .fail) (Q := fun p K => Q p.1 p.2 K) (wp_mono h fun x H1 h1 => wp_bind (wp_mono h1 fun y H2 ⟨xs, ys, e1, e2, q⟩ => wp_of (a := (_, _)) (fun st F sp => by simp only [e1 st F sp, e2 st F sp]) q))
  exact wp_eq (fun st => by rw [evw] <;> rfl) this
end
end CL

/-! CL, part t: what operators, built-ins and statements do over a told heap -/
namespace CL
theorem fits_small {n : Nat} (h : n ≤ 1000000) : fits n = true := by
  unfold fits
  rw [PySem.sizeLine_eq]
  exact decide_eq_true (by omega)
theorem small62_of {i : Int} (h : -1000000000000 ≤ i ∧ i ≤ 1000000000000) : small62 i = true := by
  unfold small62
  rw [Bool.and_eq_true]
  exact ⟨decide_eq_true (by omega), decide_eq_true (by omega)⟩
theorem small24_of {i j : Int} (h : -1000000000000 ≤ i ∧ i ≤ 1000000000000) (h2 : -1000000000000 ≤ j ∧ j ≤ 1000000000000) (h3 : (j - i).toNat ≤ 1000000) : small24 i j = true := by
  unfold small24
  rw [small62_of h, small62_of h2]
  exact decide_eq_true (by omega)
section
variable {B H R : HL} {kt : List (List Val)}
/-! ### operators -/
theorem p_add' {i j : Int} {Q : Val → HL → Prop} (q : Q (.int (i + j)) H) : WP B (bop .add (.int i) (.int j)) H Q := wp_ok q
theorem p_sub' {i j : Int} {Q : Val → HL → Prop} (q : Q (.int (i - j)) H) : WP B (bop .sub (.int i) (.int j)) H Q := wp_ok q
theorem p_mul' {i j : Int} {Q : Val → HL → Prop} (h : mulOk i j = true) (q : Q (.int (i * j)) H) : WP B (bop .mul (.int i) (.int j)) H Q := wp_of (fun st F _ => p_mul st i j h) q
theorem p_fdiv' {i j : Int} {Q : Val → HL → Prop} (h : j ≠ 0 ∧ j.natAbs < 18446744073709551616) (q : Q (.int (i.fdiv j)) H) : WP B (bop .fdiv (.int i) (.int j)) H Q := wp_of (fun st F _ => p_fdiv st i j h) q
theorem p_mod' {i j : Int} {Q : Val → HL → Prop} (h : j ≠ 0) (q : Q (.int (i.fmod j)) H) : WP B (bop .mod (.int i) (.int j)) H Q := wp_of (fun st F _ => p_mod st i j h) q
theorem p_pow' {i j : Int} {Q : Val → HL → Prop} (h : 0 ≤ j ∧ j ≤ 1000000 ∧ i.natAbs < 2 ^ 64) (q : Q (.int (i ^ j.toNat)) H) : WP B (bop .pow (.int i) (.int j)) H Q := wp_of (fun st F _ => by simp only [bop]; rw [if_pos h]) q
theorem p_addt' {xs ys : List Val} {Q : Val → HL → Prop} (h : fits (xs.length + ys.length) = true) (q : Q (.tup (xs ++ ys)) H) : WP B (bop .add (.tup xs) (.tup ys)) H Q := wp_of (fun st F _ => p_addt st xs ys h) q
theorem p_adds' {a b : PySem.Str} {Q : Val → HL → Prop} (h : fits (a.length + b.length) = true) (q : Q (.str (a ++ b)) H) : WP B (bop .add (.str a) (.str b)) H Q := wp_of (fun st F _ => p_adds st a b h) q
theorem p_addl' {a b : Nat} {xs ys : List Val} {R' : HL} {Q : Val → HL → Prop} (x : Sub H [(a, .lst xs)] R) (y : Sub H [(b, .lst ys)] R') (h : fits (xs.length + ys.length) = true) (q : ∀ p, Q (.ref p) ((p, .lst (xs ++ ys)) :: H)) : WP B (bop .add (.ref a) (.ref b)) H Q := fun st F s => by
  obtain ⟨v, K, st', e, q, s'⟩ := wp_mk (B := B) (o := .lst (xs ++ ys)) q st F s
  refine ⟨v, K, st', ?_, q, s'⟩
  simp only [bop, sub_at x s, sub_at y s, sub_rw x s, sub_rw y s, Bool.or_self, Bool.false_eq_true, if_false, h, if_true, e]
theorem p_mull' {a : Nat} {k : Int} {xs : List Val} {Q : Val → HL → Prop} (x : Sub H [(a, .lst xs)] R) (h : repOk xs k = true) (q : ∀ p, Q (.ref p) ((p, .lst (rep xs k)) :: H)) : WP B (bop .mul (.ref a) (.int k)) H Q := fun st F s => by
  obtain ⟨v, K, st', e, q, s'⟩ := wp_mk (B := B) (o := .lst (rep xs k)) q st F s
  refine ⟨v, K, st', ?_, q, s'⟩
  simp only [bop, sub_at x s, sub_rw x s, Bool.not_false, Bool.true_and, h, if_true, e]
theorem p_mult' {k : Int} {xs : List Val} {Q : Val → HL → Prop} (h : xs ≠ [] ∧ 0 ≤ k ∧ k ≤ 1000 ∧ xs.length ≤ 1000) (q : Q (.tup (rep xs k)) H) : WP B (bop .mul (.tup xs) (.int k)) H Q := wp_of (fun st F _ => by
  simp only [bop]
  by_cases h1 : k = 1
  · subst h1
    rw [if_pos rfl]
    simp [rep]
  · rw [if_neg h1]
    by_cases h0 : k = 0
    · subst h0
      rw [if_pos (And.intro rfl h.1)]
      simp [rep]
    · rw [if_neg (fun z => h0 z.1), if_pos ⟨h.1, by omega, h.2.2.1, h.2.2.2⟩]) q
theorem c_eqi {i j : Int} {Q : Val → HL → Prop} (q : Q (.bl (decide (i = j))) H) : WP B (cop kt .eq (.int i) (.int j)) H Q := wp_ok q
theorem c_nei {i j : Int} {Q : Val → HL → Prop} (q : Q (.bl (!decide (i = j))) H) : WP B (cop kt .ne (.int i) (.int j)) H Q := wp_ok q
theorem c_eqs {i j : PySem.Str} {Q : Val → HL → Prop} (q : Q (.bl (decide (i = j))) H) : WP B (cop kt .eq (.str i) (.str j)) H Q := wp_ok q
theorem c_nes {i j : PySem.Str} {Q : Val → HL → Prop} (q : Q (.bl (!decide (i = j))) H) : WP B (cop kt .ne (.str i) (.str j)) H Q := wp_ok q
theorem c_eqb {i j : Bool} {Q : Val → HL → Prop} (q : Q (.bl (i == j)) H) : WP B (cop kt .eq (.bl i) (.bl j)) H Q := wp_ok q
theorem c_neb {i j : Bool} {Q : Val → HL → Prop} (q : Q (.bl (!(i == j))) H) : WP B (cop kt .ne (.bl i) (.bl j)) H Q := wp_ok q
theorem c_lt {i j : Int} {Q : Val → HL → Prop} (q : Q (.bl (decide (i < j))) H) : WP B (cop kt .lt (.int i) (.int j)) H Q := wp_ok q
theorem c_le {i j : Int} {Q : Val → HL → Prop} (q : Q (.bl (decide (i ≤ j))) H) : WP B (cop kt .le (.int i) (.int j)) H Q := wp_ok q
theorem c_gt {i j : Int} {Q : Val → HL → Prop} (q : Q (.bl (decide (j < i))) H) : WP B (cop kt .gt (.int i) (.int j)) H Q := wp_ok q
theorem c_ge {i j : Int} {Q : Val → HL → Prop} (q : Q (.bl (decide (j ≤ i))) H) : WP B (cop kt .ge (.int i) (.int j)) H Q := wp_ok q
/-- == by data -/
theorem allO_len {α : Type} : ∀ {xs : List (Option α)} {ys : List α}, allO xs = some ys → ys.length = xs.length
  | [], _, e => by cases e; rfl
  | some x :: r, ys, e => by
    unfold allO at e
    split at e
    · rename_i zs e1; cases e; rw [List.length_cons, List.length_cons, allO_len e1]
    · cases e
  | none :: _, _, e => by cases e
theorem eqvAll_len : ∀ {xs ys : List PySem.PyData}, xs.length ≠ ys.length → PySem.PyData.eqvAll xs ys = false
  | [], [], h => absurd rfl h
  | [], _ :: _, _ => by simp [PySem.PyData.eqvAll]
  | _ :: _, [], _ => by simp [PySem.PyData.eqvAll]
  | x :: r, y :: t, h => by
    rw [PySem.PyData.eqvAll, eqvAll_len (xs := r) (ys := t) (by simpa using h)]; simp
theorem c_eqd {x y : Val} {k : Bool} {Q : Val → HL → Prop} (h : ∀ st F, Sep B st (H ++ F) → eqV st x y = some k) (q : Q (.bl k) H) : WP B (cop kt .eq x y) H Q := wp_of (fun st F s => by simp only [cop, h st F s, okB]) q
theorem c_eqlen {a b : Nat} {xs ys : List Val} {R2 : HL} {Q : Val → HL → Prop} (u1 : Sub H [(a, .lst xs)] R) (u2 : Sub H [(b, .lst ys)] R2) (hn : xs.length ≠ ys.length) (q : Q (.bl false) H) : WP B (cop kt .eq (.ref a) (.ref b)) H Q := wp_of (fun st F s => by
  simp only [cop]
  split
  · rename_i k e
    have e : eqV st (.ref a) (.ref b) = some k := e
    unfold eqV at e
    simp only [eq0] at e
    split at e
    · rename_i d1 d2 e1 e2
      split at e
      · cases e
        have f1 : dat st deep (.ref a) = (allO (xs.map (dat st 69))).map PySem.PyData.list := by
          show (match st.m a with | some (.lst xs) => (allO (xs.map (dat st 69))).map PySem.PyData.list | _ => none) = _
          rw [sub_at u1 s]
        have f2 : dat st deep (.ref b) = (allO (ys.map (dat st 69))).map PySem.PyData.list := by
          show (match st.m b with | some (.lst xs) => (allO (xs.map (dat st 69))).map PySem.PyData.list | _ => none) = _
          rw [sub_at u2 s]
        rw [f1] at e1
        rw [f2] at e2
        obtain ⟨l1, g1, rfl⟩ := Option.map_eq_some_iff.mp e1
        obtain ⟨l2, g2, rfl⟩ := Option.map_eq_some_iff.mp e2
        have k1 := allO_len g1
        have k2 := allO_len g2
        rw [List.length_map] at k1 k2
        congr 2
        rw [PySem.PyData.eqv]
        exact eqvAll_len (by omega)
      · cases e
    · cases e
  · have : lenNe st (.ref a) (.ref b) = true := by
      unfold lenNe
      simp only [sub_at u1 s, sub_at u2 s]
      exact decide_eq_true hn
    rw [if_pos this]) q
theorem c_ned {x y : Val} {k : Bool} {Q : Val → HL → Prop} (h : ∀ st F, Sep B st (H ++ F) → eqV st x y = some k) (q : Q (.bl (!k)) H) : WP B (cop kt .ne x y) H Q := wp_of (fun st F s => by simp only [cop, h st F s, okB, notO]) q
theorem c_int {x : Val} {ys : List Val} {k : Bool} {Q : Val → HL → Prop} (h : inFlat x ys = some k) (q : Q (.bl k) H) : WP B (cop kt .has x (.tup ys)) H Q := wp_of (fun st F s => by simp only [cop, inV, h, okB]) q
theorem c_nint {x : Val} {ys : List Val} {k : Bool} {Q : Val → HL → Prop} (h : inFlat x ys = some k) (q : Q (.bl (!k)) H) : WP B (cop kt .hasnt x (.tup ys)) H Q := wp_of (fun st F s => by simp only [cop, inV, h, okB, notO]) q
theorem c_inl {x : Val} {a : Nat} {ys : List Val} {k : Bool} {Q : Val → HL → Prop} (u : Sub H [(a, .lst ys)] R) (h : inFlat x ys = some k) (q : Q (.bl k) H) : WP B (cop kt .has x (.ref a)) H Q := wp_of (fun st F s => by simp only [cop, inV, sub_at u s, h, okB]) q
theorem c_ninl {x : Val} {a : Nat} {ys : List Val} {k : Bool} {Q : Val → HL → Prop} (u : Sub H [(a, .lst ys)] R) (h : inFlat x ys = some k) (q : Q (.bl (!k)) H) : WP B (cop kt .hasnt x (.ref a)) H Q := wp_of (fun st F s => by simp only [cop, inV, sub_at u s, h, okB, notO]) q
theorem c_ind {x : Val} {a : Nat} {kvs : List (L2.Key × Val)} {k : L2.Key} {Q : Val → HL → Prop} (u : Sub H [(a, .dK kvs)] R) (h : key1 x = some k) (q : Q (.bl (look kvs k).isSome) H) : WP B (cop kt .has x (.ref a)) H Q := wp_of (fun st F s => by simp only [cop, inV, sub_at u s, dget, h, Option.map, okB]) q
theorem c_nind {x : Val} {a : Nat} {kvs : List (L2.Key × Val)} {k : L2.Key} {Q : Val → HL → Prop} (u : Sub H [(a, .dK kvs)] R) (h : key1 x = some k) (q : Q (.bl (!(look kvs k).isSome)) H) : WP B (cop kt .hasnt x (.ref a)) H Q := wp_of (fun st F s => by simp only [cop, inV, sub_at u s, dget, h, Option.map, okB, notO]) q
/-! ### items, slices, fields -/
theorem x_tup {xs : List Val} {i : Int} {v : Val} {Q : Val → HL → Prop} (h : L2.atI xs i = some v) (q : Q v H) : WP B (subV kt (.tup xs) (.int i)) H Q := wp_of (fun st F s => by simp only [subV, h]) q
theorem x_lst {a : Nat} {xs : List Val} {i : Int} {v : Val} {Q : Val → HL → Prop} (u : Sub H [(a, .lst xs)] R) (h : L2.atI xs i = some v) (q : Q v H) : WP B (subV kt (.ref a) (.int i)) H Q := wp_of (fun st F s => by simp only [subV, sub_at u s, h]) q
theorem x_dK {a : Nat} {kvs : List (L2.Key × Val)} {y v : Val} {k : L2.Key} {Q : Val → HL → Prop} (u : Sub H [(a, .dK kvs)] R) (hk : key1 y = some k) (h : look kvs k = some v) (q : Q v H) : WP B (subV kt (.ref a) y) H Q := wp_of (fun st F s => by simp only [subV, sub_at u s, dget, hk, h]) q
theorem x_cutt {xs : List Val} {l h : Option Val} {l' h' : Option Int} {Q : Val → HL → Prop} (e1 : part l = some l') (e2 : part h = some h') (q : Q (.tup (cutL xs l' h')) H) : WP B (cutV (.tup xs) l h) H Q := wp_of (fun st F s => by simp only [cutV, e1, e2]) q
theorem x_cutl {a : Nat} {xs : List Val} {l h : Option Val} {l' h' : Option Int} {Q : Val → HL → Prop} (u : Sub H [(a, .lst xs)] R) (e1 : part l = some l') (e2 : part h = some h') (q : ∀ p, Q (.ref p) ((p, .lst (cutL xs l' h')) :: H)) : WP B (cutV (.ref a) l h) H Q := fun st F s => by
  obtain ⟨v, K, st', e, q, s'⟩ := wp_mk (B := B) q st F s
  exact ⟨v, K, st', by simp only [cutV, e1, e2, sub_at u s, e], q, s'⟩
theorem x_fld {fl : Nat → PySem.Str → Bool} {a k : Nat} {fs : List (PySem.Str × Val)} {f : PySem.Str} {v : Val} {Q : Val → HL → Prop} (u : Sub H [(a, .ins k fs)] R) (h1 : fl k f = true) (h : fs.lookup f = some v) (q : Q v H) : WP B (getF fl (.ref a) f) H Q := wp_of (fun st F s => by simp only [getF, sub_at u s, h1, if_true, h]) q
theorem y_lst {a : Nat} {xs : List Val} {i : Int} {j : Nat} {v : Val} {K : HL} {Q : Val → HL → Prop} (u : Upd H a (.lst xs) (.lst (xs.set j v)) K) (h : L2.ixN xs.length i = some j) (q : Q .non K) : WP B (putV kt (.ref a) (.int i) v) H Q := fun st F s => by
  obtain ⟨R0, u0, _⟩ := u.sub
  obtain ⟨v, K, st', e, q, s'⟩ := wp_upd (B := B) u q st F s
  exact ⟨v, K, st', by simp only [putV, sub_at u0 s, h, e], q, s'⟩
theorem y_dK {a : Nat} {kvs : List (L2.Key × Val)} {y v : Val} {k : L2.Key} {K : HL} {Q : Val → HL → Prop} (u : Upd H a (.dK kvs) (.dK (put kvs k v)) K) (hk : key1 y = some k) (h : kvs.length < 1000000) (q : Q .non K) : WP B (putV kt (.ref a) y v) H Q := fun st F s => by
  obtain ⟨R0, u0, _⟩ := u.sub
  obtain ⟨v, K, st', e, q, s'⟩ := wp_upd (B := B) u q st F s
  have hs : kvs.length < PySem.sizeLine := by rw [PySem.sizeLine_eq]; omega
  exact ⟨v, K, st', by simp only [putV, sub_at u0 s, hk, hs, if_true, e], q, s'⟩
theorem y_fld {fl : Nat → PySem.Str → Bool} {a k : Nat} {fs : List (PySem.Str × Val)} {f : PySem.Str} {v : Val} {K : HL} {Q : Val → HL → Prop} (u : Upd H a (.ins k fs) (.ins k (setF f v fs)) K) (h1 : fl k f = true) (h : fs.length < 1000) (q : Q .non K) : WP B (putF fl (.ref a) f v) H Q := fun st F s => by
  obtain ⟨R0, u0, _⟩ := u.sub
  obtain ⟨v, K, st', e, q, s'⟩ := wp_upd (B := B) u q st F s
  exact ⟨v, K, st', by simp only [putF, sub_at u0 s]; rw [if_pos ⟨h1, h⟩]; exact e, q, s'⟩
theorem d_get {a : Nat} {kvs : List (L2.Key × Val)} {y v : Val} {k : L2.Key} {Q : Val → HL → Prop} (u : Sub H [(a, .dK kvs)] R) (hk : key1 y = some k) (h : look kvs k = some v) (q : Q v H) : WP B (getD kt (.ref a) y) H Q := wp_of (fun st F s => by simp only [getD, sub_at u s, dget, hk, h]) q
theorem d_put {a : Nat} {kvs : List (L2.Key × Val)} {y v : Val} {k : L2.Key} {K : HL} {Q : Val → HL → Prop} (u : Upd H a (.dK kvs) (.dK (put kvs k v)) K) (hk : key1 y = some k) (h : kvs.length < 1000000) (q : Q .non K) : WP B (putD kt (.ref a) y v) H Q := fun st F s => by
  obtain ⟨R0, u0, _⟩ := u.sub
  obtain ⟨v, K, st', e, q, s'⟩ := wp_upd (B := B) u q st F s
  have hs : kvs.length < PySem.sizeLine := by rw [PySem.sizeLine_eq]; omega
  exact ⟨v, K, st', by simp only [putD, sub_at u0 s, hk, hs, if_true, e], q, s'⟩
/-! ### built-in functions -/
theorem f_lent {xs : List Val} {Q : Val → HL → Prop} (q : Q (.int xs.length) H) : WP B (bfn .len [.tup xs]) H Q := wp_ok q
theorem f_lenl {a : Nat} {xs : List Val} {Q : Val → HL → Prop} (u : Sub H [(a, .lst xs)] R) (q : Q (.int xs.length) H) : WP B (bfn .len [.ref a]) H Q := wp_of (fun st F s => by simp only [bfn, sub_at u s]) q
theorem f_lend {a : Nat} {xs : List (L2.Key × Val)} {Q : Val → HL → Prop} (u : Sub H [(a, .dK xs)] R) (q : Q (.int xs.length) H) : WP B (bfn .len [.ref a]) H Q := wp_of (fun st F s => by simp only [bfn, sub_at u s, sub_rw u s, Bool.false_eq_true, if_false]) q
theorem f_abs {i : Int} {Q : Val → HL → Prop} (q : Q (.int (if i < 0 then -i else i)) H) : WP B (bfn .abs [.int i]) H Q := wp_ok q
theorem f_listt {xs : List Val} {Q : Val → HL → Prop} (q : ∀ p, Q (.ref p) ((p, .lst xs) :: H)) : WP B (bfn .list [.tup xs]) H Q := wp_mk q
theorem f_listl {a : Nat} {xs : List Val} {Q : Val → HL → Prop} (u : Sub H [(a, .lst xs)] R) (q : ∀ p, Q (.ref p) ((p, .lst xs) :: H)) : WP B (bfn .list [.ref a]) H Q := fun st F s => by
  obtain ⟨v, K, st', e, q, s'⟩ := wp_mk (B := B) q st F s
  exact ⟨v, K, st', by simp only [bfn, sub_at u s, e], q, s'⟩
theorem f_tupt {xs : List Val} {Q : Val → HL → Prop} (q : Q (.tup xs) H) : WP B (bfn .tuple [.tup xs]) H Q := wp_ok q
theorem f_tupl {a : Nat} {xs : List Val} {Q : Val → HL → Prop} (u : Sub H [(a, .lst xs)] R) (q : Q (.tup xs) H) : WP B (bfn .tuple [.ref a]) H Q := wp_of (fun st F s => by simp only [bfn, sub_at u s]) q
theorem f_inti {i : Int} {Q : Val → HL → Prop} (q : Q (.int i) H) : WP B (bfn .int [.int i]) H Q := wp_ok q
theorem f_intb {k : Bool} {Q : Val → HL → Prop} (q : Q (.int (if k then 1 else 0)) H) : WP B (bfn .int [.bl k]) H Q := wp_ok q
theorem f_any {a : Nat} {xs : List Val} {bs : List Bool} {Q : Val → HL → Prop} (u : Sub H [(a, .lst xs)] R) (h : bools xs = some bs) (q : Q (.bl (bs.any id)) H) : WP B (bfn .any [.ref a]) H Q := wp_of (fun st F s => by simp only [bfn, sub_at u s, h]) q
theorem x_cut3 {a : Nat} {xs : List Val} {l h : Option Val} {l' h' : Option Int} {k : Int} {Q : Val → HL → Prop} (u : Sub H [(a, .lst xs)] R) (e1 : part l = some l') (e2 : part h = some h') (hk : k ≠ 0) (hf : fits (pickL xs l' h' k).length = true) (q : ∀ p, Q (.ref p) ((p, .lst (pickL xs l' h' k)) :: H)) : WP B (cut3V k (.ref a) l h) H Q := fun st F s => by
  obtain ⟨v, K, st', e, q, s'⟩ := wp_mk (B := B) q st F s
  exact ⟨v, K, st', by simp only [cut3V, e1, e2, sub_at u s]; rw [if_pos ⟨hk, hf⟩]; exact e, q, s'⟩
theorem f_str {i : Int} {Q : Val → HL → Prop} (h : i.natAbs.log2 < 1920) (q : Q (.str (toString i)) H) : WP B (bfn .str [.int i]) H Q := wp_of (fun st F s => by simp only [bfn]; rw [if_pos h]) q
theorem f_sorted {a : Nat} {xs : List Val} {is : List Int} {Q : Val → HL → Prop} (u : Sub H [(a, .lst xs)] R) (h : intsO xs = some is) (q : ∀ p, Q (.ref p) ((p, .lst ((is.mergeSort (fun i j => decide (i ≤ j))).map .int)) :: H)) : WP B (bfn .sorted [.ref a]) H Q := fun st F s => by
  obtain ⟨v, K, st', e, q, s'⟩ := wp_mk (B := B) q st F s
  exact ⟨v, K, st', by simp only [bfn, sub_at u s, h]; exact e, q, s'⟩
theorem f_sortedD {a : Nat} {kvs : List (L2.Key × Val)} {ks : List Int} {Q : Val → HL → Prop} (u : Sub H [(a, .dK kvs)] R) (h : keysI kvs = some ks) (hl : ks.length < 64) (q : ∀ p, Q (.ref p) ((p, .lst ((ks.mergeSort (fun i j => decide (i ≤ j))).map .int)) :: H)) : WP B (bfn .sorted [.ref a]) H Q := fun st F s => by
  obtain ⟨v, K, st', e, q, s'⟩ := wp_mk (B := B) q st F s
  exact ⟨v, K, st', by simp only [bfn, sub_at u s, h]; rw [if_pos hl]; exact e, q, s'⟩
theorem x_dictT {xs : List Val} {kvs : List (L2.Key × Val)} {Q : Val → HL → Prop} (h : pairsO xs = some kvs) (q : ∀ p, Q (.ref p) ((p, .dK (merge [] kvs)) :: H)) : WP B (dictT (.tup xs)) H Q := fun st F s => by
  obtain ⟨v, K, st', e, q, s'⟩ := wp_mk (B := B) q st F s
  exact ⟨v, K, st', by simp only [dictT, h]; exact e, q, s'⟩
theorem x_sset {xs : List Val} {is : List Int} {Q : Val → HL → Prop} (h : intsO xs = some is) (hl : is.length < 60) (q : ∀ p, Q (.ref p) ((p, .lst (((uniqI is).mergeSort (fun i j => decide (i ≤ j))).map .int)) :: H)) : WP B (ssetV (.tup xs)) H Q := fun st F s => by
  obtain ⟨v, K, st', e, q, s'⟩ := wp_mk (B := B) q st F s
  exact ⟨v, K, st', by simp only [ssetV, h]; rw [if_pos hl]; exact e, q, s'⟩
theorem f_dict {a : Nat} {xs : List Val} {kvs : List (L2.Key × Val)} {Q : Val → HL → Prop} (u : Sub H [(a, .lst xs)] R) (h : pairsO xs = some kvs) (q : ∀ p, Q (.ref p) ((p, .dK (merge [] kvs)) :: H)) : WP B (bfn .dict [.ref a]) H Q := fun st F s => by
  obtain ⟨v, K, st', e, q, s'⟩ := wp_mk (B := B) q st F s
  exact ⟨v, K, st', by simp only [bfn, sub_at u s, h]; exact e, q, s'⟩
theorem f_all {a : Nat} {xs : List Val} {bs : List Bool} {Q : Val → HL → Prop} (u : Sub H [(a, .lst xs)] R) (h : bools xs = some bs) (q : Q (.bl (bs.all id)) H) : WP B (bfn .all [.ref a]) H Q := wp_of (fun st F s => by simp only [bfn, sub_at u s, h]) q
theorem f_min {i j : Int} {Q : Val → HL → Prop} (q : Q (.int (if j < i then j else i)) H) : WP B (bfn .min2 [.int i, .int j]) H Q := wp_ok q
theorem f_max {i j : Int} {Q : Val → HL → Prop} (q : Q (.int (if j > i then j else i)) H) : WP B (bfn .max2 [.int i, .int j]) H Q := wp_ok q
theorem m_app {a : Nat} {xs : List Val} {v : Val} {K : HL} {Q : Val → HL → Prop} (u : Upd H a (.lst xs) (.lst (xs ++ [v])) K) (h : xs.length < 1000000) (q : Q .non K) : WP B (bmt .append (.ref a) [v]) H Q := fun st F s => by
  obtain ⟨R0, u0, _⟩ := u.sub
  obtain ⟨v, K, st', e, q, s'⟩ := wp_upd (B := B) u q st F s
  have hs : xs.length < PySem.sizeLine := by rw [PySem.sizeLine_eq]; omega
  exact ⟨v, K, st', by simp only [bmt, sub_at u0 s, hs, if_true, e], q, s'⟩
theorem m_pop {a : Nat} {xs : List Val} {v : Val} {K : HL} {Q : Val → HL → Prop} (u : Upd H a (.lst xs) (.lst xs.dropLast) K) (h : xs.getLast? = some v) (q : Q v K) : WP B (bmt .pop (.ref a) []) H Q := fun st F s => by
  obtain ⟨R0, u0, _⟩ := u.sub
  obtain ⟨v', K, st', e, q, s'⟩ := wp_bind (k := fun _ st => .ok v st) (wp_upd (B := B) (Q := fun _ K => WP B (fun st => .ok v st) K Q) u (wp_ok q)) st F s
  exact ⟨v', K, st', by simp only [bmt, sub_at u0 s, h, e], q, s'⟩
/-! ### isinstance -/
theorem t_non {t : Ty} {Q : Val → HL → Prop} (q : Q (.bl false) H) : WP B (fun st => okB (isT st .non t) st) H Q := wp_ok q
theorem t_bl' {k : Bool} {t : Ty} {Q : Val → HL → Prop} (q : Q (.bl (t = .int || t = .bool)) H) : WP B (fun st => okB (isT st (.bl k) t) st) H Q := wp_ok q
theorem t_int' {i : Int} {t : Ty} {Q : Val → HL → Prop} (q : Q (.bl (t = .int)) H) : WP B (fun st => okB (isT st (.int i) t) st) H Q := wp_ok q
theorem t_str' {i : PySem.Str} {t : Ty} {Q : Val → HL → Prop} (q : Q (.bl (t = .str)) H) : WP B (fun st => okB (isT st (.str i) t) st) H Q := wp_ok q
theorem t_tup' {i : List Val} {t : Ty} {Q : Val → HL → Prop} (q : Q (.bl (t = .tuple)) H) : WP B (fun st => okB (isT st (.tup i) t) st) H Q := wp_ok q
theorem t_lst' {a : Nat} {xs : List Val} {t : Ty} {Q : Val → HL → Prop} (u : Sub H [(a, .lst xs)] R) (q : Q (.bl (t = .list)) H) : WP B (fun st => okB (isT st (.ref a) t) st) H Q := wp_of (fun st F s => by simp only [isT, sub_at u s, okB]) q
theorem t_dK' {a : Nat} {xs : List (L2.Key × Val)} {t : Ty} {Q : Val → HL → Prop} (u : Sub H [(a, .dK xs)] R) (q : Q (.bl (t = .dict)) H) : WP B (fun st => okB (isT st (.ref a) t) st) H Q := wp_of (fun st F s => by simp only [isT, sub_at u s, okB]) q
end
/-! ### dict displays -/
section
variable {B H R : HL} {c : Ctx} {s : Env}
theorem ep_nil {Q : List (Val × Val) → HL → Prop} (q : Q [] H) : WP B (evp c .nil s) H Q := wp_of (fun st F _ => by simp only [evp]) q
theorem ep_cons {k v : E} {ps : Ps} {Q : List (Val × Val) → HL → Prop} (h : WP B (ev c k s) H fun x H1 => WP B (ev c v s) H1 fun y H2 => WP B (evp c ps s) H2 fun r H3 => Q ((x, y) :: r) H3) : WP B (evp c (.cons k v ps) s) H Q := by
  have := wp_bind (k := fun x st => (ev c v s st).bind fun y st => (evp c ps s st).bind fun r st => .ok ((x, y) :: r) st) (Q := Q) (wp_mono h fun x H1 h1 => wp_bind (wp_mono h1 fun y H2 h2 => wp_bind (wp_mono h2 fun r H3 h3 => wp_ok h3)))
  exact wp_eq (fun st => by rw [evp] <;> rfl) this
theorem e_dic {ps : Ps} {Q : Val → HL → Prop} (h : ∀ p, WP B (evp c ps s) ((p, .dK []) :: H) fun r K => ∃ kvs K', keyed r = some kvs ∧ kvs.length ≤ 15 ∧ Upd K p (.dK []) (.dK (merge [] kvs)) K' ∧ Q (.ref p) K') : WP B (ev c (.dic ps) s) H Q := by
  have := wp_new (B := B) (H := H) (o := .dK []) (Q := Q) (k := fun p st => (evp c ps s st).bind fun ps st' => match keyed ps with
    | some kvs => if st'.m p = some (.dK []) ∧ kvs.length ≤ 15 then (wr p (.dK (merge [] kvs)) st').bind fun _ st2 => .ok (.ref p) st2 else .fail
    | none => .fail) fun p => wp_bind (wp_mono (h p) fun r K ⟨kvs, R, e1, e2, u, q⟩ => by
      intro st F sp
      obtain ⟨R0, u0, _⟩ := u.sub
      obtain ⟨v', K, st', e, q, s'⟩ := wp_bind (k := fun _ st => .ok (Val.ref p) st) (wp_upd (B := B) (Q := fun _ K => WP B (fun st => .ok (Val.ref p) st) K Q) u (wp_ok q)) st F sp
      refine ⟨v', K, st', ?_, q, s'⟩
      simp only [e1]
      rw [if_pos ⟨sub_at u0 sp, e2⟩]
      exact e)
  exact wp_eq (fun st => by rw [ev] <;> rfl) this
end

/-! ### statements -/
/-- how a statement ends -/
def post (N : Env → HL → Prop) (T : Val → HL → Prop) (K C : Env → HL → Prop) (fl : Fl) (H : HL) : Prop := match fl with
  | .nx s => N s H
  | .rt v => T v H
  | .bk s => K s H
  | .ct s => C s H
def WS (B : HL) (c : Ctx) (x : S) (s : Env) (H : HL) (N : Env → HL → Prop) (T : Val → HL → Prop) (K C : Env → HL → Prop) : Prop := WP B (exec c x s) H (post N T K C)
def WSs (B : HL) (c : Ctx) (x : Ss) (s : Env) (H : HL) (N : Env → HL → Prop) (T : Val → HL → Prop) (K C : Env → HL → Prop) : Prop := WP B (execs c x s) H (post N T K C)
section
variable {B H R : HL} {c : Ctx} {s : Env} {N K C : Env → HL → Prop} {T : Val → HL → Prop}
theorem wss_mono {N' K' C' : Env → HL → Prop} {T' : Val → HL → Prop} {x : Ss} (h : WSs B c x s H N' T' K' C') (n : ∀ s H, N' s H → N s H) (t : ∀ v H, T' v H → T v H) (k : ∀ s H, K' s H → K s H) (cc : ∀ s H, C' s H → C s H) : WSs B c x s H N T K C :=
  wp_mono h fun fl H p => by
    cases fl
    · exact n _ _ p
    · exact t _ _ p
    · exact k _ _ p
    · exact cc _ _ p
theorem ss_nil (n : N s H) : WSs B c .nil s H N T K C := wp_of (a := Fl.nx s) (fun st F _ => by simp only [execs]) n
theorem ss_cons {x : S} {r : Ss} (h : WS B c x s H (fun s1 H1 => WSs B c r s1 H1 N T K C) T K C) : WSs B c (.cons x r) s H N T K C := by
  have := wp_bind (k := thenF fun s st => execs c r s st) (Q := post N T K C) (wp_mono h fun fl H1 p => by
    cases fl
    · exact p
    · exact wp_ok p
    · exact wp_ok p
    · exact wp_ok p)
  exact wp_eq (fun st => by rw [execs] <;> rfl) this
/-- with what holds between the two told -/
theorem ss_mid {x : S} {r : Ss} (M : Env → HL → Prop) (h : WS B c x s H M T K C) (k : ∀ s1 H1, M s1 H1 → WSs B c r s1 H1 N T K C) : WSs B c (.cons x r) s H N T K C :=
  ss_cons (wp_mono h fun fl H1 p => by
    cases fl
    · exact k _ _ p
    · exact p
    · exact p
    · exact p)
theorem ws_of {m : Store → Res Fl} {x : S} (h : WP B m H (post N T K C)) (e : ∀ st, exec c x s st = m st) : WS B c x s H N T K C := wp_eq e h
theorem s_asg1 {i : Nat} {e : E} (h : WP B (ev c e s) H fun v H1 => N (s.set i (some v)) H1) : WS B c (.asg (.one i) e) s H N T K C := by
  have := wp_bind (k := fun v st => (asg1 c (.one i) v s st).bind fun s st => .ok (Fl.nx s) st) (Q := post N T K C) (wp_mono h fun v H1 q => wp_of (a := Fl.nx (s.set i (some v))) (fun st F _ => by simp only [asg1, bind_ok]) q)
  exact wp_eq (fun st => by rw [exec] <;> rfl) this
theorem s_asgs {o i : E} {e : E} (h : WP B (ev c e s) H fun v H1 => WP B (ev c o s) H1 fun x H2 => WP B (ev c i s) H2 fun y H3 => WP B (putV c.G.kt x y v) H3 fun _ H4 => N s H4) : WS B c (.asg (.sub o i) e) s H N T K C := by
  have := wp_bind (k := fun v st => (asg1 c (.sub o i) v s st).bind fun s st => .ok (Fl.nx s) st) (Q := post N T K C) (wp_mono h fun v H1 q => wp_bind (m := asg1 c (.sub o i) v s) (by
    have := wp_bind (k := fun x st => (ev c i s st).bind fun y st => (putV c.G.kt x y v st).bind fun _ st => .ok s st) (Q := fun s1 K1 => WP B (fun st => .ok (Fl.nx s1) st) K1 (post N T K C)) (wp_mono q fun x H2 q => wp_bind (wp_mono q fun y H3 q => wp_bind (wp_mono q fun _ H4 q => wp_ok (wp_ok q))))
    exact wp_eq (fun st => by rw [asg1] <;> rfl) this))
  exact wp_eq (fun st => by rw [exec] <;> rfl) this
theorem s_asgf {o : E} {f : PySem.Str} {e : E} (h : WP B (ev c e s) H fun v H1 => WP B (ev c o s) H1 fun x H2 => WP B (putF c.G.fl x f v) H2 fun _ H4 => N s H4) : WS B c (.asg (.fld o f) e) s H N T K C := by
  have := wp_bind (k := fun v st => (asg1 c (.fld o f) v s st).bind fun s st => .ok (Fl.nx s) st) (Q := post N T K C) (wp_mono h fun v H1 q => wp_bind (m := asg1 c (.fld o f) v s) (by
    have := wp_bind (k := fun x st => (putF c.G.fl x f v st).bind fun _ st => .ok s st) (Q := fun s1 K1 => WP B (fun st => .ok (Fl.nx s1) st) K1 (post N T K C)) (wp_mono q fun x H2 q => wp_bind (wp_mono q fun _ H4 q => wp_ok (wp_ok q)))
    exact wp_eq (fun st => by rw [asg1] <;> rfl) this))
  exact wp_eq (fun st => by rw [exec] <;> rfl) this
/-- targets one by one -/
def WT (B : HL) (c : Ctx) (ts : List CL.T) (vs : List Val) (s : Env) (H : HL) (N : Env → HL → Prop) : Prop := WP B (asgs c ts vs s) H N
theorem a_nil (n : N s H) : WT B c [] [] s H N := wp_of (fun st F _ => by simp only [asgs]) n
theorem a_one {i : Nat} {ts : List CL.T} {v : Val} {vs : List Val} (h : WT B c ts vs (s.set i (some v)) H N) : WT B c (.one i :: ts) (v :: vs) s H N :=
  wp_eq (fun st => by rw [asgs] <;> rfl) (wp_bind (m := asg1 c (.one i) v s) (k := fun s st => asgs c ts vs s st) (wp_of (a := s.set i (some v)) (fun st F _ => by simp only [asg1]) h))
theorem a_sub {o i : E} {ts : List CL.T} {v : Val} {vs : List Val} (h : WP B (ev c o s) H fun x H2 => WP B (ev c i s) H2 fun y H3 => WP B (putV c.G.kt x y v) H3 fun _ H4 => WT B c ts vs s H4 N) : WT B c (.sub o i :: ts) (v :: vs) s H N :=
  wp_eq (fun st => by rw [asgs] <;> rfl) (wp_bind (m := asg1 c (.sub o i) v s) (k := fun s st => asgs c ts vs s st) (by
    have := wp_bind (k := fun x st => (ev c i s st).bind fun y st => (putV c.G.kt x y v st).bind fun _ st => .ok s st) (Q := fun s1 K1 => WP B (fun st => asgs c ts vs s1 st) K1 N) (wp_mono h fun x H2 q => wp_bind (wp_mono q fun y H3 q => wp_bind (wp_mono q fun _ H4 q => wp_ok q)))
    exact wp_eq (fun st => by rw [asg1] <;> rfl) this))
theorem a_fld {o : E} {f : PySem.Str} {ts : List CL.T} {v : Val} {vs : List Val} (h : WP B (ev c o s) H fun x H2 => WP B (putF c.G.fl x f v) H2 fun _ H4 => WT B c ts vs s H4 N) : WT B c (.fld o f :: ts) (v :: vs) s H N :=
  wp_eq (fun st => by rw [asgs] <;> rfl) (wp_bind (m := asg1 c (.fld o f) v s) (k := fun s st => asgs c ts vs s st) (by
    have := wp_bind (k := fun x st => (putF c.G.fl x f v st).bind fun _ st => .ok s st) (Q := fun s1 K1 => WP B (fun st => asgs c ts vs s1 st) K1 N) (wp_mono h fun x H2 q => wp_bind (wp_mono q fun _ H4 q => wp_ok q))
    exact wp_eq (fun st => by rw [asg1] <;> rfl) this))
theorem s_asT {ts : List CL.T} {e : E} (h : WP B (ev c e s) H fun v H1 => ∃ xs, Its B H1 v xs ∧ WT B c ts xs s H1 N) : WS B c (.asT ts e) s H N T K C := by
  have := wp_bind (k := fun v st => match itemsOf v st with
    | some xs => (asgs c ts xs s st).bind fun s st => .ok (Fl.nx s) st
    | none => .fail) (Q := post N T K C) (wp_mono h fun v H1 ⟨xs, e, q⟩ => fun st F sp => by
      obtain ⟨a, K', st', e', q, s'⟩ := wp_bind (k := fun s st => .ok (Fl.nx s) st) (Q := post N T K C) (wp_mono q fun s1 H1 q => wp_ok q) st F sp
      exact ⟨a, K', st', by simp only [e st F sp]; exact e', q, s'⟩)
  exact wp_eq (fun st => by rw [exec] <;> rfl) this
theorem s_par {is : List Nat} {es : Es} (h : WP B (evs c es s) H fun vs H1 => ∃ s1, setAll is vs s = some s1 ∧ N s1 H1) : WS B c (.par is es) s H N T K C := by
  have := wp_bind (k := fun vs st => match setAll is vs s with
    | some s => .ok (Fl.nx s) st
    | none => .fail) (Q := post N T K C) (wp_mono h fun v H1 ⟨s1, e, q⟩ => wp_of (a := Fl.nx s1) (fun st F _ => by simp only [e]) q)
  exact wp_eq (fun st => by rw [exec] <;> rfl) this
theorem s_aug {i : Nat} {o : Bop} {e : E} {x : Val} (hx : s[i]? = some (some x)) (h : WP B (ev c e s) H fun y H1 => WP B (iop o x y) H1 fun z H2 => N (s.set i (some z)) H2) : WS B c (.aug i o e) s H N T K C := by
  have := wp_bind (k := fun y st => (iop o x y st).bind fun z st => .ok (Fl.nx (s.set i (some z))) st) (Q := post N T K C) (wp_mono h fun y H1 q => wp_bind (wp_mono q fun z H2 q => wp_ok q))
  exact wp_eq (fun st => by rw [exec]; simp only [hx]) this
theorem o_add {i j : Int} {Q : Val → HL → Prop} (q : Q (.int (i + j)) H) : WP B (iop .add (.int i) (.int j)) H Q := wp_ok q
theorem o_sub {i j : Int} {Q : Val → HL → Prop} (q : Q (.int (i - j)) H) : WP B (iop .sub (.int i) (.int j)) H Q := wp_ok q
theorem s_aus {a i : E} {o : Bop} {e : E} (h : WP B (ev c a s) H fun x H1 => WP B (ev c i s) H1 fun y H2 => WP B (getD c.G.kt x y) H2 fun old H3 => WP B (ev c e s) H3 fun v H4 => WP B (iop o old v) H4 fun z H5 => WP B (putD c.G.kt x y z) H5 fun _ H6 => N s H6) : WS B c (.aus a i o e) s H N T K C := by
  have := wp_bind (k := fun x st => (ev c i s st).bind fun y st => (getD c.G.kt x y st).bind fun old st => (ev c e s st).bind fun v st => (iop o old v st).bind fun z st => (putD c.G.kt x y z st).bind fun _ st => .ok (Fl.nx s) st) (Q := post N T K C)
    (wp_mono h fun x H1 q => wp_bind (wp_mono q fun y H2 q => wp_bind (wp_mono q fun old H3 q => wp_bind (wp_mono q fun v H4 q => wp_bind (wp_mono q fun z H5 q => wp_bind (wp_mono q fun _ H6 q => wp_ok q))))))
  exact wp_eq (fun st => by rw [exec] <;> rfl) this
/-- x.f op= e, where e leaves the heap as it is -/
theorem s_auf {a : E} {f : PySem.Str} {o : Bop} {e : E} (h : WP B (ev c a s) H fun x H1 => ∃ i k fs R old, x = .ref i ∧ Sub H1 [(i, .ins k fs)] R ∧ c.G.fl k f = true ∧ fs.lookup f = some old ∧ fs.length < 1000 ∧
    WP B (ev c e s) H1 fun v H2 => WP B (iop o old v) H2 fun z H3 => H3 = H1 ∧ ∃ K', Upd H1 i (.ins k fs) (.ins k (setF f z fs)) K' ∧ N s K') : WS B c (.auf a f o e) s H N T K C := by
  have := wp_bind (k := fun x st1 => (getF c.G.fl x f st1).bind fun old st => (ev c e s st).bind fun v st =>
      (iop o old v st).bind fun z st => if clsOf x st = clsOf x st1 then (putF c.G.fl x f z st).bind fun _ st => .ok (Fl.nx s) st else .fail) (Q := post N T K C) (wp_mono h fun x H1 ⟨i, k, fs, R, old, e1, u, e2, e3, e4, q⟩ => fun st F sp => by
    subst e1
    have hg : getF c.G.fl (.ref i) f st = .ok old st := by simp only [getF, sub_at u sp, e2, if_true, e3]
    have hc : clsOf (.ref i) st = some k := by simp only [clsOf, sub_at u sp]
    obtain ⟨v, K2, st2, e5, q, s2⟩ := q st F sp
    obtain ⟨z, K3, st3, e6, ⟨e8, K9, u9, q9⟩, s3⟩ := q st2 F s2
    subst e8
    have hc2 : clsOf (.ref i) st3 = some k := by simp only [clsOf, sub_at u s3]
    obtain ⟨a, K', st', e7, q, s'⟩ := wp_bind (k := fun _ st => .ok (Fl.nx s) st) (Q := post N T K C) (y_fld (B := B) (fl := c.G.fl) (v := z) (Q := fun _ K1 => WP B (fun st => .ok (Fl.nx s) st) K1 (post N T K C)) u9 e2 e4 (wp_ok q9)) st3 F s3
    refine ⟨a, K', st', ?_, q, s'⟩
    simp only [hg, bind_ok, e5, e6, hc, hc2, if_true]
    exact e7)
  exact wp_eq (fun st => by rw [exec] <;> rfl) this
theorem s_ex {e : E} (h : WP B (ev c e s) H fun _ H1 => N s H1) : WS B c (.ex e) s H N T K C := by
  have := wp_bind (k := fun _ st => .ok (Fl.nx s) st) (Q := post N T K C) (wp_mono h fun v H1 q => wp_ok q)
  exact wp_eq (fun st => by rw [exec] <;> rfl) this
theorem s_ret {e : E} (h : WP B (ev c e s) H T) : WS B c (.ret e) s H N T K C := by
  have := wp_bind (k := fun v st => .ok (Fl.rt v) st) (Q := post N T K C) (wp_mono h fun v H1 q => wp_ok q)
  exact wp_eq (fun st => by rw [exec] <;> rfl) this
theorem s_rtN (t : T .non H) : WS B c .rtN s H N T K C := wp_of (a := Fl.rt .non) (fun st F _ => by rw [exec]) t
theorem s_cond {t : CL.B} {a b : Ss} (h : WP B (ts c t s) H fun k H1 => Br k (WSs B c a s H1 N T K C) (WSs B c b s H1 N T K C)) : WS B c (.cond t a b) s H N T K C := by
  have := wp_bind (k := fun (k : Bool) st => if k then execs c a s st else execs c b s st) (Q := post N T K C) (wp_mono h fun k H1 q => by
    cases k
    · exact q.2 rfl
    · exact q.1 rfl)
  exact wp_eq (fun st => by rw [exec] <;> rfl) this
theorem s_pass (n : N s H) : WS B c .pass s H N T K C := wp_of (a := Fl.nx s) (fun st F _ => by rw [exec]) n
theorem s_brk (n : K s H) : WS B c .brk s H N T K C := wp_of (a := Fl.bk s) (fun st F _ => by rw [exec]) n
theorem s_cnt (n : C s H) : WS B c .cnt s H N T K C := wp_of (a := Fl.ct s) (fun st F _ => by rw [exec]) n
/-- what is watched is there -/
def Sees (B H : HL) (w : Watch) : Prop := ∀ i xs, (i, xs) ∈ w → (i, Ob.lst xs) ∈ H ∨ (i, Ob.lst xs) ∈ B
theorem sees_nil : Sees B H [] := fun _ _ h => by cases h
theorem sees_sub {i : Nat} {xs : List Val} {w : Watch} (u : Sub H [(i, .lst xs)] R) (h : Sees B H w) : Sees B H ((i, xs) :: w) := fun j ys m => by
  rcases List.mem_cons.mp m with e | m
  · cases e; exact .inl ((List.Perm.mem_iff u).mpr (by simp))
  · exact h j ys m
theorem sees_ok {st : Store} {F : HL} : ∀ {w : Watch}, Sees B H w → Sep B st (H ++ F) → st.sees w = true
  | [], _, _ => rfl
  | (i, xs) :: r, h, sp => by
    unfold Store.sees
    rw [sees_ok (fun j ys m => h j ys (List.mem_cons_of_mem _ m)) sp, Bool.and_true]
    refine decide_eq_true ?_
    rcases h i xs (by simp) with m | m
    · exact sp.at' _ _ (List.mem_append_left _ m)
    · exact fix_at m sp
def postF (N : Env → HL → Prop) (T : Val → HL → Prop) : Fl → HL → Prop := post N T (fun _ _ => False) (fun _ _ => False)
/-- a for loop's rest -/
def WF (B : HL) (c : Ctx) (t : Tg) (b : Ss) (w : Watch) (xs : List Val) (s : Env) (H : HL) (N : Env → HL → Prop) (T : Val → HL → Prop) : Prop := WP B (forLoop w (onTg t fun s st => execs c b s st) xs s) H (postF N T)
theorem for_nil {t : Tg} {b : Ss} {w : Watch} (h : Sees B H w) (n : N s H) : WF B c t b w [] s H N T := wp_of (a := Fl.nx s) (fun st F sp => by rw [forLoop, sees_ok h sp]; rfl) n
theorem for_cons {t : Tg} {b : Ss} {w : Watch} {x : Val} {xs : List Val} {s1 : Env} (h : Sees B H w) (e : setTg t x s = some s1) (k : WSs B c b s1 H (fun s2 H2 => WF B c t b w xs s2 H2 N T) T N (fun s2 H2 => WF B c t b w xs s2 H2 N T)) : WF B c t b w (x :: xs) s H N T := fun st F sp => by
  have := wp_bind (m := fun st => execs c b s1 st) (k := fun fl st => match fl with
      | .nx s => forLoop w (onTg t fun s st => execs c b s st) xs s st
      | .ct s => forLoop w (onTg t fun s st => execs c b s st) xs s st
      | .bk s => .ok (Fl.nx s) st
      | .rt v => .ok (Fl.rt v) st) (Q := postF N T) (wp_mono k fun fl H1 p => by
        cases fl
        · exact p
        · exact wp_ok p
        · exact wp_ok p
        · exact p)
  obtain ⟨a, K', st', e', q, s'⟩ := this st F sp
  refine ⟨a, K', st', ?_, q, s'⟩
  rw [forLoop, sees_ok h sp, if_pos rfl, onTg, e]
  exact e'
theorem s_for {t : Tg} {w : I} {b : Ss} (h : WQ B (evw c w s) H fun xs wt H1 => WF B c t b wt xs s H1 N T) : WS B c (.for t w b) s H N T K C := by
  have := wp_bind (k := fun (p : List Val × Watch) st => forLoop p.2 (onTg t fun s st => execs c b s st) p.1 s st) (Q := post N T K C) (wp_mono h fun p H1 q => wp_mono q fun fl K1 r => by
    cases fl
    · exact r
    · exact r
    · exact r.elim
    · exact r.elim)
  exact wp_eq (fun st => by rw [exec] <;> rfl) this
/-- a for loop by a word: what holds ahead of the rest -/
theorem for_by {t : Tg} {b : Ss} {w : Watch} (Iv : List Val → Env → HL → Prop) (hs : ∀ xs s H, Iv xs s H → Sees B H w)
    (step : ∀ x xs s H, Iv (x :: xs) s H → ∃ s1, setTg t x s = some s1 ∧ WSs B c b s1 H (Iv xs) T N (Iv xs)) (done : ∀ s H, Iv [] s H → N s H) : ∀ xs s H, Iv xs s H → WF B c t b w xs s H N T
  | [], s, H, h => for_nil (hs _ _ _ h) (done _ _ h)
  | x :: xs, s, H, h => by
    obtain ⟨s1, e, k⟩ := step _ _ _ _ h
    exact for_cons (hs _ _ _ h) e (wss_mono k (fun s H h => for_by Iv hs step done xs s H h) (fun _ _ h => h) (fun _ _ h => h) (fun s H h => for_by Iv hs step done xs s H h))
/-- a while loop -/
def WW (B : HL) (c : Ctx) (t : CL.B) (b : Ss) (n : Nat) (s : Env) (H : HL) (N : Env → HL → Prop) (T : Val → HL → Prop) : Prop := WP B (whlLoop (ts c t) (fun s st => execs c b s st) n s) H (postF N T)
theorem whl_step {t : CL.B} {b : Ss} {n : Nat} (h : WP B (ts c t s) H fun k H1 => Br k (WSs B c b s H1 (fun s2 H2 => WW B c t b n s2 H2 N T) T N (fun s2 H2 => WW B c t b n s2 H2 N T)) (N s H1)) : WW B c t b (n + 1) s H N T := by
  have := wp_bind (k := fun (k : Bool) st => if k then (execs c b s st).bind fun fl st => match fl with
      | .nx s => whlLoop (ts c t) (fun s st => execs c b s st) n s st
      | .ct s => whlLoop (ts c t) (fun s st => execs c b s st) n s st
      | .bk s => .ok (Fl.nx s) st
      | .rt v => .ok (Fl.rt v) st
    else .ok (Fl.nx s) st) (Q := postF N T) (wp_mono h fun k H1 q => by
      cases k
      · exact wp_ok (q.2 rfl)
      · exact wp_bind (wp_mono (q.1 rfl) fun fl H1 p => by
          cases fl
          · exact p
          · exact wp_ok p
          · exact wp_ok p
          · exact p))
  exact wp_eq (fun st => by rw [whlLoop] <;> rfl) this
theorem s_whl {t : CL.B} {b : Ss} (h : WW B c t b c.fuel s H N T) : WS B c (.whl t b) s H N T K C :=
  wp_eq (fun st => by rw [exec]) (wp_mono h fun fl K1 r => by
    cases fl
    · exact r
    · exact r
    · exact r.elim
    · exact r.elim)
/-- a while loop by a word and a number that falls -/
theorem whl_by {t : CL.B} {b : Ss} (Iv : Nat → Env → HL → Prop) (step : ∀ n s H, Iv n s H → WP B (ts c t s) H fun k H1 => Br k (WSs B c b s H1 (fun s2 H2 => ∃ m, m < n ∧ Iv m s2 H2) T N (fun s2 H2 => ∃ m, m < n ∧ Iv m s2 H2)) (N s H1)) : ∀ f n s H, n < f → Iv n s H → WW B c t b f s H N T
  | 0, n, s, H, hf, h => by omega
  | f + 1, n, s, H, hf, h => whl_step (wp_mono (step n s H h) fun k H1 q => ⟨fun e => wss_mono (q.1 e) (fun s2 H2 ⟨m, hm, h⟩ => whl_by Iv step f m s2 H2 (by omega) h) (fun _ _ h => h) (fun _ _ h => h) (fun s2 H2 ⟨m, hm, h⟩ => whl_by Iv step f m s2 H2 (by omega) h), q.2⟩)
/-! ### calls -/
theorem w_run {d : FDef} {vs : List Val} {Q : Val → HL → Prop} (hn : vs.length = d.np) (h : WSs B c d.body (vs.map some ++ List.replicate (d.nl - d.np) none) H (fun _ K => Q .non K) Q (fun _ _ => False) (fun _ _ => False)) : WP B (runF c d vs) H Q := by
  have := wp_bind (k := endF) (Q := Q) (wp_mono h fun fl H1 p => by
    cases fl
    · exact wp_ok p
    · exact wp_ok p
    · exact p.elim
    · exact p.elim)
  exact wp_eq (fun st => by rw [runF, if_pos hn]) this
theorem w_call {G : Prog} {fuel d f : Nat} {fd : FDef} {vs : List Val} {Q : Val → HL → Prop} (e : G.fn f = some fd) (hn : vs.length = fd.np) (h : WSs B (cxN G fuel d) fd.body (vs.map some ++ List.replicate (fd.nl - fd.np) none) H (fun _ K => Conv Q .non K) (Conv Q) (fun _ _ => False) (fun _ _ => False)) : WP B (callN G fuel (d + 1) f vs) H Q :=
  wp_conv (wp_eq (fun st => by rw [callN_succ, e]) (w_run hn h))
end
/-! ### comprehensions -/
section
variable {B H R : HL} {c : Ctx} {s : Env} {Q : Val → HL → Prop}
def WL (B : HL) (c : Ctx) (t : Tg) (k : CL.B) (e : E) (s : Env) (D : Nat) (w : Watch) (xs : List Val) (H : HL) (Q : Val → HL → Prop) : Prop := WP B (lcLoop D w (onLc t (fun s st => ts c k s st) (fun s st => ev c e s st) s) xs) H Q
theorem e_lc' {t : Tg} {w : I} {k : CL.B} {e : E} (h : WQ B (evw c w s) H fun xs wt H1 => ∀ D, WL B c t k e s D wt xs ((D, .lst []) :: H1) Q) : WP B (ev c (.lc t w k e) s) H Q := e_lc h
theorem lc_nil {t : Tg} {k : CL.B} {e : E} {D : Nat} {w : Watch} (h : Sees B H w) (q : Q (.ref D) H) : WL B c t k e s D w [] H Q := wp_of (a := Val.ref D) (fun st F sp => by rw [lcLoop, sees_ok h sp]; rfl) q
theorem lc_cons {t : Tg} {k : CL.B} {e : E} {D : Nat} {w : Watch} {x : Val} {xs : List Val} {s1 : Env} (h : Sees B H w) (es : setTg t x s = some s1) (q : WP B (ts c k s1) H fun b H1 => Br b (WP B (ev c e s1) H1 fun v H2 => ∃ ys K', Upd H2 D (.lst ys) (.lst (ys ++ [v])) K' ∧ ys.length < 1000000 ∧ WL B c t k e s D w xs K' Q) (WL B c t k e s D w xs H1 Q)) : WL B c t k e s D w (x :: xs) H Q := fun st F sp => by
  have := wp_bind (m := fun st => (ts c k s1 st).bind fun k st => if k then (ev c e s1 st).bind fun v st => .ok (some v) st else .ok none st) (k := fun o st => match o with
      | none => lcLoop D w (onLc t (fun s st => ts c k s st) (fun s st => ev c e s st) s) xs st
      | some v => (bmt .append (.ref D) [v] st).bind fun _ st => lcLoop D w (onLc t (fun s st => ts c k s st) (fun s st => ev c e s st) s) xs st) (Q := Q) (H := H) (B := B)
    (wp_bind (wp_mono q fun b H1 r => by
      cases b
      · exact wp_ok (r.2 rfl)
      · exact wp_bind (wp_mono (r.1 rfl) fun v H2 ⟨ys, R, u, hl, z⟩ => wp_ok (wp_bind (m_app u hl z)))))
  obtain ⟨a, K', st', e', q, s'⟩ := this st F sp
  refine ⟨a, K', st', ?_, q, s'⟩
  rw [lcLoop, sees_ok h sp, if_pos rfl]
  simp only [onLc, es]
  exact e'
/-- a comprehension whose turns leave the heap as it is: what each item gives -/
theorem lc_pure {t : Tg} {k : CL.B} {e : E} {D : Nat} {w : Watch} (g : Val → Option Val) (R : HL) : ∀ (xs ys : List Val), (∀ x ∈ xs, ∃ s1, setTg t x s = some s1 ∧ ∀ zs, WP B (ts c k s1) ((D, .lst zs) :: R) fun b K => K = (D, .lst zs) :: R ∧ Br b (WP B (ev c e s1) ((D, .lst zs) :: R) fun v K => K = (D, .lst zs) :: R ∧ g x = some v) (g x = none)) →
    Sees B R w → ys.length + xs.length < 1000000 → Q (.ref D) ((D, .lst (ys ++ xs.filterMap g)) :: R) → WL B c t k e s D w xs ((D, .lst ys) :: R) Q
  | [], ys, _, hs, _, q => lc_nil (fun i xs m => (hs i xs m).imp_left (List.mem_cons_of_mem _)) (by simpa using q)
  | x :: xs, ys, h, hs, hl, q => by
    obtain ⟨s1, es, h1⟩ := h x (by simp)
    refine lc_cons (fun i xs m => (hs i xs m).imp_left (List.mem_cons_of_mem _)) es (wp_mono (h1 ys) fun b K ⟨e1, br⟩ => ?_)
    subst e1
    simp only [List.length_cons] at hl
    refine ⟨fun hb => wp_mono (br.1 hb) fun v K ⟨e2, e3⟩ => ?_, fun hb => ?_⟩
    · subst e2
      refine ⟨ys, _, .here, by omega, lc_pure g R xs (ys ++ [v]) (fun y hy => h y (by simp [hy])) hs (by simp; omega) ?_⟩
      rw [List.filterMap_cons, e3] at q
      simpa using q
    · have e3 := br.2 hb
      refine lc_pure g R xs ys (fun y hy => h y (by simp [hy])) hs (by omega) ?_
      rw [List.filterMap_cons, e3] at q
      exact q
end
end CL
namespace CL
section
variable {B H R : HL} {s : Env} {G : Prog} {fuel d : Nat}
theorem e_dcallN {f : Nat} {Q : Val → HL → Prop} (hl : litF G f = true) (h : WP B (callN G fuel d f []) H fun v H1 => WP B (dictT v) H1 Q) : WP B (ev (cxN G fuel d) (.dcall f) s) H Q := e_dcall hl h
theorem e_callN {f : Nat} {es : Es} {Q : Val → HL → Prop} (h : WP B (evs (cxN G fuel d) es s) H fun vs H1 => WP B (callN G fuel d f vs) H1 Q) : WP B (ev (cxN G fuel d) (.call f es) s) H Q := e_call h
theorem e_metN {a : E} {m : PySem.Str} {es : Es} {Q : Val → HL → Prop} (h : WP B (ev (cxN G fuel d) a s) H fun x H1 => ∃ i k fs R f, x = .ref i ∧ Sub H1 [(i, .ins k fs)] R ∧ fs.lookup m = none ∧ G.mt k m = some f ∧ WP B (evs (cxN G fuel d) es s) H1 fun vs H2 => WP B (callN G fuel d f (.ref i :: vs)) H2 Q) :
    WP B (ev (cxN G fuel d) (.met a m es) s) H Q := e_met h
theorem e_makeN {k : Nat} {es : Es} {Q : Val → HL → Prop} (h : WP B (evs (cxN G fuel (d + 1)) es s) H fun vs H1 => ∃ f, G.ini k = some f ∧ ∀ p, WP B (callN G fuel d f (.ref p :: vs)) ((p, .ins k []) :: H1) fun v H2 => v = .non ∧ Q (.ref p) H2) : WP B (ev (cxN G fuel (d + 1)) (.make k es) s) H Q := e_make h
theorem w_callB {f np nl : Nat} {body : Ss} {vs : List Val} {Q : Val → HL → Prop} (e : G.fn f = some ⟨np, nl, body⟩) (hn : vs.length = np) (h : WSs B (cxN G fuel d) body (vs.map some ++ List.replicate (nl - np) none) H (fun _ K => Conv Q .non K) (Conv Q) (fun _ _ => False) (fun _ _ => False)) : WP B (callN G fuel (d + 1) f vs) H Q := w_call e hn h
/-- a call by what it is told to do -/
theorem wp_callee {m : Store → Res Val} {P Q : Val → HL → Prop} (h : WP B m H P) (k : ∀ v K, P v K → Q v K) : WP B m H Q := wp_mono h k
/-- what holds of an init's end -/
theorem non_and {P : Prop} (p : P) : Val.non = .non ∧ P := ⟨rfl, p⟩
end
end CL

/-! CL, part u: middles as plain data, and what a run of one does -/
namespace Md
open CL
inductive Kd where
  | num | tru | rc (r : PySem.Str) | row (k : Kd) | fn (ps : List Kd) (k : Kd)
mutual
def Kd.v : Kd → Val
  | .num => .tup [.str "number"]
  | .tru => .tup [.str "truth"]
  | .rc r => .tup [.str "record", .str r]
  | .row k => .tup [.str "row", k.v]
  | .fn ps k => .tup [.str "fun", .tup (Kd.vs ps), k.v]
def Kd.vs : List Kd → List Val
  | [] => []
  | k :: r => k.v :: Kd.vs r
end
inductive Op where
  | number | truth | add | sub | mul | lt | eq | and | or | not | long | close | div | rem | cell | get | store | set | make | fill | call | ask | tell | tick
  deriving DecidableEq
def Op.s : Op → PySem.Str
  | .number => "number" | .truth => "truth" | .add => "+" | .sub => "-" | .mul => "*" | .lt => "<" | .eq => "=" | .and => "and" | .or => "or" | .not => "not" | .long => "long" | .close => "close"
  | .div => "div" | .rem => "rem" | .cell => "cell" | .get => "get" | .store => "store" | .set => "set" | .make => "make" | .fill => "fill" | .call => "call" | .ask => "ask" | .tell => "tell" | .tick => "tick"
inductive More where
  | no | num (n : Int) | tru (b : Bool) | nm (f : PySem.Str)
@[reducible] def More.v : More → Val
  | .no => .tup []
  | .num n => .tup [.int n]
  | .tru b => .tup [.bl b]
  | .nm f => .tup [.str f]
@[reducible] def oI : Option Int → Val
  | none => .non
  | some x => .int x
@[reducible] def oK : Option Kd → Val
  | none => .non
  | some k => k.v
structure Row where
  x : Option Int
  kd : Option Kd
  op : Op
  args : List Int
  more : More
  line : Int
abbrev intsV (xs : List Int) : Val := .tup (xs.map .int)
abbrev Row.v (r : Row) : Val := .tup [oI r.x, oK r.kd, .str r.op.s, intsV r.args, r.more.v, .int r.line]
inductive End where
  | jump (b : Nat) (args : List Int) | branch (x : Int) (b c : Nat) | give (x : Int) | fail (w : PySem.Str) (l : Int)
@[reducible] def End.v : End → Val
  | .jump b args => .tup [.str "jump", .int b, intsV args]
  | .branch x b c => .tup [.str "branch", .int x, .int b, .int c]
  | .give x => .tup [.str "give", .int x]
  | .fail w l => .tup [.str "fail", .str w, .int l]
abbrev parV (p : Int × Kd) : Val := .tup [.int p.1, p.2.v]
structure Block where
  params : List (Int × Kd)
  rows : List Row
  en : End
abbrev Block.v (b : Block) : Val := .tup [.tup (b.params.map parV), .tup (b.rows.map Row.v), b.en.v]
structure Fun where
  name : PySem.Str
  kd : Kd
  blocks : List Block
abbrev Fun.v (f : Fun) : Val := .tup [.str f.name, f.kd.v, .tup (f.blocks.map Block.v)]
structure Mid where
  recs : List (PySem.Str × List Kd)
  funs : List Fun
abbrev recV (r : PySem.Str × List Kd) : Val := .tup [.str r.1, .tup (Kd.vs r.2)]
abbrev Mid.v (m : Mid) : Val := .tup [.tup (m.recs.map recV), .tup (m.funs.map Fun.v)]

/-! ### the run -/
/-- a value: a number, a truth, a thing by its number -/
inductive MV where
  | int (i : Int) | bl (b : Bool) | ref (n : Nat)
  deriving DecidableEq
inductive Thing where
  | cells (vs : List MV) | clo (f : PySem.Str) (vs : List MV)
  deriving DecidableEq
/-- what a row does -/
inductive Act where
  | give (v : MV) | new (t : Thing) | fault (w : PySem.Str) | tick | tell (v : MV) | upd (n : Nat) (t : Thing) | call (f : PySem.Str) (vs : List MV)
def br (n : Int) : Int := (n + 2147483648).fmod 4294967296 - 2147483648
def two (op : Op) (a b : Int) : Option Act := match op with
  | .add => some (.give (.int (br (a + b))))
  | .sub => some (.give (.int (br (a - b))))
  | .mul => if mulOk a b then some (.give (.int (br (a * b)))) else none
  | .lt => some (.give (.bl (decide (a < b))))
  | .eq => some (.give (.bl (decide (a = b))))
  | .div => if b = 0 then some (.fault "nought") else if b.natAbs < 18446744073709551616 then some (.give (.int (br (a.fdiv b)))) else none
  | .rem => if b = 0 then some (.fault "nought") else some (.give (.int (a.fmod b)))
  | _ => none
def act2 (op : Op) (more : More) (vs : List MV) : Option Act := match more, vs with
  | .no, [.int a, .int b] => two op a b
  | _, _ => none
def onCells (ts : List Thing) (n : Nat) (f : List MV → Option Act) : Option Act := match ts[n]? with
  | some (.cells ws) => f ws
  | _ => none
def actO (ts : List Thing) (op : Op) (more : More) (vs : List MV) : Option Act := match op with
  | .number => match more, vs with
    | .num n, [] => some (.give (.int n))
    | _, _ => none
  | .truth => match more, vs with
    | .tru b, [] => some (.give (.bl b))
    | _, _ => none
  | .not => match more, vs with
    | .no, [.bl a] => some (.give (.bl (!a)))
    | _, _ => none
  | .and => match more, vs with
    | .no, [.bl a, .bl b] => some (.give (.bl (a && b)))
    | _, _ => none
  | .or => match more, vs with
    | .no, [.bl a, .bl b] => some (.give (.bl (a || b)))
    | _, _ => none
  | .long => match more, vs with
    | .no, [.ref n] => onCells ts n fun ws => some (.give (.int ws.length))
    | _, _ => none
  | .close => match more, vs with
    | .nm f, vs => some (.new (.clo f vs))
    | _, _ => none
  | .cell => match more, vs with
    | .num k, [.ref n] => onCells ts n fun ws => if 0 ≤ k then (ws[k.toNat]?).map .give else none
    | _, _ => none
  | .get => match more, vs with
    | .no, [.ref n, .int i] => onCells ts n fun ws => if 0 ≤ i ∧ i < ws.length then (ws[i.toNat]?).map .give else some (.fault "place")
    | _, _ => none
  | .set => match more, vs with
    | .no, [.ref n, .int i, v] => onCells ts n fun ws => some (if 0 ≤ i ∧ i < ws.length then .upd n (.cells (ws.set i.toNat v)) else .fault "place")
    | _, _ => none
  | .store => match more, vs with
    | .num k, [.ref n, v] => onCells ts n fun ws => if 0 ≤ k ∧ k < ws.length then some (.upd n (.cells (ws.set k.toNat v))) else none
    | _, _ => none
  | .make => match more, vs with
    | .nm _, vs => some (.new (.cells vs))
    | _, _ => none
  | .fill => match more, vs with
    | .no, [.int k, v] => some (if 0 ≤ k ∧ k ≤ 60 then .new (.cells (List.replicate k.toNat v)) else .fault "great")
    | _, _ => none
  | .call => match more, vs with
    | .nm f, vs => some (.call f vs)
    | _, _ => none
  | .ask => match more, vs with
    | .no, .ref n :: vs => match ts[n]? with
      | some (.clo f ws) => some (.call f (ws ++ vs))
      | _ => none
    | _, _ => none
  | .tell => match more, vs with
    | .no, [v] => some (.tell v)
    | _, _ => none
  | .tick => match more, vs with
    | .no, [] => some .tick
    | _, _ => none
  | op => act2 op more vs
abbrev Ev := List (Int × MV)
def lookE (e : Ev) (x : Int) : Option MV := (e.find? fun kv => decide (kv.1 = x)).map (·.2)
def putE (e : Ev) (x : Int) (v : MV) : Ev := if e.any (fun kv => decide (kv.1 = x)) then e.map fun kv => if kv.1 = x then (kv.1, v) else kv else e ++ [(x, v)]
def looks (e : Ev) : List Int → Option (List MV)
  | [] => some []
  | x :: r => match lookE e x, looks e r with
    | some v, some vs => some (v :: vs)
    | _, _ => none
def binds (e : Ev) : List (Int × Kd) → List MV → Ev
  | p :: ps, v :: vs => binds (putE e p.1 v) ps vs
  | _, _ => e
structure Fr where
  blocks : List Block
  env : Ev
  tgt : Option Int
  block : Block
  at' : Nat
structure MS where
  things : List Thing
  told : List MV
  ticks : Int
  frames : List Fr
inductive Out where
  | done (v : MV) | fault (w : PySem.Str) (l : Int) | tired
def Fr.enter (f : Fr) (b : Nat) (vs : List MV) : Option Fr := match f.blocks[b]? with
  | some k => some { f with env := binds f.env k.params vs, block := k, at' := 0 }
  | none => none
def begin_ (m : Mid) (f : PySem.Str) (vs : List MV) (t : Option Int) : Option Fr := match m.funs.find? fun g => decide (g.name = f) with
  | some g => match g.blocks[0]? with
    | some k => some ⟨g.blocks, binds [] k.params vs, t, k, 0⟩
    | none => none
  | none => none
/-- a row's act is done; fr is the frame whose row it was -/
def actDo (m : Mid) (s : MS) (fr : Fr) (rest : List Fr) (x : Option Int) (line : Int) (a : Act) : Option (MS × Option Out) := match a, x with
  | .give v, some x => some ({ s with frames := { fr with env := putE fr.env x v } :: rest }, none)
  | .new t, some x => some ({ s with things := s.things ++ [t], frames := { fr with env := putE fr.env x (.ref s.things.length) } :: rest }, none)
  | .fault w, _ => some ({ s with frames := fr :: rest }, some (.fault w line))
  | .tick, _ => if s.ticks = 0 then some ({ s with frames := fr :: rest }, some .tired) else some ({ s with ticks := s.ticks - 1, frames := fr :: rest }, none)
  | .tell v, _ => some ({ s with told := s.told ++ [v], frames := fr :: rest }, none)
  | .upd n t, _ => some ({ s with things := s.things.set n t, frames := fr :: rest }, none)
  | .call f vs, x => (begin_ m f vs x).map fun g => ({ s with frames := g :: fr :: rest }, none)
  | _, _ => none
def endDo (s : MS) (fr : Fr) (rest : List Fr) (e : End) : Option (MS × Option Out) := match e with
  | .give x => match lookE fr.env x with
    | some v => match rest with
      | [] => some ({ s with frames := [] }, some (.done v))
      | g :: gs => match fr.tgt with
        | some t => some ({ s with frames := { g with env := putE g.env t v } :: gs }, none)
        | none => none
    | none => none
  | .fail w l => some ({ s with frames := fr :: rest }, some (.fault w l))
  | .jump b args => match looks fr.env args with
    | some vs => (fr.enter b vs).map fun f => ({ s with frames := f :: rest }, none)
    | none => none
  | .branch x b c => match lookE fr.env x with
    | some (.bl k) => (fr.enter (if k then b else c) []).map fun f => ({ s with frames := f :: rest }, none)
    | _ => none
def step (m : Mid) (s : MS) : Option (MS × Option Out) := match s.frames with
  | [] => none
  | fr :: rest => match fr.block.rows[fr.at']? with
    | some r => match looks fr.env r.args with
      | some vs => match actO s.things r.op r.more vs with
        | some a => actDo m s { fr with at' := fr.at' + 1 } rest r.x r.line a
        | none => none
      | none => none
    | none => endDo s fr rest fr.block.en
/-- so many steps, to the end -/
inductive Runs (m : Mid) : Nat → MS → MS → Out → Prop
  | last {s s' : MS} {o : Out} : step m s = some (s', some o) → Runs m 1 s s' o
  | more {n : Nat} {s s1 s' : MS} {o : Out} : step m s = some (s1, none) → Runs m n s1 s' o → Runs m (n + 1) s s' o
end Md

/-! CL, part v: a run's values against those of the store -/
namespace Md
open CL
inductive Rel (φ : List Nat) : MV → Val → Prop
  | int (i : Int) : Rel φ (.int i) (.int i)
  | bl (b : Bool) : Rel φ (.bl b) (.bl b)
  | ref {n a : Nat} (h : φ[n]? = some a) : Rel φ (.ref n) (.ref a)
inductive Rels (φ : List Nat) : List MV → List Val → Prop
  | nil : Rels φ [] []
  | cons {v : MV} {w : Val} {vs : List MV} {ws : List Val} (h : Rel φ v w) (r : Rels φ vs ws) : Rels φ (v :: vs) (w :: ws)
inductive EnvR (φ : List Nat) : Ev → List (L2.Key × Val) → Prop
  | nil : EnvR φ [] []
  | cons {x : Int} {v : MV} {w : Val} {e : Ev} {k : List (L2.Key × Val)} (h : Rel φ v w) (r : EnvR φ e k) : EnvR φ ((x, v) :: e) ((.inl x, w) :: k)
section
variable {φ ψ : List Nat}
theorem Rel.up {v : MV} {w : Val} (h : Rel φ v w) : Rel (φ ++ ψ) v w := by
  cases h with
  | int => exact .int _
  | bl => exact .bl _
  | ref h =>
    refine .ref ?_
    rw [List.getElem?_append_left (List.getElem?_eq_some_iff.mp h).1]; exact h
theorem Rels.up : ∀ {vs : List MV} {ws : List Val}, Rels φ vs ws → Rels (φ ++ ψ) vs ws
  | _, _, .nil => .nil
  | _, _, .cons h r => .cons h.up r.up
theorem EnvR.up : ∀ {e : Ev} {k : List (L2.Key × Val)}, EnvR φ e k → EnvR (φ ++ ψ) e k
  | _, _, .nil => .nil
  | _, _, .cons h r => .cons h.up r.up
theorem Rels.length : ∀ {vs : List MV} {ws : List Val}, Rels φ vs ws → ws.length = vs.length
  | _, _, .nil => rfl
  | _, _, .cons h r => by rw [List.length_cons, List.length_cons, r.length]
theorem Rels.get : ∀ {vs : List MV} {ws : List Val} {i : Nat} {v : MV}, Rels φ vs ws → vs[i]? = some v → ∃ w, ws[i]? = some w ∧ Rel φ v w
  | _, _, _, _, .nil, e => by simp at e
  | _, _, 0, _, .cons h r, e => by simp at e; subst e; exact ⟨_, rfl, h⟩
  | _, _, i + 1, _, .cons h r, e => by
    obtain ⟨w, e1, e2⟩ := r.get (i := i) (by simpa using e)
    exact ⟨w, by simpa using e1, e2⟩
theorem Rels.append : ∀ {vs vs' : List MV} {ws ws' : List Val}, Rels φ vs ws → Rels φ vs' ws' → Rels φ (vs ++ vs') (ws ++ ws')
  | _, _, _, _, .nil, h => h
  | _, _, _, _, .cons h r, k => .cons h (r.append k)
theorem Rels.set : ∀ {vs : List MV} {ws : List Val} (i : Nat) {v : MV} {w : Val}, Rels φ vs ws → Rel φ v w → Rels φ (vs.set i v) (ws.set i w)
  | _, _, _, _, _, .nil, _ => .nil
  | _, _, 0, _, _, .cons h r, k => .cons k r
  | _, _, i + 1, _, _, .cons h r, k => .cons h (r.set i k)
theorem Rels.rep (n : Nat) {v : MV} {w : Val} (h : Rel φ v w) : Rels φ (List.replicate n v) (List.replicate n w) := by
  induction n with
  | zero => exact .nil
  | succ n ih => exact .cons h ih
theorem EnvR.length : ∀ {e : Ev} {k : List (L2.Key × Val)}, EnvR φ e k → k.length = e.length
  | _, _, .nil => rfl
  | _, _, .cons h r => by rw [List.length_cons, List.length_cons, r.length]
theorem inl_dec (x y : Int) : decide ((Sum.inl x : L2.Key) = Sum.inl y) = decide (x = y) := by
  by_cases h : x = y
  · subst h; rw [decide_eq_true rfl, decide_eq_true rfl]
  · rw [decide_eq_false h, decide_eq_false (fun e => h (Sum.inl.inj e))]
theorem EnvR.look : ∀ {e : Ev} {k : List (L2.Key × Val)} {x : Int} {v : MV}, EnvR φ e k → lookE e x = some v → ∃ w, CL.look k (.inl x) = some w ∧ Rel φ v w
  | _, _, _, _, .nil, e => by simp [lookE] at e
  | _, _, x, _, .cons (x := y) h r, e => by
    unfold lookE at e
    unfold CL.look
    rw [List.find?_cons] at e ⊢
    simp only [inl_dec] at e ⊢
    cases hd : decide (y = x) with
    | true =>
      rw [hd] at e; simp at e; subst e
      exact ⟨_, rfl, h⟩
    | false =>
      rw [hd] at e
      exact r.look e
theorem EnvR.any : ∀ {e : Ev} {k : List (L2.Key × Val)} (x : Int), EnvR φ e k → k.any (fun kv => decide (kv.1 = .inl x)) = e.any (fun kv => decide (kv.1 = x))
  | _, _, x, .nil => rfl
  | _, _, x, .cons h r => by rw [List.any_cons, List.any_cons, inl_dec, r.any x]
theorem EnvR.map : ∀ {e : Ev} {k : List (L2.Key × Val)} (x : Int) {v : MV} {w : Val}, EnvR φ e k → Rel φ v w → EnvR φ (e.map fun kv => if kv.1 = x then (kv.1, v) else kv) (k.map fun kv => if kv.1 = .inl x then (kv.1, w) else kv)
  | _, _, x, _, _, .nil, _ => .nil
  | _, _, x, _, _, .cons (x := y) h r, q => by
    rw [List.map_cons, List.map_cons]
    by_cases hd : y = x
    · subst hd
      rw [if_pos rfl, if_pos rfl]
      exact .cons q (r.map y q)
    · rw [if_neg hd, if_neg (fun e => hd (Sum.inl.inj e))]
      exact .cons h (r.map x q)
theorem EnvR.snoc : ∀ {e : Ev} {k : List (L2.Key × Val)} {x : Int} {v : MV} {w : Val}, EnvR φ e k → Rel φ v w → EnvR φ (e ++ [(x, v)]) (k ++ [(.inl x, w)])
  | _, _, _, _, _, .nil, q => .cons q .nil
  | _, _, _, _, _, .cons h r, q => .cons h (r.snoc q)
theorem EnvR.put {e : Ev} {k : List (L2.Key × Val)} (x : Int) {v : MV} {w : Val} (h : EnvR φ e k) (q : Rel φ v w) : EnvR φ (putE e x v) (CL.put k (.inl x) w) := by
  unfold putE CL.put
  rw [h.any x]
  split
  · exact h.map x q
  · exact h.snoc q
/-- values of names, as told -/
def looksV (k : List (L2.Key × Val)) : List Int → Option (List Val)
  | [] => some []
  | x :: r => match CL.look k (.inl x), looksV k r with
    | some v, some vs => some (v :: vs)
    | _, _ => none
theorem EnvR.looks {e : Ev} {k : List (L2.Key × Val)} (h : EnvR φ e k) : ∀ {xs : List Int} {vs : List MV}, looks e xs = some vs → ∃ ws, looksV k xs = some ws ∧ Rels φ vs ws
  | [], vs, q => by cases q; exact ⟨[], rfl, .nil⟩
  | x :: r, vs, q => by
    unfold Md.looks at q
    cases e1 : lookE e x with
    | none => rw [e1] at q; cases q
    | some v =>
      cases e2 : Md.looks e r with
      | none => rw [e1, e2] at q; cases q
      | some us =>
        rw [e1, e2] at q; cases q
        obtain ⟨w, h1, h2⟩ := h.look e1
        obtain ⟨ws, h3, h4⟩ := h.looks e2
        exact ⟨w :: ws, by unfold looksV; rw [h1, h3], .cons h2 h4⟩
def lkV (k : List (L2.Key × Val)) : Val → Option Val
  | .int x => CL.look k (.inl x)
  | _ => none
theorem looksV_map {k : List (L2.Key × Val)} : ∀ {xs : List Int} {ws : List Val}, looksV k xs = some ws → (xs.map Val.int).filterMap (lkV k) = ws
  | [], ws, q => by cases q; rfl
  | x :: r, ws, q => by
    unfold looksV at q
    cases e1 : CL.look k (.inl x) with
    | none => rw [e1] at q; cases q
    | some v =>
      cases e2 : looksV k r with
      | none => rw [e1, e2] at q; cases q
      | some us =>
        rw [e1, e2] at q; cases q
        rw [List.map_cons, List.filterMap_cons]
        simp only [lkV, e1, looksV_map e2]
theorem looksV_some {k : List (L2.Key × Val)} : ∀ {xs : List Int} {ws : List Val} {x : Int}, looksV k xs = some ws → x ∈ xs → ∃ v, CL.look k (.inl x) = some v
  | [], _, _, _, h => by cases h
  | y :: r, ws, x, q, h => by
    unfold looksV at q
    cases e1 : CL.look k (.inl y) with
    | none => rw [e1] at q; cases q
    | some v =>
      cases e2 : looksV k r with
      | none => rw [e1, e2] at q; cases q
      | some us =>
        rcases List.mem_cons.mp h with rfl | h
        · exact ⟨v, e1⟩
        · exact looksV_some e2 h
theorem looksV_cut {k : List (L2.Key × Val)} : ∀ {xs : List Int} {ws : List Val} (n : Nat), looksV k xs = some ws → looksV k (xs.take n) = some (ws.take n) ∧ looksV k (xs.drop n) = some (ws.drop n)
  | [], _, n, q => by cases q; simp [looksV]
  | y :: r, ws, 0, q => by simp [looksV, q]
  | y :: r, ws, n + 1, q => by
    unfold looksV at q
    cases e1 : CL.look k (.inl y) with
    | none => rw [e1] at q; cases q
    | some v =>
      cases e2 : looksV k r with
      | none => rw [e1, e2] at q; cases q
      | some us =>
        rw [e1, e2] at q; cases q
        obtain ⟨h1, h2⟩ := looksV_cut n e2
        simp only [List.take_succ_cons, List.drop_succ_cons, looksV, e1, h1, h2, and_self]
end
end Md
namespace CL
theorem put_len {κ : Type} [DecidableEq κ] (kvs : List (κ × Val)) (k : κ) (v : Val) : (put kvs k v).length ≤ kvs.length + 1 := by
  unfold put
  split
  · rw [List.length_map]; omega
  · rw [List.length_append]; simp
end CL
namespace CL
theorem ixN_nat {n i : Nat} (h : i < n) : L2.ixN n (i : Int) = some i := by
  unfold L2.ixN
  rw [if_pos (by omega), if_pos (by omega), Int.toNat_natCast]
theorem ixN_int {n : Nat} {i : Int} (h : 0 ≤ i ∧ i < n) : L2.ixN n i = some i.toNat := by
  unfold L2.ixN
  rw [if_pos h.1, if_pos h.2]
theorem atI_nat {α : Type} {xs : List α} {i : Nat} {x : α} (h : xs[i]? = some x) : L2.atI xs (i : Int) = some x := by
  unfold L2.atI
  rw [ixN_nat (List.getElem?_eq_some_iff.mp h).1]; exact h
theorem atI_int {α : Type} {xs : List α} {i : Int} {x : α} (h0 : 0 ≤ i) (h : xs[i.toNat]? = some x) : L2.atI xs i = some x := by
  have := atI_nat h
  rwa [Int.toNat_of_nonneg h0] at this
theorem atI_last {α : Type} {xs : List α} {x : α} : L2.atI (xs ++ [x]) (-1) = some x := by
  unfold L2.atI L2.ixN
  have hl : (xs ++ [x]).length = xs.length + 1 := by simp
  rw [if_neg (by omega), if_pos (by omega), hl]
  have : (-1 + ((xs.length + 1 : Nat) : Int)).toNat = xs.length := by omega
  simp only [Option.bind, this]
  simp
end CL
namespace CL
theorem cut_from {α : Type} (xs : List α) (n : Nat) : cutL xs (some (n : Int)) none = xs.drop n := by
  unfold cutL
  rw [HT.sIx_nat, HT.sIx_none]
  by_cases h : n ≤ xs.length
  · rw [Nat.min_eq_left h]
    exact List.take_of_length_le (by simp)
  · rw [Nat.min_eq_right (by omega), List.drop_of_length_le (Nat.le_refl _), List.drop_of_length_le (by omega)]
    simp
theorem cut_to {α : Type} (xs : List α) (n : Nat) : cutL xs none (some (n : Int)) = xs.take n := by
  unfold cutL
  rw [HT.sIx_nat, HT.sIx_none, List.drop_zero, Nat.sub_zero]
  by_cases h : n ≤ xs.length
  · rw [Nat.min_eq_left h]
  · rw [Nat.min_eq_right (by omega), List.take_of_length_le (Nat.le_refl _), List.take_of_length_le (by omega)]
end CL
namespace Md
theorem act2_inv {op : Op} {more : More} {vs : List MV} {a : Act} (h : act2 op more vs = some a) : more = .no ∧ ∃ x y, vs = [.int x, .int y] ∧ two op x y = some a := by
  unfold act2 at h
  split at h
  · exact ⟨rfl, _, _, rfl, h⟩
  · cases h
theorem onCells_inv {ts : List Thing} {n : Nat} {f : List MV → Option Act} {a : Act} (h : onCells ts n f = some a) : ∃ ws, ts[n]? = some (.cells ws) ∧ f ws = some a := by
  unfold onCells at h
  split at h
  · rename_i ws e; exact ⟨ws, e, h⟩
  · cases h
end Md
namespace Md
theorem two_new {op : Op} {x y : Int} {t : Thing} (h : two op x y = some (.new t)) : False := by
  cases op <;> simp only [two] at h <;> try cases h
  · split at h <;> cases h
  · split at h
    · cases h
    · split at h <;> cases h
  · split at h <;> cases h
end Md
namespace Md
theorem two_give {op : Op} {x y : Int} {a : Act} (h : two op x y = some a) (hop : (op == .div || op == .rem) = false) : (∃ v, a = .give v) ∨ ∃ t, a = .new t := by
  cases op <;> simp only [two] at h <;> try cases h
  · exact .inl ⟨_, rfl⟩
  · exact .inl ⟨_, rfl⟩
  · split at h <;> cases h; exact .inl ⟨_, rfl⟩
  · exact .inl ⟨_, rfl⟩
  · exact .inl ⟨_, rfl⟩
  · cases hop
  · cases hop
end Md
namespace CL
theorem atI_zero {α : Type} {x : α} {xs : List α} : L2.atI (x :: xs) 0 = some x := atI_nat (i := 0) rfl
end CL

/-! CL, part w: what of a run stays within bounds -/
namespace Md
theorem putE_len (e : Ev) (x : Int) (v : MV) : (putE e x v).length ≤ e.length + 1 := by
  unfold putE
  split
  · rw [List.length_map]; omega
  · rw [List.length_append]; simp
theorem binds_len : ∀ (ps : List (Int × Kd)) (vs : List MV) (e : Ev), (binds e ps vs).length ≤ e.length + ps.length
  | [], _, e => by unfold binds; simp
  | p :: ps, [], e => by unfold binds; simp
  | p :: ps, v :: vs, e => by
    unfold binds
    have := binds_len ps vs (putE e p.1 v)
    have := putE_len e p.1 v
    simp only [List.length_cons]; omega
theorem looks_len {e : Ev} : ∀ {xs : List Int} {vs : List MV}, looks e xs = some vs → vs.length = xs.length
  | [], vs, h => by cases h; rfl
  | x :: r, vs, h => by
    unfold looks at h
    cases e1 : lookE e x with
    | none => rw [e1] at h; cases h
    | some v =>
      cases e2 : looks e r with
      | none => rw [e1, e2] at h; cases h
      | some us =>
        rw [e1, e2] at h; cases h
        rw [List.length_cons, List.length_cons, looks_len e2]
structure Small (m : Mid) (P : Nat) : Prop where
  P1 : 1 ≤ P
  ne : ∀ g ∈ m.funs, g.blocks ≠ []
  par : ∀ g ∈ m.funs, ∀ k ∈ g.blocks, k.params.length ≤ P
  row : ∀ g ∈ m.funs, ∀ k ∈ g.blocks, ∀ r ∈ k.rows, r.args.length ≤ 1000
  jmp : ∀ g ∈ m.funs, ∀ k ∈ g.blocks, ∀ b args, k.en = .jump b args → args.length ≤ 1000
def FrOk (m : Mid) (P n : Nat) (f : Fr) : Prop := f.env.length + n * P + P ≤ 800000 ∧ ∃ g ∈ m.funs, f.blocks = g.blocks ∧ f.block ∈ g.blocks
structure Fits (m : Mid) (P n : Nat) (s : MS) : Prop where
  told : s.told.length + n ≤ 900000
  frames : s.frames.length + n ≤ 900000
  frs : ∀ f ∈ s.frames, FrOk m P n f
  clo : ∀ (i : Nat) f us, s.things[i]? = some (.clo f us) → us.length ≤ 1000
theorem FrOk.less {m : Mid} {P n : Nat} {f : Fr} (h : FrOk m P (n + 1) f) : FrOk m P n f := by
  obtain ⟨h1, h2⟩ := h
  refine ⟨?_, h2⟩
  rw [Nat.succ_mul] at h1
  omega
theorem FrOk.put {m : Mid} {P n : Nat} {f : Fr} (h : FrOk m P (n + 1) f) (hP : 1 ≤ P) (x : Int) (v : MV) : FrOk m P n { f with env := putE f.env x v } := by
  obtain ⟨h1, h2⟩ := h
  refine ⟨?_, h2⟩
  have := putE_len f.env x v
  rw [Nat.succ_mul] at h1
  show (putE f.env x v).length + n * P + P ≤ 800000
  omega
theorem clo_set {ts : List Thing} {n : Nat} {vs : List MV} (h : ∀ (i : Nat) f us, ts[i]? = some (.clo f us) → us.length ≤ 1000) : ∀ (i : Nat) f us, (ts.set n (.cells vs))[i]? = some (.clo f us) → us.length ≤ 1000 := fun i f us e => by
  rw [List.getElem?_set] at e
  split at e
  · split at e <;> cases e
  · exact h i f us e
theorem clo_new {ts : List Thing} {t : Thing} (h : ∀ (i : Nat) f us, ts[i]? = some (.clo f us) → us.length ≤ 1000) (ht : ∀ f us, t = .clo f us → us.length ≤ 1000) : ∀ (i : Nat) f us, (ts ++ [t])[i]? = some (.clo f us) → us.length ≤ 1000 := fun i f us e => by
  rw [List.getElem?_append] at e
  split at e
  · exact h i f us e
  · cases hk : i - ts.length with
    | zero => rw [hk] at e; simp at e; exact ht f us e
    | succ k => rw [hk] at e; simp at e
/-- acts that make or change things: what of closes is told -/
theorem act_new {ts : List Thing} {op : Op} {more : More} {vs : List MV} {t : Thing} (h : actO ts op more vs = some (.new t)) : ∀ f us, t = .clo f us → us = vs := by
  intro f us e
  subst e
  cases op <;> simp only [actO] at h
  case close => split at h <;> cases h; rfl
  case make => split at h <;> cases h
  case fill =>
    split at h
    · split at h <;> cases h
    · cases h
  case get =>
    split at h
    · obtain ⟨us, e, h⟩ := onCells_inv h
      split at h
      · obtain ⟨v, _, h⟩ := Option.map_eq_some_iff.mp h; cases h
      · cases h
    · cases h
  case cell =>
    split at h
    · obtain ⟨us, e, h⟩ := onCells_inv h
      split at h
      · obtain ⟨v, _, h⟩ := Option.map_eq_some_iff.mp h; cases h
      · cases h
    · cases h
  case set =>
    split at h
    · obtain ⟨us, e, h⟩ := onCells_inv h
      split at h <;> cases h
    · cases h
  case store =>
    split at h
    · obtain ⟨us, e, h⟩ := onCells_inv h
      split at h <;> cases h
    · cases h
  case long =>
    split at h
    · obtain ⟨us, e, h⟩ := onCells_inv h; cases h
    · cases h
  case ask =>
    split at h
    · split at h <;> cases h
    · cases h
  all_goals first
    | (split at h <;> cases h; done)
    | (obtain ⟨_, x, y, _, h2⟩ := act2_inv h; exact (two_new h2).elim)
theorem act_upd {ts : List Thing} {op : Op} {more : More} {vs : List MV} {n : Nat} {t : Thing} (h : actO ts op more vs = some (.upd n t)) : ∃ us, t = .cells us := by
  cases op <;> simp only [actO] at h
  case set =>
    split at h
    · obtain ⟨us, e, h⟩ := onCells_inv h
      split at h <;> cases h; exact ⟨_, rfl⟩
    · cases h
  case store =>
    split at h
    · obtain ⟨us, e, h⟩ := onCells_inv h
      split at h <;> cases h; exact ⟨_, rfl⟩
    · cases h
  case fill =>
    split at h
    · split at h <;> cases h
    · cases h
  case get =>
    split at h
    · obtain ⟨us, e, h⟩ := onCells_inv h
      split at h
      · obtain ⟨v, _, h⟩ := Option.map_eq_some_iff.mp h; cases h
      · cases h
    · cases h
  case cell =>
    split at h
    · obtain ⟨us, e, h⟩ := onCells_inv h
      split at h
      · obtain ⟨v, _, h⟩ := Option.map_eq_some_iff.mp h; cases h
      · cases h
    · cases h
  case long =>
    split at h
    · obtain ⟨us, e, h⟩ := onCells_inv h; cases h
    · cases h
  case ask =>
    split at h
    · split at h <;> cases h
    · cases h
  all_goals first
    | (split at h <;> cases h; done)
    | (obtain ⟨_, x, y, _, h2⟩ := act2_inv h
       simp only [two] at h2
       first
         | (cases h2; done)
         | (split at h2 <;> first | (cases h2; done) | (split at h2 <;> cases h2)))
theorem Fits.step {m : Mid} {P n : Nat} {s s1 : MS} (S : Small m P) (F : Fits m P (n + 1) s) (h : step m s = some (s1, none)) : Fits m P n s1 := by
  have hP := S.P1
  unfold Md.step at h
  split at h
  · cases h
  · rename_i fr rest efr
    have Ff : ∀ f ∈ fr :: rest, FrOk m P (n + 1) f := by rw [← efr]; exact F.frs
    have Fl : (fr :: rest).length + (n + 1) ≤ 900000 := by rw [← efr]; exact F.frames
    have F0 := Ff fr (by simp)
    have Fr0 : ∀ f ∈ rest, FrOk m P n f := fun f hf => (Ff f (by simp [hf])).less
    have Ft := F.told
    simp only [List.length_cons] at Fl
    split at h
    · rename_i row erow
      split at h
      · rename_i vs evs
        split at h
        · rename_i a ea
          have hfr' : FrOk m P (n + 1) { fr with at' := fr.at' + 1 } := F0
          have hm : row ∈ fr.block.rows := List.mem_of_getElem? erow
          obtain ⟨_, g, hg, hgb, hgk⟩ := F0
          have hal := S.row g hg _ hgk _ hm
          have hvl := looks_len evs
          unfold actDo at h
          split at h
          · cases h
            exact ⟨by show s.told.length + n ≤ 900000; omega, by show rest.length + 1 + n ≤ 900000; omega, fun f hf => (by
              rcases List.mem_cons.mp hf with rfl | hf
              · exact hfr'.put hP _ _
              · exact Fr0 f hf), F.clo⟩
          · cases h
            exact ⟨by show s.told.length + n ≤ 900000; omega, by show rest.length + 1 + n ≤ 900000; omega, fun f hf => (by
              rcases List.mem_cons.mp hf with rfl | hf
              · exact hfr'.put hP _ _
              · exact Fr0 f hf), clo_new F.clo (fun f us e => by rw [act_new ea f us e]; omega)⟩
          · cases h
          · split at h
            · cases h
            · cases h
              exact ⟨by show s.told.length + n ≤ 900000; omega, by show rest.length + 1 + n ≤ 900000; omega, fun f hf => (by
                rcases List.mem_cons.mp hf with rfl | hf
                · exact hfr'.less
                · exact Fr0 f hf), F.clo⟩
          · cases h
            exact ⟨by show (s.told ++ [_]).length + n ≤ 900000; rw [List.length_append]; simp only [List.length_singleton]; omega, by show rest.length + 1 + n ≤ 900000; omega, fun f hf => (by
              rcases List.mem_cons.mp hf with rfl | hf
              · exact hfr'.less
              · exact Fr0 f hf), F.clo⟩
          · cases h
            obtain ⟨us, rfl⟩ := act_upd ea
            exact ⟨by show s.told.length + n ≤ 900000; omega, by show rest.length + 1 + n ≤ 900000; omega, fun f hf => (by
              rcases List.mem_cons.mp hf with rfl | hf
              · exact hfr'.less
              · exact Fr0 f hf), clo_set F.clo⟩
          · obtain ⟨g', hg', he⟩ := Option.map_eq_some_iff.mp h
            cases he
            unfold begin_ at hg'
            split at hg'
            · rename_i g0 eg
              split at hg'
              · rename_i k0 ek
                cases hg'
                have hgm := List.mem_of_find?_eq_some eg
                have hkm := List.mem_of_getElem? ek
                refine ⟨by show s.told.length + n ≤ 900000; omega, by show rest.length + 1 + 1 + n ≤ 900000; omega, fun f hf => ?_, F.clo⟩
                rcases List.mem_cons.mp hf with rfl | hf
                · refine ⟨?_, g0, hgm, rfl, hkm⟩
                  have h1 := binds_len k0.params (by assumption) []
                  have h2 := S.par g0 hgm k0 hkm
                  have h3 := hfr'.1
                  rw [Nat.succ_mul] at h3
                  show (binds [] k0.params _).length + n * P + P ≤ 800000
                  simp only [List.length_nil] at h1
                  omega
                · rcases List.mem_cons.mp hf with rfl | hf
                  · exact hfr'.less
                  · exact Fr0 f hf
              · cases hg'
            · cases hg'
          · cases h
        · cases h
      · cases h
    · unfold endDo at h
      split at h
      · split at h
        · split at h
          · cases h
          · rename_i g gs
            split at h
            · cases h
              simp only [List.length_cons] at Fl
              exact ⟨by show s.told.length + n ≤ 900000; omega, by show gs.length + 1 + n ≤ 900000; omega, fun f hf => (by
                rcases List.mem_cons.mp hf with rfl | hf
                · exact (Ff g (by simp)).put hP _ _
                · exact Fr0 f (by simp [hf])), F.clo⟩
            · cases h
        · cases h
      · cases h
      · split at h
        · rename_i vs evs
          obtain ⟨g', hg', he⟩ := Option.map_eq_some_iff.mp h
          cases he
          unfold Fr.enter at hg'
          split at hg'
          · rename_i k ek
            cases hg'
            refine ⟨by show s.told.length + n ≤ 900000; omega, by show rest.length + 1 + n ≤ 900000; omega, fun f hf => ?_, F.clo⟩
            rcases List.mem_cons.mp hf with rfl | hf
            · obtain ⟨h3, g, hg, hgb, hgk⟩ := F0
              have hkm := List.mem_of_getElem? ek
              rw [hgb] at hkm
              refine ⟨?_, g, hg, hgb, hkm⟩
              have h1 := binds_len k.params vs fr.env
              have h2 := S.par g hg k hkm
              rw [Nat.succ_mul] at h3
              show (binds fr.env k.params _).length + n * P + P ≤ 800000
              omega
            · exact Fr0 f hf
          · cases hg'
        · cases h
      · split at h
        · obtain ⟨g', hg', he⟩ := Option.map_eq_some_iff.mp h
          cases he
          unfold Fr.enter at hg'
          split at hg'
          · rename_i k ek
            cases hg'
            refine ⟨by show s.told.length + n ≤ 900000; omega, by show rest.length + 1 + n ≤ 900000; omega, fun f hf => ?_, F.clo⟩
            rcases List.mem_cons.mp hf with rfl | hf
            · obtain ⟨h3, g, hg, hgb, hgk⟩ := F0
              have hkm := List.mem_of_getElem? ek
              rw [hgb] at hkm
              refine ⟨?_, g, hg, hgb, hkm⟩
              have h1 := binds_len k.params [] fr.env
              have h2 := S.par g hg k hkm
              rw [Nat.succ_mul] at h3
              show (binds fr.env k.params _).length + n * P + P ≤ 800000
              omega
            · exact Fr0 f hf
          · cases hg'
        · cases h
end Md

/-! CL, part w2: dicts with written keys -/
namespace CL
inductive LookD : List (L2.Key × Val) → L2.Key → Val → Prop
  | here {k : L2.Key} {v : Val} {r : List (L2.Key × Val)} : LookD ((k, v) :: r) k v
  | there {k j : L2.Key} {v w : Val} {r : List (L2.Key × Val)} (h : decide (j = k) = false) (l : LookD r k v) : LookD ((j, w) :: r) k v
theorem LookD.eq : ∀ {kvs : List (L2.Key × Val)} {k : L2.Key} {v : Val}, LookD kvs k v → look kvs k = some v
  | _, _, _, .here => by unfold look; rw [List.find?_cons, decide_eq_true rfl]; rfl
  | _, _, _, .there h l => by
    have := l.eq
    unfold look at *
    rw [List.find?_cons]
    simp only [h, this]
inductive PutD : List (L2.Key × Val) → L2.Key → Val → List (L2.Key × Val) → Prop
  | nil {k : L2.Key} {v : Val} : PutD [] k v [(k, v)]
  | here {k : L2.Key} {v w : Val} {r : List (L2.Key × Val)} (h : r.any (fun kv => decide (kv.1 = k)) = false) : PutD ((k, w) :: r) k v ((k, v) :: r)
  | there {k j : L2.Key} {v w : Val} {r r' : List (L2.Key × Val)} (h : decide (j = k) = false) (l : PutD r k v r') : PutD ((j, w) :: r) k v ((j, w) :: r')
theorem map_none {k : L2.Key} {v : Val} : ∀ {r : List (L2.Key × Val)}, r.any (fun kv => decide (kv.1 = k)) = false → r.map (fun kv => if kv.1 = k then (kv.1, v) else kv) = r
  | [], _ => rfl
  | a :: r, h => by
    rw [List.any_cons, Bool.or_eq_false_iff] at h
    rw [List.map_cons, map_none h.2, if_neg (of_decide_eq_false h.1)]
theorem PutD.eq : ∀ {kvs : List (L2.Key × Val)} {k : L2.Key} {v : Val} {kvs' : List (L2.Key × Val)}, PutD kvs k v kvs' → put kvs k v = kvs'
  | _, _, _, _, .nil => rfl
  | _, _, _, _, .here h => by
    unfold put
    rw [List.any_cons, decide_eq_true rfl, Bool.true_or, if_pos rfl, List.map_cons, if_pos rfl, map_none h]
  | _, _, _, _, .there h l => by
    have := l.eq
    unfold put at *
    rw [List.any_cons, h, Bool.false_or, List.map_cons, if_neg (of_decide_eq_false h), List.cons_append, ← this]
    split <;> rfl
section
variable {B H R : HL} {kt : List (List Val)}
theorem x_dS {a : Nat} {kvs : List (L2.Key × Val)} {y v : Val} {k : L2.Key} {Q : Val → HL → Prop} (u : Sub H [(a, .dK kvs)] R) (hk : key1 y = some k) (h : LookD kvs k v) (q : Q v H) : WP B (subV kt (.ref a) y) H Q := x_dK u hk h.eq q
theorem d_gS {a : Nat} {kvs : List (L2.Key × Val)} {y v : Val} {k : L2.Key} {Q : Val → HL → Prop} (u : Sub H [(a, .dK kvs)] R) (hk : key1 y = some k) (h : LookD kvs k v) (q : Q v H) : WP B (getD kt (.ref a) y) H Q := d_get u hk h.eq q
theorem y_dS {a : Nat} {kvs kvs' : List (L2.Key × Val)} {y v : Val} {k : L2.Key} {K : HL} {Q : Val → HL → Prop} (u0 : Sub H [(a, .dK kvs)] R) (hk : key1 y = some k) (h : PutD kvs k v kvs') (hl : kvs.length < 1000000) (u : Upd H a (.dK kvs) (.dK kvs') K) (q : Q .non K) : WP B (putV kt (.ref a) y v) H Q :=
  y_dK (by rw [h.eq]; exact u) hk hl q
theorem d_pS {a : Nat} {kvs kvs' : List (L2.Key × Val)} {y v : Val} {k : L2.Key} {K : HL} {Q : Val → HL → Prop} (u0 : Sub H [(a, .dK kvs)] R) (hk : key1 y = some k) (h : PutD kvs k v kvs') (hl : kvs.length < 1000000) (u : Upd H a (.dK kvs) (.dK kvs') K) (q : Q .non K) : WP B (putD kt (.ref a) y v) H Q :=
  d_put (by rw [h.eq]; exact u) hk hl q
end
end CL

/-! CL, part w3: outcomes compared -/
namespace Md
open CL PySem
theorem dat_ints (st : Store) (k : Nat) : ∀ ns : List Int, allO ((ns.map Val.int).map (dat st (k + 1))) = some (ns.map PyData.int)
  | [] => rfl
  | n :: r => by
    have ih := dat_ints st k r
    show allO (some (PyData.int n) :: (r.map Val.int).map (dat st (k + 1))) = _
    rw [allO, ih]; rfl
theorem eqv_ints : ∀ ns : List Int, PyData.eqvAll (ns.map PyData.int) (ns.map PyData.int) = true
  | [] => by simp [PyData.eqvAll]
  | n :: r => by rw [List.map_cons, PyData.eqvAll, eqv_ints r]; simp [PyData.eqv]
theorem lay_ints : ∀ ns : List Int, PyData.canLayAll0 (ns.map PyData.int) = true
  | [] => by simp [PyData.canLayAll0]
  | n :: r => by rw [List.map_cons, PyData.canLayAll0, lay_ints r]; simp [PyData.canLay0]
theorem deep_ints : ∀ ns : List Int, PyData.depthAll (ns.map PyData.int) = 0
  | [] => by simp [PyData.depthAll]
  | n :: r => by rw [List.map_cons, PyData.depthAll, deep_ints r]; simp [PyData.depth]
def endV : Out → Val
  | .done (.int v) => .tup [.str "done", .int v]
  | .done _ => .non
  | .fault w l => .tup [.str "fault", .str w, .int l]
  | .tired => .tup [.str "tired"]
def endD : Out → PyData
  | .done (.int v) => .tuple [.str "done", .int v]
  | .done _ => .none
  | .fault w l => .tuple [.str "fault", .str w, .int l]
  | .tired => .tuple [.str "tired"]
/-- an end that laws speak of -/
def OutOk : Out → Prop
  | .done (.int _) => True
  | .done _ => False
  | .fault w _ => w = "nought" ∨ w = "place" ∨ w = "great" ∨ w = "fail" ∨ w = "lack"
  | .tired => True
theorem dat_end (st : Store) (o : Out) (h : OutOk o) (k : Nat) : dat st (k + 2) (endV o) = some (endD o) := by
  cases o with
  | done v => cases v <;> first | rfl | exact h.elim
  | fault w l => rfl
  | tired => rfl
theorem eqv_end (o : Out) (h : OutOk o) : PyData.eqv (endD o) (endD o) = true := by
  cases o with
  | done v => cases v <;> first | (simp [endD, PyData.eqv, PyData.eqvAll]; done) | exact h.elim
  | fault w l => simp [endD, PyData.eqv, PyData.eqvAll]
  | tired => simp [endD, PyData.eqv, PyData.eqvAll]
theorem lay_end (o : Out) (h : OutOk o) : PyData.canLay0 (endD o) = true := by
  cases o with
  | done v => cases v <;> first | (simp only [endD, PyData.canLay0, PyData.canLayAll0]; decide +kernel) | exact h.elim
  | fault w l => rcases h with rfl | rfl | rfl | rfl | rfl <;> (simp only [endD, PyData.canLay0, PyData.canLayAll0]; decide +kernel)
  | tired => simp only [endD, PyData.canLay0, PyData.canLayAll0]; decide +kernel
theorem deep_end (o : Out) : PyData.depth (endD o) ≤ 1 := by
  cases o with
  | done v => cases v <;> simp [endD, PyData.depth, PyData.depthAll]
  | fault w l => simp [endD, PyData.depth, PyData.depthAll]
  | tired => simp [endD, PyData.depth, PyData.depthAll]
theorem eq_told {st : Store} {a b : Nat} {ns : List Int} {o : Out} (ho : OutOk o) (ha : st.m a = some (.lst (ns.map .int))) (hb : st.m b = some (.lst (ns.map .int))) : eqV st (.tup [.ref a, endV o]) (.tup [.ref b, endV o]) = some true := by
  have h1 : ∀ c, st.m c = some (.lst (ns.map .int)) → dat st deep (.tup [.ref c, endV o]) = some (.tuple [.list (ns.map PyData.int), endD o]) := fun c hc => by
    show (allO [dat st 69 (.ref c), dat st 69 (endV o)]).map PyData.tuple = _
    have e1 : dat st 69 (.ref c) = some (.list (ns.map PyData.int)) := by
      show (match st.m c with | some (.lst xs) => (allO (xs.map (dat st 68))).map PyData.list | _ => none) = _
      rw [hc]
      show (allO ((ns.map Val.int).map (dat st 68))).map PyData.list = _
      rw [dat_ints st 67 ns]; rfl
    rw [e1, dat_end st o ho 67]; rfl
  unfold eqV
  have e0 : eq0 (.tup [.ref a, endV o]) (.tup [.ref b, endV o]) = none := rfl
  rw [e0]
  simp only [h1 a ha, h1 b hb]
  have s1 : SeqAt.shaped (.tuple [.list (ns.map PyData.int), endD o]) = true := by
    unfold SeqAt.shaped
    rw [Bool.and_eq_true]
    refine ⟨?_, decide_eq_true ?_⟩
    · simp only [PyData.canLay0, PyData.canLayAll0, lay_ints, lay_end o ho, Bool.and_self]
    · have := deep_end o
      simp only [PyData.depth, PyData.depthAll, deep_ints]
      omega
  rw [s1]
  simp only [Bool.and_self, if_true, PyData.eqv, PyData.eqvAll, eqv_ints, eqv_end o ho]
theorem eq_lists {st : Store} {a b : Nat} {ns : List Int} (ha : st.m a = some (.lst (ns.map .int))) (hb : st.m b = some (.lst (ns.map .int))) : eqV st (.ref a) (.ref b) = some true := by
  have h1 : ∀ c, st.m c = some (.lst (ns.map .int)) → dat st deep (.ref c) = some (.list (ns.map PyData.int)) := fun c hc => by
    show (match st.m c with | some (.lst xs) => (allO (xs.map (dat st 69))).map PyData.list | _ => none) = _
    rw [hc]
    show (allO ((ns.map Val.int).map (dat st 69))).map PyData.list = _
    rw [dat_ints st 68 ns]; rfl
  unfold eqV
  have e0 : eq0 (.ref a) (.ref b) = none := rfl
  rw [e0]
  simp only [h1 a ha, h1 b hb]
  have s1 : SeqAt.shaped (.list (ns.map PyData.int)) = true := by
    unfold SeqAt.shaped
    rw [Bool.and_eq_true]
    refine ⟨?_, decide_eq_true ?_⟩
    · simp only [PyData.canLay0, lay_ints]
    · simp only [PyData.depth, deep_ints]; omega
  rw [s1]
  simp only [Bool.and_self, if_true, PyData.eqv, eqv_ints]
end Md
namespace CL
section
variable {B H K : HL} {c : Ctx} {s : Env} {Q : Val → HL → Prop}
theorem wl_perm {t : Tg} {k : CL.B} {e : E} {D : Nat} {w : Watch} {xs : List Val} (p : H.Perm K) (h : WL B c t k e s D w xs K Q) : WL B c t k e s D w xs H Q := wp_perm p h
theorem x_cutB {a : Nat} {xs : List Val} {l h : Option Val} {l' h' : Option Int} (u : (a, .lst xs) ∈ B) (e1 : part l = some l') (e2 : part h = some h') (q : ∀ p, Q (.ref p) ((p, .lst (cutL xs l' h')) :: H)) : WP B (cutV (.ref a) l h) H Q := fun st F s => by
  obtain ⟨v, K, st', e, q, s'⟩ := wp_mk (B := B) q st F s
  exact ⟨v, K, st', by simp only [cutV, e1, e2, fix_at u s, e], q, s'⟩
theorem f_lenB {a : Nat} {xs : List Val} (u : (a, .lst xs) ∈ B) (q : Q (.int xs.length) H) : WP B (bfn .len [.ref a]) H Q := wp_of (fun st F s => by simp only [bfn, fix_at u s]) q
end
end CL
namespace Md
theorem lookE_here {x : Int} {v : MV} {e : Ev} : lookE ((x, v) :: e) x = some v := by
  unfold lookE
  rw [List.find?_cons, decide_eq_true rfl]; rfl
theorem lookE_there {x y : Int} {v : MV} {e : Ev} (h : y ≠ x) : lookE ((y, v) :: e) x = lookE e x := by
  unfold lookE
  rw [List.find?_cons, decide_eq_false (show ¬ (y, v).1 = x from h)]
theorem putE_nil {x : Int} {v : MV} : putE [] x v = [(x, v)] := rfl
theorem putE_cons_ne {x y : Int} {v w : MV} {e : Ev} (h : y ≠ x) : putE ((y, w) :: e) x v = (y, w) :: putE e x v := by
  unfold putE
  rw [List.any_cons, decide_eq_false (show ¬ (y, w).1 = x from h), Bool.false_or, List.map_cons, if_neg (show ¬ (y, w).1 = x from h), List.cons_append]
  split <;> rfl
theorem Runs.row {m : Mid} {n : Nat} {ts : List Thing} {told : List MV} {ti : Int} {bs : List Block} {e : Ev} {tg : Option Int} {k : Block} {i : Nat} {rest : List Fr} {s1 s' : MS} {o : Out} {row : Row} {vs : List MV} {a : Act}
    (hr : k.rows[i]? = some row) (hl : looks e row.args = some vs) (ha : actO ts row.op row.more vs = some a) (hd : actDo m ⟨ts, told, ti, ⟨bs, e, tg, k, i⟩ :: rest⟩ ⟨bs, e, tg, k, i + 1⟩ rest row.x row.line a = some (s1, none)) (h : Runs m n s1 s' o) : Runs m (n + 1) ⟨ts, told, ti, ⟨bs, e, tg, k, i⟩ :: rest⟩ s' o := by
  refine .more ?_ h
  unfold step
  simp only [hr, hl, ha]
  exact hd
theorem Runs.rowEnd {m : Mid} {ts : List Thing} {told : List MV} {ti : Int} {bs : List Block} {e : Ev} {tg : Option Int} {k : Block} {i : Nat} {rest : List Fr} {s' : MS} {o : Out} {row : Row} {vs : List MV} {a : Act}
    (hr : k.rows[i]? = some row) (hl : looks e row.args = some vs) (ha : actO ts row.op row.more vs = some a) (hd : actDo m ⟨ts, told, ti, ⟨bs, e, tg, k, i⟩ :: rest⟩ ⟨bs, e, tg, k, i + 1⟩ rest row.x row.line a = some (s', some o)) : Runs m 1 ⟨ts, told, ti, ⟨bs, e, tg, k, i⟩ :: rest⟩ s' o := by
  refine .last ?_
  unfold step
  simp only [hr, hl, ha]
  exact hd
theorem Runs.jmp {m : Mid} {n : Nat} {ts : List Thing} {told : List MV} {ti : Int} {bs : List Block} {e : Ev} {tg : Option Int} {k : Block} {i : Nat} {rest : List Fr} {s1 s' : MS} {o : Out}
    (hr : k.rows[i]? = none) (hd : endDo ⟨ts, told, ti, ⟨bs, e, tg, k, i⟩ :: rest⟩ ⟨bs, e, tg, k, i⟩ rest k.en = some (s1, none)) (h : Runs m n s1 s' o) : Runs m (n + 1) ⟨ts, told, ti, ⟨bs, e, tg, k, i⟩ :: rest⟩ s' o := by
  refine .more ?_ h
  unfold step
  simp only [hr]
  exact hd
theorem Runs.stop {m : Mid} {ts : List Thing} {told : List MV} {ti : Int} {bs : List Block} {e : Ev} {tg : Option Int} {k : Block} {i : Nat} {rest : List Fr} {s' : MS} {o : Out}
    (hr : k.rows[i]? = none) (hd : endDo ⟨ts, told, ti, ⟨bs, e, tg, k, i⟩ :: rest⟩ ⟨bs, e, tg, k, i⟩ rest k.en = some (s', some o)) : Runs m 1 ⟨ts, told, ti, ⟨bs, e, tg, k, i⟩ :: rest⟩ s' o := by
  refine .last ?_
  unfold step
  simp only [hr]
  exact hd
/-- a row that gives a new name -/
theorem Runs.gives {m : Mid} {n : Nat} {ts : List Thing} {told : List MV} {ti : Int} {bs : List Block} {e e' : Ev} {tg : Option Int} {k : Block} {i : Nat} {rest : List Fr} {s' : MS} {o : Out} {row : Row} {vs : List MV} {v : MV} {x : Int}
    (hr : k.rows[i]? = some row) (hx : row.x = some x) (hl : looks e row.args = some vs) (ha : actO ts row.op row.more vs = some (.give v)) (hp : putE e x v = e') (h : Runs m n ⟨ts, told, ti, ⟨bs, e', tg, k, i + 1⟩ :: rest⟩ s' o) : Runs m (n + 1) ⟨ts, told, ti, ⟨bs, e, tg, k, i⟩ :: rest⟩ s' o :=
  .row hr hl ha (by rw [hx]; simp only [actDo, hp]) h
theorem Runs.makes {m : Mid} {n : Nat} {ts : List Thing} {told : List MV} {ti : Int} {bs : List Block} {e e' : Ev} {tg : Option Int} {k : Block} {i : Nat} {rest : List Fr} {s' : MS} {o : Out} {row : Row} {vs : List MV} {t : Thing} {x : Int}
    (hr : k.rows[i]? = some row) (hx : row.x = some x) (hl : looks e row.args = some vs) (ha : actO ts row.op row.more vs = some (.new t)) (hp : putE e x (.ref ts.length) = e') (h : Runs m n ⟨ts ++ [t], told, ti, ⟨bs, e', tg, k, i + 1⟩ :: rest⟩ s' o) : Runs m (n + 1) ⟨ts, told, ti, ⟨bs, e, tg, k, i⟩ :: rest⟩ s' o :=
  .row hr hl ha (by rw [hx]; simp only [actDo, hp]) h
theorem Runs.tells {m : Mid} {n : Nat} {ts : List Thing} {told : List MV} {ti : Int} {bs : List Block} {e : Ev} {tg : Option Int} {k : Block} {i : Nat} {rest : List Fr} {s' : MS} {o : Out} {row : Row} {vs : List MV} {v : MV}
    (hr : k.rows[i]? = some row) (hl : looks e row.args = some vs) (ha : actO ts row.op row.more vs = some (.tell v)) (h : Runs m n ⟨ts, told ++ [v], ti, ⟨bs, e, tg, k, i + 1⟩ :: rest⟩ s' o) : Runs m (n + 1) ⟨ts, told, ti, ⟨bs, e, tg, k, i⟩ :: rest⟩ s' o :=
  .row hr hl ha (by cases row.x <;> rfl) h
theorem Runs.ticks {m : Mid} {n : Nat} {ts : List Thing} {told : List MV} {ti : Int} {bs : List Block} {e : Ev} {tg : Option Int} {k : Block} {i : Nat} {rest : List Fr} {s' : MS} {o : Out} {row : Row}
    (hr : k.rows[i]? = some row) (hl : looks e row.args = some []) (ha : actO ts row.op row.more [] = some .tick) (ht : ti ≠ 0) (h : Runs m n ⟨ts, told, ti - 1, ⟨bs, e, tg, k, i + 1⟩ :: rest⟩ s' o) : Runs m (n + 1) ⟨ts, told, ti, ⟨bs, e, tg, k, i⟩ :: rest⟩ s' o :=
  .row hr hl ha (by cases row.x <;> (simp only [actDo]; rw [if_neg ht])) h
theorem Runs.upds {m : Mid} {n : Nat} {ts : List Thing} {told : List MV} {ti : Int} {bs : List Block} {e : Ev} {tg : Option Int} {k : Block} {i : Nat} {rest : List Fr} {s' : MS} {o : Out} {row : Row} {vs : List MV} {j : Nat} {t : Thing}
    (hr : k.rows[i]? = some row) (hl : looks e row.args = some vs) (ha : actO ts row.op row.more vs = some (.upd j t)) (h : Runs m n ⟨ts.set j t, told, ti, ⟨bs, e, tg, k, i + 1⟩ :: rest⟩ s' o) : Runs m (n + 1) ⟨ts, told, ti, ⟨bs, e, tg, k, i⟩ :: rest⟩ s' o :=
  .row hr hl ha (by cases row.x <;> rfl) h
theorem Runs.faults {m : Mid} {ts : List Thing} {told : List MV} {ti : Int} {bs : List Block} {e : Ev} {tg : Option Int} {k : Block} {i : Nat} {rest : List Fr} {row : Row} {vs : List MV} {w : PySem.Str} {l : Int}
    (hr : k.rows[i]? = some row) (hl : looks e row.args = some vs) (ha : actO ts row.op row.more vs = some (.fault w)) (hi : row.line = l) : Runs m 1 ⟨ts, told, ti, ⟨bs, e, tg, k, i⟩ :: rest⟩ ⟨ts, told, ti, ⟨bs, e, tg, k, i + 1⟩ :: rest⟩ (.fault w l) :=
  .rowEnd hr hl ha (by subst hi; cases row.x <;> rfl)
/-- a give in the last frame -/
theorem Runs.done {m : Mid} {ts : List Thing} {told : List MV} {ti : Int} {bs : List Block} {e : Ev} {tg : Option Int} {k : Block} {i : Nat} {x : Int} {v : MV} (hr : k.rows[i]? = none) (he : k.en = .give x) (hv : lookE e x = some v) : Runs m 1 ⟨ts, told, ti, [⟨bs, e, tg, k, i⟩]⟩ ⟨ts, told, ti, []⟩ (.done v) :=
  .stop hr (by rw [he]; simp only [endDo, hv])
theorem Runs.branch {m : Mid} {n : Nat} {ts : List Thing} {told : List MV} {ti : Int} {bs : List Block} {e : Ev} {tg : Option Int} {k k' : Block} {i b c : Nat} {x : Int} {t : Bool} {rest : List Fr} {s' : MS} {o : Out} (hr : k.rows[i]? = none) (he : k.en = .branch x b c) (hv : lookE e x = some (.bl t)) (hb : bs[if t then b else c]? = some k') (hp : k'.params = [])
    (h : Runs m n ⟨ts, told, ti, ⟨bs, e, tg, k', 0⟩ :: rest⟩ s' o) : Runs m (n + 1) ⟨ts, told, ti, ⟨bs, e, tg, k, i⟩ :: rest⟩ s' o :=
  .jmp hr (by rw [he]; simp only [endDo, hv, Fr.enter, hb, hp, Option.map, binds]) h
end Md

/-! CL, part w4: rows that tell cells one by one -/
namespace Md
/-- all names of an env are less -/
def Under (e : Ev) (n : Int) : Prop := ∀ kv ∈ e, kv.1 < n
theorem put_new {e : Ev} {n : Int} {v : MV} (h : Under e n) : putE e n v = e ++ [(n, v)] := by
  unfold putE
  rw [if_neg]
  rw [Bool.not_eq_true, List.any_eq_false]
  intro kv hk
  have := h kv hk
  rw [decide_eq_true_eq]; omega
theorem look_old {e : Ev} {n x : Int} {v : MV} (h : x ≠ n) : lookE (e ++ [(n, v)]) x = lookE e x := by
  induction e with
  | nil => exact lookE_there (e := []) (fun h' => h h'.symm)
  | cons a r ih =>
    rw [List.cons_append]
    by_cases ha : a.1 = x
    · obtain ⟨a1, a2⟩ := a
      subst ha
      rw [lookE_here, lookE_here]
    · obtain ⟨a1, a2⟩ := a
      rw [lookE_there ha, lookE_there ha]; exact ih
theorem look_new {e : Ev} {n : Int} {v : MV} (h : Under e n) : lookE (e ++ [(n, v)]) n = some v := by
  induction e with
  | nil => exact lookE_here
  | cons a r ih =>
    obtain ⟨a1, a2⟩ := a
    have := h (a1, a2) (by simp)
    rw [List.cons_append, lookE_there (by show a1 ≠ n; have : a1 < n := this; omega)]
    exact ih fun kv hk => h kv (by simp [hk])
theorem Under.snoc {e : Ev} {n m : Int} {v : MV} (h : Under e n) (hm : n < m) : Under (e ++ [(n, v)]) m := fun kv hk => by
  rcases List.mem_append.mp hk with hk | hk
  · have := h kv hk; omega
  · cases List.mem_singleton.mp hk; exact hm
/-- a run's end and what was told -/
def Ends (m : Mid) (n : Nat) (s : MS) (told : List MV) (o : Out) : Prop := ∃ s', Runs m n s s' o ∧ s'.told = told
/-- cell rows, each told -/
def tellRows (x nx ln : Int) (k : Nat) : Nat → List Row
  | 0 => []
  | n + 1 => ⟨some nx, some .num, .cell, [x], .num k, ln + 1⟩ :: ⟨none, none, .tell, [nx], .no, ln + 1 + 1⟩ :: tellRows x (nx + 1) (ln + 1 + 1) (k + 1) n
theorem run_tells {m : Mid} {ts : List Thing} {ti : Int} {bs : List Block} {tg : Option Int} {blk : Block} {rest : List Fr} {x : Int} {j : Nat} {ws : List MV} {o : Out} {T : List MV} (hj : ts[j]? = some (.cells ws)) : ∀ (n k : Nat) (nx ln : Int) (e : Ev) (told : List MV) (pre post : List Row) (n' : Nat),
    blk.rows = pre ++ (tellRows x nx ln k n ++ post) → lookE e x = some (.ref j) → Under e nx → x < nx → k + n ≤ ws.length →
    (∀ e', (∀ y, y < nx → lookE e' y = lookE e y) → Under e' (nx + n) → Ends m n' ⟨ts, told ++ (ws.drop k).take n, ti, ⟨bs, e', tg, blk, pre.length + 2 * n⟩ :: rest⟩ T o) →
    Ends m (2 * n + n') ⟨ts, told, ti, ⟨bs, e, tg, blk, pre.length⟩ :: rest⟩ T o
  | 0, k, nx, ln, e, told, pre, post, n', hr, hx, hu, hlt, hk, c => by
    have := c e (fun _ _ => rfl) (by simpa using hu)
    simpa using this
  | n + 1, k, nx, ln, e, told, pre, post, n', hr, hx, hu, hlt, hk, c => by
    have hw : ws[k]? = some ws[k] := List.getElem?_eq_getElem (by omega)
    have e1 : (ws.drop k).take (n + 1) = ws[k] :: (ws.drop (k + 1)).take n := by
      rw [List.drop_eq_getElem_cons (by omega), List.take_succ_cons]
    rw [tellRows] at hr
    have r1 : blk.rows[pre.length]? = some ⟨some nx, some .num, .cell, [x], .num k, ln + 1⟩ := by rw [hr, List.getElem?_append_right (Nat.le_refl _)]; simp
    have r2 : blk.rows[pre.length + 1]? = some ⟨none, none, .tell, [nx], .no, ln + 1 + 1⟩ := by rw [hr, List.getElem?_append_right (by omega)]; simp
    have a1 : actO ts .cell (.num k) [.ref j] = some (.give ws[k]) := by
      show (match ts[j]? with | some (.cells us) => (if (0 : Int) ≤ (k : Int) then (us[(k : Int).toNat]?).map Act.give else none) | _ => none) = _
      rw [hj]
      show (if (0 : Int) ≤ (k : Int) then (ws[(k : Int).toNat]?).map Act.give else none) = _
      rw [if_pos (by omega), Int.toNat_natCast, hw]; rfl
    have ih := run_tells (m := m) (x := x) (blk := blk) (o := o) (T := T) (bs := bs) (tg := tg) (rest := rest) (ti := ti) hj n (k + 1) (nx + 1) (ln + 1 + 1) (e ++ [(nx, ws[k])]) (told ++ [ws[k]]) (pre ++ [⟨some nx, some .num, .cell, [x], .num k, ln + 1⟩, ⟨none, none, .tell, [nx], .no, ln + 1 + 1⟩]) post n' (by rw [hr]; simp) (by rw [look_old (by omega)]; exact hx) (hu.snoc (by omega)) (by omega) (by omega) fun e' h1 h2 => by
        have := c e' (fun y hy => by rw [h1 y (by omega), look_old (by omega)]) (by rw [show nx + ((n + 1 : Nat) : Int) = nx + 1 + n by omega]; exact h2)
        rw [e1] at this
        rw [List.append_assoc, List.length_append]
        simpa [show pre.length + 2 * (n + 1) = pre.length + 2 + 2 * n by omega] using this
    obtain ⟨s', h1, h2⟩ := ih
    refine ⟨s', ?_, h2⟩
    rw [show 2 * (n + 1) + n' = 2 * n + n' + 1 + 1 by omega]
    refine .gives r1 rfl (show looks e [x] = some [.ref j] by unfold looks; rw [hx]; rfl) a1 (put_new hu) (.tells r2 (show looks _ [nx] = some [ws[k]] by unfold looks; rw [look_new hu]; rfl) rfl ?_)
    rw [List.length_append] at h1
    exact h1
theorem tellRows_snoc (x : Int) : ∀ (n k : Nat) (nx ln : Int), tellRows x nx ln k (n + 1) = tellRows x nx ln k n ++ [⟨some (nx + n), some .num, .cell, [x], .num (k + n : Nat), ln + 2 * n + 1⟩, ⟨none, none, .tell, [nx + n], .no, ln + 2 * n + 1 + 1⟩]
  | 0, k, nx, ln => by simp [tellRows]
  | n + 1, k, nx, ln => by
    rw [tellRows, tellRows_snoc x n (k + 1) (nx + 1) (ln + 1 + 1), tellRows]
    rw [show nx + 1 + (n : Int) = nx + (n + 1 : Nat) by omega, show k + 1 + n = k + (n + 1) by omega, show ln + 1 + 1 + 2 * (n : Int) = ln + 2 * ((n + 1 : Nat) : Int) by omega]
    rfl
end Md
namespace Md
theorem tellRows_len (x : Int) : ∀ (n k : Nat) (nx ln : Int), (tellRows x nx ln k n).length = 2 * n
  | 0, _, _, _ => rfl
  | n + 1, k, nx, ln => by rw [tellRows, List.length_cons, List.length_cons, tellRows_len x n]; omega
end Md

/-! CL, part w5: kinds of middles, and that a run of one that keeps them comes to an end -/
namespace Md
open CL
def Num (a : Int) : Prop := -2147483648 ≤ a ∧ a ≤ 2147483647
theorem br_num (n : Int) : Num (br n) := by
  unfold Num br
  rw [fmod_pos (by decide)]
  omega
/-- what functions take and give, what records hold -/
structure Sg where
  fn : List (PySem.Str × List Kd × Kd)
  rc : List (PySem.Str × List Kd)
abbrev Ga := List (Int × Kd)
inductive OpT (T : Sg) : Op → More → List Kd → Option Kd → Prop
  | number {n : Int} : Num n → OpT T .number (.num n) [] (some .num)
  | truth {b : Bool} : OpT T .truth (.tru b) [] (some .tru)
  | nums {op : Op} (h : op = .add ∨ op = .sub ∨ op = .mul ∨ op = .div ∨ op = .rem) : OpT T op .no [.num, .num] (some .num)
  | cmps {op : Op} (h : op = .lt ∨ op = .eq) : OpT T op .no [.num, .num] (some .tru)
  | trus {op : Op} (h : op = .and ∨ op = .or) : OpT T op .no [.tru, .tru] (some .tru)
  | not : OpT T .not .no [.tru] (some .tru)
  | long {k : Kd} : OpT T .long .no [.row k] (some .num)
  | close {f : PySem.Str} {ks ps : List Kd} {k : Kd} : (f, ks ++ ps, k) ∈ T.fn → ks.length ≤ 1000 → OpT T .close (.nm f) ks (some (.fn ps k))
  | cell {r : PySem.Str} {ks : List Kd} {i : Nat} {k : Kd} : (r, ks) ∈ T.rc → ks[i]? = some k → OpT T .cell (.num i) [.rc r] (some k)
  | store {r : PySem.Str} {ks : List Kd} {i : Nat} {k : Kd} : (r, ks) ∈ T.rc → ks[i]? = some k → OpT T .store (.num i) [.rc r, k] none
  | get {k : Kd} : OpT T .get .no [.row k, .num] (some k)
  | set {k : Kd} : OpT T .set .no [.row k, .num, k] none
  | make {r : PySem.Str} {ks : List Kd} : (r, ks) ∈ T.rc → OpT T .make (.nm r) ks (some (.rc r))
  | fill {k : Kd} : OpT T .fill .no [.num, k] (some (.row k))
  | call {f : PySem.Str} {ps : List Kd} {k : Kd} : (f, ps, k) ∈ T.fn → OpT T .call (.nm f) ps (some k)
  | ask {ps : List Kd} {k : Kd} : OpT T .ask .no (.fn ps k :: ps) (some k)
  | tell : OpT T .tell .no [.num] none
  | tick : OpT T .tick .no [] none
/-- names of these kinds -/
inductive ArgsT (Γ : Ga) : List Int → List Kd → Prop
  | nil : ArgsT Γ [] []
  | cons {x : Int} {k : Kd} {xs : List Int} {ks : List Kd} (h : (x, k) ∈ Γ) (r : ArgsT Γ xs ks) : ArgsT Γ (x :: xs) (k :: ks)
def Fresh (Γ : Ga) (x : Int) : Prop := ∀ p ∈ Γ, p.1 ≠ x
/-- what is known behind a row -/
def rowG (Γ : Ga) (x : Option Int) (kd : Option Kd) : Ga := match x, kd with
  | some x, some k => Γ ++ [(x, k)]
  | _, _ => Γ
inductive RowT (T : Sg) (Γ : Ga) : Row → Prop
  | mk {r : Row} {ks : List Kd} (a : ArgsT Γ r.args ks) (o : OpT T r.op r.more ks r.kd) (n : r.x.isSome = r.kd.isSome) (f : ∀ x, r.x = some x → Fresh Γ x) : RowT T Γ r
inductive RowsT (T : Sg) : Ga → List Row → Ga → Prop
  | nil {Γ : Ga} : RowsT T Γ [] Γ
  | cons {Γ Γ' : Ga} {r : Row} {rs : List Row} (h : RowT T Γ r) (t : RowsT T (rowG Γ r.x r.kd) rs Γ') : RowsT T Γ (r :: rs) Γ'
/-- what is known of a block ahead of its params, their kinds, its rank, whether its first row is a tick -/
structure Pl where
  env : Ga
  ks : List Kd
  rank : Nat
  tk : Bool
abbrev Plan := Nat → Option Pl
def Goes (pl : Plan) (rk : Nat) (Γ : Ga) (b : Nat) (ks : List Kd) : Prop := ∃ p, pl b = some p ∧ p.ks = ks ∧ (∀ q ∈ p.env, q ∈ Γ) ∧ (p.tk = true ∨ p.rank < rk)
inductive EndT (pl : Plan) (rk : Nat) (kd : Kd) (Γ : Ga) : End → Prop
  | jump {b : Nat} {args : List Int} {ks : List Kd} (a : ArgsT Γ args ks) (g : Goes pl rk Γ b ks) : EndT pl rk kd Γ (.jump b args)
  | branch {x : Int} {b c : Nat} (h : (x, Kd.tru) ∈ Γ) (g : Goes pl rk Γ b []) (g' : Goes pl rk Γ c []) : EndT pl rk kd Γ (.branch x b c)
  | give {x : Int} (h : (x, kd) ∈ Γ) : EndT pl rk kd Γ (.give x)
  | fail {w : PySem.Str} {l : Int} (h : w = "fail" ∨ w = "lack") : EndT pl rk kd Γ (.fail w l)
/-- params: fresh, each name once -/
inductive ParT : Ga → List (Int × Kd) → Prop
  | nil {Γ : Ga} : ParT Γ []
  | cons {Γ : Ga} {p : Int × Kd} {ps : List (Int × Kd)} (h : Fresh Γ p.1) (t : ParT (Γ ++ [p]) ps) : ParT Γ (p :: ps)
def tkRow : List Row → Bool
  | r :: _ => decide (r.op = .tick)
  | [] => false
structure BlockT (T : Sg) (pl : Plan) (kd : Kd) (p : Pl) (b : Block) : Prop where
  par : b.params.map (·.2) = p.ks
  pt : ParT p.env b.params
  body : ∃ Γ', RowsT T (p.env ++ b.params) b.rows Γ' ∧ EndT pl p.rank kd Γ' b.en
  tk : p.tk = true → tkRow b.rows = true
/-- blocks as planned -/
def BlocksT (T : Sg) (pl : Plan) (kd : Kd) (bs : List Block) : Prop := ∀ i p, pl i = some p → ∃ b, bs[i]? = some b ∧ BlockT T pl kd p b
/-- the steps of all blocks of less rank -/
def potF (rk : Nat) (pl : Plan) : Nat → List Block → Nat
  | k, b :: bs => (match pl k with | some p => if p.rank < rk then b.rows.length + 1 else 0 | none => 0) + potF rk pl (k + 1) bs
  | _, [] => 0
abbrev pot (rk : Nat) (pl : Plan) (bs : List Block) : Nat := potF rk pl 0 bs
def total : List Block → Nat
  | [] => 0
  | b :: bs => b.rows.length + 1 + total bs
theorem pot_mono {r r' : Nat} {pl : Plan} (h : r ≤ r') : ∀ (bs : List Block) (k : Nat), potF r pl k bs ≤ potF r' pl k bs
  | [], _ => by unfold potF; simp
  | b :: bs, k => by
    unfold potF
    have := pot_mono (pl := pl) h bs (k + 1)
    cases pl k with
    | none => simpa using this
    | some p => simp only; split <;> split <;> omega
theorem pot_atF {r : Nat} {pl : Plan} : ∀ {bs : List Block} {k i : Nat} {p : Pl} {b : Block}, pl (k + i) = some p → bs[i]? = some b → p.rank < r → potF p.rank pl k bs + b.rows.length + 1 ≤ potF r pl k bs
  | [], _, _, _, _, _, h, _ => by simp at h
  | c :: bs, k, 0, p, b, h1, h2, h => by
    simp at h1 h2
    subst h2
    unfold potF
    have := pot_mono (pl := pl) (Nat.le_of_lt h) bs (k + 1)
    rw [h1]
    simp only
    rw [if_neg (Nat.lt_irrefl _), if_pos h]; omega
  | c :: bs, k, i + 1, p, b, h1, h2, h => by
    unfold potF
    have := pot_atF (bs := bs) (k := k + 1) (i := i) (p := p) (b := b) (by rw [show k + 1 + i = k + (i + 1) by omega]; exact h1) (by simpa using h2) h
    cases pl k with
    | none => simp only; omega
    | some q => simp only; split <;> split <;> omega
theorem pot_at {r : Nat} {pl : Plan} {bs : List Block} {i : Nat} {p : Pl} {b : Block} (h1 : pl i = some p) (h2 : bs[i]? = some b) (h : p.rank < r) : pot p.rank pl bs + b.rows.length + 1 ≤ pot r pl bs :=
  pot_atF (k := 0) (i := i) (by rw [Nat.zero_add]; exact h1) h2 h
theorem pot_total (r : Nat) (pl : Plan) : ∀ (bs : List Block) (k : Nat), potF r pl k bs ≤ total bs
  | [], _ => by unfold potF; simp
  | b :: bs, k => by
    unfold potF total
    have := pot_total r pl bs (k + 1)
    cases pl k with
    | none => simp only; omega
    | some p => simp only; split <;> omega
theorem pot_at_total {pl : Plan} {bs : List Block} {i : Nat} {p : Pl} {b : Block} (h1 : pl i = some p) (h2 : bs[i]? = some b) : pot p.rank pl bs + b.rows.length + 1 ≤ total bs :=
  Nat.le_trans (pot_at h1 h2 (Nat.lt_succ_self _)) (pot_total _ pl bs 0)
structure FunT (T : Sg) (g : Fun) (ks : List Kd) : Prop where
  ex : ∃ pl, BlocksT T pl g.kd g.blocks ∧ ∃ rk, pl 0 = some ⟨[], ks, rk, true⟩
structure MidT (T : Sg) (m : Mid) (C : Nat) : Prop where
  sg : ∀ f ps k, (f, ps, k) ∈ T.fn → ∃ g, (m.funs.find? fun g => decide (g.name = f)) = some g ∧ g.kd = k ∧ FunT T g ps
  size : ∀ g ∈ m.funs, total g.blocks + 1 ≤ C

/-! ### values -/
inductive VT (S : List Kd) : MV → Kd → Prop
  | int {i : Int} (h : Num i) : VT S (.int i) .num
  | bl {b : Bool} : VT S (.bl b) .tru
  | ref {n : Nat} {k : Kd} (h : S[n]? = some k) : VT S (.ref n) k
inductive VTs (S : List Kd) : List MV → List Kd → Prop
  | nil : VTs S [] []
  | cons {v : MV} {k : Kd} {vs : List MV} {ks : List Kd} (h : VT S v k) (r : VTs S vs ks) : VTs S (v :: vs) (k :: ks)
inductive TT (T : Sg) (S : List Kd) : Thing → Kd → Prop
  | rc {r : PySem.Str} {ks : List Kd} {vs : List MV} (h : (r, ks) ∈ T.rc) (t : VTs S vs ks) : TT T S (.cells vs) (.rc r)
  | row {k : Kd} {vs : List MV} (h : ∀ v ∈ vs, VT S v k) (l : vs.length ≤ 60) : TT T S (.cells vs) (.row k)
  | clo {f : PySem.Str} {ks ps : List Kd} {k : Kd} {vs : List MV} (h : (f, ks ++ ps, k) ∈ T.fn) (t : VTs S vs ks) : TT T S (.clo f vs) (.fn ps k)
theorem VT.up {S S' : List Kd} {v : MV} {k : Kd} (h : VT S v k) : VT (S ++ S') v k := by
  cases h with
  | int h => exact .int h
  | bl => exact .bl
  | ref h => exact .ref (by rw [List.getElem?_append_left (List.getElem?_eq_some_iff.mp h).1]; exact h)
theorem VTs.up {S S' : List Kd} : ∀ {vs : List MV} {ks : List Kd}, VTs S vs ks → VTs (S ++ S') vs ks
  | _, _, .nil => .nil
  | _, _, .cons h r => .cons h.up r.up
theorem TT.up {T : Sg} {S S' : List Kd} {t : Thing} {k : Kd} (h : TT T S t k) : TT T (S ++ S') t k := by
  cases h with
  | rc h t => exact .rc h t.up
  | row h l => exact .row (fun v hv => (h v hv).up) l
  | clo h t => exact .clo h t.up
theorem VTs.append {S : List Kd} : ∀ {vs vs' : List MV} {ks ks' : List Kd}, VTs S vs ks → VTs S vs' ks' → VTs S (vs ++ vs') (ks ++ ks')
  | _, _, _, _, .nil, h => h
  | _, _, _, _, .cons h r, k => .cons h (r.append k)
theorem VTs.get {S : List Kd} : ∀ {vs : List MV} {ks : List Kd} {i : Nat} {k : Kd}, VTs S vs ks → ks[i]? = some k → ∃ v, vs[i]? = some v ∧ VT S v k
  | _, _, _, _, .nil, h => by simp at h
  | _, _, 0, _, .cons h r, e => by simp at e; subst e; exact ⟨_, rfl, h⟩
  | _, _, i + 1, _, .cons h r, e => by
    obtain ⟨v, h1, h2⟩ := r.get (i := i) (by simpa using e)
    exact ⟨v, by simpa using h1, h2⟩
theorem VTs.set {S : List Kd} : ∀ {vs : List MV} {ks : List Kd} {i : Nat} {k : Kd} {v : MV}, VTs S vs ks → ks[i]? = some k → VT S v k → VTs S (vs.set i v) ks
  | _, _, _, _, _, .nil, h, _ => by simp at h
  | _, _, 0, _, _, .cons h r, e, hv => by simp at e; subst e; exact .cons hv r
  | _, _, i + 1, _, _, .cons h r, e, hv => .cons h (r.set (by simpa using e) hv)
theorem VTs.length {S : List Kd} : ∀ {vs : List MV} {ks : List Kd}, VTs S vs ks → vs.length = ks.length
  | _, _, .nil => rfl
  | _, _, .cons h r => by rw [List.length_cons, List.length_cons, r.length]
/-- the env holds what is known -/
def EnvT (S : List Kd) (e : Ev) (Γ : Ga) : Prop := ∀ x k, (x, k) ∈ Γ → ∃ v, lookE e x = some v ∧ VT S v k
theorem EnvT.up {S S' : List Kd} {e : Ev} {Γ : Ga} (h : EnvT S e Γ) : EnvT (S ++ S') e Γ := fun x k hm => by
  obtain ⟨v, h1, h2⟩ := h x k hm
  exact ⟨v, h1, h2.up⟩
theorem EnvT.args {S : List Kd} {e : Ev} {Γ : Ga} (h : EnvT S e Γ) : ∀ {xs : List Int} {ks : List Kd}, ArgsT Γ xs ks → ∃ vs, looks e xs = some vs ∧ VTs S vs ks
  | _, _, .nil => ⟨[], rfl, .nil⟩
  | _, _, .cons hm r => by
    obtain ⟨v, h1, h2⟩ := h _ _ hm
    obtain ⟨vs, h3, h4⟩ := h.args r
    exact ⟨v :: vs, by unfold looks; rw [h1, h3], .cons h2 h4⟩
theorem lookE_put_same (e : Ev) (x : Int) (v : MV) : lookE (putE e x v) x = some v := by
  induction e with
  | nil => exact lookE_here
  | cons a r ih =>
    obtain ⟨a1, a2⟩ := a
    by_cases h : a1 = x
    · subst h
      unfold putE
      rw [List.any_cons, decide_eq_true rfl, Bool.true_or, if_pos rfl, List.map_cons, if_pos rfl]
      exact lookE_here
    · rw [putE_cons_ne h, lookE_there h]; exact ih
theorem lookE_put_ne {e : Ev} {x y : Int} {v : MV} (h : y ≠ x) : lookE (putE e x v) y = lookE e y := by
  induction e with
  | nil => exact lookE_there (e := []) (fun z => h z.symm)
  | cons a r ih =>
    obtain ⟨a1, a2⟩ := a
    by_cases h1 : a1 = x
    · subst h1
      unfold putE
      rw [List.any_cons, decide_eq_true rfl, Bool.true_or, if_pos rfl, List.map_cons, if_pos rfl]
      rw [lookE_there (fun z => h z.symm), lookE_there (fun z => h z.symm)]
      clear ih
      induction r with
      | nil => rfl
      | cons b s ih =>
        obtain ⟨b1, b2⟩ := b
        rw [List.map_cons]
        by_cases h2 : b1 = a1
        · subst h2
          rw [if_pos rfl, lookE_there (fun z => h z.symm), lookE_there (fun z => h z.symm)]; exact ih
        · rw [if_neg (show ¬ (b1, b2).1 = a1 from h2)]
          by_cases h3 : b1 = y
          · subst h3; rw [lookE_here, lookE_here]
          · rw [lookE_there h3, lookE_there h3]; exact ih
    · rw [putE_cons_ne h1]
      by_cases h2 : a1 = y
      · subst h2; rw [lookE_here, lookE_here]
      · rw [lookE_there h2, lookE_there h2]; exact ih
theorem EnvT.put {S : List Kd} {e : Ev} {Γ : Ga} {x : Int} {k : Kd} {v : MV} (h : EnvT S e Γ) (hf : Fresh Γ x) (hv : VT S v k) : EnvT S (putE e x v) (Γ ++ [(x, k)]) := fun y k' hm => by
  rcases List.mem_append.mp hm with hm | hm
  · obtain ⟨u, h1, h2⟩ := h y k' hm
    exact ⟨u, by rw [lookE_put_ne (hf _ hm)]; exact h1, h2⟩
  · cases List.mem_singleton.mp hm
    exact ⟨v, lookE_put_same _ _ _, hv⟩
theorem EnvT.binds {S : List Kd} : ∀ {ps : List (Int × Kd)} {vs : List MV} {e : Ev} {Γ : Ga}, EnvT S e Γ → ParT Γ ps → VTs S vs (ps.map (·.2)) → EnvT S (binds e ps vs) (Γ ++ ps)
  | [], _, e, Γ, h, _, hv => by cases hv; rw [List.append_nil]; exact h
  | p :: ps, _, e, Γ, h, .cons hf ht, .cons hv r => by
    rw [show Γ ++ p :: ps = (Γ ++ [p]) ++ ps by simp]
    exact EnvT.binds (h.put hf hv) ht r
theorem EnvT.sub {S : List Kd} {e : Ev} {Γ Γ' : Ga} (h : EnvT S e Γ) (hs : ∀ q ∈ Γ', q ∈ Γ) : EnvT S e Γ' := fun x k hm => h x k (hs _ hm)
end Md

/-! CL, part w6: a step of a run that keeps kinds -/
namespace Md
open CL
def ThT (T : Sg) (S : List Kd) (ts : List Thing) : Prop := ts.length = S.length ∧ ∀ (n : Nat) (k : Kd), S[n]? = some k → ∃ t, ts[n]? = some t ∧ TT T S t k
section
variable {T : Sg} {S : List Kd} {ts : List Thing} {v : MV}
theorem vt_num (h : ThT T S ts) (hv : VT S v .num) : ∃ i, v = .int i ∧ Num i := by
  cases hv with
  | int hi => exact ⟨_, rfl, hi⟩
  | ref hn => obtain ⟨t, _, ht⟩ := h.2 _ _ hn; cases ht
theorem vt_tru (h : ThT T S ts) (hv : VT S v .tru) : ∃ b, v = .bl b := by
  cases hv with
  | bl => exact ⟨_, rfl⟩
  | ref hn => obtain ⟨t, _, ht⟩ := h.2 _ _ hn; cases ht
theorem vt_rc {r : PySem.Str} (h : ThT T S ts) (hv : VT S v (.rc r)) : ∃ n ws ks, v = .ref n ∧ S[n]? = some (.rc r) ∧ ts[n]? = some (.cells ws) ∧ (r, ks) ∈ T.rc ∧ VTs S ws ks := by
  cases hv with
  | ref hn =>
    obtain ⟨t, h1, ht⟩ := h.2 _ _ hn
    cases ht with
    | rc h2 h3 => exact ⟨_, _, _, rfl, hn, h1, h2, h3⟩
theorem vt_row {k : Kd} (h : ThT T S ts) (hv : VT S v (.row k)) : ∃ n ws, v = .ref n ∧ S[n]? = some (.row k) ∧ ts[n]? = some (.cells ws) ∧ (∀ u ∈ ws, VT S u k) ∧ ws.length ≤ 60 := by
  cases hv with
  | ref hn =>
    obtain ⟨t, h1, ht⟩ := h.2 _ _ hn
    cases ht with
    | row h2 h3 => exact ⟨_, _, rfl, hn, h1, h2, h3⟩
theorem vt_fn {ps : List Kd} {k : Kd} (h : ThT T S ts) (hv : VT S v (.fn ps k)) : ∃ n f ws ks, v = .ref n ∧ ts[n]? = some (.clo f ws) ∧ (f, ks ++ ps, k) ∈ T.fn ∧ VTs S ws ks := by
  cases hv with
  | ref hn =>
    obtain ⟨t, h1, ht⟩ := h.2 _ _ hn
    cases ht with
    | clo h2 h3 => exact ⟨_, _, _, _, rfl, h1, h2, h3⟩
end
def FaultW (w : PySem.Str) : Prop := w = "nought" ∨ w = "place" ∨ w = "great" ∨ w = "fail" ∨ w = "lack"
inductive ActT (T : Sg) (S : List Kd) (kd : Option Kd) : Act → Prop
  | give {v : MV} {k : Kd} (e : kd = some k) (h : VT S v k) : ActT T S kd (.give v)
  | new {t : Thing} {k : Kd} (e : kd = some k) (h : TT T S t k) : ActT T S kd (.new t)
  | fault {w : PySem.Str} (h : FaultW w) : ActT T S kd (.fault w)
  | tick (e : kd = none) : ActT T S kd .tick
  | tell {i : Int} (e : kd = none) (h : Num i) : ActT T S kd (.tell (.int i))
  | upd {n : Nat} {t : Thing} {k : Kd} (e : kd = none) (hn : S[n]? = some k) (h : TT T S t k) : ActT T S kd (.upd n t)
  | call {f : PySem.Str} {vs : List MV} {ps : List Kd} {k : Kd} (e : kd = some k) (h : (f, ps, k) ∈ T.fn) (t : VTs S vs ps) : ActT T S kd (.call f vs)
theorem mul_ok {a b : Int} (ha : Num a) : mulOk a b = true := mulOk_left (by unfold Num at ha; omega)
theorem fmod_num {a b : Int} (ha : Num a) (hb : Num b) (h0 : b ≠ 0) : Num (a.fmod b) := by
  unfold Num at *
  rcases Int.lt_trichotomy b 0 with h | h | h
  · have h2 : a.fmod b = a - b * a.fdiv b := Int.fmod_def a b
    have h3 : a.fmod b ≤ 0 := by
      have := Int.fmod_nonneg_of_pos (-a) (b := -b) (by omega)
      rw [Int.neg_fmod_neg] at this; omega
    have h4 : b < a.fmod b := by
      have := Int.fmod_lt_of_pos (-a) (b := -b) (by omega)
      rw [Int.neg_fmod_neg] at this; omega
    omega
  · exact absurd h h0
  · have h3 := Int.fmod_nonneg_of_pos a h
    have h4 := Int.fmod_lt_of_pos a h
    omega
theorem act_ok {T : Sg} {S : List Kd} {ts : List Thing} (th : ThT T S ts) (rcF : ∀ r ks ks', (r, ks) ∈ T.rc → (r, ks') ∈ T.rc → ks = ks') {op : Op} {more : More} {ks : List Kd} {kd : Option Kd} {vs : List MV} (ho : OpT T op more ks kd) (hv : VTs S vs ks) :
    ∃ a, actO ts op more vs = some a ∧ ActT T S kd a ∧ (op = .tick → a = .tick) := by
  cases ho with
  | number h => cases hv; exact ⟨_, rfl, .give rfl (.int h), nofun⟩
  | truth => cases hv; exact ⟨_, rfl, .give rfl .bl, nofun⟩
  | nums h =>
    obtain _ | ⟨h1, _ | ⟨h2, _ | _⟩⟩ := hv
    obtain ⟨a, rfl, ha⟩ := vt_num th h1
    obtain ⟨b, rfl, hb⟩ := vt_num th h2
    rcases h with rfl | rfl | rfl | rfl | rfl
    · exact ⟨_, rfl, .give rfl (.int (br_num _)), nofun⟩
    · exact ⟨_, rfl, .give rfl (.int (br_num _)), nofun⟩
    · exact ⟨_, by show (if mulOk a b = true then _ else _) = _; rw [if_pos (mul_ok ha)], .give rfl (.int (br_num _)), nofun⟩
    · by_cases h0 : b = 0
      · exact ⟨_, by show (if b = 0 then _ else _) = _; rw [if_pos h0], .fault (.inl rfl), nofun⟩
      · exact ⟨_, by show (if b = 0 then _ else if b.natAbs < 18446744073709551616 then _ else _) = _; rw [if_neg h0, if_pos (by unfold Num at hb; omega)], .give rfl (.int (br_num _)), nofun⟩
    · by_cases h0 : b = 0
      · exact ⟨_, by show (if b = 0 then _ else _) = _; rw [if_pos h0], .fault (.inl rfl), nofun⟩
      · exact ⟨_, by show (if b = 0 then _ else _) = _; rw [if_neg h0], .give rfl (.int (fmod_num ha hb h0)), nofun⟩
  | cmps h =>
    obtain _ | ⟨h1, _ | ⟨h2, _ | _⟩⟩ := hv
    obtain ⟨a, rfl, ha⟩ := vt_num th h1
    obtain ⟨b, rfl, hb⟩ := vt_num th h2
    rcases h with rfl | rfl <;> exact ⟨_, rfl, .give rfl .bl, nofun⟩
  | trus h =>
    obtain _ | ⟨h1, _ | ⟨h2, _ | _⟩⟩ := hv
    obtain ⟨a, rfl⟩ := vt_tru th h1
    obtain ⟨b, rfl⟩ := vt_tru th h2
    rcases h with rfl | rfl <;> exact ⟨_, rfl, .give rfl .bl, nofun⟩
  | not =>
    obtain _ | ⟨h1, _ | _⟩ := hv
    obtain ⟨a, rfl⟩ := vt_tru th h1
    exact ⟨_, rfl, .give rfl .bl, nofun⟩
  | long =>
    obtain _ | ⟨h1, _ | _⟩ := hv
    obtain ⟨n, ws, rfl, hS, ht, hw, hl⟩ := vt_row th h1
    refine ⟨.give (.int ws.length), ?_, .give rfl (.int (by unfold Num; omega)), nofun⟩
    simp only [actO, onCells, ht]
  | close h hl => exact ⟨_, rfl, .new rfl (.clo h hv), nofun⟩
  | cell h hi =>
    obtain _ | ⟨h1, _ | _⟩ := hv
    obtain ⟨n, ws, ks', rfl, hS, ht, hr, hw⟩ := vt_rc th h1
    obtain rfl := rcF _ _ _ h hr
    obtain ⟨u, h3, h4⟩ := hw.get hi
    refine ⟨.give u, ?_, .give rfl h4, nofun⟩
    simp only [actO, onCells, ht]
    rw [if_pos (by omega), Int.toNat_natCast, h3]; rfl
  | store h hi =>
    obtain _ | ⟨h1, _ | ⟨h2, _ | _⟩⟩ := hv
    obtain ⟨n, ws, ks', rfl, hS, ht, hr, hw⟩ := vt_rc th h1
    obtain rfl := rcF _ _ _ h hr
    obtain ⟨u, h3, h4⟩ := hw.get hi
    refine ⟨.upd n (.cells (ws.set _ _)), ?_, .upd rfl hS (.rc h (hw.set hi h2)), nofun⟩
    simp only [actO, onCells, ht]
    have := (List.getElem?_eq_some_iff.mp h3).1
    rw [if_pos (by omega), Int.toNat_natCast]
  | get =>
    obtain _ | ⟨h1, _ | ⟨h2, _ | _⟩⟩ := hv
    obtain ⟨n, ws, rfl, hS, ht, hw, hl⟩ := vt_row th h1
    obtain ⟨i, rfl, hi⟩ := vt_num th h2
    by_cases h : 0 ≤ i ∧ i < ws.length
    · have hlt : i.toNat < ws.length := by omega
      refine ⟨.give ws[i.toNat], ?_, .give rfl (hw _ (List.getElem_mem hlt)), nofun⟩
      simp only [actO, onCells, ht]
      rw [if_pos h, List.getElem?_eq_getElem hlt]; rfl
    · refine ⟨.fault "place", ?_, .fault (.inr (.inl rfl)), nofun⟩
      simp only [actO, onCells, ht]
      rw [if_neg h]
  | set =>
    obtain _ | ⟨h1, _ | ⟨h2, _ | ⟨h3, _ | _⟩⟩⟩ := hv
    obtain ⟨n, ws, rfl, hS, ht, hw, hl⟩ := vt_row th h1
    obtain ⟨i, rfl, hi⟩ := vt_num th h2
    rename_i u
    by_cases h : 0 ≤ i ∧ i < ws.length
    · refine ⟨.upd n (.cells (ws.set i.toNat u)), ?_, .upd rfl hS (.row (fun y hy => ?_) (by rw [List.length_set]; exact hl)), nofun⟩
      · simp only [actO, onCells, ht]
        rw [if_pos h]
      · rcases List.mem_or_eq_of_mem_set hy with hy | rfl
        · exact hw y hy
        · exact h3
    · refine ⟨.fault "place", ?_, .fault (.inr (.inl rfl)), nofun⟩
      simp only [actO, onCells, ht]
      rw [if_neg h]
  | make h => exact ⟨_, rfl, .new rfl (.rc h hv), nofun⟩
  | fill =>
    obtain _ | ⟨h1, _ | ⟨h2, _ | _⟩⟩ := hv
    obtain ⟨i, rfl, hi⟩ := vt_num th h1
    rename_i u
    by_cases h : 0 ≤ i ∧ i ≤ 60
    · refine ⟨.new (.cells (List.replicate i.toNat u)), ?_, .new rfl (.row (fun y hy => ?_) (by rw [List.length_replicate]; omega)), nofun⟩
      · simp only [actO]
        rw [if_pos h]
      · rw [List.eq_of_mem_replicate hy]; exact h2
    · refine ⟨.fault "great", ?_, .fault (.inr (.inr (.inl rfl))), nofun⟩
      simp only [actO]
      rw [if_neg h]
  | call h => exact ⟨_, rfl, .call rfl h hv, nofun⟩
  | ask =>
    obtain _ | ⟨h1, h2⟩ := hv
    obtain ⟨n, f, ws, ks', rfl, ht, hf, hw⟩ := vt_fn th h1
    refine ⟨.call f (ws ++ _), ?_, .call rfl hf (hw.append h2), nofun⟩
    simp only [actO, ht]
  | tell =>
    obtain _ | ⟨h1, _ | _⟩ := hv
    obtain ⟨i, rfl, hi⟩ := vt_num th h1
    exact ⟨_, rfl, .tell rfl hi, nofun⟩
  | tick => cases hv; exact ⟨_, rfl, .tick rfl, fun _ => rfl⟩
end Md

/-! CL, part w7: a run that keeps kinds comes to an end -/
namespace Md
open CL
/-- a frame's place: what is known there, and how many steps are left at most until a tick, a give or a fault -/
structure PosT (T : Sg) (C : Nat) (kd : Kd) (u : Nat) (f : Fr) (Γ : Ga) : Prop where
  ex : ∃ pl rk Γ', BlocksT T pl kd f.blocks ∧ RowsT T Γ (f.block.rows.drop f.at') Γ' ∧ EndT pl rk kd Γ' f.block.en ∧
    ((f.at' = 0 ∧ tkRow f.block.rows = true ∧ u = 0) ∨ u = pot rk pl f.blocks + (f.block.rows.length - f.at') + 1) ∧ pot rk pl f.blocks + f.block.rows.length + 1 ≤ total f.blocks
  sz : total f.blocks + 1 ≤ C
inductive RestT (T : Sg) (S : List Kd) (C : Nat) : Kd → Option Int → List Fr → Nat → Prop
  | nil {t : Option Int} : RestT T S C .num t [] 0
  | cons {kd kd' : Kd} {x : Int} {g : Fr} {gs : List Fr} {u v : Nat} {Γ : Ga} (f : Fresh Γ x) (e : EnvT S g.env Γ) (p : PosT T C kd' u g (Γ ++ [(x, kd)])) (r : RestT T S C kd' g.tgt gs v) : RestT T S C kd (some x) (g :: gs) (u + v)
theorem RestT.up {T : Sg} {S S' : List Kd} {C : Nat} : ∀ {kd : Kd} {t : Option Int} {fs : List Fr} {v : Nat}, RestT T S C kd t fs v → RestT T (S ++ S') C kd t fs v
  | _, _, _, _, .nil => .nil
  | _, _, _, _, .cons f e p r => .cons f e.up p r.up
structure StT (T : Sg) (C : Nat) (S : List Kd) (s : MS) (P : Nat) : Prop where
  th : ThT T S s.things
  told : ∀ v ∈ s.told, ∃ i, v = .int i ∧ Num i
  tk : 0 ≤ s.ticks
  fr : ∃ f rest kd u v Γ, s.frames = f :: rest ∧ PosT T C kd u f Γ ∧ EnvT S f.env Γ ∧ RestT T S C kd f.tgt rest v ∧ P = s.ticks.toNat * C + u + v
theorem th_new {T : Sg} {S : List Kd} {ts : List Thing} {t : Thing} {k : Kd} (h : ThT T S ts) (ht : TT T S t k) : ThT T (S ++ [k]) (ts ++ [t]) := by
  refine ⟨by simp [h.1], fun n k' e => ?_⟩
  by_cases hn : n < S.length
  · rw [List.getElem?_append_left hn] at e
    obtain ⟨u, h1, h2⟩ := h.2 n k' e
    exact ⟨u, by rw [List.getElem?_append_left (by rw [h.1]; exact hn)]; exact h1, h2.up⟩
  · rw [List.getElem?_append_right (by omega)] at e
    have : n - S.length = 0 := by
      have := (List.getElem?_eq_some_iff.mp e).1
      simpa using this
    rw [this] at e
    simp at e
    subst e
    exact ⟨t, by rw [List.getElem?_append_right (by rw [h.1]; omega), h.1, this]; rfl, ht.up⟩
theorem th_set {T : Sg} {S : List Kd} {ts : List Thing} {t : Thing} {k : Kd} {n : Nat} (h : ThT T S ts) (hn : S[n]? = some k) (ht : TT T S t k) : ThT T S (ts.set n t) := by
  refine ⟨by simp [h.1], fun j k' e => ?_⟩
  by_cases hj : n = j
  · subst hj
    rw [hn] at e; cases e
    refine ⟨t, ?_, ht⟩
    rw [List.getElem?_set_self (by rw [h.1]; exact (List.getElem?_eq_some_iff.mp hn).1)]
  · obtain ⟨u, h1, h2⟩ := h.2 j k' e
    exact ⟨u, by rw [List.getElem?_set_ne hj]; exact h1, h2⟩
theorem mul_pred {t : Int} {C : Nat} (h0 : 0 ≤ t) (h : t ≠ 0) : (t - 1).toNat * C + C = t.toNat * C := by
  have : t.toNat = (t - 1).toNat + 1 := by omega
  rw [this, Nat.succ_mul]
/-- a block is gone to -/
theorem goes_ok {T : Sg} {pl : Plan} {kd : Kd} {C rk : Nat} {Γ : Ga} {S : List Kd} {fr : Fr} {b : Nat} {ks : List Kd} {vs : List MV} (hb : BlocksT T pl kd fr.blocks) (hsz : total fr.blocks + 1 ≤ C) (he : EnvT S fr.env Γ) (hg : Goes pl rk Γ b ks) (hv : VTs S vs ks) :
    ∃ f u Γ2, fr.enter b vs = some f ∧ f.tgt = fr.tgt ∧ PosT T C kd u f Γ2 ∧ EnvT S f.env Γ2 ∧ u ≤ pot rk pl fr.blocks := by
  obtain ⟨p, hp, hks, hsub, hr⟩ := hg
  obtain ⟨k, hk, hB⟩ := hb _ _ hp
  obtain ⟨Γ', hrows, hend⟩ := hB.body
  have hpar := hB.par
  have hen : EnvT S (binds fr.env k.params vs) (p.env ++ k.params) := EnvT.binds (he.sub hsub) hB.pt (by rw [hpar, hks]; exact hv)
  have htot := pot_at_total hp hk
  cases htk : p.tk with
  | true =>
    refine ⟨{ fr with env := binds fr.env k.params vs, block := k, at' := 0 }, 0, _, by unfold Fr.enter; rw [hk], rfl, ⟨⟨pl, p.rank, Γ', hb, hrows, hend, .inl ⟨rfl, hB.tk htk, rfl⟩, htot⟩, hsz⟩, hen, Nat.zero_le _⟩
  | false =>
    have hlt : p.rank < rk := by
      rcases hr with hr | hr
      · rw [htk] at hr; cases hr
      · exact hr
    refine ⟨{ fr with env := binds fr.env k.params vs, block := k, at' := 0 }, _, _, by unfold Fr.enter; rw [hk], rfl, ⟨⟨pl, p.rank, Γ', hb, hrows, hend, .inr rfl, htot⟩, hsz⟩, hen, ?_⟩
    exact pot_at hp hk hlt
theorem step_ok {T : Sg} {m : Mid} {C : Nat} (M : MidT T m C) (rcF : ∀ r ks ks', (r, ks) ∈ T.rc → (r, ks') ∈ T.rc → ks = ks') {S : List Kd} {s : MS} {P : Nat} (h : StT T C S s P) :
    (∃ s' o, step m s = some (s', some o) ∧ OutOk o ∧ ∀ v ∈ s'.told, ∃ i, v = .int i ∧ Num i) ∨ ∃ s1 S' P', step m s = some (s1, none) ∧ StT T C S' s1 P' ∧ P' < P := by
  obtain ⟨th, told, tk, fr, rest, kd, u, v, Γ, efr, hp, he, hr, rfl⟩ := h
  obtain ⟨pl, rk, Γ', hbs, hrows, hend, hu, htot⟩ := hp.ex
  have hsz := hp.sz
  unfold step
  rw [efr]
  simp only
  cases erow : fr.block.rows[fr.at']? with
  | some row =>
    simp only
    have hlt := (List.getElem?_eq_some_iff.mp erow).1
    have hdrop : fr.block.rows.drop fr.at' = row :: fr.block.rows.drop (fr.at' + 1) := by
      rw [List.drop_eq_getElem_cons hlt, (List.getElem?_eq_some_iff.mp erow).2]
    rw [hdrop] at hrows
    obtain _ | ⟨hrow, hrows⟩ := hrows
    obtain ⟨ha, ho, hx, hf⟩ := hrow
    obtain ⟨vs, hl, hvs⟩ := he.args ha
    obtain ⟨a, hact, hat, htick⟩ := act_ok th rcF ho hvs
    rw [hl]; simp only
    rw [hact]; simp only
    -- the frame behind the row
    have pos : ∀ e', PosT T C kd (pot rk pl fr.blocks + (fr.block.rows.length - (fr.at' + 1)) + 1) { fr with env := e', at' := fr.at' + 1 } (rowG Γ row.x row.kd) := fun e' => ⟨⟨pl, rk, Γ', hbs, hrows, hend, .inr rfl, htot⟩, hsz⟩
    have uu : row.op ≠ .tick → pot rk pl fr.blocks + (fr.block.rows.length - (fr.at' + 1)) + 1 < u := fun hop => by
      rcases hu with ⟨h0, ht, _⟩ | hu
      · exfalso
        rw [h0] at erow
        cases hrs : fr.block.rows with
        | nil => rw [hrs] at erow; cases erow
        | cons r0 rs =>
          rw [hrs] at erow ht
          simp at erow
          subst erow
          exact hop (of_decide_eq_true ht)
      · omega
    cases hat with
    | give e hv =>
      rename_i w k
      have nt : row.op ≠ .tick := fun z => by cases htick z
      rw [e] at hx
      cases ex : row.x with
      | none => rw [ex] at hx; cases hx
      | some x =>
        have hp' := pos (putE fr.env x w)
        rw [ex, e] at hp'
        refine .inr ⟨{ s with frames := { fr with env := putE fr.env x w, at' := fr.at' + 1 } :: rest }, S, _, by simp only [actDo], ⟨th, told, tk, _, rest, kd, _, v, _, rfl, hp', he.put (hf x ex) hv, hr, rfl⟩, ?_⟩
        have := uu nt
        show s.ticks.toNat * C + _ + v < s.ticks.toNat * C + u + v
        omega
    | new e ht =>
      rename_i t k
      have nt : row.op ≠ .tick := fun z => by cases htick z
      rw [e] at hx
      cases ex : row.x with
      | none => rw [ex] at hx; cases hx
      | some x =>
        have hp' := pos (putE fr.env x (.ref s.things.length))
        rw [ex, e] at hp'
        refine .inr ⟨{ s with things := s.things ++ [t], frames := { fr with env := putE fr.env x (.ref s.things.length), at' := fr.at' + 1 } :: rest }, S ++ [k], _, by simp only [actDo], ⟨th_new th ht, told, tk, _, rest, kd, _, v, _, rfl, hp', he.up.put (hf x ex) (.ref ?_), hr.up, rfl⟩, ?_⟩
        · rw [th.1, List.getElem?_append_right (Nat.le_refl _), Nat.sub_self]; rfl
        · have := uu nt
          show s.ticks.toNat * C + _ + v < s.ticks.toNat * C + u + v
          omega
    | fault hw =>
      refine .inl ⟨{ s with frames := { fr with at' := fr.at' + 1 } :: rest }, .fault _ row.line, by cases row.x <;> simp only [actDo], hw, told⟩
    | tick e =>
      by_cases h0 : s.ticks = 0
      · exact .inl ⟨{ s with frames := { fr with at' := fr.at' + 1 } :: rest }, .tired, by cases row.x <;> (simp only [actDo]; rw [if_pos h0]), trivial, told⟩
      · have hp' := pos fr.env
        rw [e] at hp'
        have eg : rowG Γ row.x none = Γ := by cases row.x <;> rfl
        rw [eg] at hp'
        refine .inr ⟨{ s with ticks := s.ticks - 1, frames := { fr with at' := fr.at' + 1 } :: rest }, S, _, by cases row.x <;> (simp only [actDo]; rw [if_neg h0]), ⟨th, told, by show 0 ≤ s.ticks - 1; omega, _, rest, kd, _, v, _, rfl, hp', he, hr, rfl⟩, ?_⟩
        show (s.ticks - 1).toNat * C + _ + v < s.ticks.toNat * C + u + v
        have := mul_pred (C := C) tk h0
        omega
    | tell e hi =>
      rename_i i
      have nt : row.op ≠ .tick := fun z => by cases htick z
      have hp' := pos fr.env
      rw [e] at hp'
      have eg : rowG Γ row.x none = Γ := by cases row.x <;> rfl
      rw [eg] at hp'
      refine .inr ⟨{ s with told := s.told ++ [.int i], frames := { fr with at' := fr.at' + 1 } :: rest }, S, _, by cases row.x <;> simp only [actDo], ⟨th, fun w hw => ?_, tk, _, rest, kd, _, v, _, rfl, hp', he, hr, rfl⟩, ?_⟩
      · rcases List.mem_append.mp hw with hw | hw
        · exact told w hw
        · cases List.mem_singleton.mp hw; exact ⟨i, rfl, hi⟩
      · have := uu nt
        show s.ticks.toNat * C + _ + v < s.ticks.toNat * C + u + v
        omega
    | upd e hn ht =>
      rename_i j t k
      have nt : row.op ≠ .tick := fun z => by cases htick z
      have hp' := pos fr.env
      rw [e] at hp'
      have eg : rowG Γ row.x none = Γ := by cases row.x <;> rfl
      rw [eg] at hp'
      refine .inr ⟨{ s with things := s.things.set j t, frames := { fr with at' := fr.at' + 1 } :: rest }, S, _, by cases row.x <;> simp only [actDo], ⟨th_set th hn ht, told, tk, _, rest, kd, _, v, _, rfl, hp', he, hr, rfl⟩, ?_⟩
      have := uu nt
      show s.ticks.toNat * C + _ + v < s.ticks.toNat * C + u + v
      omega
    | call e hf' hvs' =>
      rename_i f ws ps k
      have nt : row.op ≠ .tick := fun z => by cases htick z
      rw [e] at hx
      cases ex : row.x with
      | none => rw [ex] at hx; cases hx
      | some x =>
        obtain ⟨g, hg, hgk, ⟨plg, hbg, rg, hp0⟩⟩ := M.sg f ps k hf'
        obtain ⟨k0, hk0, hB⟩ := hbg _ _ hp0
        obtain ⟨Γ2, hrows2, hend2⟩ := hB.body
        have hgm := List.mem_of_find?_eq_some hg
        have hp' := pos fr.env
        rw [ex, e] at hp'
        have hen : EnvT S (binds [] k0.params ws) ([] ++ k0.params) := EnvT.binds (fun y ky hm => by simp at hm) hB.pt (by rw [hB.par]; exact hvs')
        refine .inr ⟨{ s with frames := ⟨g.blocks, binds [] k0.params ws, some x, k0, 0⟩ :: { fr with at' := fr.at' + 1 } :: rest }, S, _, by simp only [actDo, begin_, hg, hk0, Option.map], ⟨th, told, tk, ⟨g.blocks, binds [] k0.params ws, some x, k0, 0⟩, _, k, 0, _, _, rfl, ⟨⟨plg, rg, Γ2, by rw [← hgk]; exact hbg, hrows2, by rw [← hgk]; exact hend2, .inl ⟨rfl, hB.tk rfl, rfl⟩, pot_at_total (p := ⟨[], ps, rg, true⟩) hp0 hk0⟩, M.size g hgm⟩, hen, .cons (hf x ex) he hp' hr, rfl⟩, ?_⟩
        have := uu nt
        show s.ticks.toNat * C + 0 + (_ + v) < s.ticks.toNat * C + u + v
        omega
  | none =>
    simp only
    have hge : fr.block.rows.length ≤ fr.at' := List.getElem?_eq_none_iff.mp erow
    rw [List.drop_of_length_le hge] at hrows
    cases hrows
    have hu' : pot rk pl fr.blocks + 1 ≤ u := by
      rcases hu with ⟨h0, ht, _⟩ | hu
      · exfalso
        rw [h0] at hge
        have : fr.block.rows = [] := List.eq_nil_of_length_eq_zero (by omega)
        rw [this] at ht; cases ht
      · omega
    cases een : fr.block.en with
    | give x =>
      rw [een] at hend
      obtain _ | _ | hm | _ := hend
      obtain ⟨w, hw, hwt⟩ := he x kd hm
      simp only [endDo, hw]
      generalize etgt : fr.tgt = tg at hr
      cases hr with
      | nil =>
        obtain ⟨i, rfl, hi⟩ := vt_num th hwt
        exact .inl ⟨_, _, rfl, trivial, told⟩
      | cons hfr heg hpg hrg =>
        rename_i kd' x' g gs u' v' Γ0
        refine .inr ⟨{ s with frames := { g with env := putE g.env x' w } :: gs }, S, _, by simp only [etgt], ⟨th, told, tk, _, _, _, u', _, _, rfl, ?_, heg.put hfr hwt, hrg, rfl⟩, ?_⟩
        · obtain ⟨⟨a1, a2, a3, a4, a5, a6, a7, a8⟩, a9⟩ := hpg
          exact ⟨⟨a1, a2, a3, a4, a5, a6, a7, a8⟩, a9⟩
        · show s.ticks.toNat * C + _ + _ < s.ticks.toNat * C + u + (_ + _)
          omega
    | fail w l =>
      rw [een] at hend
      obtain _ | _ | _ | hw := hend
      exact .inl ⟨_, _, rfl, (by rcases hw with rfl | rfl <;> simp [OutOk]), told⟩
    | jump b args =>
      rw [een] at hend
      obtain ⟨ha, hg⟩ | _ | _ | _ := hend
      obtain ⟨vs, hl, hvs⟩ := he.args ha
      obtain ⟨f, u2, Γ2, h1, h2, h3, h4, h5⟩ := goes_ok hbs hsz he hg hvs
      refine .inr ⟨{ s with frames := f :: rest }, S, _, by simp only [endDo, hl, h1, Option.map], ⟨th, told, tk, f, rest, kd, u2, v, Γ2, rfl, h3, h4, by rw [h2]; exact hr, rfl⟩, ?_⟩
      show s.ticks.toNat * C + _ + _ < s.ticks.toNat * C + u + v
      omega
    | branch x b c =>
      rw [een] at hend
      obtain _ | ⟨hm, hg, hg'⟩ | _ | _ := hend
      obtain ⟨w, hw, hwt⟩ := he x .tru hm
      obtain ⟨t, rfl⟩ := vt_tru th hwt
      have hgg : Goes pl rk Γ (if t then b else c) [] := by cases t <;> assumption
      obtain ⟨f, u2, Γ2, h1, h2, h3, h4, h5⟩ := goes_ok hbs hsz he hgg .nil
      refine .inr ⟨{ s with frames := f :: rest }, S, _, by simp only [endDo, hw, h1, Option.map], ⟨th, told, tk, f, rest, kd, u2, v, Γ2, rfl, h3, h4, by rw [h2]; exact hr, rfl⟩, ?_⟩
      show s.ticks.toNat * C + _ + _ < s.ticks.toNat * C + u + v
      omega
/-- a run that keeps kinds comes to an end -/
theorem runs_ok {T : Sg} {m : Mid} {C : Nat} (M : MidT T m C) (rcF : ∀ r ks ks', (r, ks) ∈ T.rc → (r, ks') ∈ T.rc → ks = ks') : ∀ (P : Nat) (S : List Kd) (s : MS), StT T C S s P →
    ∃ n s' o, n ≤ P + 1 ∧ Runs m n s s' o ∧ OutOk o ∧ ∀ v ∈ s'.told, ∃ i, v = .int i ∧ Num i := by
  intro P
  induction P using Nat.strongRecOn with
  | _ P ih =>
    intro S s h
    rcases step_ok M rcF h with ⟨s', o, h1, h2, h3⟩ | ⟨s1, S', P', h1, h2, h3⟩
    · exact ⟨1, s', o, by omega, .last h1, h2, h3⟩
    · obtain ⟨n, s', o, h4, h5, h6, h7⟩ := ih P' h3 S' s1 h2
      exact ⟨n + 1, s', o, by omega, .more h1 h5, h6, h7⟩
/-- main's run -/
theorem main_ok {T : Sg} {m : Mid} {C : Nat} (M : MidT T m C) (rcF : ∀ r ks ks', (r, ks) ∈ T.rc → (r, ks') ∈ T.rc → ks = ks') {g : Fun} {ps : List Kd} (hg : (m.funs.find? fun g => decide (g.name = ("main" : PySem.Str))) = some g) (hk : g.kd = .num) (F : FunT T g ps) (hps : ∀ k ∈ ps, k = .num) {ins : List Int} (hi : ins.length = ps.length) (hn : ∀ i ∈ ins, Num i) {ti : Int} (ht : 0 ≤ ti) :
    ∃ k n s' o, g.blocks[0]? = some k ∧ k.params.length = ins.length ∧ n ≤ ti.toNat * C + 1 ∧ Runs m n ⟨[], [], ti, [⟨g.blocks, binds [] k.params (ins.map .int), none, k, 0⟩]⟩ s' o ∧ OutOk o ∧ ∀ v ∈ s'.told, ∃ i, v = .int i ∧ Num i := by
  obtain ⟨pl, hb, rg, hp0⟩ := F.ex
  obtain ⟨k0, hk0, hB⟩ := hb _ _ hp0
  obtain ⟨Γ2, hrows2, hend2⟩ := hB.body
  have hgm := List.mem_of_find?_eq_some hg
  have hvs : ∀ (ns : List Int) (qs : List Kd), ns.length = qs.length → (∀ k ∈ qs, k = .num) → (∀ i ∈ ns, Num i) → VTs [] (ns.map .int) qs := by
    intro ns
    induction ns with
    | nil => intro qs h _ _; cases qs with
      | nil => exact .nil
      | cons _ _ => cases h
    | cons a r ih => intro qs h h1 h2; cases qs with
      | nil => cases h
      | cons q qs =>
        rw [h1 q (by simp)]
        exact .cons (.int (h2 a (by simp))) (ih qs (by simpa using h) (fun k hk => h1 k (by simp [hk])) (fun i hi => h2 i (by simp [hi])))
  have hlen : k0.params.length = ps.length := by
    have := congrArg List.length hB.par
    simpa using this
  have hen : EnvT [] (binds [] k0.params (ins.map .int)) ([] ++ k0.params) := EnvT.binds (fun y ky hm => by simp at hm) hB.pt (by rw [hB.par]; exact hvs ins ps hi hps hn)
  have st : StT T C [] ⟨[], [], ti, [⟨g.blocks, binds [] k0.params (ins.map .int), none, k0, 0⟩]⟩ (ti.toNat * C + 0 + 0) :=
    ⟨⟨rfl, fun n k e => by simp at e⟩, fun v hv => by simp at hv, ht, _, [], .num, 0, 0, _, rfl, ⟨⟨pl, rg, Γ2, by rw [← hk]; exact hb, hrows2, by rw [← hk]; exact hend2, .inl ⟨rfl, hB.tk rfl, rfl⟩, pot_at_total (p := ⟨[], ps, rg, true⟩) hp0 hk0⟩, M.size g hgm⟩, hen, .nil, rfl⟩
  obtain ⟨n, s', o, h1, h2, h3, h4⟩ := runs_ok M rcF _ _ _ st
  exact ⟨k0, n, s', o, hk0, by rw [hlen, hi], by simpa using h1, h2, h3, h4⟩
end Md

/-! CL, part w8: middles as laws make them: a state that is filled row by row, and what of it keeps kinds -/
namespace Md
open CL
structure Gs where
  blocks : List (Option Block)
  now : Nat
  rows : List Row
  params : List (Int × Kd)
  env : Ga
  next : Int
  line : Int
def named (n : Int) : List Kd → List (Int × Kd)
  | [] => []
  | k :: r => (n, k) :: named (n + 1) r
theorem named_len : ∀ (ks : List Kd) (n : Int), (named n ks).length = ks.length
  | [], _ => rfl
  | k :: r, n => by unfold named; rw [List.length_cons, List.length_cons, named_len r]
theorem named_kinds : ∀ (ks : List Kd) (n : Int), (named n ks).map (·.2) = ks
  | [], _ => rfl
  | k :: r, n => by unfold named; rw [List.map_cons, named_kinds r]
theorem named_lt : ∀ (ks : List Kd) (n : Int) (q : Int × Kd), q ∈ named n ks → n ≤ q.1 ∧ q.1 < n + ks.length
  | [], n, q, h => by cases h
  | k :: r, n, q, h => by
    unfold named at h
    rcases List.mem_cons.mp h with rfl | h
    · simp only [List.length_cons]; constructor <;> (show (_ : Int) ≤ _ ; simp) ; omega
    · have := named_lt r (n + 1) q h
      simp only [List.length_cons]; omega
def Gs.put (S : Gs) (kd : Option Kd) (op : Op) (args : List Int) (more : More) : Gs := match kd with
  | some k => { S with next := S.next + 1, env := S.env ++ [(S.next, k)], line := S.line + 1, rows := S.rows ++ [⟨some S.next, some k, op, args, more, S.line + 1⟩] }
  | none => { S with line := S.line + 1, rows := S.rows ++ [⟨none, none, op, args, more, S.line + 1⟩] }
def Gs.beg (S : Gs) (at' : Nat) (ks : List Kd) : Gs := { S with now := at', rows := [], params := named S.next ks, env := S.env ++ named S.next ks, next := S.next + ks.length }
def Gs.fin (S : Gs) (en : End) : Gs := { S with blocks := S.blocks.set S.now (some ⟨S.params, S.rows, en⟩) }
def Gs.opn (S : Gs) : Gs := { S with blocks := S.blocks ++ [none] }
def sumR : List (Option Block) → Nat
  | [] => 0
  | none :: r => sumR r
  | some b :: r => b.rows.length + sumR r
theorem sumR_snoc : ∀ bs : List (Option Block), sumR (bs ++ [none]) = sumR bs
  | [] => rfl
  | none :: r => sumR_snoc r
  | some b :: r => by rw [List.cons_append, sumR, sumR, sumR_snoc r]
theorem sumR_set (b : Block) : ∀ (bs : List (Option Block)) (i : Nat), sumR (bs.set i (some b)) ≤ sumR bs + b.rows.length
  | [], i => by simp [sumR]
  | none :: r, 0 => by rw [List.set_cons_zero, sumR, sumR]; omega
  | some c :: r, 0 => by rw [List.set_cons_zero, sumR, sumR]; omega
  | none :: r, i + 1 => by rw [List.set_cons_succ, sumR, sumR]; exact sumR_set b r i
  | some c :: r, i + 1 => by rw [List.set_cons_succ, sumR, sumR]; have := sumR_set b r i; omega
/-! ### plans grow -/
def PlLe (pl pl' : Plan) : Prop := ∀ i p, pl i = some p → pl' i = some p
theorem PlLe.refl (pl : Plan) : PlLe pl pl := fun _ _ h => h
theorem PlLe.trans {a b c : Plan} (h : PlLe a b) (k : PlLe b c) : PlLe a c := fun i p e => k i p (h i p e)
theorem Goes.up {pl pl' : Plan} {rk : Nat} {Γ : Ga} {b : Nat} {ks : List Kd} (l : PlLe pl pl') (h : Goes pl rk Γ b ks) : Goes pl' rk Γ b ks := by
  obtain ⟨p, h1, h2⟩ := h
  exact ⟨p, l b p h1, h2⟩
theorem EndT.up {pl pl' : Plan} {rk : Nat} {kd : Kd} {Γ : Ga} {e : End} (l : PlLe pl pl') (h : EndT pl rk kd Γ e) : EndT pl' rk kd Γ e := by
  cases h with
  | jump a g => exact .jump a (g.up l)
  | branch h g g' => exact .branch h (g.up l) (g'.up l)
  | give h => exact .give h
  | fail h => exact .fail h
theorem BlockT.up {T : Sg} {pl pl' : Plan} {kd : Kd} {p : Pl} {b : Block} (l : PlLe pl pl') (h : BlockT T pl kd p b) : BlockT T pl' kd p b := by
  obtain ⟨Γ', h1, h2⟩ := h.body
  exact ⟨h.par, h.pt, ⟨Γ', h1, h2.up l⟩, h.tk⟩
def plan (i : Nat) (p : Pl) (pl : Plan) : Plan := fun j => if j = i then some p else pl j
theorem plan_at {i : Nat} {p : Pl} {pl : Plan} : plan i p pl i = some p := if_pos rfl
theorem plan_ne {i j : Nat} {p : Pl} {pl : Plan} (h : j ≠ i) : plan i p pl j = pl j := if_neg h
theorem plan_le {i : Nat} {p : Pl} {pl : Plan} (h : pl i = none) : PlLe pl (plan i p pl) := fun j q e => by
  by_cases z : j = i
  · subst z; rw [h] at e; cases e
  · rw [plan_ne z]; exact e
def Done (T : Sg) (pl : Plan) (bs : List (Option Block)) (i : Nat) : Prop := ∃ b p, bs[i]? = some (some b) ∧ pl i = some p ∧ BlockT T pl .num p b
theorem Done.up {T : Sg} {pl pl' : Plan} {bs : List (Option Block)} {i : Nat} (l : PlLe pl pl') (h : Done T pl bs i) : Done T pl' bs i := by
  obtain ⟨b, p, h1, h2, h3⟩ := h
  exact ⟨b, p, h1, l i p h2, h3.up l⟩
/-- a block's parts are not too many -/
structure BlkB (b : Block) : Prop where
  par : b.params.length ≤ 14
  row : ∀ r ∈ b.rows, r.args.length ≤ 100
  jmp : ∀ c args, b.en = .jump c args → args.length ≤ 100
def AllB (bs : List (Option Block)) : Prop := ∀ (i : Nat) (b : Block), bs[i]? = some (some b) → BlkB b
theorem AllB.opn {bs : List (Option Block)} (h : AllB bs) : AllB (bs ++ [none]) := fun i b e => by
  by_cases z : i < bs.length
  · rw [List.getElem?_append_left z] at e; exact h i b e
  · rw [List.getElem?_append_right (by omega)] at e
    cases hk : i - bs.length with
    | zero => rw [hk] at e; cases e
    | succ k => rw [hk] at e; simp at e
theorem AllB.set {bs : List (Option Block)} {j : Nat} {c : Block} (h : AllB bs) (hc : BlkB c) : AllB (bs.set j (some c)) := fun i b e => by
  rw [List.getElem?_set] at e
  split at e
  · split at e
    · cases e; exact hc
    · cases e
  · exact h i b e
def EndB (en : End) : Prop := ∀ c args, en = .jump c args → args.length ≤ 100
/-- a block that is being filled -/
structure Gs.Open (T : Sg) (pl : Plan) (S : Gs) (rk : Nat) (U : List Nat) : Prop where
  now : S.now < S.blocks.length
  pln : ∀ i p, pl i = some p → i < S.blocks.length
  cur : ∃ p, pl S.now = some p ∧ p.rank = rk ∧ S.params.map (·.2) = p.ks ∧ ParT p.env S.params ∧ RowsT T (p.env ++ S.params) S.rows S.env ∧ (p.tk = true → tkRow S.rows = true)
  fin : ∀ i, i < S.blocks.length → i = S.now ∨ i ∈ U ∨ Done T pl S.blocks i
  env : ∀ q ∈ S.env, q.1 < S.next
  sum : (sumR S.blocks : Int) + S.rows.length ≤ S.line
  okP : S.params.length ≤ 14
  okR : ∀ r ∈ S.rows, r.args.length ≤ 100
  okB : AllB S.blocks
/-- one that has just been begun -/
structure Gs.Begun (T : Sg) (pl : Plan) (S : Gs) (p : Pl) (U : List Nat) : Prop where
  now : S.now < S.blocks.length
  pln : ∀ i p, pl i = some p → i < S.blocks.length
  cur : pl S.now = some p ∧ S.params.map (·.2) = p.ks ∧ ParT p.env S.params ∧ S.rows = [] ∧ S.env = p.env ++ S.params
  fin : ∀ i, i < S.blocks.length → i = S.now ∨ i ∈ U ∨ Done T pl S.blocks i
  env : ∀ q ∈ S.env, q.1 < S.next
  sum : (sumR S.blocks : Int) ≤ S.line
  okP : S.params.length ≤ 14
  okB : AllB S.blocks
/-- no block is being filled -/
structure Gs.Shut (T : Sg) (pl : Plan) (S : Gs) (U : List Nat) : Prop where
  pln : ∀ i p, pl i = some p → i < S.blocks.length
  fin : ∀ i, i < S.blocks.length → i ∈ U ∨ Done T pl S.blocks i
  env : ∀ q ∈ S.env, q.1 < S.next
  sum : (sumR S.blocks : Int) ≤ S.line
  okB : AllB S.blocks
theorem okR_snoc {rs : List Row} {r : Row} (h : ∀ r ∈ rs, r.args.length ≤ 100) (hr : r.args.length ≤ 100) : ∀ q ∈ rs ++ [r], q.args.length ≤ 100 := fun q hq => by
  rcases List.mem_append.mp hq with hq | hq
  · exact h q hq
  · cases List.mem_singleton.mp hq; exact hr
theorem RowsT.snoc {T : Sg} {r : Row} : ∀ {Γ Γ' : Ga} {rs : List Row}, RowsT T Γ rs Γ' → RowT T Γ' r → RowsT T Γ (rs ++ [r]) (rowG Γ' r.x r.kd)
  | _, _, _, .nil, h => .cons h .nil
  | _, _, _, .cons a t, h => .cons a (t.snoc h)
theorem tkRow_snoc {rs : List Row} {r : Row} (h : tkRow rs = true) : tkRow (rs ++ [r]) = true := by
  cases rs with
  | nil => cases h
  | cons a b => exact h
section
variable {T : Sg} {pl : Plan} {S : Gs} {rk : Nat} {U : List Nat}
theorem Gs.Open.put1 {k : Kd} {op : Op} {args : List Int} {more : More} {ks : List Kd} (h : S.Open T pl rk U) (a : ArgsT S.env args ks) (o : OpT T op more ks (some k)) (hl : args.length ≤ 100) : (S.put (some k) op args more).Open T pl rk U := by
  obtain ⟨p, h1, h2, h3, h4, h5, h6⟩ := h.cur
  refine ⟨h.now, h.pln, ⟨p, h1, h2, h3, h4, ?_, fun z => tkRow_snoc (h6 z)⟩, h.fin, fun q hq => ?_, ?_, h.okP, okR_snoc h.okR hl, h.okB⟩
  · exact h5.snoc (r := ⟨some S.next, some k, op, args, more, S.line + 1⟩) (.mk a o rfl fun x e => by cases e; exact fun q hq => Int.ne_of_lt (h.env q hq))
  · show q.1 < S.next + 1
    rcases List.mem_append.mp hq with hq | hq
    · have := h.env q hq; omega
    · cases List.mem_singleton.mp hq; show S.next < S.next + 1; omega
  · show (sumR S.blocks : Int) + ((S.rows ++ [_]).length : Nat) ≤ S.line + 1
    have := h.sum
    rw [List.length_append]; simp only [List.length_singleton]; push_cast; omega
theorem Gs.put_mem {k : Kd} {op : Op} {args : List Int} {more : More} : (S.next, k) ∈ (S.put (some k) op args more).env := by
  show (S.next, k) ∈ S.env ++ [(S.next, k)]
  simp
theorem Gs.Open.put0 {op : Op} {args : List Int} {more : More} {ks : List Kd} (h : S.Open T pl rk U) (a : ArgsT S.env args ks) (o : OpT T op more ks none) (hl : args.length ≤ 100) : (S.put none op args more).Open T pl rk U := by
  obtain ⟨p, h1, h2, h3, h4, h5, h6⟩ := h.cur
  refine ⟨h.now, h.pln, ⟨p, h1, h2, h3, h4, ?_, fun z => tkRow_snoc (h6 z)⟩, h.fin, h.env, ?_, h.okP, okR_snoc h.okR hl, h.okB⟩
  · exact h5.snoc (r := ⟨none, none, op, args, more, S.line + 1⟩) (.mk a o rfl fun x e => by cases e)
  · show (sumR S.blocks : Int) + ((S.rows ++ [_]).length : Nat) ≤ S.line + 1
    have := h.sum
    rw [List.length_append]; simp only [List.length_singleton]; push_cast; omega
theorem Gs.Begun.tick {p : Pl} (h : S.Begun T pl p U) : (S.put none .tick [] .no).Open T pl p.rank U := by
  obtain ⟨h1, h2, h3, h4, h5⟩ := h.cur
  refine ⟨h.now, h.pln, ⟨p, h1, rfl, h2, h3, ?_, fun _ => ?_⟩, h.fin, h.env, ?_, h.okP, okR_snoc (by rw [h4]; exact fun r hr => by cases hr) (Nat.zero_le _), h.okB⟩
  · show RowsT T (p.env ++ S.params) (S.rows ++ [_]) S.env
    rw [h4, h5]
    exact .cons (.mk .nil .tick rfl fun x e => by cases e) .nil
  · show tkRow (S.rows ++ [_]) = true
    rw [h4]; rfl
  · show (sumR S.blocks : Int) + ((S.rows ++ [_]).length : Nat) ≤ S.line + 1
    have := h.sum
    rw [h4]; simp only [List.nil_append, List.length_singleton]; push_cast; omega
theorem Gs.Begun.open {p : Pl} (h : S.Begun T pl p U) (ht : p.tk = false) : S.Open T pl p.rank U := by
  obtain ⟨h1, h2, h3, h4, h5⟩ := h.cur
  refine ⟨h.now, h.pln, ⟨p, h1, rfl, h2, h3, ?_, fun z => by rw [ht] at z; cases z⟩, h.fin, h.env, ?_, h.okP, (by rw [h4]; exact fun r hr => (by cases hr)), h.okB⟩
  · rw [h4, h5]; exact .nil
  · have := h.sum
    rw [h4]; simp only [List.length_nil]; push_cast; omega
theorem done_opn {bs : List (Option Block)} {i : Nat} (h : Done T pl bs i) : Done T pl (bs ++ [none]) i := by
  obtain ⟨b, p, h1, h2⟩ := h
  exact ⟨b, p, by rw [List.getElem?_append_left (List.getElem?_eq_some_iff.mp h1).1]; exact h1, h2⟩
theorem Gs.Open.opn (h : S.Open T pl rk U) : S.opn.Open T pl rk (S.blocks.length :: U) := by
  have hl : S.opn.blocks.length = S.blocks.length + 1 := by show (S.blocks ++ [none]).length = _; simp
  refine ⟨by rw [hl]; have := h.now; show S.now < _; omega, fun i p e => by rw [hl]; have := h.pln i p e; omega, h.cur, fun i hi => ?_, h.env, ?_, h.okP, h.okR, h.okB.opn⟩
  · rw [hl] at hi
    by_cases z : i = S.blocks.length
    · exact .inr (.inl (by simp [z]))
    · rcases h.fin i (by omega) with h1 | h1 | h1
      · exact .inl h1
      · exact .inr (.inl (List.mem_cons_of_mem _ h1))
      · exact .inr (.inr (done_opn h1))
  · show (sumR (S.blocks ++ [none]) : Int) + _ ≤ _
    rw [sumR_snoc]; exact h.sum
theorem Gs.Open.plan {i : Nat} {p : Pl} (h : S.Open T pl rk U) (hi : pl i = none) (hl : i < S.blocks.length) : S.Open T (plan i p pl) rk U := by
  obtain ⟨q, h1, h2⟩ := h.cur
  refine ⟨h.now, fun j r e => ?_, ⟨q, plan_le hi _ _ h1, h2⟩, fun j hj => ?_, h.env, h.sum, h.okP, h.okR, h.okB⟩
  · by_cases z : j = i
    · rw [z]; exact hl
    · rw [plan_ne z] at e; exact h.pln j r e
  · rcases h.fin j hj with h3 | h3 | h3
    · exact .inl h3
    · exact .inr (.inl h3)
    · exact .inr (.inr (h3.up (plan_le hi)))
theorem Gs.Open.none {i : Nat} (h : S.Open T pl rk U) (hi : S.blocks.length ≤ i) : pl i = none := by
  cases e : pl i with
  | none => rfl
  | some p => have := h.pln i p e; omega
theorem Gs.Open.fin_ {en : End} (h : S.Open T pl rk U) (e : EndT pl rk .num S.env en) (hE : EndB en) : (S.fin en).Shut T pl U := by
  obtain ⟨p, h1, h2, h3, h4, h5, h6⟩ := h.cur
  have hl : (S.fin en).blocks.length = S.blocks.length := by show (S.blocks.set _ _).length = _; simp
  refine ⟨fun i q hq => by rw [hl]; exact h.pln i q hq, fun i hi => ?_, h.env, ?_, h.okB.set ⟨h.okP, h.okR, hE⟩⟩
  · rw [hl] at hi
    by_cases z : i = S.now
    · refine .inr ⟨⟨S.params, S.rows, en⟩, p, ?_, by rw [z]; exact h1, ⟨h3, h4, ⟨S.env, h5, by rw [h2]; exact e⟩, h6⟩⟩
      show (S.blocks.set S.now _)[i]? = _
      rw [z, List.getElem?_set_self h.now]
    · rcases h.fin i hi with h7 | h7 | h7
      · exact absurd h7 z
      · exact .inl h7
      · obtain ⟨b, q, g1, g2⟩ := h7
        refine .inr ⟨b, q, ?_, g2⟩
        show (S.blocks.set S.now _)[i]? = _
        rw [List.getElem?_set_ne (fun y => z y.symm)]; exact g1
  · show (sumR (S.blocks.set S.now (some ⟨S.params, S.rows, en⟩)) : Int) ≤ S.line
    have := sumR_set ⟨S.params, S.rows, en⟩ S.blocks S.now
    have := h.sum
    simp only at *
    omega
theorem Gs.Shut.env_ {Γ : Ga} (h : S.Shut T pl U) (hΓ : ∀ q ∈ Γ, q.1 < S.next) : ({ S with env := Γ } : Gs).Shut T pl U := ⟨h.pln, h.fin, hΓ, h.sum, h.okB⟩
theorem Gs.Shut.plan {i : Nat} {p : Pl} (h : S.Shut T pl U) (hi : pl i = none) (hl : i < S.blocks.length) : S.Shut T (plan i p pl) U := by
  refine ⟨fun j r e => ?_, fun j hj => ?_, h.env, h.sum, h.okB⟩
  · by_cases z : j = i
    · rw [z]; exact hl
    · rw [plan_ne z] at e; exact h.pln j r e
  · rcases h.fin j hj with h3 | h3
    · exact .inl h3
    · exact .inr (h3.up (plan_le hi))
theorem parT_named : ∀ (ks : List Kd) (n : Int) (Γ : Ga), (∀ q ∈ Γ, q.1 < n) → ParT Γ (named n ks)
  | [], _, _, _ => .nil
  | k :: r, n, Γ, h => by
    unfold named
    refine .cons (fun q hq => Int.ne_of_lt (h q hq)) (parT_named r (n + 1) _ fun q hq => ?_)
    rcases List.mem_append.mp hq with hq | hq
    · have := h q hq; omega
    · cases List.mem_singleton.mp hq; show n < n + 1; omega
theorem Gs.Shut.beg {i : Nat} {p : Pl} {U' : List Nat} (h : S.Shut T pl U) (hp : pl i = some p) (he : S.env = p.env) (hU : ∀ j ∈ U, j = i ∨ j ∈ U') (hk : p.ks.length ≤ 14) : (S.beg i p.ks).Begun T pl p U' := by
  refine ⟨h.pln i p hp, h.pln, ⟨hp, named_kinds _ _, ?_, rfl, ?_⟩, fun j hj => ?_, fun q hq => ?_, h.sum, by show (named S.next p.ks).length ≤ 14; rw [named_len]; exact hk, h.okB⟩
  · exact parT_named _ _ _ fun q hq => h.env q (by rw [he]; exact hq)
  · show S.env ++ named S.next p.ks = p.env ++ named S.next p.ks
    rw [he]
  · rcases h.fin j hj with h1 | h1
    · rcases hU j h1 with h2 | h2
      · exact .inl h2
      · exact .inr (.inl h2)
    · exact .inr (.inr h1)
  · show q.1 < S.next + p.ks.length
    rcases List.mem_append.mp hq with hq | hq
    · have := h.env q hq; omega
    · have := named_lt _ _ _ hq; omega
/-- all blocks are done -/
theorem all_done : ∀ (bs : List (Option Block)), (∀ i, i < bs.length → ∃ b, bs[i]? = some (some b)) → ∃ cs : List Block, bs = cs.map some
  | [], _ => ⟨[], rfl⟩
  | a :: r, h => by
    obtain ⟨b, hb⟩ := h 0 (by simp)
    simp at hb
    obtain ⟨cs, hc⟩ := all_done r fun i hi => by
      obtain ⟨c, hc⟩ := h (i + 1) (by simpa using hi)
      exact ⟨c, by simpa using hc⟩
    exact ⟨b :: cs, by rw [hb, hc]; rfl⟩
theorem total_sum : ∀ bs : List Block, total bs = sumR (bs.map some) + bs.length
  | [] => rfl
  | b :: r => by rw [total, List.map_cons, sumR, List.length_cons, total_sum r]; omega
theorem Gs.Shut.done {nm : PySem.Str} {ks : List Kd} (h : S.Shut T pl []) (h0 : pl 0 = some ⟨[], ks, rk, true⟩) : ∃ bs : List Block, S.blocks = bs.map some ∧ FunT T ⟨nm, .num, bs⟩ ks ∧ (total bs : Int) ≤ S.line + S.blocks.length ∧ ∀ b ∈ bs, BlkB b := by
  have hd : ∀ i, i < S.blocks.length → Done T pl S.blocks i := fun i hi => (h.fin i hi).resolve_left (by simp)
  obtain ⟨bs, hbs⟩ := all_done S.blocks fun i hi => by
    obtain ⟨b, _, hb, _⟩ := hd i hi
    exact ⟨b, hb⟩
  refine ⟨bs, hbs, ⟨⟨pl, fun i p hp => ?_, rk, h0⟩⟩, ?_, fun b hb => ?_⟩
  · obtain ⟨b, q, h1, h2, h3⟩ := hd i (h.pln i p hp)
    rw [hp] at h2; cases h2
    rw [hbs, List.getElem?_map] at h1
    refine ⟨b, ?_, h3⟩
    cases e : bs[i]? with
    | none => rw [e] at h1; cases h1
    | some c => rw [e] at h1; cases h1; rfl
  · rw [total_sum, ← hbs]
    have := h.sum
    have : bs.length = S.blocks.length := by rw [hbs]; simp
    push_cast; omega
  · obtain ⟨i, hi⟩ := List.getElem?_of_mem hb
    exact h.okB i b (by rw [hbs, List.getElem?_map, hi]; rfl)
/-- a function's beginning -/
def Gs.s0 (nx : Int) : Gs := ⟨[], 0, [], [], [], nx, 0⟩
def Gs.first (nx : Int) (ks : List Kd) : Gs := (((Gs.s0 nx).opn).beg 0 ks).put none .tick [] .no
theorem first_open {nx : Int} {ks : List Kd} (rk : Nat) (hk : ks.length ≤ 14) : (Gs.first nx ks).Open T (Md.plan 0 ⟨[], ks, rk, true⟩ fun _ => none) rk [] := by
  have h : ((Gs.s0 nx).opn).Shut T (Md.plan 0 ⟨[], ks, rk, true⟩ fun _ => none) [0] := by
    refine ⟨fun i p e => ?_, fun i hi => .inl ?_, fun q hq => (by cases hq), ?_, fun i b e => ?_⟩
    · by_cases z : i = 0
      · subst z; exact (by decide : 0 < 1)
      · rw [plan_ne z] at e; cases e
    · have hi : i < 1 := hi
      simp; omega
    · show ((sumR [none] : Nat) : Int) ≤ 0
      decide
    · cases i with
      | zero => cases e
      | succ k => simp [Gs.opn, Gs.s0] at e
  exact (h.beg (p := ⟨[], ks, rk, true⟩) (U' := []) plan_at rfl (fun j hj => .inl (by simpa using hj)) hk).tick
end
end Md

namespace Md
open CL
/-- main's run: how it begins, and that it ends -/
theorem main_st {T : Sg} {m : Mid} {C : Nat} (M : MidT T m C) {g : Fun} {ps : List Kd} (hg : (m.funs.find? fun g => decide (g.name = ("main" : PySem.Str))) = some g) (hk : g.kd = .num) (F : FunT T g ps) (hps : ∀ k ∈ ps, k = .num) {ins : List Int} (hi : ins.length = ps.length) (hn : ∀ i ∈ ins, Num i) {ti : Int} (ht : 0 ≤ ti) :
    ∃ k, g.blocks[0]? = some k ∧ ins.length = k.params.length ∧ StT T C [] ⟨[], [], ti, [⟨g.blocks, binds [] k.params (ins.map .int), none, k, 0⟩]⟩ (ti.toNat * C) := by
  obtain ⟨pl, hb, rg, hp0⟩ := F.ex
  obtain ⟨k0, hk0, hB⟩ := hb _ _ hp0
  obtain ⟨Γ2, hrows2, hend2⟩ := hB.body
  have hgm := List.mem_of_find?_eq_some hg
  have hvs : ∀ (ns : List Int) (qs : List Kd), ns.length = qs.length → (∀ k ∈ qs, k = .num) → (∀ i ∈ ns, Num i) → VTs [] (ns.map .int) qs := by
    intro ns
    induction ns with
    | nil => intro qs h _ _; cases qs with
      | nil => exact .nil
      | cons _ _ => cases h
    | cons a r ih => intro qs h h1 h2; cases qs with
      | nil => cases h
      | cons q qs =>
        rw [h1 q (by simp)]
        exact .cons (.int (h2 a (by simp))) (ih qs (by simpa using h) (fun k hk => h1 k (by simp [hk])) (fun i hi => h2 i (by simp [hi])))
  have hlen : k0.params.length = ps.length := by
    have := congrArg List.length hB.par
    simpa using this
  have hen : EnvT [] (binds [] k0.params (ins.map .int)) ([] ++ k0.params) := EnvT.binds (fun y ky hm => by simp at hm) hB.pt (by rw [hB.par]; exact hvs ins ps hi hps hn)
  have st : StT T C [] ⟨[], [], ti, [⟨g.blocks, binds [] k0.params (ins.map .int), none, k0, 0⟩]⟩ (ti.toNat * C + 0 + 0) :=
    ⟨⟨rfl, fun n k e => by simp at e⟩, fun v hv => by simp at hv, ht, _, [], .num, 0, 0, _, rfl, ⟨⟨pl, rg, Γ2, by rw [← hk]; exact hb, hrows2, by rw [← hk]; exact hend2, .inl ⟨rfl, hB.tk rfl, rfl⟩, pot_at_total (p := ⟨[], ps, rg, true⟩) hp0 hk0⟩, M.size g hgm⟩, hen, .nil, rfl⟩
  exact ⟨k0, hk0, by rw [hlen, hi], st⟩
theorem actDo_told {m : Mid} {s : MS} {fr : Fr} {rest : List Fr} {x : Option Int} {line : Int} {a : Act} {s' : MS} {o : Option Out} (h : actDo m s fr rest x line a = some (s', o)) : s'.told.length ≤ s.told.length + 1 := by
  unfold actDo at h
  split at h
  · cases h; show s.told.length ≤ _; omega
  · cases h; show s.told.length ≤ _; omega
  · cases h; show s.told.length ≤ _; omega
  · split at h <;> (cases h; show s.told.length ≤ _; omega)
  · cases h; show (s.told ++ [_]).length ≤ _; simp
  · cases h; show s.told.length ≤ _; omega
  · obtain ⟨g, _, h⟩ := Option.map_eq_some_iff.mp h
    cases h; show s.told.length ≤ _; omega
  · cases h
theorem endDo_told {s : MS} {fr : Fr} {rest : List Fr} {e : End} {s' : MS} {o : Option Out} (h : endDo s fr rest e = some (s', o)) : s'.told.length ≤ s.told.length + 1 := by
  unfold endDo at h
  split at h
  · split at h
    · split at h
      · cases h; show s.told.length ≤ _; omega
      · split at h
        · cases h; show s.told.length ≤ _; omega
        · cases h
    · cases h
  · cases h; show s.told.length ≤ _; omega
  · split at h
    · obtain ⟨g, _, h⟩ := Option.map_eq_some_iff.mp h
      cases h; show s.told.length ≤ _; omega
    · cases h
  · split at h
    · obtain ⟨g, _, h⟩ := Option.map_eq_some_iff.mp h
      cases h; show s.told.length ≤ _; omega
    · cases h
theorem step_told {m : Mid} {s s' : MS} {o : Option Out} (h : step m s = some (s', o)) : s'.told.length ≤ s.told.length + 1 := by
  unfold step at h
  split at h
  · cases h
  · split at h
    · split at h
      · split at h
        · exact actDo_told h
        · cases h
      · cases h
    · exact endDo_told h
theorem runs_told {m : Mid} : ∀ {n : Nat} {s s' : MS} {o : Out}, Runs m n s s' o → s'.told.length ≤ s.told.length + n
  | _, _, _, _, .last h => step_told h
  | _, _, _, _, .more h r => by have := step_told h; have := runs_told r; omega
/-- the functions of a middle by their names -/
theorem find_name : ∀ {gs : List Fun} {g : Fun}, (gs.map (·.name)).Nodup → g ∈ gs → (gs.find? fun h => decide (h.name = g.name)) = some g
  | a :: r, g, nd, hm => by
    rw [List.map_cons, List.nodup_cons] at nd
    rcases List.mem_cons.mp hm with rfl | hm
    · rw [List.find?_cons_of_pos (by simp)]
    · rw [List.find?_cons_of_neg, find_name nd.2 hm]
      intro z
      exact nd.1 (List.mem_map.mpr ⟨g, hm, (of_decide_eq_true z).symm⟩)
/-- a middle that is whole: its main takes so many numbers -/
structure Whole (m : Mid) (C P i : Nat) : Prop where
  ex : ∃ T g, MidT T m C ∧ (∀ r ks ks', (r, ks) ∈ T.rc → (r, ks') ∈ T.rc → ks = ks') ∧ (m.funs.find? fun g => decide (g.name = ("main" : PySem.Str))) = some g ∧ g.kd = .num ∧ FunT T g (List.replicate i .num)
  small : Small m P
  len : m.funs.length ≤ 1000
theorem told_ints : ∀ (vs : List MV), (∀ v ∈ vs, ∃ i, v = .int i ∧ Num i) → ∃ ns : List Int, vs = ns.map .int
  | [], _ => ⟨[], rfl⟩
  | v :: r, h => by
    obtain ⟨i, rfl, _⟩ := h v (by simp)
    obtain ⟨ns, rfl⟩ := told_ints r fun u hu => h u (by simp [hu])
    exact ⟨i :: ns, rfl⟩
end Md
namespace CL
variable {B H R : HL} {Q : Val → HL → Prop}
theorem x_lstB {kt : List (List Val)} {a : Nat} {xs : List Val} {i : Int} {v : Val} (u : (a, .lst xs) ∈ B) (h : L2.atI xs i = some v) (q : Q v H) : WP B (subV kt (.ref a) (.int i)) H Q := wp_of (fun st F s => by simp only [subV, fix_at u s, h]) q
theorem f_listB {a : Nat} {xs : List Val} (u : (a, .lst xs) ∈ B) (q : ∀ p, Q (.ref p) ((p, .lst xs) :: H)) : WP B (bfn .list [.ref a]) H Q := fun st F s => by
  obtain ⟨v, K, st', e, q, s'⟩ := wp_mk (B := B) q st F s
  exact ⟨v, K, st', by simp only [bfn, fix_at u s, e], q, s'⟩
end CL

/-! CL, part w10: plain values that can be compared; small kinds -/
namespace Md
open CL PySem
/-- plain data of at most that depth -/
def Fine : Nat → Val → Prop
  | _, .non => True
  | _, .bl _ => True
  | _, .int _ => True
  | _, .str x => PyData.strOk x = true
  | n + 1, .tup xs => ∀ x ∈ xs, Fine n x
  | _, _ => False
theorem Fine.up : ∀ {n : Nat} {v : Val}, Fine n v → Fine (n + 1) v
  | n, .non, h => by simp [Fine]
  | n, .bl _, h => by simp [Fine]
  | n, .int _, h => by simp [Fine]
  | n, .str x, h => by simpa [Fine] using h
  | 0, .tup xs, h => by simp [Fine] at h
  | n + 1, .tup xs, h => by
    rw [Fine] at h ⊢
    exact fun x hx => (h x hx).up
  | n, .ref _, h => by cases n <;> simp [Fine] at h
theorem Fine.le {n m : Nat} {v : Val} (h : Fine n v) (hm : n ≤ m) : Fine m v := by
  induction hm with
  | refl => exact h
  | step _ ih => exact ih.up
theorem fine_tup {n : Nat} {xs : List Val} (h : ∀ x ∈ xs, Fine n x) : Fine (n + 1) (.tup xs) := by rw [Fine]; exact h
/-- what such a value is as data -/
structure DatOk (n : Nat) (v : Val) (d : PyData) : Prop where
  dat : ∀ st k, n < k → dat st k v = some d
  lay : PyData.canLay0 d = true
  dep : PyData.depth d ≤ n
  eq : PyData.eqv d d = true
theorem allO_all {n : Nat} {xs : List Val} (h : ∀ x ∈ xs, ∃ d, DatOk n x d) : ∃ ds, (∀ st k, n < k → allO (xs.map (dat st k)) = some ds) ∧ PyData.canLayAll0 ds = true ∧ PyData.depthAll ds ≤ n ∧ PyData.eqvAll ds ds = true := by
  induction xs with
  | nil => exact ⟨[], fun _ _ _ => rfl, by simp [PyData.canLayAll0], by simp [PyData.depthAll], by simp [PyData.eqvAll]⟩
  | cons x r ih =>
    obtain ⟨d, h1⟩ := h x (by simp)
    obtain ⟨ds, h2, h3, h4, h5⟩ := ih fun y hy => h y (by simp [hy])
    refine ⟨d :: ds, fun st k hk => ?_, by simp [PyData.canLayAll0, h1.lay, h3], by simp only [PyData.depthAll]; have := h1.dep; omega, by simp [PyData.eqvAll, h1.eq, h5]⟩
    rw [List.map_cons, h1.dat st k hk, allO, h2 st k hk]
theorem Fine.dat : ∀ {n : Nat} {v : Val}, Fine n v → ∃ d, DatOk n v d
  | n, .non, h => ⟨.none, fun st k hk => by cases k with | zero => omega | succ k => rfl, rfl, by simp [PyData.depth], by simp [PyData.eqv]⟩
  | n, .bl b, h => ⟨.bool b, fun st k hk => by cases k with | zero => omega | succ k => rfl, rfl, by simp [PyData.depth], by simp [PyData.eqv]⟩
  | n, .int i, h => ⟨.int i, fun st k hk => by cases k with | zero => omega | succ k => rfl, rfl, by simp [PyData.depth], by simp [PyData.eqv]⟩
  | n, .str x, h => ⟨.str x, fun st k hk => by cases k with | zero => omega | succ k => rfl, by rw [Fine] at h; simpa [PyData.canLay0] using h, by simp [PyData.depth], by simp [PyData.eqv]⟩
  | 0, .tup xs, h => by simp [Fine] at h
  | n + 1, .tup xs, h => by
    rw [Fine] at h
    obtain ⟨ds, h2, h3, h4, h5⟩ := allO_all (n := n) fun x hx => (h x hx).dat
    refine ⟨.tuple ds, fun st k hk => ?_, by simpa [PyData.canLay0] using h3, by simp only [PyData.depth]; omega, by simpa [PyData.eqv] using h5⟩
    cases k with
    | zero => omega
    | succ k =>
      show (allO (xs.map (CL.dat st k))).map PyData.tuple = _
      rw [h2 st k (by omega)]; rfl
  | n, .ref _, h => by cases n <;> simp [Fine] at h
theorem eq0_tup {x y : Val} (h : ∃ xs, x = .tup xs) : eq0 x y = none := by
  obtain ⟨xs, rfl⟩ := h
  cases y <;> rfl
/-- such a tuple is itself -/
theorem eqV_self {st : Store} {n : Nat} {xs : List Val} (h : Fine n (.tup xs)) (hn : n ≤ 60) : eqV st (.tup xs) (.tup xs) = some true := by
  obtain ⟨d, hd⟩ := h.dat
  unfold eqV
  rw [eq0_tup ⟨xs, rfl⟩, hd.dat st deep (by show n < 70; omega)]
  have sh : SeqAt.shaped d = true := by
    unfold SeqAt.shaped
    rw [hd.lay, Bool.true_and, decide_eq_true_eq]
    have := hd.dep; omega
  simp only [sh, Bool.and_self, if_true, hd.eq]
/-! ### small kinds -/
inductive Ks : Kd → Prop
  | num : Ks .num
  | tru : Ks .tru
  | row : Ks (.row .num)
  | pair : Ks (.rc "pair")
  | deep : Ks (.rc "deep")
  | fn (n : Nat) : Ks (.fn (List.replicate n .num) .num)
def numD : PyData := .tuple [.str "number"]
def ksD : Kd → PyData
  | .num => numD
  | .tru => .tuple [.str "truth"]
  | .rc r => .tuple [.str "record", .str r]
  | .row _ => .tuple [.str "row", numD]
  | .fn ps _ => .tuple [.str "fun", .tuple (List.replicate ps.length numD), numD]
theorem vs_map : ∀ ks : List Kd, Kd.vs ks = ks.map Kd.v
  | [] => rfl
  | k :: r => by rw [Kd.vs, vs_map r]; rfl
theorem allO_rep {st : Store} {k : Nat} : ∀ n : Nat, allO ((List.replicate n (Kd.v .num)).map (CL.dat st (k + 2))) = some (List.replicate n numD)
  | 0 => rfl
  | n + 1 => by
    rw [List.replicate_succ, List.map_cons, show CL.dat st (k + 2) (Kd.v .num) = some numD from rfl, allO, allO_rep n]; rfl
theorem dat_ks {st : Store} {k : Kd} (h : Ks k) (m : Nat) : CL.dat st (m + 4) k.v = some (ksD k) := by
  cases h with
  | num => rfl
  | tru => rfl
  | row => rfl
  | pair => rfl
  | deep => rfl
  | fn n =>
    have e : (Kd.fn (List.replicate n .num) .num).v = .tup [.str "fun", .tup (List.replicate n (Kd.v .num)), Kd.v .num] := by
      show Val.tup [.str "fun", .tup (Kd.vs (List.replicate n .num)), Kd.v .num] = _
      rw [vs_map, List.map_replicate]
    rw [e]
    show (allO [CL.dat st (m + 3) (.str "fun"), CL.dat st (m + 3) (.tup (List.replicate n (Kd.v .num))), CL.dat st (m + 3) (Kd.v .num)]).map PyData.tuple = _
    have e2 : CL.dat st (m + 3) (.tup (List.replicate n (Kd.v .num))) = some (.tuple (List.replicate n numD)) := by
      show (allO ((List.replicate n (Kd.v .num)).map (CL.dat st (m + 2)))).map PyData.tuple = _
      rw [allO_rep]; rfl
    rw [e2]
    simp only [ksD, List.length_replicate]
    rfl
theorem lay_rep : ∀ n : Nat, PyData.canLayAll0 (List.replicate n numD) = true
  | 0 => by simp [PyData.canLayAll0]
  | n + 1 => by
    rw [List.replicate_succ, PyData.canLayAll0, lay_rep n]
    have : PyData.canLay0 numD = true := by simp only [numD, PyData.canLay0, PyData.canLayAll0]; decide +kernel
    rw [this]; rfl
theorem dep_rep : ∀ n : Nat, PyData.depthAll (List.replicate n numD) ≤ 1
  | 0 => by simp [PyData.depthAll]
  | n + 1 => by
    rw [List.replicate_succ, PyData.depthAll]
    have := dep_rep n
    have : PyData.depth numD = 1 := by simp [numD, PyData.depth, PyData.depthAll]
    omega
theorem shaped_ks {k : Kd} (h : Ks k) : SeqAt.shaped (ksD k) = true := by
  unfold SeqAt.shaped
  rw [Bool.and_eq_true, decide_eq_true_eq]
  cases h with
  | num => exact ⟨by simp only [ksD, numD, PyData.canLay0, PyData.canLayAll0]; decide +kernel, by simp [ksD, numD, PyData.depth, PyData.depthAll]⟩
  | tru => exact ⟨by simp only [ksD, numD, PyData.canLay0, PyData.canLayAll0]; decide +kernel, by simp [ksD, numD, PyData.depth, PyData.depthAll]⟩
  | row => exact ⟨by simp only [ksD, numD, PyData.canLay0, PyData.canLayAll0]; decide +kernel, by simp [ksD, numD, PyData.depth, PyData.depthAll]⟩
  | pair => exact ⟨by simp only [ksD, numD, PyData.canLay0, PyData.canLayAll0]; decide +kernel, by simp [ksD, numD, PyData.depth, PyData.depthAll]⟩
  | deep => exact ⟨by simp only [ksD, numD, PyData.canLay0, PyData.canLayAll0]; decide +kernel, by simp [ksD, numD, PyData.depth, PyData.depthAll]⟩
  | fn n =>
    have hn : PyData.canLay0 numD = true := by simp only [numD, PyData.canLay0, PyData.canLayAll0]; decide +kernel
    refine ⟨?_, ?_⟩
    · simp only [ksD, PyData.canLay0, PyData.canLayAll0, List.length_replicate, lay_rep, hn]; decide +kernel
    · simp only [ksD, PyData.depth, PyData.depthAll, List.length_replicate]
      have := dep_rep n
      have : PyData.depth numD = 1 := by simp [numD, PyData.depth, PyData.depthAll]
      omega
theorem eqv_rep : ∀ n m : Nat, PyData.eqvAll (List.replicate n numD) (List.replicate m numD) = decide (n = m)
  | 0, 0 => by simp [PyData.eqvAll]
  | 0, m + 1 => by simp [List.replicate_succ, PyData.eqvAll]
  | n + 1, 0 => by simp [List.replicate_succ, PyData.eqvAll]
  | n + 1, m + 1 => by
    rw [List.replicate_succ, List.replicate_succ, PyData.eqvAll, eqv_rep n m]
    have : PyData.eqv numD numD = true := by simp [numD, PyData.eqv, PyData.eqvAll]
    rw [this]; simp
theorem rep_inj {n m : Nat} : (Kd.fn (List.replicate n .num) .num = Kd.fn (List.replicate m .num) .num) ↔ n = m := by
  constructor
  · intro h
    have := congrArg (fun k => match k with | Kd.fn ps _ => ps.length | _ => 0) h
    simpa using this
  · rintro rfl; rfl
def ksB : Kd → Kd → Bool
  | .num, .num => true
  | .tru, .tru => true
  | .row _, .row _ => true
  | .rc r, .rc s => decide (r = s)
  | .fn ps _, .fn qs _ => decide (ps.length = qs.length)
  | _, _ => false
theorem eqv_ks {a b : Kd} (ha : Ks a) (hb : Ks b) : PyData.eqv (ksD a) (ksD b) = ksB a b := by
  cases ha <;> cases hb <;> first
    | (simp only [ksD, numD, PyData.eqv, PyData.eqvAll, ksB]; decide +kernel)
    | (simp only [ksD, PyData.eqv, PyData.eqvAll, ksB, List.length_replicate, eqv_rep]; simp [numD, PyData.eqv, PyData.eqvAll]; done)
    | (simp only [ksD, numD, PyData.eqv, PyData.eqvAll, ksB]; simp; done)
theorem ksB_eq {a b : Kd} (ha : Ks a) (hb : Ks b) (h : ksB a b = true) : a = b := by
  cases ha <;> cases hb <;> first | rfl | (exfalso; revert h; decide) | (simp [ksB] at h; done) | (simp [ksB] at h; subst h; rfl)
theorem ksB_self {a : Kd} (ha : Ks a) : ksB a a = true := by cases ha <;> simp [ksB]
theorem ks_tup {a : Kd} : ∃ xs, a.v = .tup xs := by cases a <;> exact ⟨_, rfl⟩
theorem eqV_ks {st : Store} {a b : Kd} (ha : Ks a) (hb : Ks b) : eqV st a.v b.v = some (ksB a b) := by
  unfold eqV
  rw [eq0_tup ks_tup, show CL.dat st CL.deep a.v = some (ksD a) from dat_ks (st := st) ha 66, show CL.dat st CL.deep b.v = some (ksD b) from dat_ks (st := st) hb 66]
  simp only [shaped_ks ha, shaped_ks hb, Bool.and_self, if_true, eqv_ks ha hb]
theorem eqV_few {st : Store} {a : Kd} (ha : Ks a) : eqV st a.v (.str "few") = some false := by
  unfold eqV
  rw [eq0_tup ks_tup, show CL.dat st CL.deep a.v = some (ksD a) from dat_ks (st := st) ha 66, show CL.dat st CL.deep (.str "few") = some (.str "few") from rfl]
  have s2 : SeqAt.shaped (.str "few") = true := by
    unfold SeqAt.shaped
    rw [Bool.and_eq_true, decide_eq_true_eq]
    exact ⟨by simp only [PyData.canLay0]; decide +kernel, by simp [PyData.depth]⟩
  simp only [shaped_ks ha, s2, Bool.and_self, if_true]
  cases ha <;> simp [ksD, numD, PyData.eqv]
/-- such a kind, as a value, is plain data -/
theorem Ks.fine {k : Kd} (h : Ks k) : Fine 3 k.v := by
  cases h with
  | fn n =>
    show Fine 3 (.tup [.str "fun", .tup (Kd.vs (List.replicate n .num)), Kd.v .num])
    rw [vs_map, List.map_replicate]
    refine fine_tup fun x hx => ?_
    simp only [List.mem_cons, List.not_mem_nil, or_false] at hx
    rcases hx with rfl | rfl | rfl
    · rw [Fine]; decide +kernel
    · refine fine_tup fun x hx => ?_
      rw [List.eq_of_mem_replicate hx]
      refine fine_tup fun y hy => ?_
      simp only [List.mem_cons, List.not_mem_nil, or_false] at hy
      subst hy; rw [Fine]; decide +kernel
    · refine fine_tup fun y hy => ?_
      simp only [List.mem_cons, List.not_mem_nil, or_false] at hy
      subst hy; rw [Fine]; decide +kernel
  | row =>
    refine fine_tup fun y hy => ?_
    simp only [List.mem_cons, List.not_mem_nil, or_false] at hy
    rcases hy with rfl | rfl
    · rw [Fine]; decide +kernel
    · refine fine_tup fun y hy => ?_
      simp only [List.mem_cons, List.not_mem_nil, or_false] at hy
      subst hy; rw [Fine]; decide +kernel
  | _ =>
    refine fine_tup fun y hy => ?_
    simp only [List.mem_cons, List.not_mem_nil, or_false] at hy
    rcases hy with rfl | rfl <;> (rw [Fine]; decide +kernel)
end Md

/-! CL, part w11: states of generators: sizes by the line, plain data -/
namespace Md
open CL PySem
theorem op_fine (op : Op) : Fine 0 (.str op.s) := by
  show PyData.strOk op.s = true
  cases op <;> decide +kernel
theorem ints_fine (xs : List Int) : Fine 1 (intsV xs) := fine_tup fun x hx => by
  obtain ⟨i, _, rfl⟩ := List.mem_map.mp hx
  simp [Fine]
theorem row_fine {r : Row} (hk : ∀ k, r.kd = some k → Ks k) (hm : Fine 2 r.more.v) : Fine 4 r.v := fine_tup fun x hx => by
  simp only [List.mem_cons, List.not_mem_nil, or_false] at hx
  rcases hx with rfl | rfl | rfl | rfl | rfl | rfl
  · cases r.x <;> simp [oI, Fine]
  · cases h : r.kd with
    | none => simp [oK, Fine]
    | some k => exact (hk k h).fine
  · exact (op_fine _).le (by omega)
  · exact (ints_fine _).le (by omega)
  · exact hm.le (by omega)
  · simp [Fine]
theorem par_fine {p : Int × Kd} (h : Ks p.2) : Fine 4 (parV p) := fine_tup fun x hx => by
  simp only [List.mem_cons, List.not_mem_nil, or_false] at hx
  rcases hx with rfl | rfl
  · simp [Fine]
  · exact h.fine
theorem blk_fine {b : Block} (h1 : ∀ p ∈ b.params, Fine 4 (parV p)) (h2 : ∀ r ∈ b.rows, Fine 4 r.v) (h3 : Fine 5 b.en.v) : Fine 6 b.v := fine_tup fun x hx => by
  simp only [List.mem_cons, List.not_mem_nil, or_false] at hx
  rcases hx with rfl | rfl | rfl
  · exact fine_tup fun y hy => by
      obtain ⟨p, hp, rfl⟩ := List.mem_map.mp hy
      exact h1 p hp
  · exact fine_tup fun y hy => by
      obtain ⟨p, hp, rfl⟩ := List.mem_map.mp hy
      exact h2 p hp
  · exact h3
theorem jump_fine {b : Nat} {args : List Int} : Fine 5 (End.jump b args).v := fine_tup fun x hx => by
  simp only [List.mem_cons, List.not_mem_nil, or_false] at hx
  rcases hx with rfl | rfl | rfl
  · show PyData.strOk _ = true; decide +kernel
  · simp [Fine]
  · exact (ints_fine _).le (by omega)
theorem branch_fine {x : Int} {b c : Nat} : Fine 5 (End.branch x b c).v := fine_tup fun x hx => by
  simp only [List.mem_cons, List.not_mem_nil, or_false] at hx
  rcases hx with rfl | rfl | rfl | rfl
  · show PyData.strOk _ = true; decide +kernel
  · simp [Fine]
  · simp [Fine]
  · simp [Fine]
theorem give_fine {x : Int} : Fine 5 (End.give x).v := fine_tup fun x hx => by
  simp only [List.mem_cons, List.not_mem_nil, or_false] at hx
  rcases hx with rfl | rfl
  · show PyData.strOk _ = true; decide +kernel
  · simp [Fine]
theorem fail_fine {l : Int} : Fine 5 (End.fail "fail" l).v := fine_tup fun x hx => by
  simp only [List.mem_cons, List.not_mem_nil, or_false] at hx
  rcases hx with rfl | rfl | rfl
  · show PyData.strOk _ = true; decide +kernel
  · show PyData.strOk _ = true; decide +kernel
  · simp [Fine]
/-- how much there is, by the line -/
structure Zs (S : Gs) (k : Int) : Prop where
  h1 : (S.blocks.length : Int) ≤ k
  h2 : (S.rows.length : Int) ≤ S.line
  h3 : (S.env.length : Int) ≤ S.line + k
  h4 : 0 ≤ S.next ∧ S.next ≤ S.line + k
  h5 : 0 ≤ S.line
theorem Zs.mono {S : Gs} {k k' : Int} (h : Zs S k) (hk : k ≤ k') : Zs S k' := ⟨Int.le_trans h.h1 hk, h.h2, by have := h.h3; omega, by have := h.h4; omega, h.h5⟩
theorem Zs.put {S : Gs} {k : Int} (h : Zs S k) (kd : Option Kd) (op : Op) (args : List Int) (more : More) : Zs (S.put kd op args more) k := by
  obtain ⟨h1, h2, h3, h4, h5⟩ := h
  cases kd with
  | none => exact ⟨h1, by show ((S.rows ++ [_]).length : Int) ≤ S.line + 1; simp; omega, by show (S.env.length : Int) ≤ S.line + 1 + k; omega, by show 0 ≤ S.next ∧ S.next ≤ S.line + 1 + k; omega, by show 0 ≤ S.line + 1; omega⟩
  | some q => exact ⟨h1, by show ((S.rows ++ [_]).length : Int) ≤ S.line + 1; simp; omega, by show ((S.env ++ [_]).length : Int) ≤ S.line + 1 + k; simp; omega, by show 0 ≤ S.next + 1 ∧ S.next + 1 ≤ S.line + 1 + k; omega, by show 0 ≤ S.line + 1; omega⟩
theorem Zs.opn {S : Gs} {k : Int} (h : Zs S k) : Zs S.opn (k + 1) := by
  obtain ⟨h1, h2, h3, h4, h5⟩ := h
  exact ⟨by show ((S.blocks ++ [none]).length : Int) ≤ k + 1; simp; omega, h2, by show (S.env.length : Int) ≤ S.line + (k + 1); omega, by show 0 ≤ S.next ∧ S.next ≤ S.line + (k + 1); omega, h5⟩
theorem Zs.beg {S : Gs} {k : Int} (h : Zs S k) (at' : Nat) (ks : List Kd) : Zs (S.beg at' ks) (k + ks.length) := by
  obtain ⟨h1, h2, h3, h4, h5⟩ := h
  exact ⟨by show (S.blocks.length : Int) ≤ k + ks.length; omega, by show ((0 : Nat) : Int) ≤ S.line; omega, by show ((S.env ++ named S.next ks).length : Int) ≤ S.line + (k + ks.length); rw [List.length_append, named_len]; push_cast; omega, by show 0 ≤ S.next + ks.length ∧ S.next + ks.length ≤ S.line + (k + ks.length); omega, h5⟩
theorem Zs.fin {S : Gs} {k : Int} (h : Zs S k) (en : End) : Zs (S.fin en) k := by
  obtain ⟨h1, h2, h3, h4, h5⟩ := h
  exact ⟨by show ((S.blocks.set _ _).length : Int) ≤ k; rw [List.length_set]; omega, h2, h3, h4, h5⟩
theorem Zs.env_ {S : Gs} {k : Int} {Γ : Ga} (h : Zs S k) (hl : (Γ.length : Int) ≤ S.line + k) : Zs { S with env := Γ } k := ⟨h.h1, h.h2, hl, h.h4, h.h5⟩
structure FineS (S : Gs) : Prop where
  rows : ∀ r ∈ S.rows, Fine 4 r.v
  pars : ∀ p ∈ S.params, Fine 4 (parV p)
  blks : ∀ b, some b ∈ S.blocks → Fine 6 b.v
theorem named_mem : ∀ {ks : List Kd} {n : Int} {q : Int × Kd}, q ∈ named n ks → q.2 ∈ ks
  | [], _, _, h => by cases h
  | k :: r, n, q, h => by
    unfold named at h
    rcases List.mem_cons.mp h with rfl | h
    · simp
    · exact List.mem_cons_of_mem _ (named_mem h)
/-- a state in which a block is being filled -/
structure Gw (T : Sg) (pl : Plan) (rk : Nat) (U : List Nat) (S : Gs) (k : Int) : Prop where
  O : S.Open T pl rk U
  z : Zs S k
  ks : ∀ q ∈ S.env, Ks q.2
  f : FineS S
/-- one in which none is -/
structure Hw (T : Sg) (pl : Plan) (U : List Nat) (S : Gs) (k : Int) : Prop where
  O : S.Shut T pl U
  z : Zs S k
  f : FineS S
def Le (S S' : Gs) : Prop := ∀ q ∈ S.env, q ∈ S'.env
theorem Le.refl (S : Gs) : Le S S := fun _ h => h
theorem Le.trans {A B C : Gs} (h : Le A B) (k : Le B C) : Le A C := fun q hq => k q (h q hq)
theorem Le.put1 {S : Gs} {k : Kd} {op : Op} {args : List Int} {more : More} : Le S (S.put (some k) op args more) := fun q hq => List.mem_append_left _ hq
theorem Le.put0 {S : Gs} {op : Op} {args : List Int} {more : More} : Le S (S.put none op args more) := fun q hq => hq
section
variable {T : Sg} {pl : Plan} {rk : Nat} {U : List Nat} {S : Gs} {k : Int}
theorem Gw.put1 {kd : Kd} {op : Op} {args : List Int} {more : More} {ks : List Kd} (g : Gw T pl rk U S k) (a : ArgsT S.env args ks) (o : OpT T op more ks (some kd)) (hk : Ks kd) (hm : Fine 2 more.v) (hl : args.length ≤ 100) : Gw T pl rk U (S.put (some kd) op args more) k := by
  refine ⟨g.O.put1 a o hl, g.z.put _ _ _ _, fun q hq => ?_, fun r hr => ?_, g.f.pars, g.f.blks⟩
  · rcases List.mem_append.mp hq with hq | hq
    · exact g.ks q hq
    · cases List.mem_singleton.mp hq; exact hk
  · rcases List.mem_append.mp hr with hr | hr
    · exact g.f.rows r hr
    · cases List.mem_singleton.mp hr
      exact row_fine (fun k' e => by cases e; exact hk) hm
theorem Gw.put0 {op : Op} {args : List Int} {more : More} {ks : List Kd} (g : Gw T pl rk U S k) (a : ArgsT S.env args ks) (o : OpT T op more ks none) (hm : Fine 2 more.v) (hl : args.length ≤ 100) : Gw T pl rk U (S.put none op args more) k := by
  refine ⟨g.O.put0 a o hl, g.z.put _ _ _ _, g.ks, fun r hr => ?_, g.f.pars, g.f.blks⟩
  rcases List.mem_append.mp hr with hr | hr
  · exact g.f.rows r hr
  · cases List.mem_singleton.mp hr
    exact row_fine (fun k' e => by cases e) hm
theorem Gw.opn (g : Gw T pl rk U S k) : Gw T pl rk (S.blocks.length :: U) S.opn (k + 1) := by
  refine ⟨g.O.opn, g.z.opn, g.ks, g.f.rows, g.f.pars, fun b hb => ?_⟩
  rcases List.mem_append.mp hb with hb | hb
  · exact g.f.blks b hb
  · simp at hb
theorem Gw.plan {i : Nat} {p : Pl} (g : Gw T pl rk U S k) (hi : pl i = none) (hl : i < S.blocks.length) : Gw T (Md.plan i p pl) rk U S k := ⟨g.O.plan hi hl, g.z, g.ks, g.f⟩
theorem Gw.fin {en : End} (g : Gw T pl rk U S k) (e : EndT pl rk .num S.env en) (hE : EndB en) (hf : Fine 5 en.v) : Hw T pl U (S.fin en) k := by
  refine ⟨g.O.fin_ e hE, g.z.fin _, g.f.rows, g.f.pars, fun b hb => ?_⟩
  rcases List.mem_or_eq_of_mem_set hb with hb | hb
  · exact g.f.blks b hb
  · cases hb
    exact blk_fine g.f.pars g.f.rows hf
theorem Hw.env_ {Γ : Ga} (h : Hw T pl U S k) (hΓ : ∀ q ∈ Γ, q.1 < S.next) (hl : (Γ.length : Int) ≤ S.line + k) : Hw T pl U { S with env := Γ } k := ⟨h.O.env_ hΓ, h.z.env_ hl, ⟨h.f.rows, h.f.pars, h.f.blks⟩⟩
theorem Hw.plan {i : Nat} {p : Pl} (h : Hw T pl U S k) (hi : pl i = none) (hl : i < S.blocks.length) : Hw T (Md.plan i p pl) U S k := ⟨h.O.plan hi hl, h.z, h.f⟩
theorem beg_fine {i : Nat} {ks : List Kd} (f : FineS S) (hk : ∀ k ∈ ks, Ks k) : FineS (S.beg i ks) :=
  ⟨fun r hr => (by cases hr), fun p hp => par_fine (hk _ (named_mem hp)), f.blks⟩
theorem beg_ks {i : Nat} {ks : List Kd} (h1 : ∀ q ∈ S.env, Ks q.2) (hk : ∀ k ∈ ks, Ks k) : ∀ q ∈ (S.beg i ks).env, Ks q.2 := fun q hq => by
  rcases List.mem_append.mp hq with hq | hq
  · exact h1 q hq
  · exact hk _ (named_mem hq)
theorem Hw.beg {i : Nat} {p : Pl} {U' : List Nat} (h : Hw T pl U S k) (hp : pl i = some p) (he : S.env = p.env) (hU : ∀ j ∈ U, j = i ∨ j ∈ U') (hl : p.ks.length ≤ 14) (ht : p.tk = false) (h1 : ∀ q ∈ S.env, Ks q.2) (hk : ∀ k ∈ p.ks, Ks k) : Gw T pl p.rank U' (S.beg i p.ks) (k + p.ks.length) :=
  ⟨(h.O.beg hp he hU hl).open ht, h.z.beg _ _, beg_ks h1 hk, beg_fine h.f hk⟩
theorem Hw.begT {i : Nat} {p : Pl} {U' : List Nat} (h : Hw T pl U S k) (hp : pl i = some p) (he : S.env = p.env) (hU : ∀ j ∈ U, j = i ∨ j ∈ U') (hl : p.ks.length ≤ 14) (h1 : ∀ q ∈ S.env, Ks q.2) (hk : ∀ k ∈ p.ks, Ks k) : Gw T pl p.rank U' ((S.beg i p.ks).put none .tick [] .no) (k + p.ks.length) := by
  refine ⟨(h.O.beg hp he hU hl).tick, (h.z.beg _ _).put _ _ _ _, beg_ks (i := i) h1 hk, fun r hr => ?_, (beg_fine (i := i) h.f hk).pars, h.f.blks⟩
  rcases List.mem_append.mp hr with hr | hr
  · cases hr
  · cases List.mem_singleton.mp hr
    exact row_fine (fun k' e => by cases e) (by simp [Fine])
end
end Md

/-! CL, part w12: runs with more ticks -/
namespace Md
open CL
def addT (s : MS) (δ : Int) : MS := { s with ticks := s.ticks + δ }
section
variable {m : Mid} {s s' : MS} {fr : Fr} {rest : List Fr} {δ : Int}
theorem actDo_more {x : Option Int} {line : Int} {a : Act} (hd : 0 ≤ δ) (ht : 0 ≤ s.ticks) (h : actDo m s fr rest x line a = some (s', none)) : actDo m (addT s δ) fr rest x line a = some (addT s' δ, none) ∧ 0 ≤ s'.ticks := by
  unfold actDo at h
  split at h
  · cases h; exact ⟨rfl, ht⟩
  · cases h; exact ⟨rfl, ht⟩
  · cases h
  · split at h
    · cases h
    · rename_i hn
      cases h
      refine ⟨?_, by show 0 ≤ s.ticks - 1; omega⟩
      show (if s.ticks + δ = 0 then _ else _) = _
      rw [if_neg (by omega)]
      show some (_, _) = some (_, _)
      unfold addT
      simp only [Option.some.injEq, Prod.mk.injEq, MS.mk.injEq, and_true, true_and]
      omega
  · cases h; exact ⟨rfl, ht⟩
  · cases h; exact ⟨rfl, ht⟩
  · obtain ⟨g, hg, h⟩ := Option.map_eq_some_iff.mp h
    cases h
    refine ⟨?_, ht⟩
    show (begin_ m _ _ _).map _ = _
    rw [hg]; rfl
  · cases h
theorem actDo_end {x : Option Int} {line : Int} {a : Act} {o : Out} (h : actDo m s fr rest x line a = some (s', some o)) : s'.told = s.told ∧ (o ≠ .tired → actDo m (addT s δ) fr rest x line a = some (addT s' δ, some o)) := by
  unfold actDo at h
  split at h
  · cases h
  · cases h
  · cases h; exact ⟨rfl, fun _ => rfl⟩
  · split at h
    · cases h; exact ⟨rfl, fun z => absurd rfl z⟩
    · cases h
  · cases h
  · cases h
  · obtain ⟨g, hg, h⟩ := Option.map_eq_some_iff.mp h
    cases h
  · cases h
theorem endDo_more {e : End} (ht : 0 ≤ s.ticks) (h : endDo s fr rest e = some (s', none)) : endDo (addT s δ) fr rest e = some (addT s' δ, none) ∧ 0 ≤ s'.ticks := by
  unfold endDo at h ⊢
  split at h
  · split at h
    · rename_i v hv
      split at h
      · cases h
      · split at h
        · rename_i t ht'
          cases h
          simp only [hv, ht']
          exact ⟨rfl, ht⟩
        · cases h
    · cases h
  · cases h
  · split at h
    · rename_i vs hv
      obtain ⟨g, hg, h⟩ := Option.map_eq_some_iff.mp h
      cases h
      simp only [hv, hg]
      exact ⟨rfl, ht⟩
    · cases h
  · split at h
    · rename_i vs hv
      obtain ⟨g, hg, h⟩ := Option.map_eq_some_iff.mp h
      cases h
      simp only [hv, hg]
      exact ⟨rfl, ht⟩
    · cases h
theorem endDo_end {e : End} {o : Out} (h : endDo s fr rest e = some (s', some o)) : s'.told = s.told ∧ (o ≠ .tired → endDo (addT s δ) fr rest e = some (addT s' δ, some o)) := by
  unfold endDo at h ⊢
  split at h
  · split at h
    · rename_i v hv
      split at h
      · cases h
        simp only [hv]
        exact ⟨trivial, fun _ => rfl⟩
      · split at h
        · cases h
        · cases h
    · cases h
  · cases h; exact ⟨rfl, fun _ => rfl⟩
  · split at h
    · obtain ⟨g, hg, h⟩ := Option.map_eq_some_iff.mp h
      cases h
    · cases h
  · split at h
    · obtain ⟨g, hg, h⟩ := Option.map_eq_some_iff.mp h
      cases h
    · cases h
theorem step_more (hd : 0 ≤ δ) (ht : 0 ≤ s.ticks) (h : step m s = some (s', none)) : step m (addT s δ) = some (addT s' δ, none) ∧ 0 ≤ s'.ticks := by
  unfold step at h ⊢
  cases hf : s.frames with
  | nil => rw [hf] at h; cases h
  | cons fr rest =>
    have hf2 : (addT s δ).frames = fr :: rest := hf
    rw [hf] at h
    rw [hf2]
    simp only at h ⊢
    cases hr : fr.block.rows[fr.at']? with
    | none =>
      rw [hr] at h
      simp only at h ⊢
      exact endDo_more ht h
    | some r =>
      rw [hr] at h
      simp only at h ⊢
      cases hv : looks fr.env r.args with
      | none => rw [hv] at h; cases h
      | some vs =>
        rw [hv] at h
        simp only at h ⊢
        cases ha : actO s.things r.op r.more vs with
        | none => rw [ha] at h; cases h
        | some a =>
          have ha2 : actO (addT s δ).things r.op r.more vs = some a := ha
          rw [ha] at h
          rw [ha2]
          simp only at h ⊢
          exact actDo_more hd ht h
theorem step_end {o : Out} (h : step m s = some (s', some o)) : s'.told = s.told ∧ (o ≠ .tired → step m (addT s δ) = some (addT s' δ, some o)) := by
  unfold step at h ⊢
  cases hf : s.frames with
  | nil => rw [hf] at h; cases h
  | cons fr rest =>
    have hf2 : (addT s δ).frames = fr :: rest := hf
    rw [hf] at h
    rw [hf2]
    simp only at h ⊢
    cases hr : fr.block.rows[fr.at']? with
    | none =>
      rw [hr] at h
      simp only at h ⊢
      exact endDo_end h
    | some r =>
      rw [hr] at h
      simp only at h ⊢
      cases hv : looks fr.env r.args with
      | none => rw [hv] at h; cases h
      | some vs =>
        rw [hv] at h
        simp only at h ⊢
        cases ha : actO s.things r.op r.more vs with
        | none => rw [ha] at h; cases h
        | some a =>
          have ha2 : actO (addT s δ).things r.op r.more vs = some a := ha
          rw [ha] at h
          rw [ha2]
          simp only at h ⊢
          exact actDo_end h
end
theorem actDo_pre {m : Mid} {s : MS} {fr : Fr} {rest : List Fr} {x : Option Int} {line : Int} {a : Act} {s' : MS} {o : Option Out} (h : actDo m s fr rest x line a = some (s', o)) : s.told <+: s'.told := by
  unfold actDo at h
  split at h
  · cases h; exact List.prefix_refl _
  · cases h; exact List.prefix_refl _
  · cases h; exact List.prefix_refl _
  · split at h <;> (cases h; exact List.prefix_refl _)
  · cases h; exact List.prefix_append _ _
  · cases h; exact List.prefix_refl _
  · obtain ⟨g, _, h⟩ := Option.map_eq_some_iff.mp h
    cases h; exact List.prefix_refl _
  · cases h
theorem endDo_pre {s : MS} {fr : Fr} {rest : List Fr} {e : End} {s' : MS} {o : Option Out} (h : endDo s fr rest e = some (s', o)) : s.told <+: s'.told := by
  unfold endDo at h
  split at h
  · split at h
    · split at h
      · cases h; exact List.prefix_refl _
      · split at h
        · cases h; exact List.prefix_refl _
        · cases h
    · cases h
  · cases h; exact List.prefix_refl _
  · split at h
    · obtain ⟨g, _, h⟩ := Option.map_eq_some_iff.mp h
      cases h; exact List.prefix_refl _
    · cases h
  · split at h
    · obtain ⟨g, _, h⟩ := Option.map_eq_some_iff.mp h
      cases h; exact List.prefix_refl _
    · cases h
theorem step_pre {m : Mid} {s s' : MS} {o : Option Out} (h : step m s = some (s', o)) : s.told <+: s'.told := by
  unfold step at h
  split at h
  · cases h
  · split at h
    · split at h
      · split at h
        · exact actDo_pre h
        · cases h
      · cases h
    · exact endDo_pre h
theorem runs_pre {m : Mid} : ∀ {n : Nat} {s s' : MS} {o : Out}, Runs m n s s' o → s.told <+: s'.told
  | _, _, _, _, .last h => step_pre h
  | _, _, _, _, .more h r => (step_pre h).trans (runs_pre r)
theorem runs_det {m : Mid} : ∀ {n n2 : Nat} {s s' s2 : MS} {o o2 : Out}, Runs m n s s' o → Runs m n2 s s2 o2 → s' = s2 ∧ o = o2
  | _, _, _, _, _, _, _, .last h, .last h2 => by rw [h] at h2; cases h2; exact ⟨rfl, rfl⟩
  | _, _, _, _, _, _, _, .last h, .more h2 r => by rw [h] at h2; cases h2
  | _, _, _, _, _, _, _, .more h r, .last h2 => by rw [h] at h2; cases h2
  | _, _, _, _, _, _, _, .more h r, .more h2 r2 => by rw [h] at h2; cases h2; exact runs_det r r2
/-- with more ticks -/
theorem runs_more {m : Mid} {δ : Int} (hd : 0 ≤ δ) : ∀ {n : Nat} {s s' : MS} {o : Out}, Runs m n s s' o → 0 ≤ s.ticks →
    (o ≠ .tired → Runs m n (addT s δ) (addT s' δ) o) ∧ (o = .tired → ∀ n2 s2 o2, Runs m n2 (addT s δ) s2 o2 → s'.told <+: s2.told)
  | _, s, s', o, .last h, ht => by
    have e := step_end (δ := δ) h
    refine ⟨fun z => .last (e.2 z), fun _ n2 s2 o2 r => ?_⟩
    rw [e.1]
    have := runs_pre r
    exact this
  | _, s, s', o, .more h r, ht => by
    have e := step_more hd ht h
    have ih := runs_more hd r e.2
    refine ⟨fun z => .more e.1 (ih.1 z), fun z n2 s2 o2 r2 => ?_⟩
    cases r2 with
    | last h2 => rw [e.1] at h2; cases h2
    | more h2 r3 =>
      rw [e.1] at h2
      cases h2
      exact ih.2 z _ _ _ r3
/-- two runs that begin alike but for ticks -/
theorem runs_two {m : Mid} {n n2 : Nat} {s s' s2 s2' : MS} {o o2 : Out} (h : Runs m n s s' o) (h2 : Runs m n2 s2 s2' o2) (ht : 0 ≤ s.ticks) (hle : s.ticks ≤ s2.ticks) (e : s2 = { s with ticks := s2.ticks }) :
    (o = .tired → s'.told <+: s2'.told) ∧ (o ≠ .tired → s'.told = s2'.told ∧ o = o2) := by
  have e2 : s2 = addT s (s2.ticks - s.ticks) := by
    rw [e]
    unfold addT
    simp only [MS.mk.injEq, true_and, and_true]
    omega
  rw [e2] at h2
  have := runs_more (δ := s2.ticks - s.ticks) (by omega) h ht
  refine ⟨fun z => this.2 z _ _ _ h2, fun z => ?_⟩
  have d := runs_det (this.1 z) h2
  rw [← d.1]
  exact ⟨rfl, d.2⟩
end Md

/-! CL, part w13: where ends lead -/
namespace Md
open CL
def isRange (lo n : Nat) : List Nat := match n with
  | 0 => []
  | n + 1 => lo :: isRange (lo + 1) n
theorem rangeL_nat : ∀ (n lo : Nat), rangeL (lo : Int) n = (isRange lo n).map fun (k : Nat) => Val.int k
  | 0, _ => rfl
  | n + 1, lo => by
    rw [rangeL, isRange, List.map_cons, show (lo : Int) + 1 = ((lo + 1 : Nat) : Int) by push_cast; rfl, rangeL_nat n]
theorem mem_isRange : ∀ {n lo k : Nat}, k ∈ isRange lo n ↔ lo ≤ k ∧ k < lo + n
  | 0, lo, k => by simp [isRange]
  | n + 1, lo, k => by
    rw [isRange, List.mem_cons, mem_isRange]
    omega
theorem range_gt : ∀ {n lo k : Nat}, k ∈ isRange lo n → lo ≤ k := fun h => (mem_isRange.mp h).1
/-- the blocks to which an end leads, rising, each once -/
def End.to : End → List Nat
  | .jump b _ => [b]
  | .branch _ b c => if b = c then [b] else if b < c then [b, c] else [c, b]
  | _ => []
/-- the ones that are named -/
def End.raw : End → List Nat
  | .jump b _ => [b]
  | .branch _ b c => [b, c]
  | _ => []
theorem pick_one {b : Nat} : ∀ {n lo : Nat}, lo ≤ b → b < lo + n → (isRange lo n).filter (fun k => decide (k = b)) = [b]
  | 0, lo, h1, h2 => by omega
  | n + 1, lo, h1, h2 => by
    rw [isRange]
    by_cases h : lo = b
    · subst h
      rw [List.filter_cons_of_pos (by simp)]
      have : (isRange (lo + 1) n).filter (fun k => decide (k = lo)) = [] := by
        rw [List.filter_eq_nil_iff]
        intro k hk
        have := range_gt hk
        simp; omega
      rw [this]
    · rw [List.filter_cons_of_neg (by simpa using h)]
      exact pick_one (by omega) (by omega)
theorem pick_two_lt {b c : Nat} (hbc : b < c) : ∀ {n lo : Nat}, lo ≤ b → c < lo + n → (isRange lo n).filter (fun k => decide (k = b) || decide (k = c)) = [b, c]
  | 0, lo, h1, h2 => by omega
  | n + 1, lo, h1, h2 => by
    rw [isRange]
    by_cases h : lo = b
    · subst h
      rw [List.filter_cons_of_pos (by simp)]
      have : (isRange (lo + 1) n).filter (fun k => decide (k = lo) || decide (k = c)) = [c] := by
        have e : ∀ k ∈ isRange (lo + 1) n, (decide (k = lo) || decide (k = c)) = decide (k = c) := fun k hk => by
          have := range_gt hk
          have : ¬ k = lo := by omega
          simp [this]
        rw [List.filter_congr e]
        exact pick_one (by omega) (by omega)
      rw [this]
    · rw [List.filter_cons_of_neg (by simp; omega)]
      exact pick_two_lt hbc (by omega) (by omega)
theorem End.to_range {e : End} {n : Nat} (h : ∀ b ∈ e.raw, b < n) : (isRange 0 n).filter (fun k => e.raw.any fun b => decide (b = k)) = e.to := by
  cases e with
  | jump b args =>
    have := h b (by simp [End.raw])
    have e : ∀ k ∈ isRange 0 n, ((End.jump b args).raw.any fun b => decide (b = k)) = decide (k = b) := fun k _ => by simp [End.raw, eq_comm]
    rw [List.filter_congr e]
    exact pick_one (by omega) (by omega)
  | branch x b c =>
    have hb := h b (by simp [End.raw])
    have hc := h c (by simp [End.raw])
    show _ = (if b = c then [b] else if b < c then [b, c] else [c, b])
    by_cases h1 : b = c
    · subst h1
      rw [if_pos rfl]
      have e : ∀ k ∈ isRange 0 n, ((End.branch x b b).raw.any fun b => decide (b = k)) = decide (k = b) := fun k _ => by simp [End.raw, eq_comm]
      rw [List.filter_congr e]
      exact pick_one (by omega) (by omega)
    · rw [if_neg h1]
      by_cases h2 : b < c
      · rw [if_pos h2]
        have e : ∀ k ∈ isRange 0 n, ((End.branch x b c).raw.any fun b => decide (b = k)) = (decide (k = b) || decide (k = c)) := fun k _ => by simp [End.raw, eq_comm]
        rw [List.filter_congr e]
        exact pick_two_lt h2 (by omega) (by omega)
      · rw [if_neg h2]
        have e : ∀ k ∈ isRange 0 n, ((End.branch x b c).raw.any fun b => decide (b = k)) = (decide (k = c) || decide (k = b)) := fun k _ => by simp [End.raw, eq_comm, Bool.or_comm]
        rw [List.filter_congr e]
        exact pick_two_lt (by omega) (by omega) (by omega)
  | give x => simp [End.raw, End.to]
  | fail w l => simp [End.raw, End.to]
/-- sorted(set((b, c))) -/
theorem sset_two (b c : Nat) : (uniqI [(b : Int), (c : Int)]).mergeSort (fun i j => decide (i ≤ j)) = (if b = c then [b] else if b < c then [b, c] else [c, b]).map fun (k : Nat) => (k : Int) := by
  by_cases h1 : b = c
  · subst h1
    rw [if_pos rfl]
    have : uniqI [(b : Int), (b : Int)] = [(b : Int)] := by simp [uniqI]
    rw [this]
    simp
  · rw [if_neg h1]
    have hu : uniqI [(b : Int), (c : Int)] = [(b : Int), (c : Int)] := by
      have : ¬ (b : Int) = (c : Int) := by omega
      simp [uniqI, this]
    rw [hu]
    have hp := List.mergeSort_perm [(b : Int), (c : Int)] (fun i j => decide (i ≤ j))
    have hs := List.pairwise_mergeSort (le := fun i j : Int => decide (i ≤ j)) (fun i j k h1 h2 => by simp at *; omega) (fun i j => by simp; omega) [(b : Int), (c : Int)]
    generalize [(b : Int), (c : Int)].mergeSort (fun i j => decide (i ≤ j)) = l at hp hs
    have hl := hp.length_eq
    match l, hl with
    | [x, y], _ =>
      have hbm := (hp.mem_iff (a := (b : Int))).mpr (by simp)
      have hcm := (hp.mem_iff (a := (c : Int))).mpr (by simp)
      have hxy : x ≤ y := by
        rw [List.pairwise_cons] at hs
        have := hs.1 y (by simp)
        simpa using this
      simp at hbm hcm
      by_cases h2 : b < c
      · rw [if_pos h2]
        have e1 : x = b := by rcases hbm with h | h <;> rcases hcm with h' | h' <;> omega
        have e2 : y = c := by rcases hbm with h | h <;> rcases hcm with h' | h' <;> omega
        rw [e1, e2]; rfl
      · rw [if_neg h2]
        have e1 : x = c := by rcases hbm with h | h <;> rcases hcm with h' | h' <;> omega
        have e2 : y = b := by rcases hbm with h | h <;> rcases hcm with h' | h' <;> omega
        rw [e1, e2]; rfl
/-- ends lead to blocks -/
def LeadsOk (bs : List Block) : Prop := ∀ k ∈ bs, ∀ b ∈ k.en.raw, b < bs.length
theorem Gs.Shut.leads {T : Sg} {pl : Plan} {S : Gs} {bs : List Block} (h : S.Shut T pl []) (hb : S.blocks = bs.map some) : LeadsOk bs := by
  intro k hk b hkb
  obtain ⟨i, hi⟩ := List.getElem?_of_mem hk
  have hl : S.blocks.length = bs.length := by rw [hb, List.length_map]
  have hil : i < S.blocks.length := by rw [hl]; exact (List.getElem?_eq_some_iff.mp hi).1
  obtain ⟨k', p, h1, h2, h3⟩ := (h.fin i hil).resolve_left (by simp)
  rw [hb, List.getElem?_map, hi] at h1
  cases h1
  obtain ⟨Γ', _, he⟩ := h3.body
  have go : ∀ {rk : Nat} {Γ : Ga} {ks : List Kd} {b : Nat}, Goes pl rk Γ b ks → b < bs.length := fun {rk Γ ks b} hg => by
    obtain ⟨p', hp', _⟩ := hg
    rw [← hl]
    exact h.pln b p' hp'
  generalize k.en = en at he hkb
  cases he with
  | jump a hg =>
    simp [End.raw] at hkb
    subst hkb; exact go hg
  | branch h1 hg hg' =>
    simp [End.raw] at hkb
    rcases hkb with rfl | rfl
    · exact go hg
    · exact go hg'
  | give h => simp [End.raw] at hkb
  | fail h => simp [End.raw] at hkb
end Md

namespace LK24
open PySem
abbrev f_ends_leads : Nat := 0
abbrev f_leads : Nat := 1
abbrev f_l_pot : Nat := 2
abbrev f_l_mix : Nat := 3
abbrev f_l_take : Nat := 4
abbrev f_l_ops : Nat := 5
abbrev f_l_put : Nat := 6
abbrev f_l_name : Nat := 7
abbrev f_l_straight : Nat := 8
abbrev f_l_open : Nat := 9
abbrev f_l_begin : Nat := 10
abbrev f_l_end : Nat := 11
abbrev f_l_choice : Nat := 12
abbrev f_l_loop : Nat := 13
abbrev f_l_body : Nat := 14
abbrev f_l_function : Nat := 15
abbrev f_l_middle : Nat := 16
abbrev f_l_kept : Nat := 17
abbrev f_l_renumbered : Nat := 18
abbrev f_l_graph : Nat := 19
abbrev f_l_goals : Nat := 20
abbrev f_l_alike : Nat := 21
abbrev f_l_right : Nat := 22
abbrev f_law : Nat := 23
/- ends_leads(end): 0 end -/
def d_ends_leads : CL.FDef := ⟨1, 1,
    (.cons (.cond (.of (.cmp .eq (.sub (.v 0) (.int 0)) (.str "jump"))) (.cons (.ret (.lst (.cons (.sub (.v 0) (.int 1)) .nil)))
    .nil) .nil)
    (.cons (.cond (.of (.cmp .eq (.sub (.v 0) (.int 0)) (.str "branch"))) (.cons (.ret (.sset (.cut (.v 0) (.so (.int 2)) .no)))
    .nil) .nil)
    (.cons (.ret (.lst .nil))
    .nil)))⟩
/- leads(function): 0 function 1 block -/
def d_leads : CL.FDef := ⟨1, 2,
    (.cons (.ret (.lc (.one 1) (.of (.sub (.v 0) (.int 2))) .yes (.call f_ends_leads (.cons (.sub (.v 1) (.int 2)) .nil))))
    .nil)⟩
/- _law_pot(_law_cells): 0 _law_cells 1 _law_mixed -/
def d_l_pot : CL.FDef := ⟨1, 2,
    (.cons (.asg (.one 1) (.and (.cmp .gt (.bf .len (.cons (.v 0) .nil)) (.int 0)) (.cmp .eq (.bin .mod (.sub (.v 0) (.int 0)) (.int 2)) (.int 1))))
    (.cons (.ret (.dic (.cons (.str "cells") (.bf .list (.cons (.v 0) .nil)) (.cons (.str "at") (.int 0) (.cons (.str "left") (.int 0) (.cons (.str "many") (.int 0) (.cons (.str "mixed") (.v 1) .nil)))))))
    .nil))⟩
/- _law_mix(_law_number, _law_turn): 0 _law_number 1 _law_turn 2 _law_one -/
def d_l_mix : CL.FDef := ⟨2, 3,
    (.cons (.asg (.one 2) (.bin .mod (.bin .mul (.bin .add (.bin .add (.bin .mod (.v 0) (.int 2147483647)) (.bin .mul (.int 7) (.v 1))) (.int 3)) (.int 48271)) (.int 2147483629)))
    (.cons (.ret (.bin .mod (.bin .mul (.v 2) (.v 2)) (.int 2147483587)))
    .nil))⟩
/- _law_take(_law_pot_here, _law_many): 0 _law_pot_here 1 _law_many 2 _law_cells 3 _law_told -/
def d_l_take : CL.FDef := ⟨2, 4,
    (.cons (.asg (.one 2) (.sub (.v 0) (.str "cells")))
    (.cons (.aus (.v 0) (.str "many") .add (.int 1))
    (.cons (.cond (.of (.sub (.v 0) (.str "mixed"))) (.cons (.ret (.bin .mod (.bin .fdiv (.call f_l_mix (.cons (.sub (.v 2) (.bin .mod (.sub (.v 0) (.str "many")) (.bf .len (.cons (.v 2) .nil)))) (.cons (.sub (.v 0) (.str "many")) .nil))) (.int 7)) (.v 1)))
    .nil) .nil)
    (.cons (.cond (.and (.of (.cmp .eq (.sub (.v 0) (.str "left")) (.int 0))) (.of (.cmp .lt (.sub (.v 0) (.str "at")) (.bf .len (.cons (.v 2) .nil))))) (.cons (.asg (.sub (.v 0) (.str "left")) (.bin .mod (.bf .abs (.cons (.sub (.v 2) (.sub (.v 0) (.str "at"))) .nil)) (.bin .pow (.int 10) (.int 60))))
    (.cons (.aus (.v 0) (.str "at") .add (.int 1))
    .nil)) .nil)
    (.cons (.cond (.of (.cmp .eq (.sub (.v 0) (.str "left")) (.int 0))) (.cons (.ret (.bin .mod (.bin .fdiv (.call f_l_mix (.cons (.bf .len (.cons (.v 2) .nil)) (.cons (.sub (.v 0) (.str "many")) .nil))) (.int 7)) (.v 1)))
    .nil) .nil)
    (.cons (.asg (.one 3) (.bin .mod (.sub (.v 0) (.str "left")) (.v 1)))
    (.cons (.asg (.sub (.v 0) (.str "left")) (.bin .fdiv (.sub (.v 0) (.str "left")) (.v 1)))
    (.cons (.ret (.v 3))
    .nil))))))))⟩
/- _law_ops(_law_calls): 0 _law_calls 1 _law_ops_here 2 _law_fun 3 _law_name_here 4 _law_number 5 _law_truth 6 _law_row 7 _law_pair 8 _law_op 9 _law_told 10 _law_n 11 _law_place -/
def d_l_ops : CL.FDef := ⟨1, 12,
    (.cons (.asT [(.one 4), (.one 5), (.one 6), (.one 7)] (.tup (.cons (.tup (.cons (.str "number") .nil)) (.cons (.tup (.cons (.str "truth") .nil)) (.cons (.tup (.cons (.str "row") (.cons (.tup (.cons (.str "number") .nil)) .nil))) (.cons (.tup (.cons (.str "record") (.cons (.str "pair") .nil))) .nil))))))
    (.cons (.asg (.one 1) (.lc (.one 8) (.of (.tup (.cons (.str "+") (.cons (.str "-") (.cons (.str "*") (.cons (.str "+") (.cons (.str "div") (.cons (.str "rem") .nil)))))))) .yes (.tup (.cons (.v 8) (.cons (.tup (.cons (.v 4) (.cons (.v 4) .nil))) (.cons (.v 4) (.cons (.tup .nil) .nil)))))))
    (.cons (.asg (.one 1) (.bin .add (.v 1) (.lc (.one 8) (.of (.tup (.cons (.str "<") (.cons (.str "=") .nil)))) .yes (.tup (.cons (.v 8) (.cons (.tup (.cons (.v 4) (.cons (.v 4) .nil))) (.cons (.v 5) (.cons (.tup .nil) .nil))))))))
    (.cons (.asg (.one 1) (.bin .add (.bin .add (.v 1) (.lc (.one 8) (.of (.tup (.cons (.str "and") (.cons (.str "or") .nil)))) .yes (.tup (.cons (.v 8) (.cons (.tup (.cons (.v 5) (.cons (.v 5) .nil))) (.cons (.v 5) (.cons (.tup .nil) .nil))))))) (.lst (.cons (.tup (.cons (.str "not") (.cons (.tup (.cons (.v 5) .nil)) (.cons (.v 5) (.cons (.tup .nil) .nil))))) .nil))))
    (.cons (.asg (.one 1) (.bin .add (.v 1) (.lc (.one 9) (.of (.tup (.cons (.bl true) (.cons (.bl false) .nil)))) .yes (.tup (.cons (.str "truth") (.cons (.tup .nil) (.cons (.v 5) (.cons (.tup (.cons (.v 9) .nil)) .nil))))))))
    (.cons (.asg (.one 1) (.bin .add (.v 1) (.lc (.one 10) (.of (.tup (.cons (.neg (.int 1)) (.cons (.int 0) (.cons (.int 1) (.cons (.int 2) (.cons (.int 60) (.cons (.int 61) (.cons (.int 2147483647) (.cons (.neg (.int 2147483648)) .nil)))))))))) .yes (.tup (.cons (.str "number") (.cons (.tup .nil) (.cons (.v 4) (.cons (.tup (.cons (.v 10) .nil)) .nil))))))))
    (.cons (.asg (.one 1) (.bin .add (.v 1) (.lst (.cons (.tup (.cons (.str "fill") (.cons (.tup (.cons (.str "few") (.cons (.v 4) .nil))) (.cons (.v 6) (.cons (.tup .nil) .nil))))) (.cons (.tup (.cons (.str "fill") (.cons (.tup (.cons (.v 4) (.cons (.v 4) .nil))) (.cons (.v 6) (.cons (.tup .nil) .nil))))) (.cons (.tup (.cons (.str "long") (.cons (.tup (.cons (.v 6) .nil)) (.cons (.v 4) (.cons (.tup .nil) .nil))))) .nil))))))
    (.cons (.asg (.one 1) (.bin .add (.v 1) (.lc (.one 11) (.of (.tup (.cons (.str "few") (.cons (.v 4) .nil)))) .yes (.tup (.cons (.str "get") (.cons (.tup (.cons (.v 6) (.cons (.v 11) .nil))) (.cons (.v 4) (.cons (.tup .nil) .nil))))))))
    (.cons (.asg (.one 1) (.bin .add (.v 1) (.lc (.one 11) (.of (.tup (.cons (.str "few") (.cons (.v 4) .nil)))) .yes (.tup (.cons (.str "set") (.cons (.tup (.cons (.v 6) (.cons (.v 11) (.cons (.v 4) .nil)))) (.cons .non (.cons (.tup .nil) .nil))))))))
    (.cons (.asg (.one 1) (.bin .add (.v 1) (.lst (.cons (.tup (.cons (.str "make") (.cons (.tup (.cons (.v 4) (.cons (.v 5) .nil))) (.cons (.v 7) (.cons (.tup (.cons (.str "pair") .nil)) .nil))))) (.cons (.tup (.cons (.str "cell") (.cons (.tup (.cons (.v 7) .nil)) (.cons (.v 4) (.cons (.tup (.cons (.int 0) .nil)) .nil))))) .nil)))))
    (.cons (.asg (.one 1) (.bin .add (.v 1) (.lst (.cons (.tup (.cons (.str "cell") (.cons (.tup (.cons (.v 7) .nil)) (.cons (.v 5) (.cons (.tup (.cons (.int 1) .nil)) .nil))))) (.cons (.tup (.cons (.str "store") (.cons (.tup (.cons (.v 7) (.cons (.v 4) .nil))) (.cons .non (.cons (.tup (.cons (.int 0) .nil)) .nil))))) .nil)))))
    (.cons (.asg (.one 1) (.bin .add (.bin .add (.v 1) (.lst (.cons (.tup (.cons (.str "store") (.cons (.tup (.cons (.v 7) (.cons (.v 5) .nil))) (.cons .non (.cons (.tup (.cons (.int 1) .nil)) .nil))))) .nil))) (.bin .mul (.lst (.cons (.tup (.cons (.str "tell") (.cons (.tup (.cons (.v 4) .nil)) (.cons .non (.cons (.tup .nil) .nil))))) .nil)) (.int 4))))
    (.cons (.asg (.one 2) (.tup (.cons (.str "fun") (.cons (.tup (.cons (.v 4) .nil)) (.cons (.v 4) .nil)))))
    (.cons (.for (.one 3) (.of (.v 0)) (.cons (.asg (.one 1) (.bin .add (.v 1) (.bin .mul (.lst (.cons (.tup (.cons (.str "call") (.cons (.tup (.cons (.v 4) (.cons (.v 4) .nil))) (.cons (.v 4) (.cons (.tup (.cons (.v 3) .nil)) .nil))))) (.cons (.tup (.cons (.str "close") (.cons (.tup (.cons (.v 4) .nil)) (.cons (.v 2) (.cons (.tup (.cons (.v 3) .nil)) .nil))))) .nil))) (.int 2))))
    (.cons (.asg (.one 1) (.bin .add (.v 1) (.bin .mul (.lst (.cons (.tup (.cons (.str "ask") (.cons (.tup (.cons (.v 2) (.cons (.v 4) .nil))) (.cons (.v 4) (.cons (.tup .nil) .nil))))) .nil)) (.int 2))))
    .nil)))
    (.cons (.ret (.v 1))
    .nil)))))))))))))))⟩
/- _law_put(_law_state, _law_kind, _law_op, _law_args, _law_more): 0 _law_state 1 _law_kind 2 _law_op 3 _law_args 4 _law_more 5 _law_x -/
def d_l_put : CL.FDef := ⟨5, 6,
    (.cons (.asg (.one 5) .non)
    (.cons (.cond (.of (.noN (.v 1))) (.cons (.asg (.one 5) (.sub (.v 0) (.str "next")))
    (.cons (.aus (.v 0) (.str "next") .add (.int 1))
    (.cons (.ex (.bm .append (.sub (.v 0) (.str "env")) (.cons (.tup (.cons (.v 5) (.cons (.v 1) .nil))) .nil)))
    .nil))) .nil)
    (.cons (.aus (.v 0) (.str "line") .add (.int 1))
    (.cons (.ex (.bm .append (.sub (.v 0) (.str "rows")) (.cons (.tup (.cons (.v 5) (.cons (.v 1) (.cons (.v 2) (.cons (.bf .tuple (.cons (.v 3) .nil)) (.cons (.v 4) (.cons (.sub (.v 0) (.str "line")) .nil))))))) .nil)))
    (.cons (.ret (.v 5))
    .nil)))))⟩
/- _law_name(_law_state, _law_pot_here, _law_kind): 0 _law_state 1 _law_pot_here 2 _law_kind 3 _law_number 4 _law_some 5 _law_x 6 _law_have 7 _law_one -/
def d_l_name : CL.FDef := ⟨3, 8,
    (.cons (.asg (.one 3) (.tup (.cons (.str "number") .nil)))
    (.cons (.asg (.one 4) (.lc (.many [5, 6]) (.of (.sub (.v 0) (.str "env"))) (.of (.cmp .eq (.v 6) (.v 2))) (.v 5)))
    (.cons (.cond (.of (.cmp .ne (.v 4) (.lst .nil))) (.cons (.ret (.sub (.v 4) (.bin .sub (.bin .sub (.bf .len (.cons (.v 4) .nil)) (.int 1)) (.call f_l_take (.cons (.v 1) (.cons (.bf .len (.cons (.v 4) .nil)) .nil))))))
    .nil) .nil)
    (.cons (.cond (.of (.cmp .eq (.v 2) (.str "few"))) (.cons (.ret (.call f_l_put (.cons (.v 0) (.cons (.v 3) (.cons (.str "number") (.cons (.tup .nil) (.cons (.tup (.cons (.call f_l_take (.cons (.v 1) (.cons (.int 4) .nil))) .nil)) .nil)))))))
    .nil) .nil)
    (.cons (.cond (.of (.cmp .eq (.v 2) (.tup (.cons (.str "truth") .nil)))) (.cons (.ret (.call f_l_put (.cons (.v 0) (.cons (.v 2) (.cons (.str "truth") (.cons (.tup .nil) (.cons (.tup (.cons (.bl true) .nil)) .nil)))))))
    .nil) .nil)
    (.cons (.cond (.of (.cmp .eq (.sub (.v 2) (.int 0)) (.str "record"))) (.cons (.ret (.call f_l_put (.cons (.v 0) (.cons (.v 2) (.cons (.str "make") (.cons (.lc (.one 7) (.of (.tup (.cons (.v 3) (.cons (.tup (.cons (.str "truth") .nil)) .nil)))) .yes (.call f_l_name (.cons (.v 0) (.cons (.v 1) (.cons (.v 7) .nil))))) (.cons (.tup (.cons (.str "pair") .nil)) .nil)))))))
    .nil) .nil)
    (.cons (.cond (.of (.cmp .eq (.sub (.v 2) (.int 0)) (.str "row"))) (.cons (.ret (.call f_l_put (.cons (.v 0) (.cons (.v 2) (.cons (.str "fill") (.cons (.lc (.one 7) (.of (.tup (.cons (.int 0) (.cons (.int 1) .nil)))) .yes (.call f_l_name (.cons (.v 0) (.cons (.v 1) (.cons (.str "few") .nil))))) (.cons (.tup .nil) .nil)))))))
    .nil) .nil)
    (.cons (.cond (.of (.cmp .eq (.sub (.v 2) (.int 0)) (.str "fun"))) (.cons (.ret (.call f_l_put (.cons (.v 0) (.cons (.v 2) (.cons (.str "close") (.cons (.tup (.cons (.call f_l_name (.cons (.v 0) (.cons (.v 1) (.cons (.v 3) .nil)))) .nil)) (.cons (.tup (.cons (.sub (.sub (.v 0) (.str "calls")) (.int 0)) .nil)) .nil)))))))
    .nil) .nil)
    (.cons (.ret (.call f_l_put (.cons (.v 0) (.cons (.v 3) (.cons (.str "number") (.cons (.tup .nil) (.cons (.tup (.cons (.int 7) .nil)) .nil)))))))
    .nil)))))))))⟩
/- _law_straight(_law_state, _law_pot_here): 0 _law_state 1 _law_pot_here 2 _law_ops_here 3 _law_k 4 _law_op 5 _law_kinds 6 _law_kind 7 _law_more 8 _law_one -/
def d_l_straight : CL.FDef := ⟨2, 9,
    (.cons (.asg (.one 2) (.call f_l_ops (.cons (.sub (.v 0) (.str "calls")) .nil)))
    (.cons (.for (.one 3) (.rg1 (.bin .add (.int 1) (.call f_l_take (.cons (.v 1) (.cons (.int 4) .nil))))) (.cons (.asT [(.one 4), (.one 5), (.one 6), (.one 7)] (.sub (.v 2) (.call f_l_take (.cons (.v 1) (.cons (.bf .len (.cons (.v 2) .nil)) .nil)))))
    (.cons (.cond (.of (.cmp .lt (.sub (.v 0) (.str "line")) (.int 100))) (.cons (.ex (.call f_l_put (.cons (.v 0) (.cons (.v 6) (.cons (.v 4) (.cons (.lc (.one 8) (.of (.v 5)) .yes (.call f_l_name (.cons (.v 0) (.cons (.v 1) (.cons (.v 8) .nil))))) (.cons (.v 7) .nil)))))))
    .nil) .nil)
    .nil)))
    .nil))⟩
/- _law_open(_law_state): 0 _law_state -/
def d_l_open : CL.FDef := ⟨1, 1,
    (.cons (.ex (.bm .append (.sub (.v 0) (.str "blocks")) (.cons .non .nil)))
    (.cons (.ret (.bin .sub (.bf .len (.cons (.sub (.v 0) (.str "blocks")) .nil)) (.int 1)))
    .nil))⟩
/- _law_begin(_law_state, _law_at, _law_kinds): 0 _law_state 1 _law_at 2 _law_kinds 3 _law_names -/
def d_l_begin : CL.FDef := ⟨3, 4,
    (.cons (.asg (.one 3) (.lrg2 (.sub (.v 0) (.str "next")) (.bin .add (.sub (.v 0) (.str "next")) (.bf .len (.cons (.v 2) .nil)))))
    (.cons (.asT [(.sub (.v 0) (.str "now")), (.sub (.v 0) (.str "rows")), (.sub (.v 0) (.str "params"))] (.tup (.cons (.v 1) (.cons (.lst .nil) (.cons (.lzip (.v 3) (.v 2)) .nil)))))
    (.cons (.asg (.sub (.v 0) (.str "env")) (.bin .add (.sub (.v 0) (.str "env")) (.sub (.v 0) (.str "params"))))
    (.cons (.aus (.v 0) (.str "next") .add (.bf .len (.cons (.v 2) .nil)))
    (.cons (.ret (.v 3))
    .nil)))))⟩
/- _law_end(_law_state, _law_end_here): 0 _law_state 1 _law_end_here -/
def d_l_end : CL.FDef := ⟨2, 2,
    (.cons (.asg (.sub (.sub (.v 0) (.str "blocks")) (.sub (.v 0) (.str "now"))) (.tup (.cons (.bf .tuple (.cons (.sub (.v 0) (.str "params")) .nil)) (.cons (.bf .tuple (.cons (.sub (.v 0) (.str "rows")) .nil)) (.cons (.v 1) .nil)))))
    .nil)⟩
/- _law_choice(_law_state, _law_pot_here, _law_deep): 0 _law_state 1 _law_pot_here 2 _law_deep 3 _law_asked 4 _law_env 5 _law_arm 6 _law_yes 7 _law_no 8 _law_join -/
def d_l_choice : CL.FDef := ⟨3, 9,
    (.cons (.asg (.one 3) (.call f_l_name (.cons (.v 0) (.cons (.v 1) (.cons (.tup (.cons (.str "truth") .nil)) .nil)))))
    (.cons (.par [6, 7, 8] (.cons (.call f_l_open (.cons (.v 0) .nil)) (.cons (.call f_l_open (.cons (.v 0) .nil)) (.cons (.call f_l_open (.cons (.v 0) .nil)) .nil))))
    (.cons (.ex (.call f_l_end (.cons (.v 0) (.cons (.tup (.cons (.str "branch") (.cons (.v 3) (.cons (.v 6) (.cons (.v 7) .nil))))) .nil))))
    (.cons (.asg (.one 4) (.bf .list (.cons (.sub (.v 0) (.str "env")) .nil)))
    (.cons (.for (.one 5) (.of (.tup (.cons (.v 6) (.cons (.v 7) .nil)))) (.cons (.asg (.sub (.v 0) (.str "env")) (.bf .list (.cons (.v 4) .nil)))
    (.cons (.ex (.call f_l_begin (.cons (.v 0) (.cons (.v 5) (.cons (.tup .nil) .nil)))))
    (.cons (.ex (.call f_l_body (.cons (.v 0) (.cons (.v 1) (.cons (.bin .add (.v 2) (.int 1)) .nil)))))
    (.cons (.cond (.and (.of (.cmp .eq (.v 5) (.v 6))) (.of (.cmp .eq (.call f_l_take (.cons (.v 1) (.cons (.int 9) .nil))) (.int 8)))) (.cons (.ex (.call f_l_end (.cons (.v 0) (.cons (.tup (.cons (.str "fail") (.cons (.str "fail") (.cons (.sub (.v 0) (.str "line")) .nil)))) .nil))))
    .nil) (.cons (.ex (.call f_l_end (.cons (.v 0) (.cons (.tup (.cons (.str "jump") (.cons (.v 8) (.cons (.tup (.cons (.call f_l_name (.cons (.v 0) (.cons (.v 1) (.cons (.tup (.cons (.str "number") .nil)) .nil)))) .nil)) .nil)))) .nil))))
    .nil))
    .nil)))))
    (.cons (.asg (.sub (.v 0) (.str "env")) (.bf .list (.cons (.v 4) .nil)))
    (.cons (.ex (.call f_l_begin (.cons (.v 0) (.cons (.v 8) (.cons (.tup (.cons (.tup (.cons (.str "number") .nil)) .nil)) .nil)))))
    .nil)))))))⟩
/- _law_loop(_law_state, _law_pot_here, _law_deep): 0 _law_state 1 _law_pot_here 2 _law_deep 3 _law_number 4 _law_first 5 _law_asked 6 _law_env 7 _law_less 8 _law_head 9 _law_body_here 10 _law_out 11 _law_held 12 _law_left -/
def d_l_loop : CL.FDef := ⟨3, 13,
    (.cons (.asg (.one 3) (.tup (.cons (.str "number") .nil)))
    (.cons (.asg (.one 4) (.tup (.cons (.call f_l_name (.cons (.v 0) (.cons (.v 1) (.cons (.v 3) .nil)))) (.cons (.call f_l_name (.cons (.v 0) (.cons (.v 1) (.cons (.str "few") .nil)))) .nil))))
    (.cons (.par [8, 9, 10] (.cons (.call f_l_open (.cons (.v 0) .nil)) (.cons (.call f_l_open (.cons (.v 0) .nil)) (.cons (.call f_l_open (.cons (.v 0) .nil)) .nil))))
    (.cons (.ex (.call f_l_end (.cons (.v 0) (.cons (.tup (.cons (.str "jump") (.cons (.v 8) (.cons (.v 4) .nil)))) .nil))))
    (.cons (.asT [(.one 11), (.one 12)] (.call f_l_begin (.cons (.v 0) (.cons (.v 8) (.cons (.tup (.cons (.v 3) (.cons (.v 3) .nil))) .nil)))))
    (.cons (.ex (.call f_l_put (.cons (.v 0) (.cons .non (.cons (.str "tick") (.cons (.tup .nil) (.cons (.tup .nil) .nil)))))))
    (.cons (.asg (.one 5) (.call f_l_put (.cons (.v 0) (.cons (.tup (.cons (.str "truth") .nil)) (.cons (.str "<") (.cons (.tup (.cons (.call f_l_put (.cons (.v 0) (.cons (.v 3) (.cons (.str "number") (.cons (.tup .nil) (.cons (.tup (.cons (.int 0) .nil)) .nil)))))) (.cons (.v 12) .nil))) (.cons (.tup .nil) .nil)))))))
    (.cons (.cond (.of (.cmp .eq (.call f_l_take (.cons (.v 1) (.cons (.int 8) .nil))) (.int 7))) (.cons (.asg (.one 5) (.call f_l_name (.cons (.v 0) (.cons (.v 1) (.cons (.tup (.cons (.str "truth") .nil)) .nil)))))
    .nil) .nil)
    (.cons (.ex (.call f_l_end (.cons (.v 0) (.cons (.tup (.cons (.str "branch") (.cons (.v 5) (.cons (.v 9) (.cons (.v 10) .nil))))) .nil))))
    (.cons (.asg (.one 6) (.bf .list (.cons (.sub (.v 0) (.str "env")) .nil)))
    (.cons (.ex (.call f_l_begin (.cons (.v 0) (.cons (.v 9) (.cons (.tup .nil) .nil)))))
    (.cons (.ex (.call f_l_body (.cons (.v 0) (.cons (.v 1) (.cons (.bin .add (.v 2) (.int 1)) .nil)))))
    (.cons (.asg (.one 7) (.call f_l_put (.cons (.v 0) (.cons (.v 3) (.cons (.str "-") (.cons (.tup (.cons (.v 12) (.cons (.call f_l_put (.cons (.v 0) (.cons (.v 3) (.cons (.str "number") (.cons (.tup .nil) (.cons (.tup (.cons (.int 1) .nil)) .nil)))))) .nil))) (.cons (.tup .nil) .nil)))))))
    (.cons (.ex (.call f_l_end (.cons (.v 0) (.cons (.tup (.cons (.str "jump") (.cons (.v 8) (.cons (.tup (.cons (.call f_l_name (.cons (.v 0) (.cons (.v 1) (.cons (.v 3) .nil)))) (.cons (.v 7) .nil))) .nil)))) .nil))))
    (.cons (.asg (.sub (.v 0) (.str "env")) (.bf .list (.cons (.v 6) .nil)))
    (.cons (.ex (.call f_l_begin (.cons (.v 0) (.cons (.v 10) (.cons (.tup .nil) .nil)))))
    .nil))))))))))))))))⟩
/- _law_body(_law_state, _law_pot_here, _law_deep): 0 _law_state 1 _law_pot_here 2 _law_deep 3 _law_k 4 _law_way -/
def d_l_body : CL.FDef := ⟨3, 5,
    (.cons (.for (.one 3) (.rg1 (.bin .add (.int 1) (.call f_l_take (.cons (.v 1) (.cons (.int 3) .nil))))) (.cons (.asg (.one 4) (.call f_l_take (.cons (.v 1) (.cons (.int 5) .nil))))
    (.cons (.aus (.v 0) (.str "budget") .sub (.int 1))
    (.cons (.cond (.or (.of (.cmp .lt (.v 4) (.int 3))) (.or (.of (.cmp .gt (.v 2) (.int 2))) (.of (.cmp .lt (.sub (.v 0) (.str "budget")) (.int 0))))) (.cons (.ex (.call f_l_straight (.cons (.v 0) (.cons (.v 1) .nil))))
    .nil) (.cons (.cond (.of (.cmp .eq (.v 4) (.int 3))) (.cons (.ex (.call f_l_choice (.cons (.v 0) (.cons (.v 1) (.cons (.v 2) .nil)))))
    .nil) (.cons (.ex (.call f_l_loop (.cons (.v 0) (.cons (.v 1) (.cons (.v 2) .nil)))))
    .nil))
    .nil))
    .nil))))
    .nil)⟩
/- _law_function(_law_pot_here, _law_name_here, _law_many, _law_calls, _law_budget): 0 _law_pot_here 1 _law_name_here 2 _law_many 3 _law_calls 4 _law_budget 5 _law_state -/
def d_l_function : CL.FDef := ⟨5, 6,
    (.cons (.asg (.one 5) (.dic (.cons (.str "blocks") (.lst .nil) (.cons (.str "now") (.int 0) (.cons (.str "rows") (.lst .nil) (.cons (.str "params") (.lst .nil) (.cons (.str "env") (.lst .nil) (.cons (.str "next") (.int 0) (.cons (.str "line") (.int 0) (.cons (.str "calls") (.v 3) (.cons (.str "budget") (.v 4) .nil)))))))))))
    (.cons (.ex (.call f_l_begin (.cons (.v 5) (.cons (.call f_l_open (.cons (.v 5) .nil)) (.cons (.bin .mul (.lst (.cons (.tup (.cons (.str "number") .nil)) .nil)) (.v 2)) .nil)))))
    (.cons (.ex (.call f_l_put (.cons (.v 5) (.cons .non (.cons (.str "tick") (.cons (.tup .nil) (.cons (.tup .nil) .nil)))))))
    (.cons (.ex (.call f_l_body (.cons (.v 5) (.cons (.v 0) (.cons (.int 0) .nil)))))
    (.cons (.ex (.call f_l_end (.cons (.v 5) (.cons (.tup (.cons (.str "give") (.cons (.call f_l_name (.cons (.v 5) (.cons (.v 0) (.cons (.tup (.cons (.str "number") .nil)) .nil)))) .nil))) .nil))))
    (.cons (.ret (.tup (.cons (.v 1) (.cons (.tup (.cons (.str "number") .nil)) (.cons (.bf .tuple (.cons (.sub (.v 5) (.str "blocks")) .nil)) .nil)))))
    .nil))))))⟩
/- _law_middle(_law_pot_here): 0 _law_pot_here 1 _law_budget 2 _law_leaf 3 _law_stem 4 _law_main 5 _law_functions 6 _law_turn -/
def d_l_middle : CL.FDef := ⟨1, 7,
    (.cons (.asg (.one 1) (.bin .add (.int 1) (.bf .min2 (.cons (.int 5) (.cons (.bin .fdiv (.bf .len (.cons (.sub (.v 0) (.str "cells")) .nil)) (.int 5)) .nil)))))
    (.cons (.asg (.one 2) (.call f_l_function (.cons (.v 0) (.cons (.str "leaf") (.cons (.int 2) (.cons (.lst .nil) (.cons (.bin .fdiv (.v 1) (.int 2)) .nil)))))))
    (.cons (.asg (.one 3) (.call f_l_function (.cons (.v 0) (.cons (.str "stem") (.cons (.int 2) (.cons (.cut (.lst (.cons (.str "leaf") (.cons (.str "stem") .nil))) .no (.so (.bin .add (.int 1) (.call f_l_take (.cons (.v 0) (.cons (.int 2) .nil)))))) (.cons (.bin .fdiv (.v 1) (.int 2)) .nil)))))))
    (.cons (.asg (.one 4) (.call f_l_function (.cons (.v 0) (.cons (.str "main") (.cons (.call f_l_take (.cons (.v 0) (.cons (.int 5) .nil))) (.cons (.lst (.cons (.str "stem") (.cons (.str "leaf") .nil))) (.cons (.v 1) .nil)))))))
    (.cons (.asg (.one 5) (.lst (.cons (.v 4) (.cons (.v 2) (.cons (.v 3) .nil)))))
    (.cons (.asg (.one 6) (.call f_l_take (.cons (.v 0) (.cons (.int 3) .nil))))
    (.cons (.ret (.tup (.cons (.tup (.cons (.tup (.cons (.str "pair") (.cons (.tup (.cons (.tup (.cons (.str "number") .nil)) (.cons (.tup (.cons (.str "truth") .nil)) .nil))) .nil))) .nil)) (.cons (.bf .tuple (.cons (.bin .add (.cut (.v 5) (.so (.v 6)) .no) (.cut (.v 5) .no (.so (.v 6)))) .nil)) .nil))))
    .nil)))))))⟩
/- _law_kept(_law_blocks): 0 _law_blocks 1 _law_met 2 _law_waiting 3 _law_end_here 4 _law_goal -/
def d_l_kept : CL.FDef := ⟨1, 5,
    (.cons (.asg (.one 1) (.dic (.cons (.int 0) (.bl true) .nil)))
    (.cons (.asg (.one 2) (.lst (.cons (.int 0) .nil)))
    (.cons (.whl (.of (.cmp .ne (.v 2) (.lst .nil))) (.cons (.asg (.one 3) (.sub (.sub (.v 0) (.bm .pop (.v 2) .nil)) (.int 2)))
    (.cons (.for (.one 4) (.of (.sub (.dic (.cons (.str "give") (.tup .nil) (.cons (.str "jump") (.cut (.v 3) (.so (.int 1)) (.so (.int 2))) (.cons (.str "branch") (.cut (.v 3) (.so (.int 2)) .no) .nil)))) (.sub (.v 3) (.int 0)))) (.cons (.cond (.of (.cmp .hasnt (.v 4) (.v 1))) (.cons (.asg (.sub (.v 1) (.v 4)) (.bl true))
    (.cons (.ex (.bm .append (.v 2) (.cons (.v 4) .nil)))
    .nil)) .nil)
    .nil))
    .nil)))
    (.cons (.ret (.bf .sorted (.cons (.v 1) .nil)))
    .nil))))⟩
/- _law_renumbered(_law_end_here, _law_kept_here): 0 _law_end_here 1 _law_kept_here -/
def d_l_renumbered : CL.FDef := ⟨2, 2,
    (.cons (.cond (.of (.cmp .eq (.sub (.v 0) (.int 0)) (.str "jump"))) (.cons (.ret (.tup (.cons (.str "jump") (.cons (.bm .index (.v 1) (.cons (.sub (.v 0) (.int 1)) .nil)) (.cons (.tup .nil) .nil)))))
    .nil) .nil)
    (.cons (.cond (.of (.cmp .eq (.sub (.v 0) (.int 0)) (.str "branch"))) (.cons (.ret (.tup (.cons (.str "branch") (.cons (.sub (.sub (.v 0) (.int 1)) (.int 0)) (.cons (.bm .index (.v 1) (.cons (.sub (.v 0) (.int 2)) .nil)) (.cons (.bm .index (.v 1) (.cons (.sub (.v 0) (.int 3)) .nil)) .nil))))))
    .nil) .nil)
    (.cons (.ret (.v 0))
    .nil)))⟩
/- _law_graph(_law_pot_here): 0 _law_pot_here 1 _law_many 2 _law_blocks 3 _law_at 4 _law_kept_here 5 _law_number 6 _law_truth 7 _law_way 8 _law_end_here 9 _law_rows -/
def d_l_graph : CL.FDef := ⟨1, 10,
    (.cons (.asT [(.one 5), (.one 6)] (.tup (.cons (.tup (.cons (.str "number") .nil)) (.cons (.tup (.cons (.str "truth") .nil)) .nil))))
    (.cons (.asg (.one 1) (.bin .add (.int 1) (.call f_l_take (.cons (.v 0) (.cons (.sub (.lst (.cons (.int 3) (.cons (.int 5) (.cons (.int 9) (.cons (.int 16) .nil))))) (.call f_l_take (.cons (.v 0) (.cons (.int 4) .nil)))) .nil)))))
    (.cons (.asg (.one 2) (.lst .nil))
    (.cons (.for (.one 3) (.rg1 (.v 1)) (.cons (.asg (.one 7) (.call f_l_take (.cons (.v 0) (.cons (.int 6) .nil))))
    (.cons (.asg (.one 8) (.tup (.cons (.str "give") (.cons (.bin .mul (.int 2) (.v 3)) .nil))))
    (.cons (.cond (.and (.of (.cmp .gt (.v 1) (.int 1))) (.of (.cm2 .lt .lt (.int 0) (.v 7) (.int 4)))) (.cons (.asg (.one 8) (.tup (.cons (.str "branch") (.cons (.tup (.cons (.bin .add (.bin .mul (.int 2) (.v 3)) (.int 1)) .nil)) (.cons (.bin .add (.int 1) (.call f_l_take (.cons (.v 0) (.cons (.bin .sub (.v 1) (.int 1)) .nil)))) (.cons (.bin .add (.int 1) (.call f_l_take (.cons (.v 0) (.cons (.bin .sub (.v 1) (.int 1)) .nil)))) .nil))))))
    .nil) .nil)
    (.cons (.cond (.and (.of (.cmp .gt (.v 1) (.int 1))) (.of (.cmp .gt (.v 7) (.int 3)))) (.cons (.asg (.one 8) (.tup (.cons (.str "jump") (.cons (.bin .add (.int 1) (.call f_l_take (.cons (.v 0) (.cons (.bin .sub (.v 1) (.int 1)) .nil)))) (.cons (.tup .nil) .nil)))))
    .nil) .nil)
    (.cons (.asg (.one 9) (.lst (.cons (.tup (.cons .non (.cons .non (.cons (.str "tick") (.cons (.tup .nil) (.cons (.tup .nil) (.cons (.v 3) .nil))))))) (.cons (.tup (.cons (.bin .mul (.int 2) (.v 3)) (.cons (.v 5) (.cons (.str "number") (.cons (.tup .nil) (.cons (.tup (.cons (.v 3) .nil)) (.cons (.v 3) .nil))))))) .nil))))
    (.cons (.ex (.bm .append (.v 9) (.cons (.tup (.cons (.bin .add (.bin .mul (.int 2) (.v 3)) (.int 1)) (.cons (.v 6) (.cons (.str "truth") (.cons (.tup .nil) (.cons (.tup (.cons (.cmp .eq (.bin .mod (.v 3) (.int 2)) (.int 0)) .nil)) (.cons (.v 3) .nil))))))) .nil)))
    (.cons (.ex (.bm .append (.v 2) (.cons (.tup (.cons (.tup .nil) (.cons (.bf .tuple (.cons (.v 9) .nil)) (.cons (.v 8) .nil)))) .nil)))
    .nil))))))))
    (.cons (.asg (.one 4) (.call f_l_kept (.cons (.v 2) .nil)))
    (.cons (.ret (.tup (.cons (.str "main") (.cons (.v 5) (.cons (.bf .tuple (.cons (.lc (.one 3) (.of (.v 4)) .yes (.tup (.cons (.sub (.sub (.v 2) (.v 3)) (.int 0)) (.cons (.sub (.sub (.v 2) (.v 3)) (.int 1)) (.cons (.call f_l_renumbered (.cons (.sub (.sub (.v 2) (.v 3)) (.int 2)) (.cons (.v 4) .nil))) .nil))))) .nil)) .nil)))))
    .nil))))))⟩
/- _law_goals(_law_function_here): 0 _law_function_here 1 _law_found 2 _law_params 3 _law_rows 4 _law_end_here 5 _law_some 6 _law_at -/
def d_l_goals : CL.FDef := ⟨1, 7,
    (.cons (.asg (.one 1) (.lst .nil))
    (.cons (.for (.many [2, 3, 4]) (.of (.sub (.v 0) (.int 2))) (.cons (.asg (.one 5) (.lst .nil))
    (.cons (.cond (.of (.cmp .eq (.sub (.v 4) (.int 0)) (.str "jump"))) (.cons (.asg (.one 5) (.lst (.cons (.sub (.v 4) (.int 1)) .nil)))
    .nil) .nil)
    (.cons (.cond (.of (.cmp .eq (.sub (.v 4) (.int 0)) (.str "branch"))) (.cons (.asg (.one 5) (.lst (.cons (.sub (.v 4) (.int 2)) (.cons (.sub (.v 4) (.int 3)) .nil))))
    .nil) .nil)
    (.cons (.ex (.bm .append (.v 1) (.cons (.lc (.one 6) (.rg1 (.bf .len (.cons (.sub (.v 0) (.int 2)) .nil))) (.of (.cmp .has (.v 6) (.v 5))) (.v 6)) .nil)))
    .nil)))))
    (.cons (.ret (.v 1))
    .nil)))⟩
/- _law_alike(_law_found, _law_due): 0 _law_found 1 _law_due 2 _law_mine 3 _law_theirs 4 _law_at -/
def d_l_alike : CL.FDef := ⟨2, 5,
    (.cons (.cond (.or (.not (.of (.isi (.v 0) .list))) (.of (.cmp .ne (.bf .len (.cons (.v 0) .nil)) (.bf .len (.cons (.v 1) .nil))))) (.cons (.ret (.bl false))
    .nil) .nil)
    (.cons (.for (.many [2, 3]) (.zip (.v 0) (.v 1)) (.cons (.cond (.or (.not (.of (.isi (.v 2) .list))) (.of (.cmp .ne (.v 2) (.v 3)))) (.cons (.ret (.bl false))
    .nil) .nil)
    (.cons (.cond (.of (.bf .any (.cons (.lc (.one 4) (.of (.v 2)) .yes (.or (.isi (.v 4) .bool) (.not (.isi (.v 4) .int)))) .nil))) (.cons (.ret (.bl false))
    .nil) .nil)
    .nil)))
    (.cons (.ret (.bl true))
    .nil)))⟩
/- _law_right(_law_function_here): 0 _law_function_here 1 _law_due 2 _law_turn 3 _law_found 4 _law_some -/
def d_l_right : CL.FDef := ⟨1, 5,
    (.cons (.asg (.one 1) (.call f_l_goals (.cons (.v 0) .nil)))
    (.cons (.for (.one 2) (.rg1 (.int 2)) (.cons (.asg (.one 3) (.call f_leads (.cons (.v 0) .nil)))
    (.cons (.cond (.not (.of (.call f_l_alike (.cons (.v 3) (.cons (.v 1) .nil))))) (.cons (.ret (.bl false))
    .nil) .nil)
    (.cons (.for (.one 4) (.of (.v 3)) (.cons (.ex (.bm .append (.v 4) (.cons (.int 0) .nil)))
    .nil))
    (.cons (.ex (.bm .append (.v 3) (.cons (.lst .nil) .nil)))
    .nil)))))
    (.cons (.ret (.bl true))
    .nil)))⟩
/- law(_law_script): 0 _law_script 1 _law_cell 2 _law_function_here -/
def d_law : CL.FDef := ⟨1, 3,
    (.cons (.for (.one 1) (.of (.bin .add (.cut (.v 0) .no (.so (.int 63))) (.lst (.cons (.bf .len (.cons (.v 0) .nil)) .nil)))) (.cons (.cond (.not (.of (.call f_l_right (.cons (.call f_l_graph (.cons (.call f_l_pot (.cons (.lst (.cons (.v 1) (.cons (.bin .fdiv (.v 1) (.int 3)) .nil))) .nil)) .nil)) .nil)))) (.cons (.ret (.bl false))
    .nil) .nil)
    .nil))
    (.cons (.ret (.bf .all (.cons (.lc (.one 2) (.of (.sub (.call f_l_middle (.cons (.call f_l_pot (.cons (.v 0) .nil)) .nil)) (.int 1))) .yes (.call f_l_right (.cons (.v 2) .nil))) .nil)))
    .nil))⟩
def fns : List CL.FDef := (([d_ends_leads, d_leads, d_l_pot, d_l_mix, d_l_take, d_l_ops, d_l_put, d_l_name, d_l_straight, d_l_open, d_l_begin, d_l_end, d_l_choice, d_l_loop, d_l_body, d_l_function, d_l_middle, d_l_kept, d_l_renumbered, d_l_graph] : List CL.FDef) ++ ([d_l_goals, d_l_alike, d_l_right, d_law] : List CL.FDef))
def nmF : List Str := ["ends_leads", "leads", "_law_pot", "_law_mix", "_law_take", "_law_ops", "_law_put", "_law_name", "_law_straight", "_law_open", "_law_begin", "_law_end", "_law_choice", "_law_loop", "_law_body", "_law_function", "_law_middle", "_law_kept", "_law_renumbered", "_law_graph", "_law_goals", "_law_alike", "_law_right", "law"]
def nm : CL.Nms := ⟨fun f => nmF.getD f "", fun f => (([true, true, true, true, true, true, true, true, true, true, true, true, true, true, true, true, true, true, true, true] : List Bool) ++ ([true, true, true, true] : List Bool)).getD f false, fun c => ([] : List Str).getD c "", fun g => ([] : List Str).getD g ""⟩
def mts : List (Nat × Str × Nat) := []
def flds : List (Nat × Str) := []
def gls : List CL.Val := []
def kts : List (List CL.Val) := []
def G : CL.Prog := ⟨fun f => fns[f]?, fun c m => (mts.find? fun x => decide (x.1 = c) && decide (x.2.1 = m)).map (·.2.2), fun c => (mts.find? fun x => decide (x.1 = c) && decide (x.2.1 = ("__init__" : Str))).map (·.2.2), fun g => gls[g]?, fun c f => flds.contains (c, f), kts⟩
def top (i : Nat) : Stmt := PySem.Challenge.pw_chainwright_k24_leads.main.body.getD i (.Pass ⟨0, 0, 0, 0⟩)
def n_ends_leads : List Str := ["end"]
theorem sc_ends_leads : L2.FnScope n_ends_leads ["end"] (L2.defScope (top 1)) := ⟨rfl, rfl, rfl, by decide +kernel, rfl, by decide +kernel, by decide +kernel⟩
theorem ch_ends_leads : CL.chSs nm n_ends_leads (L2.defScope (top 1)) (fun _ => true) d_ends_leads.body (L2.defBody (top 1)) = true := by decide +kernel
def n_leads : List Str := ["function", "block"]
theorem sc_leads : L2.FnScope n_leads ["function"] (L2.defScope (top 2)) := ⟨rfl, rfl, rfl, by decide +kernel, rfl, by decide +kernel, by decide +kernel⟩
theorem ch_leads : CL.chSs nm n_leads (L2.defScope (top 2)) (fun _ => true) d_leads.body (L2.defBody (top 2)) = true := by decide +kernel
def n_l_pot : List Str := ["_law_cells", "_law_mixed"]
theorem sc_l_pot : L2.FnScope n_l_pot ["_law_cells"] (L2.defScope (top 4)) := ⟨rfl, rfl, rfl, by decide +kernel, rfl, by decide +kernel, by decide +kernel⟩
theorem ch_l_pot : CL.chSs nm n_l_pot (L2.defScope (top 4)) (fun _ => true) d_l_pot.body (L2.defBody (top 4)) = true := by decide +kernel
def n_l_mix : List Str := ["_law_number", "_law_turn", "_law_one"]
theorem sc_l_mix : L2.FnScope n_l_mix ["_law_number", "_law_turn"] (L2.defScope (top 5)) := ⟨rfl, rfl, rfl, by decide +kernel, rfl, by decide +kernel, by decide +kernel⟩
theorem ch_l_mix : CL.chSs nm n_l_mix (L2.defScope (top 5)) (fun _ => true) d_l_mix.body (L2.defBody (top 5)) = true := by decide +kernel
def n_l_take : List Str := ["_law_pot_here", "_law_many", "_law_cells", "_law_told"]
theorem sc_l_take : L2.FnScope n_l_take ["_law_pot_here", "_law_many"] (L2.defScope (top 6)) := ⟨rfl, rfl, rfl, by decide +kernel, rfl, by decide +kernel, by decide +kernel⟩
theorem ch_l_take : CL.chSs nm n_l_take (L2.defScope (top 6)) (fun _ => true) d_l_take.body (L2.defBody (top 6)) = true := by decide +kernel
def n_l_ops : List Str := ["_law_calls", "_law_ops_here", "_law_fun", "_law_name_here", "_law_number", "_law_truth", "_law_row", "_law_pair", "_law_op", "_law_told", "_law_n", "_law_place"]
theorem sc_l_ops : L2.FnScope n_l_ops ["_law_calls"] (L2.defScope (top 7)) := ⟨rfl, rfl, rfl, by decide +kernel, rfl, by decide +kernel, by decide +kernel⟩
theorem ch_l_ops : CL.chSs nm n_l_ops (L2.defScope (top 7)) (fun _ => true) d_l_ops.body (L2.defBody (top 7)) = true := by decide +kernel
def n_l_put : List Str := ["_law_state", "_law_kind", "_law_op", "_law_args", "_law_more", "_law_x"]
theorem sc_l_put : L2.FnScope n_l_put ["_law_state", "_law_kind", "_law_op", "_law_args", "_law_more"] (L2.defScope (top 8)) := ⟨rfl, rfl, rfl, by decide +kernel, rfl, by decide +kernel, by decide +kernel⟩
theorem ch_l_put : CL.chSs nm n_l_put (L2.defScope (top 8)) (fun _ => true) d_l_put.body (L2.defBody (top 8)) = true := by decide +kernel
def n_l_name : List Str := ["_law_state", "_law_pot_here", "_law_kind", "_law_number", "_law_some", "_law_x", "_law_have", "_law_one"]
theorem sc_l_name : L2.FnScope n_l_name ["_law_state", "_law_pot_here", "_law_kind"] (L2.defScope (top 9)) := ⟨rfl, rfl, rfl, by decide +kernel, rfl, by decide +kernel, by decide +kernel⟩
theorem ch_l_name : CL.chSs nm n_l_name (L2.defScope (top 9)) (fun _ => true) d_l_name.body (L2.defBody (top 9)) = true := by decide +kernel
def n_l_straight : List Str := ["_law_state", "_law_pot_here", "_law_ops_here", "_law_k", "_law_op", "_law_kinds", "_law_kind", "_law_more", "_law_one"]
theorem sc_l_straight : L2.FnScope n_l_straight ["_law_state", "_law_pot_here"] (L2.defScope (top 10)) := ⟨rfl, rfl, rfl, by decide +kernel, rfl, by decide +kernel, by decide +kernel⟩
theorem ch_l_straight : CL.chSs nm n_l_straight (L2.defScope (top 10)) (fun _ => true) d_l_straight.body (L2.defBody (top 10)) = true := by decide +kernel
def n_l_open : List Str := ["_law_state"]
theorem sc_l_open : L2.FnScope n_l_open ["_law_state"] (L2.defScope (top 11)) := ⟨rfl, rfl, rfl, by decide +kernel, rfl, by decide +kernel, by decide +kernel⟩
theorem ch_l_open : CL.chSs nm n_l_open (L2.defScope (top 11)) (fun _ => true) d_l_open.body (L2.defBody (top 11)) = true := by decide +kernel
def n_l_begin : List Str := ["_law_state", "_law_at", "_law_kinds", "_law_names"]
theorem sc_l_begin : L2.FnScope n_l_begin ["_law_state", "_law_at", "_law_kinds"] (L2.defScope (top 12)) := ⟨rfl, rfl, rfl, by decide +kernel, rfl, by decide +kernel, by decide +kernel⟩
theorem ch_l_begin : CL.chSs nm n_l_begin (L2.defScope (top 12)) (fun _ => true) d_l_begin.body (L2.defBody (top 12)) = true := by decide +kernel
def n_l_end : List Str := ["_law_state", "_law_end_here"]
theorem sc_l_end : L2.FnScope n_l_end ["_law_state", "_law_end_here"] (L2.defScope (top 13)) := ⟨rfl, rfl, rfl, by decide +kernel, rfl, by decide +kernel, by decide +kernel⟩
theorem ch_l_end : CL.chSs nm n_l_end (L2.defScope (top 13)) (fun _ => true) d_l_end.body (L2.defBody (top 13)) = true := by decide +kernel
def n_l_choice : List Str := ["_law_state", "_law_pot_here", "_law_deep", "_law_asked", "_law_env", "_law_arm", "_law_yes", "_law_no", "_law_join"]
theorem sc_l_choice : L2.FnScope n_l_choice ["_law_state", "_law_pot_here", "_law_deep"] (L2.defScope (top 14)) := ⟨rfl, rfl, rfl, by decide +kernel, rfl, by decide +kernel, by decide +kernel⟩
theorem ch_l_choice : CL.chSs nm n_l_choice (L2.defScope (top 14)) (fun _ => true) d_l_choice.body (L2.defBody (top 14)) = true := by decide +kernel
def n_l_loop : List Str := ["_law_state", "_law_pot_here", "_law_deep", "_law_number", "_law_first", "_law_asked", "_law_env", "_law_less", "_law_head", "_law_body_here", "_law_out", "_law_held", "_law_left"]
theorem sc_l_loop : L2.FnScope n_l_loop ["_law_state", "_law_pot_here", "_law_deep"] (L2.defScope (top 15)) := ⟨rfl, rfl, rfl, by decide +kernel, rfl, by decide +kernel, by decide +kernel⟩
theorem ch_l_loop : CL.chSs nm n_l_loop (L2.defScope (top 15)) (fun _ => true) d_l_loop.body (L2.defBody (top 15)) = true := by decide +kernel
def n_l_body : List Str := ["_law_state", "_law_pot_here", "_law_deep", "_law_k", "_law_way"]
theorem sc_l_body : L2.FnScope n_l_body ["_law_state", "_law_pot_here", "_law_deep"] (L2.defScope (top 16)) := ⟨rfl, rfl, rfl, by decide +kernel, rfl, by decide +kernel, by decide +kernel⟩
theorem ch_l_body : CL.chSs nm n_l_body (L2.defScope (top 16)) (fun _ => true) d_l_body.body (L2.defBody (top 16)) = true := by decide +kernel
def n_l_function : List Str := ["_law_pot_here", "_law_name_here", "_law_many", "_law_calls", "_law_budget", "_law_state"]
theorem sc_l_function : L2.FnScope n_l_function ["_law_pot_here", "_law_name_here", "_law_many", "_law_calls", "_law_budget"] (L2.defScope (top 17)) := ⟨rfl, rfl, rfl, by decide +kernel, rfl, by decide +kernel, by decide +kernel⟩
theorem ch_l_function : CL.chSs nm n_l_function (L2.defScope (top 17)) (fun _ => true) d_l_function.body (L2.defBody (top 17)) = true := by decide +kernel
def n_l_middle : List Str := ["_law_pot_here", "_law_budget", "_law_leaf", "_law_stem", "_law_main", "_law_functions", "_law_turn"]
theorem sc_l_middle : L2.FnScope n_l_middle ["_law_pot_here"] (L2.defScope (top 18)) := ⟨rfl, rfl, rfl, by decide +kernel, rfl, by decide +kernel, by decide +kernel⟩
theorem ch_l_middle : CL.chSs nm n_l_middle (L2.defScope (top 18)) (fun _ => true) d_l_middle.body (L2.defBody (top 18)) = true := by decide +kernel
def n_l_kept : List Str := ["_law_blocks", "_law_met", "_law_waiting", "_law_end_here", "_law_goal"]
theorem sc_l_kept : L2.FnScope n_l_kept ["_law_blocks"] (L2.defScope (top 19)) := ⟨rfl, rfl, rfl, by decide +kernel, rfl, by decide +kernel, by decide +kernel⟩
theorem ch_l_kept : CL.chSs nm n_l_kept (L2.defScope (top 19)) (fun _ => true) d_l_kept.body (L2.defBody (top 19)) = true := by decide +kernel
def n_l_renumbered : List Str := ["_law_end_here", "_law_kept_here"]
theorem sc_l_renumbered : L2.FnScope n_l_renumbered ["_law_end_here", "_law_kept_here"] (L2.defScope (top 20)) := ⟨rfl, rfl, rfl, by decide +kernel, rfl, by decide +kernel, by decide +kernel⟩
theorem ch_l_renumbered : CL.chSs nm n_l_renumbered (L2.defScope (top 20)) (fun _ => true) d_l_renumbered.body (L2.defBody (top 20)) = true := by decide +kernel
def n_l_graph : List Str := ["_law_pot_here", "_law_many", "_law_blocks", "_law_at", "_law_kept_here", "_law_number", "_law_truth", "_law_way", "_law_end_here", "_law_rows"]
theorem sc_l_graph : L2.FnScope n_l_graph ["_law_pot_here"] (L2.defScope (top 21)) := ⟨rfl, rfl, rfl, by decide +kernel, rfl, by decide +kernel, by decide +kernel⟩
theorem ch_l_graph : CL.chSs nm n_l_graph (L2.defScope (top 21)) (fun _ => true) d_l_graph.body (L2.defBody (top 21)) = true := by decide +kernel
def n_l_goals : List Str := ["_law_function_here", "_law_found", "_law_params", "_law_rows", "_law_end_here", "_law_some", "_law_at"]
theorem sc_l_goals : L2.FnScope n_l_goals ["_law_function_here"] (L2.defScope (top 22)) := ⟨rfl, rfl, rfl, by decide +kernel, rfl, by decide +kernel, by decide +kernel⟩
theorem ch_l_goals : CL.chSs nm n_l_goals (L2.defScope (top 22)) (fun _ => true) d_l_goals.body (L2.defBody (top 22)) = true := by decide +kernel
def n_l_alike : List Str := ["_law_found", "_law_due", "_law_mine", "_law_theirs", "_law_at"]
theorem sc_l_alike : L2.FnScope n_l_alike ["_law_found", "_law_due"] (L2.defScope (top 23)) := ⟨rfl, rfl, rfl, by decide +kernel, rfl, by decide +kernel, by decide +kernel⟩
theorem ch_l_alike : CL.chSs nm n_l_alike (L2.defScope (top 23)) (fun _ => true) d_l_alike.body (L2.defBody (top 23)) = true := by decide +kernel
def n_l_right : List Str := ["_law_function_here", "_law_due", "_law_turn", "_law_found", "_law_some"]
theorem sc_l_right : L2.FnScope n_l_right ["_law_function_here"] (L2.defScope (top 24)) := ⟨rfl, rfl, rfl, by decide +kernel, rfl, by decide +kernel, by decide +kernel⟩
theorem ch_l_right : CL.chSs nm n_l_right (L2.defScope (top 24)) (fun _ => true) d_l_right.body (L2.defBody (top 24)) = true := by decide +kernel
def n_law : List Str := ["_law_script", "_law_cell", "_law_function_here"]
theorem sc_law : L2.FnScope n_law ["_law_script"] (L2.defScope (top 25)) := ⟨rfl, rfl, rfl, by decide +kernel, rfl, by decide +kernel, by decide +kernel⟩
theorem ch_law : CL.chSs nm n_law (L2.defScope (top 25)) (fun _ => true) d_law.body (L2.defBody (top 25)) = true := by decide +kernel
abbrev fuel : Nat := 1000000
end LK24
set_option maxHeartbeats 4000000
namespace LK24
open CL Md
local macro_rules | `(tactic| walk_at "sub") => `(tactic| first | with_reducible exact sub_one | with_reducible assumption | with_reducible exact sub_all | with_reducible exact sub_here | ((with_reducible apply sub_cons); walk_at "sub") | ((with_reducible apply sub_there); walk_at "sub"))
local macro_rules | `(tactic| walk_at "upd") => `(tactic| first | with_reducible exact Upd.here | ((with_reducible apply Upd.there); walk_at "upd") | ((with_reducible apply Upd.left); walk_at "upd"))
local macro_rules | `(tactic| walk_at "subs") => `(tactic| first | ((with_reducible apply sub_add); (· walk_at "sub"); walk_at "subs") | walk_at "sub" | with_reducible exact sub_nil)
local macro_rules | `(tactic| walk_at "look") => `(tactic| first | with_reducible exact LookD.here | ((with_reducible apply LookD.there); (· exact rfl); walk_at "look"))
local macro_rules | `(tactic| walk_at "put") => `(tactic| first | with_reducible exact PutD.nil | ((with_reducible apply PutD.here); (· exact rfl)) | ((with_reducible apply PutD.there); (· exact rfl); walk_at "put"))
local macro_rules | `(tactic| walk_at "lk") => `(tactic| (simp (disch := omega) only [Md.looks, Md.lookE_here, Md.lookE_there] <;> rfl))
local macro_rules | `(tactic| walk_at "pt") => `(tactic| (simp (disch := omega) only [Md.putE_nil, Md.putE_cons_ne] <;> rfl))
local macro_rules | `(tactic| walk_at "1e1") => `(tactic| first
  | ((with_reducible apply e_v); (· exact rfl))
  | ((with_reducible apply e_int))
  | ((with_reducible apply e_str))
  | ((with_reducible apply e_sub)))
local macro_rules | `(tactic| walk_at "1e2") => `(tactic| first
  | ((with_reducible apply e_callN))
  | ((with_reducible apply e_cmp))
  | ((with_reducible apply e_tup))
  | ((with_reducible apply e_bin))
  | ((with_reducible apply e_fld))
  | ((with_reducible apply e_non))
  | ((with_reducible apply e_bf)))
local macro_rules | `(tactic| walk_at "1e3") => `(tactic| first
  | ((with_reducible apply e_cut))
  | ((with_reducible apply e_bl))
  | ((with_reducible apply e_bm))
  | ((with_reducible apply e_metN))
  | ((with_reducible apply e_makeN))
  | ((with_reducible apply e_lst))
  | ((with_reducible apply e_ite))
  | ((with_reducible apply e_lc'))
  | ((with_reducible apply e_dic)))
local macro_rules | `(tactic| walk_at "1e4") => `(tactic| first
  | ((with_reducible apply e_and))
  | ((with_reducible apply e_or))
  | ((with_reducible apply e_not))
  | ((with_reducible apply e_isN))
  | ((with_reducible apply e_noN))
  | ((with_reducible apply e_cm2))
  | ((with_reducible apply e_neg))
  | ((with_reducible apply e_isi))
  | ((with_reducible apply e_lzip))
  | ((with_reducible apply e_lrg1))
  | ((with_reducible apply e_lrg2))
  | ((with_reducible apply e_cut3))
  | ((with_reducible apply e_sset))
  | ((with_reducible apply e_dcallN); (· exact rfl))
  | ((with_reducible apply e_gl); (· exact rfl)))
local macro_rules | `(tactic| walk_at "1S") => `(tactic| first
  | ((with_reducible apply ss_cons))
  | ((with_reducible apply ss_nil)))
local macro_rules | `(tactic| walk_at "1s1") => `(tactic| first
  | ((with_reducible apply s_cond))
  | ((with_reducible apply s_ret))
  | ((with_reducible apply s_asg1))
  | ((with_reducible apply s_ex))
  | ((with_reducible apply s_asgf))
  | ((with_reducible apply s_asgs)))
local macro_rules | `(tactic| walk_at "1s2") => `(tactic| first
  | ((with_reducible apply s_auf))
  | ((with_reducible apply s_asT))
  | ((with_reducible apply s_par))
  | ((with_reducible apply s_aus))
  | ((with_reducible apply s_aug); (· exact rfl))
  | ((with_reducible apply s_for))
  | ((with_reducible apply s_whl))
  | ((with_reducible apply s_rtN))
  | ((with_reducible apply s_pass))
  | ((with_reducible apply s_cnt))
  | ((with_reducible apply s_brk)))
local macro_rules | `(tactic| walk_at "1v") => `(tactic| first
  | ((with_reducible apply e_cons))
  | ((with_reducible apply e_nil)))
local macro_rules | `(tactic| walk_at "1o") => `(tactic| first
  | ((with_reducible apply e_no))
  | ((with_reducible apply e_so)))
local macro_rules | `(tactic| walk_at "1d") => `(tactic| first
  | ((with_reducible apply ep_nil))
  | ((with_reducible apply ep_cons)))
local macro_rules | `(tactic| walk_at "1b") => `(tactic| first
  | ((with_reducible apply b_of))
  | ((with_reducible apply b_and))
  | ((with_reducible apply b_or))
  | ((with_reducible apply b_not))
  | ((with_reducible apply b_yes)))
local macro_rules | `(tactic| walk_at "1x") => `(tactic| first
  | ((with_reducible apply x_tup); (· first | exact rfl | exact atI_zero))
  | ((with_reducible apply x_dS); (· walk_at "sub"); (· exact rfl); (· walk_at "look"))
  | ((with_reducible apply x_lst); (· walk_at "sub"); (· first | exact rfl | exact atI_zero)))
local macro_rules | `(tactic| walk_at "1c") => `(tactic| first
  | ((with_reducible apply c_eqs))
  | ((with_reducible apply c_int); (· exact rfl))
  | ((with_reducible apply c_eqi))
  | ((with_reducible apply c_nei))
  | ((with_reducible apply c_lt))
  | ((with_reducible apply c_le))
  | ((with_reducible apply c_gt))
  | ((with_reducible apply c_ge))
  | ((with_reducible apply c_nes)))
local macro_rules | `(tactic| walk_at "1p") => `(tactic| first
  | ((with_reducible apply p_add'))
  | ((with_reducible apply p_sub'))
  | ((with_reducible apply p_addl'); (· walk_at "sub"); (· walk_at "sub"); (· exact rfl)))
local macro_rules | `(tactic| walk_at "1f") => `(tactic| first
  | ((with_reducible apply f_lent))
  | ((with_reducible apply f_lenl); (· walk_at "sub"))
  | ((with_reducible apply f_listt))
  | ((with_reducible apply f_listl); (· walk_at "sub"))
  | ((with_reducible apply f_tupl); (· walk_at "sub"))
  | ((with_reducible apply f_tupt)))
local macro_rules | `(tactic| walk_at "1r") => `(tactic| first
  | ((with_reducible apply br_t); (· exact rfl))
  | ((with_reducible apply br_f); (· exact rfl)))
local macro_rules | `(tactic| walk_at "1a") => `(tactic| first
  | ((with_reducible apply a_nil))
  | ((with_reducible apply a_one))
  | ((with_reducible apply a_sub))
  | ((with_reducible apply a_fld)))
local macro_rules | `(tactic| walk_at "1i") => `(tactic| first
  | ((with_reducible apply i_of))
  | ((with_reducible apply i_tup))
  | ((with_reducible apply i_lst); (· walk_at "sub"))
  | ((with_reducible apply i_zip))
  | ((with_reducible apply i_rg1))
  | ((with_reducible apply i_rg2))
  | ((with_reducible apply i_enu)))
local macro_rules | `(tactic| walk_at "1y") => `(tactic| first
  | ((with_reducible apply x_fld); (· walk_at "sub"); (· exact rfl); (· exact rfl))
  | ((with_reducible apply y_fld); (· walk_at "upd"); (· exact rfl); (· exact Nat.le_of_ble_eq_true rfl))
  | ((with_reducible apply d_gS); (· walk_at "sub"); (· exact rfl); (· walk_at "look"))
  | ((with_reducible apply d_pS); (· walk_at "sub"); (· exact rfl); (· walk_at "put"); (· exact Nat.le_of_ble_eq_true rfl); (· walk_at "upd"))
  | ((with_reducible apply y_dS); (· walk_at "sub"); (· exact rfl); (· walk_at "put"); (· exact Nat.le_of_ble_eq_true rfl); (· walk_at "upd"))
  | ((with_reducible apply x_cutt); (· exact rfl); (· exact rfl))
  | ((with_reducible apply x_cutl); (· walk_at "sub"); (· exact rfl); (· exact rfl))
  | ((with_reducible apply o_add))
  | ((with_reducible apply o_sub)))
local macro_rules | `(tactic| walk_at "1t") => `(tactic| first
  | ((with_reducible apply t_bool))
  | ((with_reducible apply t_int'))
  | ((with_reducible apply t_tup'))
  | ((with_reducible apply t_str'))
  | ((with_reducible apply t_bl'))
  | ((with_reducible apply t_non))
  | ((with_reducible apply t_lst'); (· walk_at "sub"))
  | ((with_reducible apply t_int)))
local macro_rules | `(tactic| walk_at "1z") => `(tactic| first
  | ((with_reducible refine And.intro (small62_of ?_) ?_); (· omega))
  | with_reducible refine And.intro rfl ?_
  | refine ⟨_, _, _, _, _, rfl, by walk_at "sub", rfl, rfl, Nat.le_of_ble_eq_true rfl, ?_⟩
  | refine ⟨_, _, _, _, _, rfl, by walk_at "sub", rfl, rfl, ?_⟩
  | refine ⟨_, _, _, rfl, by walk_at "sub", ?_⟩
  | refine ⟨_, its_tup, ?_⟩
  | refine ⟨_, its_lst (by walk_at "sub"), ?_⟩
  | refine ⟨_, by walk_at "upd", ?_⟩
  | refine ⟨_, _, rfl, Nat.le_of_ble_eq_true rfl, by walk_at "upd", ?_⟩
  | refine ⟨_, rfl, ?_⟩
  | refine And.intro rfl ?_)
/-- one step of a run -/
local macro_rules | `(tactic| walk_at "1") => `(tactic| first
  | ((with_reducible show WP _ (ev _ _ _) _ _); (first | walk_at "1e1" | walk_at "1e2" | walk_at "1e3" | walk_at "1e4"))
  | ((with_reducible show WP _ (subV _ _ _) _ _); walk_at "1x")
  | ((with_reducible show WSs _ _ _ _ _ _ _ _ _); walk_at "1S")
  | ((with_reducible show WS _ _ _ _ _ _ _ _ _); (first | walk_at "1s1" | walk_at "1s2"))
  | ((with_reducible show WP _ (evs _ _ _) _ _); walk_at "1v")
  | ((with_reducible show Br _ _ _); walk_at "1r")
  | ((with_reducible show WP _ (ts _ _ _) _ _); walk_at "1b")
  | ((with_reducible show WP _ (cop _ _ _ _) _ _); walk_at "1c")
  | ((with_reducible show WP _ (bop _ _ _) _ _); walk_at "1p")
  | ((with_reducible show WP _ (bfn _ _) _ _); walk_at "1f")
  | ((with_reducible show WP _ (evo _ _ _) _ _); walk_at "1o")
  | ((with_reducible show WP _ (evp _ _ _) _ _); walk_at "1d")
  | ((with_reducible show WQ _ _ _ _); walk_at "1i")
  | ((with_reducible show WT _ _ _ _ _ _ _); walk_at "1a")
  | ((with_reducible show WP _ _ _ _); (first | walk_at "1t" | walk_at "1y"))
  | walk_at "1z"
  | (with_reducible intro))
local macro_rules | `(tactic| walk_at "w") => `(tactic| repeat walk_at "1")
/-- into a def's body -/
local macro_rules | `(tactic| walk_at "in") => `(tactic| (refine w_callB rfl rfl ?_; dsimp only [List.map, List.reduceReplicate, List.replicate_zero, List.cons_append, List.nil_append, List.append_nil, Nat.reduceSub, Nat.sub_self]))
structure Pot where
  cells : List Int
  at' : Int
  left : Int
  many : Int
  mixed : Bool
structure Pot.ok (P : Pot) : Prop where
  h1 : 0 ≤ P.at'
  h2 : 0 ≤ P.left
  h3 : 0 ≤ P.many
  h4 : P.mixed = true → P.cells ≠ []
  h5 : P.cells.length ≤ 100
abbrev potD (c : Nat) (P : Pot) : Ob := .dK [(.inr "cells", .ref c), (.inr "at", .int P.at'), (.inr "left", .int P.left), (.inr "many", .int P.many), (.inr "mixed", .bl P.mixed)]
abbrev potL (P : Pot) : Ob := .lst (P.cells.map .int)
section
variable {B H R R' : HL} {d : Nat} {Q : Val → HL → Prop}
theorem sl_mix {n k : Int} (q : ∀ v : Int, 0 ≤ v → Q (.int v) H) : WP B (callN G fuel (d + 1) f_l_mix [.int n, .int k]) H Q := by
  walk_at "in"
  walk_at "w"
  refine p_mod' (by decide) ?_
  walk_at "w"
  refine p_mul' (mulOk_left (by decide)) ?_
  walk_at "w"
  refine p_mul' (mulOk_right (by decide)) ?_
  walk_at "w"
  refine p_mod' (by decide) ?_
  walk_at "w"
  generalize (n.fmod 2147483647 + 7 * k + 3) * 48271 = z
  have hz : 0 ≤ z.fmod 2147483629 ∧ z.fmod 2147483629 < 2147483629 := by rw [fmod_pos (by decide)]; omega
  refine p_mul' (mulOk_left (by omega)) ?_
  walk_at "w"
  refine p_mod' (by decide) ?_
  refine conv0 (q _ ?_)
  rw [fmod_pos (by decide)]; omega
theorem at_mod {xs : List Int} {k : Int} (h : xs ≠ []) (hk : 0 ≤ k) : ∃ x : Int, L2.atI (xs.map Val.int) (k.fmod (xs.length : Int)) = some (.int x) := by
  have hl : 0 < xs.length := List.length_pos_iff.mpr h
  have e : k.fmod (xs.length : Int) = k % (xs.length : Int) := fmod_pos (by omega)
  have h1 : 0 ≤ k % (xs.length : Int) := Int.emod_nonneg _ (by omega)
  have h2 : k % (xs.length : Int) < xs.length := Int.emod_lt_of_pos _ (by omega)
  rw [e]
  have h3 : (k % (xs.length : Int)).toNat < xs.length := by omega
  refine ⟨xs[(k % (xs.length : Int)).toNat], atI_int h1 ?_⟩
  rw [List.getElem?_map, List.getElem?_eq_getElem h3]; rfl
theorem fm_bd {i j : Int} (h : 0 < j) : 0 ≤ i.fmod j ∧ i.fmod j < j := by
  rw [fmod_pos h]
  exact ⟨Int.emod_nonneg _ (by omega), Int.emod_lt_of_pos _ h⟩
def takeTail : Ss := match d_l_take.body with
  | .cons _ (.cons _ (.cons _ (.cons _ r))) => r
  | _ => .nil
theorem sl_take {p c : Nat} {P : Pot} {n : Int} (hP : P.ok) (hn : 0 < n) (hn2 : n < 9223372036854775808) (hp : Sub H [(p, potD c P), (c, potL P)] R)
    (q : ∀ (r : Int) (P' : Pot), P'.ok → 0 ≤ r → r < n → Q (.int r) ((p, potD c P') :: (c, potL P') :: R)) : WP B (callN G fuel (d + 2) f_l_take [.ref p, .int n]) H Q := by
  refine wp_perm (show H.Perm ((p, potD c P) :: (c, potL P) :: R) from hp) ?_
  have hl := hP.h3
  obtain ⟨cells, at', left, many, mixed⟩ := P
  obtain ⟨g1, g2, g3, g4, g5⟩ := hP
  simp only at g1 g2 g3 g4 g5
  walk_at "in"
  show WSs B _ (.cons _ (.cons _ (.cons _ (.cons _ takeTail)))) _ _ _ _ _ _
  walk_at "w"
  refine ⟨fun hm => ?_, fun hm => ?_⟩
  · subst hm
    have hne := g4 rfl
    have hlen : 0 < cells.length := List.length_pos_iff.mpr hne
    obtain ⟨x, hx⟩ := at_mod (k := many + 1) hne (by omega)
    walk_at "w"
    refine p_mod' (by simp; omega) ?_
    rw [List.length_map]
    walk_at "w"
    refine x_lst (by walk_at "sub") hx ?_
    walk_at "w"
    refine sl_mix fun v hv => ?_
    walk_at "w"
    refine p_fdiv' (by decide) ?_
    walk_at "w"
    refine p_mod' (by omega) ?_
    exact conv0 (q _ ⟨cells, at', left, many + 1, true⟩ ⟨g1, g2, by show 0 ≤ many + 1; omega, fun _ => hne, g5⟩ (fm_bd hn).1 (fm_bd hn).2)
  · subst hm
    have tail : ∀ (at2 left2 : Int), 0 ≤ at2 → 0 ≤ left2 → WSs B (cxN G fuel (d + 1)) takeTail [some (.ref p), some (.int n), some (.ref c), none] ((p, potD c ⟨cells, at2, left2, many + 1, false⟩) :: (c, potL ⟨cells, at2, left2, many + 1, false⟩) :: R) (fun _ K => Conv Q .non K) (Conv Q) (fun _ _ => False) (fun _ _ => False) := by
      intro at2 left2 ha hl
      unfold takeTail d_l_take
      dsimp only
      walk_at "w"
      refine br_dec (fun h0 => ?_) fun h0 => ?_
      · walk_at "w"
        refine sl_mix fun v hv => ?_
        walk_at "w"
        refine p_fdiv' (by decide) ?_
        walk_at "w"
        refine p_mod' (by omega) ?_
        exact conv0 (q _ ⟨cells, at2, left2, many + 1, false⟩ ⟨ha, hl, by show 0 ≤ many + 1; omega, fun h => (by cases h), g5⟩ (fm_bd hn).1 (fm_bd hn).2)
      · walk_at "w"
        refine p_mod' (by omega) ?_
        walk_at "w"
        refine p_fdiv' ⟨by omega, by omega⟩ ?_
        walk_at "w"
        refine conv0 (q _ ⟨cells, at2, left2.fdiv n, many + 1, false⟩ ⟨ha, ?_, by show 0 ≤ many + 1; omega, fun h => (by cases h), g5⟩ (fm_bd hn).1 (fm_bd hn).2)
        show 0 ≤ left2.fdiv n
        rw [fdiv_pos hn]
        exact Int.ediv_nonneg hl (by omega)
    walk_at "w"
    refine br_dec (fun h0 => ?_) fun h0 => ?_
    · walk_at "w"
      refine br_dec (fun h1 => ?_) fun h1 => ?_
      · simp only [List.length_map] at h1
        have hx : cells[at'.toNat]? = some cells[at'.toNat] := List.getElem?_eq_getElem (by omega)
        walk_at "w"
        refine x_lst (by walk_at "sub") (atI_int (x := .int cells[at'.toNat]) g1 (by rw [List.getElem?_map, hx]; rfl)) ?_
        walk_at "w"
        refine f_abs ?_
        walk_at "w"
        refine p_pow' (by decide) ?_
        walk_at "w"
        refine p_mod' (by decide) ?_
        walk_at "w"
        exact tail (at' + 1) _ (by omega) (fm_bd (j := 10 ^ 60) (by decide)).1
      · walk_at "w"
        exact tail at' left g1 g2
    · walk_at "w"
      exact tail at' left g1 g2
end
@[reducible] def oB : Option Block → Val
  | none => .non
  | some b => b.v
abbrev stD (b r p e cl : Nat) (bu : Int) (S : Gs) : Ob := .dK [(.inr "blocks", .ref b), (.inr "now", .int (S.now : Nat)), (.inr "rows", .ref r), (.inr "params", .ref p), (.inr "env", .ref e), (.inr "next", .int S.next), (.inr "line", .int S.line), (.inr "calls", .ref cl), (.inr "budget", .int bu)]
abbrev stH (a b r p e cl : Nat) (bu : Int) (S : Gs) (R : HL) : HL := (a, stD b r p e cl bu S) :: (b, .lst (S.blocks.map oB)) :: (r, .lst (S.rows.map Row.v)) :: (p, .lst (S.params.map parV)) :: (e, .lst (S.env.map parV)) :: R
abbrev stL (a b r p e cl : Nat) (bu : Int) (S : Gs) : HL := [(a, stD b r p e cl bu S), (b, .lst (S.blocks.map oB)), (r, .lst (S.rows.map Row.v)), (p, .lst (S.params.map parV)), (e, .lst (S.env.map parV))]
theorem zip_named : ∀ (ks : List Kd) (n : Int), zipL (rangeL n ks.length) (ks.map Kd.v) = (named n ks).map parV
  | [], n => by simp [rangeL, zipL, named]
  | k :: r, n => by
    rw [List.length_cons, rangeL, List.map_cons, zipL, zip_named r, named, List.map_cons]
/-- a state that is not too large -/
structure SOk (S : Gs) : Prop where
  h1 : S.blocks.length ≤ 10000
  h2 : S.rows.length ≤ 10000
  h3 : S.env.length ≤ 100000
  h4 : 0 ≤ S.next ∧ S.next ≤ 1000000
  h5 : 0 ≤ S.line ∧ S.line ≤ 1000000
structure Sz (S : Gs) (n : Nat) : Prop where
  h1 : S.blocks.length ≤ n
  h2 : S.rows.length ≤ n
  h3 : S.env.length ≤ n
  h4 : 0 ≤ S.next ∧ S.next ≤ n
  h5 : 0 ≤ S.line ∧ S.line ≤ n
theorem Sz.ok {S : Gs} {n : Nat} (h : Sz S n) (hn : n ≤ 10000) : SOk S := ⟨Nat.le_trans h.h1 hn, Nat.le_trans h.h2 hn, Nat.le_trans h.h3 (by omega), by have := h.h4; omega, by have := h.h5; omega⟩
theorem Sz.mono {S : Gs} {n m : Nat} (h : Sz S n) (hm : n ≤ m) : Sz S m := ⟨Nat.le_trans h.h1 hm, Nat.le_trans h.h2 hm, Nat.le_trans h.h3 hm, by have := h.h4; omega, by have := h.h5; omega⟩
theorem Sz.put {S : Gs} {n : Nat} (h : Sz S n) (kd : Option Kd) (op : Op) (args : List Int) (more : More) : Sz (S.put kd op args more) (n + 1) := by
  obtain ⟨h1, h2, h3, h4, h5⟩ := h
  cases kd with
  | none => exact ⟨by show S.blocks.length ≤ n + 1; omega, by show (S.rows ++ [_]).length ≤ n + 1; simp; omega, by show S.env.length ≤ n + 1; omega, by show 0 ≤ S.next ∧ S.next ≤ (n + 1 : Nat); omega, by show 0 ≤ S.line + 1 ∧ S.line + 1 ≤ (n + 1 : Nat); omega⟩
  | some k => exact ⟨by show S.blocks.length ≤ n + 1; omega, by show (S.rows ++ [_]).length ≤ n + 1; simp; omega, by show (S.env ++ [_]).length ≤ n + 1; simp; omega, by show 0 ≤ S.next + 1 ∧ S.next + 1 ≤ (n + 1 : Nat); omega, by show 0 ≤ S.line + 1 ∧ S.line + 1 ≤ (n + 1 : Nat); omega⟩
theorem Sz.opn {S : Gs} {n : Nat} (h : Sz S n) : Sz S.opn (n + 1) := by
  obtain ⟨h1, h2, h3, h4, h5⟩ := h
  exact ⟨by show (S.blocks ++ [none]).length ≤ n + 1; simp; omega, by show S.rows.length ≤ n + 1; omega, by show S.env.length ≤ n + 1; omega, by show 0 ≤ S.next ∧ S.next ≤ (n + 1 : Nat); omega, by show 0 ≤ S.line ∧ S.line ≤ (n + 1 : Nat); omega⟩
theorem Sz.beg {S : Gs} {n : Nat} (h : Sz S n) (at' : Nat) (ks : List Kd) : Sz (S.beg at' ks) (n + ks.length) := by
  obtain ⟨h1, h2, h3, h4, h5⟩ := h
  exact ⟨by show S.blocks.length ≤ n + ks.length; omega, by show 0 ≤ n + ks.length; omega, by show (S.env ++ named S.next ks).length ≤ n + ks.length; rw [List.length_append, named_len]; omega, by show 0 ≤ S.next + ks.length ∧ S.next + ks.length ≤ (n + ks.length : Nat); omega, by show 0 ≤ S.line ∧ S.line ≤ (n + ks.length : Nat); omega⟩
theorem Sz.fin {S : Gs} {n : Nat} (h : Sz S n) (en : End) : Sz (S.fin en) n := by
  obtain ⟨h1, h2, h3, h4, h5⟩ := h
  exact ⟨by show (S.blocks.set _ _).length ≤ n; rw [List.length_set]; omega, h2, h3, h4, h5⟩
section
variable {B H R R' : HL} {d : Nat} {Q : Val → HL → Prop}
/-- what stands for args: a tuple, or a list of them -/
def ArgsV (H : HL) (xs : List Int) (v : Val) : Prop := v = intsV xs ∨ ∃ p R, v = .ref p ∧ Sub H [(p, .lst (xs.map .int))] R
theorem sl_put1 {a b r p e cl : Nat} {bu : Int} {S : Gs} {k : Kd} {op : Op} {args : List Int} {more : More} {av : Val} (hS : SOk S) (hp : Sub H (stL a b r p e cl bu S) R) (ha : ArgsV R args av) (q : Q (.int S.next) (stH a b r p e cl bu (S.put (some k) op args more) R)) :
    WP B (callN G fuel (d + 1) f_l_put [.ref a, k.v, .str op.s, av, more.v]) H Q := by
  have hp : H.Perm ((a, stD b r p e cl bu S) :: (b, .lst (S.blocks.map oB)) :: (r, .lst (S.rows.map Row.v)) :: (p, .lst (S.params.map parV)) :: (e, .lst (S.env.map parV)) :: R) := hp
  refine wp_perm hp ?_
  have hk : (match k.v with | Val.non => false | _ => true) = true := by cases k <;> rfl
  have h2 := hS.h2
  have h3 := hS.h3
  walk_at "in"
  walk_at "w"
  refine br_t hk ?_
  walk_at "w"
  refine m_app (by walk_at "upd") (by rw [List.length_map]; omega) ?_
  walk_at "w"
  rcases ha with rfl | ⟨pa, Ra, rfl, hpa⟩
  · walk_at "w"
    refine m_app (by walk_at "upd") (by rw [List.length_map]; omega) ?_
    walk_at "w"
    simp only [stH, stD, Gs.put, List.map_append, List.map_cons, List.map_nil, List.cons_append, List.nil_append] at q
    exact conv0 q
  · walk_at "w"
    refine m_app (by walk_at "upd") (by rw [List.length_map]; omega) ?_
    walk_at "w"
    simp only [stH, stD, Gs.put, List.map_append, List.map_cons, List.map_nil, List.cons_append, List.nil_append] at q
    exact conv0 q
theorem sl_put0 {a b r p e cl : Nat} {bu : Int} {S : Gs} {op : Op} {args : List Int} {more : More} {av : Val} (hS : SOk S) (hp : Sub H (stL a b r p e cl bu S) R) (ha : ArgsV R args av) (q : Q .non (stH a b r p e cl bu (S.put none op args more) R)) :
    WP B (callN G fuel (d + 1) f_l_put [.ref a, .non, .str op.s, av, more.v]) H Q := by
  have hp : H.Perm ((a, stD b r p e cl bu S) :: (b, .lst (S.blocks.map oB)) :: (r, .lst (S.rows.map Row.v)) :: (p, .lst (S.params.map parV)) :: (e, .lst (S.env.map parV)) :: R) := hp
  refine wp_perm hp ?_
  have h2 := hS.h2
  have h3 := hS.h3
  walk_at "in"
  walk_at "w"
  rcases ha with rfl | ⟨pa, Ra, rfl, hpa⟩
  · walk_at "w"
    refine m_app (by walk_at "upd") (by rw [List.length_map]; omega) ?_
    walk_at "w"
    simp only [stH, stD, Gs.put, List.map_append, List.map_cons, List.map_nil, List.cons_append, List.nil_append] at q
    exact conv0 q
  · walk_at "w"
    refine m_app (by walk_at "upd") (by rw [List.length_map]; omega) ?_
    walk_at "w"
    simp only [stH, stD, Gs.put, List.map_append, List.map_cons, List.map_nil, List.cons_append, List.nil_append] at q
    exact conv0 q
theorem sl_open {a b r p e cl : Nat} {bu : Int} {S : Gs} (hS : SOk S) (hp : Sub H (stL a b r p e cl bu S) R) (q : Q (.int (S.blocks.length : Nat)) (stH a b r p e cl bu S.opn R)) :
    WP B (callN G fuel (d + 1) f_l_open [.ref a]) H Q := by
  have hp : H.Perm ((a, stD b r p e cl bu S) :: (b, .lst (S.blocks.map oB)) :: (r, .lst (S.rows.map Row.v)) :: (p, .lst (S.params.map parV)) :: (e, .lst (S.env.map parV)) :: R) := hp
  refine wp_perm hp ?_
  have h1 := hS.h1
  walk_at "in"
  walk_at "w"
  refine m_app (by walk_at "upd") (by rw [List.length_map]; omega) ?_
  walk_at "w"
  simp only [stH, stD, Gs.opn, List.map_append, List.map_cons, List.map_nil, List.cons_append, List.nil_append] at q
  rw [show (((S.blocks.map oB ++ [Val.non]).length : Nat) : Int) - 1 = (S.blocks.length : Int) by simp]
  exact conv0 q
theorem sl_end {a b r p e cl : Nat} {bu : Int} {S : Gs} {en : End} (hn : S.now < S.blocks.length) (hp : Sub H (stL a b r p e cl bu S) R) (q : Q .non (stH a b r p e cl bu (S.fin en) R)) :
    WP B (callN G fuel (d + 1) f_l_end [.ref a, en.v]) H Q := by
  have hp : H.Perm ((a, stD b r p e cl bu S) :: (b, .lst (S.blocks.map oB)) :: (r, .lst (S.rows.map Row.v)) :: (p, .lst (S.params.map parV)) :: (e, .lst (S.env.map parV)) :: R) := hp
  refine wp_perm hp ?_
  walk_at "in"
  walk_at "w"
  refine y_lst (by walk_at "upd") (ixN_nat (by rw [List.length_map]; exact hn)) ?_
  walk_at "w"
  simp only [stH, stD, Gs.fin, List.map_set, List.cons_append, List.nil_append] at q
  exact conv0 q
/-- what stands for kinds: a tuple, or a list of them -/
def KindsV (H : HL) (ks : List Kd) (v : Val) : Prop := v = .tup (ks.map Kd.v) ∨ ∃ p R, v = .ref p ∧ Sub H [(p, .lst (ks.map Kd.v))] R
theorem sl_begin {a b r p e cl at' : Nat} {bu : Int} {S : Gs} {ks : List Kd} {kv : Val} (hS : SOk S) (hl : ks.length ≤ 10000) (hp : Sub H (stL a b r p e cl bu S) R) (hk : KindsV R ks kv)
    (q : ∀ n r' p' e', Q (.ref n) ((n, .lst (rangeL S.next ks.length)) :: stH a b r' p' e' cl bu (S.beg at' ks) R)) :
    WP B (callN G fuel (d + 1) f_l_begin [.ref a, .int at', kv]) H Q := by
  have hp : H.Perm ((a, stD b r p e cl bu S) :: (b, .lst (S.blocks.map oB)) :: (r, .lst (S.rows.map Row.v)) :: (p, .lst (S.params.map parV)) :: (e, .lst (S.env.map parV)) :: R) := hp
  refine wp_perm hp ?_
  have h3 := hS.h3
  have h4 := hS.h4
  have e1 : (S.next + (ks.length : Int) - S.next).toNat = ks.length := by omega
  have z1 := zip_named ks S.next
  have l1 := named_len ks S.next
  have fin : ∀ n r' p' e', Conv Q (.ref n) ((e', .lst (S.env.map parV ++ (named S.next ks).map parV)) :: (p', .lst ((named S.next ks).map parV)) :: (r', .lst []) :: (n, .lst (rangeL S.next ks.length)) :: (a, stD b r' p' e' cl bu (S.beg at' ks)) :: (b, .lst (S.blocks.map oB)) :: (r, .lst (S.rows.map Row.v)) :: (p, .lst (S.params.map parV)) :: (e, .lst (S.env.map parV)) :: R) := by
    intro n r' p' e'
    have q := q n r' p' e'
    rw [← List.map_append]
    exact conv (K := (n, .lst (rangeL S.next ks.length)) :: (a, stD b r' p' e' cl bu (S.beg at' ks)) :: (b, .lst (S.blocks.map oB)) :: (r', .lst []) :: (p', .lst ((named S.next ks).map parV)) :: (e', .lst ((S.env ++ named S.next ks).map parV)) :: R) (by walk_at "subs") q
  walk_at "in"
  rcases hk with rfl | ⟨pk, Rk, rfl, hpk⟩
  · walk_at "w"
    refine ⟨_, _, rfl, rfl, small24_of (by omega) (by rw [List.length_map]; omega) (by rw [List.length_map, e1]; omega), fun n => ?_⟩
    rw [List.length_map, e1]
    walk_at "w"
    refine ⟨_, _, its_lst (by walk_at "sub"), its_tup, fun p' => ?_⟩
    rw [z1]
    walk_at "w"
    refine p_addl' (by walk_at "sub") (by walk_at "sub") (fits_small (by rw [List.length_map, List.length_map]; omega)) fun e' => ?_
    walk_at "w"
    rw [List.length_map]
    exact fin n _ p' e'
  · walk_at "w"
    refine ⟨_, _, rfl, rfl, small24_of (by omega) (by rw [List.length_map]; omega) (by rw [List.length_map, e1]; omega), fun n => ?_⟩
    rw [List.length_map, e1]
    walk_at "w"
    refine ⟨_, _, its_lst (by walk_at "sub"), its_lst (by walk_at "sub"), fun p' => ?_⟩
    rw [z1]
    walk_at "w"
    refine p_addl' (by walk_at "sub") (by walk_at "sub") (fits_small (by rw [List.length_map, List.length_map]; omega)) fun e' => ?_
    walk_at "w"
    rw [List.length_map]
    exact fin n _ p' e'
end
def recsL : List (PySem.Str × List Kd) := [("pair", [.num, .tru])]
abbrev recsV : Val := .tup [.tup [.str "pair", .tup [Kd.v .num, Kd.v .tru]]]
inductive Kx where
  | few | kd (k : Kd)
@[reducible] def Kx.v : Kx → Val
  | .few => .str "few"
  | .kd k => k.v
def Kx.k : Kx → Kd
  | .few => .num
  | .kd k => k
structure Oe where
  op : Op
  ks : List Kx
  kd : Option Kd
  more : More
abbrev Oe.v (e : Oe) : Val := .tup [.str e.op.s, .tup (e.ks.map Kx.v), oK e.kd, e.more.v]
abbrev numsK (n : Nat) : List Kd := List.replicate n .num
/-- functions that may be called: names, how many numbers they take -/
structure CsOk (T : Sg) (cs : List (PySem.Str × Nat)) : Prop where
  fn : ∀ c ∈ cs, (c.1, numsK c.2, Kd.num) ∈ T.fn
  lo : ∀ c ∈ cs, c.2 = 2
  nm : ∀ c ∈ cs, PySem.PyData.strOk c.1 = true
  rc : T.rc = recsL
  le : cs.length ≤ 10
def KxOk (cs : List (PySem.Str × Nat)) : Kx → Prop
  | .few => True
  | .kd k => Ks k ∧ k ≠ .rc "deep" ∧ ∀ n, k = .fn (numsK n) .num → n = 1 ∧ cs ≠ []
structure OeOk (T : Sg) (cs : List (PySem.Str × Nat)) (e : Oe) : Prop where
  ty : OpT T e.op e.more (e.ks.map Kx.k) e.kd
  ks : ∀ x ∈ e.ks, KxOk cs x
  kd : ∀ k, e.kd = some k → Ks k
  mo : Fine 2 e.more.v
  le : e.ks.length ≤ 10
def OpsV (T : Sg) (cs : List (PySem.Str × Nat)) (xs : List Val) : Prop := ∃ es : List Oe, xs = es.map Oe.v ∧ ∀ e ∈ es, OeOk T cs e
theorem OpsV.app {T : Sg} {cs : List (PySem.Str × Nat)} {xs ys : List Val} (h : OpsV T cs xs) (k : OpsV T cs ys) : OpsV T cs (xs ++ ys) := by
  obtain ⟨es, rfl, h⟩ := h
  obtain ⟨fs, rfl, k⟩ := k
  refine ⟨es ++ fs, by rw [List.map_append], fun e he => ?_⟩
  rcases List.mem_append.mp he with he | he
  · exact h e he
  · exact k e he
theorem OpsV.nil {T : Sg} {cs : List (PySem.Str × Nat)} : OpsV T cs [] := ⟨[], rfl, fun e he => by cases he⟩
theorem OpsV.cons {T : Sg} {cs : List (PySem.Str × Nat)} {xs : List Val} {e : Oe} (h : OeOk T cs e) (k : OpsV T cs xs) : OpsV T cs (e.v :: xs) := by
  obtain ⟨es, rfl, k⟩ := k
  refine ⟨e :: es, rfl, fun f hf => ?_⟩
  rcases List.mem_cons.mp hf with rfl | hf
  · exact h
  · exact k f hf
theorem OpsV.rep {T : Sg} {cs : List (PySem.Str × Nat)} {xs : List Val} (k : OpsV T cs xs) : ∀ n : Nat, OpsV T cs (List.replicate n xs).flatten
  | 0 => OpsV.nil
  | n + 1 => by rw [List.replicate_succ, List.flatten_cons]; exact k.app (OpsV.rep k n)
theorem kx_num {cs : List (PySem.Str × Nat)} : KxOk cs (.kd .num) := ⟨.num, (fun z => by cases z), fun n e => by cases e⟩
theorem kx_tru {cs : List (PySem.Str × Nat)} : KxOk cs (.kd .tru) := ⟨.tru, (fun z => by cases z), fun n e => by cases e⟩
theorem kx_row {cs : List (PySem.Str × Nat)} : KxOk cs (.kd (.row .num)) := ⟨.row, (fun z => by cases z), fun n e => by cases e⟩
theorem kx_pair {cs : List (PySem.Str × Nat)} : KxOk cs (.kd (.rc "pair")) := ⟨.pair, (fun z => absurd z (by simp; decide)), fun n e => by cases e⟩
theorem kx_few {cs : List (PySem.Str × Nat)} : KxOk cs .few := trivial
theorem kx_all {cs : List (PySem.Str × Nat)} {x : Kx} {xs : List Kx} (h : KxOk cs x) (k : ∀ y ∈ xs, KxOk cs y) : ∀ y ∈ x :: xs, KxOk cs y := fun y hy => by
  rcases List.mem_cons.mp hy with rfl | hy
  · exact h
  · exact k y hy
theorem kx_nil {cs : List (PySem.Str × Nat)} : ∀ y ∈ ([] : List Kx), KxOk cs y := fun y hy => by cases hy
theorem num_of {i : Int} (h1 : -2147483648 ≤ i) (h2 : i ≤ 2147483647) : Num i := ⟨h1, h2⟩
theorem fine_no : Fine 2 More.no.v := by simp [Fine]
theorem fine_num {n : Int} : Fine 2 (More.num n).v := by simp [Fine]
theorem fine_tru {b : Bool} : Fine 2 (More.tru b).v := by simp [Fine]
theorem fine_nm {s : PySem.Str} (h : PySem.PyData.strOk s = true) : Fine 2 (More.nm s).v := by simp [Fine, h]
local macro_rules | `(tactic| walk_at "pure") => `(tactic| (refine ⟨_, rfl, fun zs => ?_⟩; walk_at "w"; rfl))
section
variable {B H R R' : HL} {d : Nat} {Q : Val → HL → Prop}
theorem wp_less {α : Type} {m : Store → Res α} {K X : HL} {Q : α → HL → Prop} (p : Sub H K X) (h : WP B m K Q) : WP B m H Q := fun st F s => by
  refine h st F ((s.perm ((List.Perm.append_right F p).trans (by rw [List.append_assoc]))).sub ?_)
  exact (List.Sublist.refl K).append (List.sublist_append_right X F)
theorem wf_sub {c : Ctx} {t : Tg} {b : Ss} {w : Watch} {xs : List Val} {s : Env} {K X : HL} {N : Env → HL → Prop} {T : Val → HL → Prop} (p : Sub H K X) (h : WF B c t b w xs s K N T) : WF B c t b w xs s H N T := wp_less p h
theorem wss_sub {c : Ctx} {x : Ss} {s : Env} {K X : HL} {N : Env → HL → Prop} {T : Val → HL → Prop} {K' C : Env → HL → Prop} (p : Sub H K X) (h : WSs B c x s K N T K' C) : WSs B c x s H N T K' C := wp_less p h
theorem wl_sub {c : Ctx} {t : Tg} {k : CL.B} {e : E} {s : Env} {D : Nat} {w : Watch} {xs : List Val} {K X : HL} {Q : Val → HL → Prop} (p : Sub H K X) (h : WL B c t k e s D w xs K Q) : WL B c t k e s D w xs H Q := wp_less p h
def dropS : Nat → Ss → Ss
  | 0, s => s
  | n + 1, .cons _ r => dropS n r
  | _, .nil => .nil
def forB : Ss → Ss
  | .cons (.for _ _ b) _ => b
  | .cons _ r => forB r
  | .nil => .nil
abbrev numV : Val := .tup [.str "number"]
abbrev truV : Val := .tup [.str "truth"]
abbrev rowV : Val := .tup [.str "row", numV]
theorem rep_num (n : Nat) : rep [numV] (n : Int) = (numsK n).map Kd.v := by
  unfold rep
  rw [Int.toNat_natCast, List.map_replicate]
  induction n with
  | zero => rfl
  | succ n ih => rw [List.replicate_succ, List.flatten_cons, ih, List.replicate_succ]; rfl
theorem repOk_one {v : Val} {k : Nat} (h : k ≤ 1000) : repOk [v] (k : Int) = true := by
  unfold repOk
  rw [fits_small (by simp; omega), Bool.and_true, Bool.and_eq_true, decide_eq_true_eq, decide_eq_true_eq]
  omega
theorem fn_v (n : Nat) : Val.tup [.str "fun", .tup ((numsK n).map Kd.v), numV] = Kd.v (.fn (numsK n) .num) := by
  show _ = Val.tup [.str "fun", .tup (Kd.vs (numsK n)), Kd.v .num]
  rw [vs_map]; rfl
theorem kx_nums {cs : List (PySem.Str × Nat)} {n : Nat} : ∀ y ∈ (numsK n).map Kx.kd, KxOk cs y := fun y hy => by
  obtain ⟨k, hk, rfl⟩ := List.mem_map.mp hy
  rw [List.eq_of_mem_replicate hk]; exact kx_num
theorem kx_v (ks : List Kd) : (ks.map Kx.kd).map Kx.v = ks.map Kd.v := by rw [List.map_map]; rfl
theorem kx_k (ks : List Kd) : (ks.map Kx.kd).map Kx.k = ks := by
  rw [List.map_map]
  exact List.map_id _
theorem repOk_n {xs : List Val} {k : Nat} (h : xs.length * k ≤ 1000) (hk : k ≤ 1000) : repOk xs (k : Int) = true := by
  unfold repOk
  rw [Int.toNat_natCast, fits_small (by omega), Bool.and_true, Bool.and_eq_true, decide_eq_true_eq, decide_eq_true_eq]
  omega
theorem kx_fun {cs : List (PySem.Str × Nat)} (h : cs ≠ []) : KxOk cs (.kd (.fn (numsK 1) .num)) := ⟨.fn 1, (fun z => by cases z), fun n e => by
  rw [rep_inj] at e
  exact ⟨e.symm, h⟩⟩
abbrev pairV : Val := .tup [.str "record", .str "pair"]
abbrev funV : Val := .tup [.str "fun", .tup [numV], numV]
def opsT : Ss := dropS 12 d_l_ops.body
def callB : Ss := forB opsT
abbrev csV (cs : List (PySem.Str × Nat)) : List Val := cs.map fun c => .str c.1
abbrev opsE (cl l : Nat) (s3 s8 s9 s10 s11 : Option Val) : List (Option Val) := [some (.ref cl), some (.ref l), some funV, s3, some numV, some truV, some rowV, some pairV, s8, s9, s10, s11]
theorem sl_opsC {T : Sg} {cs : List (PySem.Str × Nat)} {cl : Nat} {w : Watch} {s8 s9 s10 s11 : Option Val} {N : Env → HL → Prop} {T' : Val → HL → Prop} (hc : CsOk T cs) (hw : ∀ X, Sees B (X ++ H) w)
    (q : ∀ l xs s3, OpsV T cs xs → xs.length ≤ 1000 → xs ≠ [] → N (opsE cl l s3 s8 s9 s10 s11) ((l, .lst xs) :: H)) :
    ∀ (c2 c1 : List (PySem.Str × Nat)) (l : Nat) (xs : List Val) (s3 : Option Val), cs = c1 ++ c2 → OpsV T cs xs → xs.length ≤ 60 + 20 * c1.length → xs ≠ [] →
    WF B (cxN G fuel (d + 1)) (.one 3) callB w (csV c2) (opsE cl l s3 s8 s9 s10 s11) ((l, .lst xs) :: H) N T'
  | [], c1, l, xs, s3, e, o, hx, hne => by
    have := hc.le
    rw [List.append_nil] at e; subst e
    exact for_nil (hw [_]) (q l xs _ o (by omega) hne)
  | c :: c2, c1, l, xs, s3, e, o, hx, hne => by
    have hm : c ∈ cs := by rw [e]; simp
    have hcs : cs ≠ [] := fun z => by rw [z] at hm; cases hm
    have lo := hc.lo c hm
    have hle := hc.le
    have hl1 : cs.length = c1.length + (c2.length + 1) := by rw [e]; simp
    have hfn := hc.fn c hm
    rw [lo] at hfn
    rw [show csV (c :: c2) = Val.str c.1 :: csV c2 from rfl]
    refine for_cons (hw [_]) rfl ?_
    unfold callB opsT d_l_ops
    simp only [dropS, forB]
    walk_at "w"
    refine p_mull' (by walk_at "sub") (repOk_n (k := 2) (Nat.le_of_ble_eq_true rfl) (by decide)) fun l2 => ?_
    walk_at "w"
    refine p_addl' (by walk_at "sub") (by walk_at "sub") (fits_small (by simp [rep]; omega)) fun l3 => ?_
    walk_at "w"
    have oe : OpsV T cs (rep [.tup [.str "call", .tup [numV, numV], numV, .tup [.str c.1]], .tup [.str "close", .tup [numV], funV, .tup [.str c.1]]] 2) := by
      have e1 : OeOk T cs ⟨.call, [.kd .num, .kd .num], some .num, .nm c.1⟩ := ⟨.call hfn, kx_all kx_num (kx_all kx_num kx_nil), fun k' e => (by cases e; exact .num), fine_nm (hc.nm c hm), Nat.le_of_ble_eq_true rfl⟩
      have e2 : OeOk T cs ⟨.close, [.kd .num], some (.fn (numsK 1) .num), .nm c.1⟩ := ⟨.close (ks := [.num]) (ps := [.num]) hfn (Nat.le_of_ble_eq_true rfl), kx_all kx_num kx_nil, fun k' e => (by cases e; exact .fn 1), fine_nm (hc.nm c hm), Nat.le_of_ble_eq_true rfl⟩
      exact (OpsV.cons e1 (OpsV.cons e2 .nil)).rep 2
    obtain ⟨zs, hz, o2, h2, hne2⟩ : ∃ zs, xs ++ _ = zs ∧ OpsV T cs zs ∧ zs.length ≤ 60 + 20 * c1.length + 4 ∧ zs ≠ [] := ⟨_, rfl, o.app oe, by simp [rep]; omega, by simp [hne]⟩
    rw [hz]
    refine p_mull' (by walk_at "sub") (repOk_one (k := 2) (by decide)) fun l4 => ?_
    walk_at "w"
    refine p_addl' (by walk_at "sub") (by walk_at "sub") (fits_small (by simp [rep]; omega)) fun l5 => ?_
    walk_at "w"
    have oe2 : OpsV T cs (rep [.tup [.str "ask", .tup [funV, numV], numV, .tup []]] 2) := by
      have e1 : OeOk T cs ⟨.ask, [.kd (.fn (numsK 1) .num), .kd .num], some .num, .no⟩ := ⟨.ask (ps := [.num]), kx_all (kx_fun hcs) (kx_all kx_num kx_nil), fun k' e => (by cases e; exact .num), fine_no, Nat.le_of_ble_eq_true rfl⟩
      exact (OpsV.cons e1 .nil).rep 2
    obtain ⟨ys, hy, o3, h3, hne3⟩ : ∃ ys, zs ++ _ = ys ∧ OpsV T cs ys ∧ ys.length ≤ 60 + 20 * (c1.length + 1) ∧ ys ≠ [] := ⟨_, rfl, o2.app oe2, by simp [rep]; omega, by simp [hne2]⟩
    rw [hy]
    refine wf_sub (K := (l5, .lst ys) :: H) (X := _) (by walk_at "subs") ?_
    exact sl_opsC hc hw q c2 (c1 ++ [c]) l5 ys _ (by rw [e]; simp) o3 (by simp; omega) hne3
end
section
variable {B H R R' : HL} {d : Nat} {Q : Val → HL → Prop}
local macro_rules | `(tactic| walk_at "pure") => `(tactic| (refine ⟨_, rfl, fun zs => ?_⟩; walk_at "w"; rfl))
theorem sl_ops {T : Sg} {cs : List (PySem.Str × Nat)} {cl : Nat} (hc : CsOk T cs) (hl : Sub H [(cl, .lst (csV cs))] R)
    (q : ∀ p es, es ≠ [] → es.length ≤ 1000 → (∀ e ∈ es, OeOk T cs e) → Q (.ref p) ((p, .lst (es.map Oe.v)) :: H)) :
    WP B (callN G fuel (d + 2) f_l_ops [.ref cl]) H Q := by
  walk_at "in"
  show WSs B _ (.cons _ (.cons _ (.cons _ (.cons _ (.cons _ (.cons _ (.cons _ (.cons _ (.cons _ (.cons _ (.cons _ (.cons _ opsT)))))))))))) _ _ _ _ _ _
  walk_at "w"
  refine lc_pure (fun y => some (.tup [y, .tup [numV, numV], numV, .tup []])) _ _ [] (fun y hy => by walk_at "pure") sees_nil (by simp) ?_
  have nn : ∀ {o : Op}, o = .add ∨ o = .sub ∨ o = .mul ∨ o = .div ∨ o = .rem → OeOk T cs ⟨o, [.kd .num, .kd .num], some .num, .no⟩ := fun h => ⟨.nums h, kx_all kx_num (kx_all kx_num kx_nil), fun k' e => (by cases e; exact .num), fine_no, Nat.le_of_ble_eq_true rfl⟩
  have o1 : OpsV T cs ([] ++ [Val.str "+", .str "-", .str "*", .str "+", .str "div", .str "rem"].filterMap fun y => some (.tup [y, .tup [numV, numV], numV, .tup []])) :=
    OpsV.cons (nn (.inl rfl)) (OpsV.cons (nn (.inr (.inl rfl))) (OpsV.cons (nn (.inr (.inr (.inl rfl)))) (OpsV.cons (nn (.inl rfl)) (OpsV.cons (nn (.inr (.inr (.inr (.inl rfl))))) (OpsV.cons (nn (.inr (.inr (.inr (.inr rfl))))) .nil)))))
  obtain ⟨z1, hz, o1, h1⟩ : ∃ zs, [] ++ List.filterMap _ _ = zs ∧ OpsV T cs zs ∧ zs.length = 6 := ⟨_, rfl, o1, rfl⟩
  rw [hz]
  walk_at "w"
  refine lc_pure (fun y => some (.tup [y, .tup [numV, numV], truV, .tup []])) _ _ [] (fun y hy => by walk_at "pure") sees_nil (by simp) ?_
  walk_at "w"
  refine p_addl' (by walk_at "sub") (by walk_at "sub") (fits_small (by simp; omega)) fun l2 => ?_
  obtain ⟨z2, hz, o2, h2⟩ : ∃ zs, z1 ++ _ = zs ∧ OpsV T cs zs ∧ zs.length = 8 := ⟨_, rfl, o1.app (ys := [] ++ [Val.str "<", .str "="].filterMap (fun y => some (.tup [y, .tup [numV, numV], truV, .tup []]))) (OpsV.cons (e := ⟨.lt, [.kd .num, .kd .num], some .tru, .no⟩) ⟨.cmps (.inl rfl), kx_all kx_num (kx_all kx_num kx_nil), fun k' e => (by cases e; exact .tru), fine_no, Nat.le_of_ble_eq_true rfl⟩ (OpsV.cons (e := ⟨.eq, [.kd .num, .kd .num], some .tru, .no⟩) ⟨.cmps (.inr rfl), kx_all kx_num (kx_all kx_num kx_nil), fun k' e => (by cases e; exact .tru), fine_no, Nat.le_of_ble_eq_true rfl⟩ .nil)), by simp [h1]⟩
  rw [hz]
  walk_at "w"
  refine lc_pure (fun y => some (.tup [y, .tup [truV, truV], truV, .tup []])) _ _ [] (fun y hy => by walk_at "pure") sees_nil (by simp) ?_
  walk_at "w"
  refine p_addl' (by walk_at "sub") (by walk_at "sub") (fits_small (by simp; omega)) fun l3 => ?_
  obtain ⟨z3, hz, o3, h3⟩ : ∃ zs, z2 ++ _ = zs ∧ OpsV T cs zs ∧ zs.length = 10 := ⟨_, rfl, o2.app (ys := [] ++ [Val.str "and", .str "or"].filterMap (fun y => some (.tup [y, .tup [truV, truV], truV, .tup []]))) (OpsV.cons (e := ⟨.and, [.kd .tru, .kd .tru], some .tru, .no⟩) ⟨.trus (.inl rfl), kx_all kx_tru (kx_all kx_tru kx_nil), fun k' e => (by cases e; exact .tru), fine_no, Nat.le_of_ble_eq_true rfl⟩ (OpsV.cons (e := ⟨.or, [.kd .tru, .kd .tru], some .tru, .no⟩) ⟨.trus (.inr rfl), kx_all kx_tru (kx_all kx_tru kx_nil), fun k' e => (by cases e; exact .tru), fine_no, Nat.le_of_ble_eq_true rfl⟩ .nil)), by simp [h2]⟩
  rw [hz]
  walk_at "w"
  refine p_addl' (by walk_at "sub") (by walk_at "sub") (fits_small (by simp; omega)) fun l4 => ?_
  obtain ⟨z4, hz, o4, h4⟩ : ∃ zs, z3 ++ _ = zs ∧ OpsV T cs zs ∧ zs.length = 11 := ⟨_, rfl, o3.app (ys := [.tup [.str "not", .tup [truV], truV, .tup []]]) (OpsV.cons (e := ⟨.not, [.kd .tru], some .tru, .no⟩) ⟨.not, kx_all kx_tru kx_nil, fun k' e => (by cases e; exact .tru), fine_no, Nat.le_of_ble_eq_true rfl⟩ .nil), by simp [h3]⟩
  rw [hz]
  walk_at "w"
  refine lc_pure (fun y => some (.tup [.str "truth", .tup [], truV, .tup [y]])) _ _ [] (fun y hy => by walk_at "pure") sees_nil (by simp) ?_
  walk_at "w"
  refine p_addl' (by walk_at "sub") (by walk_at "sub") (fits_small (by simp; omega)) fun l5 => ?_
  obtain ⟨z5, hz, o5, h5⟩ : ∃ zs, z4 ++ _ = zs ∧ OpsV T cs zs ∧ zs.length = 13 := ⟨_, rfl, o4.app (ys := [] ++ [Val.bl true, .bl false].filterMap (fun y => some (.tup [.str "truth", .tup [], truV, .tup [y]]))) (OpsV.cons (e := ⟨.truth, [], some .tru, .tru true⟩) ⟨.truth, kx_nil, fun k' e => (by cases e; exact .tru), fine_tru, Nat.le_of_ble_eq_true rfl⟩ (OpsV.cons (e := ⟨.truth, [], some .tru, .tru false⟩) ⟨.truth, kx_nil, fun k' e => (by cases e; exact .tru), fine_tru, Nat.le_of_ble_eq_true rfl⟩ .nil)), by simp [h4]⟩
  rw [hz]
  walk_at "w"
  refine lc_pure (fun y => some (.tup [.str "number", .tup [], numV, .tup [y]])) _ _ [] (fun y hy => by walk_at "pure") sees_nil (by simp) ?_
  walk_at "w"
  refine p_addl' (by walk_at "sub") (by walk_at "sub") (fits_small (by simp; omega)) fun l6 => ?_
  obtain ⟨z6, hz, o6, h6⟩ : ∃ zs, z5 ++ _ = zs ∧ OpsV T cs zs ∧ zs.length = 21 := ⟨_, rfl, o5.app (ys := [] ++ [Val.int (-1), .int 0, .int 1, .int 2, .int 60, .int 61, .int 2147483647, .int (-2147483648)].filterMap (fun y => some (.tup [.str "number", .tup [], numV, .tup [y]]))) (OpsV.cons (e := ⟨.number, [], some .num, .num (-1)⟩) ⟨.number (num_of (by decide) (by decide)), kx_nil, fun k' e => (by cases e; exact .num), fine_num, Nat.le_of_ble_eq_true rfl⟩ (OpsV.cons (e := ⟨.number, [], some .num, .num (0)⟩) ⟨.number (num_of (by decide) (by decide)), kx_nil, fun k' e => (by cases e; exact .num), fine_num, Nat.le_of_ble_eq_true rfl⟩ (OpsV.cons (e := ⟨.number, [], some .num, .num (1)⟩) ⟨.number (num_of (by decide) (by decide)), kx_nil, fun k' e => (by cases e; exact .num), fine_num, Nat.le_of_ble_eq_true rfl⟩ (OpsV.cons (e := ⟨.number, [], some .num, .num (2)⟩) ⟨.number (num_of (by decide) (by decide)), kx_nil, fun k' e => (by cases e; exact .num), fine_num, Nat.le_of_ble_eq_true rfl⟩ (OpsV.cons (e := ⟨.number, [], some .num, .num (60)⟩) ⟨.number (num_of (by decide) (by decide)), kx_nil, fun k' e => (by cases e; exact .num), fine_num, Nat.le_of_ble_eq_true rfl⟩ (OpsV.cons (e := ⟨.number, [], some .num, .num (61)⟩) ⟨.number (num_of (by decide) (by decide)), kx_nil, fun k' e => (by cases e; exact .num), fine_num, Nat.le_of_ble_eq_true rfl⟩ (OpsV.cons (e := ⟨.number, [], some .num, .num (2147483647)⟩) ⟨.number (num_of (by decide) (by decide)), kx_nil, fun k' e => (by cases e; exact .num), fine_num, Nat.le_of_ble_eq_true rfl⟩ (OpsV.cons (e := ⟨.number, [], some .num, .num (-2147483648)⟩) ⟨.number (num_of (by decide) (by decide)), kx_nil, fun k' e => (by cases e; exact .num), fine_num, Nat.le_of_ble_eq_true rfl⟩ .nil)))))))), by simp [h5]⟩
  rw [hz]
  walk_at "w"
  refine p_addl' (by walk_at "sub") (by walk_at "sub") (fits_small (by simp; omega)) fun l7 => ?_
  obtain ⟨z7, hz, o7, h7⟩ : ∃ zs, z6 ++ _ = zs ∧ OpsV T cs zs ∧ zs.length = 24 := ⟨_, rfl, o6.app (ys := [.tup [.str "fill", .tup [.str "few", numV], rowV, .tup []], .tup [.str "fill", .tup [numV, numV], rowV, .tup []], .tup [.str "long", .tup [rowV], numV, .tup []]]) (OpsV.cons (e := ⟨.fill, [.few, .kd .num], some (.row .num), .no⟩) ⟨.fill, kx_all kx_few (kx_all kx_num kx_nil), fun k' e => (by cases e; exact .row), fine_no, Nat.le_of_ble_eq_true rfl⟩ (OpsV.cons (e := ⟨.fill, [.kd .num, .kd .num], some (.row .num), .no⟩) ⟨.fill, kx_all kx_num (kx_all kx_num kx_nil), fun k' e => (by cases e; exact .row), fine_no, Nat.le_of_ble_eq_true rfl⟩ (OpsV.cons (e := ⟨.long, [.kd (.row .num)], some .num, .no⟩) ⟨.long, kx_all kx_row kx_nil, fun k' e => (by cases e; exact .num), fine_no, Nat.le_of_ble_eq_true rfl⟩ .nil))), by simp [h6]⟩
  rw [hz]
  walk_at "w"
  refine lc_pure (fun y => some (.tup [.str "get", .tup [rowV, y], numV, .tup []])) _ _ [] (fun y hy => by walk_at "pure") sees_nil (by simp) ?_
  walk_at "w"
  refine p_addl' (by walk_at "sub") (by walk_at "sub") (fits_small (by simp; omega)) fun l8 => ?_
  obtain ⟨z8, hz, o8, h8⟩ : ∃ zs, z7 ++ _ = zs ∧ OpsV T cs zs ∧ zs.length = 26 := ⟨_, rfl, o7.app (ys := [] ++ [Val.str "few", numV].filterMap (fun y => some (.tup [.str "get", .tup [rowV, y], numV, .tup []]))) (OpsV.cons (e := ⟨.get, [.kd (.row .num), .few], some .num, .no⟩) ⟨.get, kx_all kx_row (kx_all kx_few kx_nil), fun k' e => (by cases e; exact .num), fine_no, Nat.le_of_ble_eq_true rfl⟩ (OpsV.cons (e := ⟨.get, [.kd (.row .num), .kd .num], some .num, .no⟩) ⟨.get, kx_all kx_row (kx_all kx_num kx_nil), fun k' e => (by cases e; exact .num), fine_no, Nat.le_of_ble_eq_true rfl⟩ .nil)), by simp [h7]⟩
  rw [hz]
  walk_at "w"
  refine lc_pure (fun y => some (.tup [.str "set", .tup [rowV, y, numV], .non, .tup []])) _ _ [] (fun y hy => by walk_at "pure") sees_nil (by simp) ?_
  walk_at "w"
  refine p_addl' (by walk_at "sub") (by walk_at "sub") (fits_small (by simp; omega)) fun l9 => ?_
  obtain ⟨z9, hz, o9, h9⟩ : ∃ zs, z8 ++ _ = zs ∧ OpsV T cs zs ∧ zs.length = 28 := ⟨_, rfl, o8.app (ys := [] ++ [Val.str "few", numV].filterMap (fun y => some (.tup [.str "set", .tup [rowV, y, numV], .non, .tup []]))) (OpsV.cons (e := ⟨.set, [.kd (.row .num), .few, .kd .num], none, .no⟩) ⟨.set, kx_all kx_row (kx_all kx_few (kx_all kx_num kx_nil)), fun k' e => (by cases e), fine_no, Nat.le_of_ble_eq_true rfl⟩ (OpsV.cons (e := ⟨.set, [.kd (.row .num), .kd .num, .kd .num], none, .no⟩) ⟨.set, kx_all kx_row (kx_all kx_num (kx_all kx_num kx_nil)), fun k' e => (by cases e), fine_no, Nat.le_of_ble_eq_true rfl⟩ .nil)), by simp [h8]⟩
  rw [hz]
  walk_at "w"
  clear hz
  have recs : T.rc = recsL := hc.rc
  have hr : (("pair" : PySem.Str), [Kd.num, .tru]) ∈ T.rc := by rw [recs]; simp [recsL]
  refine p_addl' (by walk_at "sub") (by walk_at "sub") (fits_small (by simp; omega)) fun l10 => ?_
  obtain ⟨z10, hz, o10, h10⟩ : ∃ zs, z9 ++ _ = zs ∧ OpsV T cs zs ∧ zs.length = 30 := ⟨_, rfl, o9.app (ys := [.tup [.str "make", .tup [numV, truV], pairV, .tup [.str "pair"]], .tup [.str "cell", .tup [pairV], numV, .tup [.int 0]]]) (OpsV.cons (e := ⟨.make, [.kd .num, .kd .tru], some (.rc "pair"), .nm "pair"⟩) ⟨.make hr, kx_all kx_num (kx_all kx_tru kx_nil), fun k' e => (by cases e; exact .pair), fine_nm (by decide +kernel), Nat.le_of_ble_eq_true rfl⟩ (OpsV.cons (e := ⟨.cell, [.kd (.rc "pair")], some .num, .num (0 : Nat)⟩) ⟨.cell hr rfl, kx_all kx_pair kx_nil, fun k' e => (by cases e; exact .num), fine_num, Nat.le_of_ble_eq_true rfl⟩ .nil)), by simp [h9]⟩
  rw [hz]
  walk_at "w"
  refine p_addl' (by walk_at "sub") (by walk_at "sub") (fits_small (by simp; omega)) fun l11 => ?_
  obtain ⟨z11, hz, o11, h11⟩ : ∃ zs, z10 ++ _ = zs ∧ OpsV T cs zs ∧ zs.length = 32 := ⟨_, rfl, o10.app (ys := [.tup [.str "cell", .tup [pairV], truV, .tup [.int 1]], .tup [.str "store", .tup [pairV, numV], .non, .tup [.int 0]]]) (OpsV.cons (e := ⟨.cell, [.kd (.rc "pair")], some .tru, .num (1 : Nat)⟩) ⟨.cell hr rfl, kx_all kx_pair kx_nil, fun k' e => (by cases e; exact .tru), fine_num, Nat.le_of_ble_eq_true rfl⟩ (OpsV.cons (e := ⟨.store, [.kd (.rc "pair"), .kd .num], none, .num (0 : Nat)⟩) ⟨.store hr rfl, kx_all kx_pair (kx_all kx_num kx_nil), fun k' e => (by cases e), fine_num, Nat.le_of_ble_eq_true rfl⟩ .nil)), by simp [h10]⟩
  rw [hz]
  walk_at "w"
  refine p_addl' (by walk_at "sub") (by walk_at "sub") (fits_small (by simp; omega)) fun l12 => ?_
  obtain ⟨z12, hz, o12, h12⟩ : ∃ zs, z11 ++ _ = zs ∧ OpsV T cs zs ∧ zs.length = 33 := ⟨_, rfl, o11.app (ys := [.tup [.str "store", .tup [pairV, truV], .non, .tup [.int 1]]]) (OpsV.cons (e := ⟨.store, [.kd (.rc "pair"), .kd .tru], none, .num (1 : Nat)⟩) ⟨.store hr rfl, kx_all kx_pair (kx_all kx_tru kx_nil), fun k' e => (by cases e), fine_num, Nat.le_of_ble_eq_true rfl⟩ .nil), by simp [h11]⟩
  rw [hz]
  walk_at "w"
  refine p_mull' (by walk_at "sub") (repOk_one (k := 4) (by decide)) fun l14 => ?_
  walk_at "w"
  refine p_addl' (by walk_at "sub") (by walk_at "sub") (fits_small (by simp [rep]; omega)) fun l15 => ?_
  have oe : OpsV T cs (rep [.tup [.str "tell", .tup [numV], .non, .tup []]] 4) := (OpsV.cons (e := ⟨.tell, [.kd .num], none, .no⟩) ⟨.tell, kx_all kx_num kx_nil, fun k' e => (by cases e), fine_no, Nat.le_of_ble_eq_true rfl⟩ .nil).rep 4
  obtain ⟨z15, hz, o15, h15, hne15⟩ : ∃ zs, z12 ++ _ = zs ∧ OpsV T cs zs ∧ zs.length ≤ 60 ∧ zs ≠ [] := ⟨_, rfl, o12.app oe, by simp [rep, h12], by simp [rep]⟩
  rw [hz]
  walk_at "w"
  clear hz
  refine wss_sub (K := (l15, .lst z15) :: H) (X := _) (by walk_at "subs") ?_
  show WSs B _ (.cons _ (.cons (.for _ _ callB) _)) _ _ _ _ _ _
  walk_at "w"
  refine sl_opsC (T := T) hc (fun X i xs hm => .inl ?_) (fun l16 z16 s o16 h16 hne16 => ?_) cs [] l15 z15 _ rfl o15 (by simp; omega) hne15
  · cases List.mem_singleton.mp hm
    exact List.mem_append_right _ (List.Perm.mem_iff (show H.Perm ([_] ++ R) from hl) |>.mpr (by simp))
  · obtain ⟨es, rfl, hes⟩ := o16
    walk_at "w"
    exact conv0 (q l16 es (fun z => hne16 (by rw [z]; rfl)) (by rw [List.length_map] at h16; exact h16) hes)
end
abbrev wL (a b r p e cl : Nat) (bu : Int) (S : Gs) (pp c : Nat) (cap : Int) (P : Pot) (cs : List (PySem.Str × Nat)) : HL := [(a, stD b r p e cl bu S), (b, .lst (S.blocks.map oB)), (r, .lst (S.rows.map Row.v)), (p, .lst (S.params.map parV)), (e, .lst (S.env.map parV)), (pp, potD c P), (c, potL P), (cl, .lst (csV cs))]
abbrev wH (a b r p e cl : Nat) (bu : Int) (S : Gs) (pp c : Nat) (cap : Int) (P : Pot) (cs : List (PySem.Str × Nat)) (R : HL) : HL := (a, stD b r p e cl bu S) :: (b, .lst (S.blocks.map oB)) :: (r, .lst (S.rows.map Row.v)) :: (p, .lst (S.params.map parV)) :: (e, .lst (S.env.map parV)) :: (pp, potD c P) :: (c, potL P) :: (cl, .lst (csV cs)) :: R
theorem _root_.Md.Zs.ok {S : Gs} {k : Int} (h : Zs S k) (hl : S.line + k ≤ 9000) : SOk S := by
  obtain ⟨h1, h2, h3, h4, h5⟩ := h
  exact ⟨by omega, by omega, by omega, by omega, by omega⟩
/-- a name of a kind: what has changed -/
structure Nm (T : Sg) (pl : Plan) (rk : Nat) (U : List Nat) (S S' : Gs) (k : Int) (kd : Kd) (y : Int) (n : Int) : Prop where
  g : Gw T pl rk U S' k
  le : Le S S'
  m : (y, kd) ∈ S'.env
  lo : S.line ≤ S'.line
  hi : S'.line ≤ S.line + n
  bl : S'.blocks = S.blocks
  nw : S'.now = S.now
def NameOk (B : HL) (T : Sg) (cs : List (PySem.Str × Nat)) (dd : Nat) (x : Kx) (n : Int) : Prop := ∀ (a b r p e cl pp c : Nat) (bu cap k : Int) (S : Gs) (P : Pot) (pl : Plan) (rk : Nat) (U : List Nat) (H R : HL) (Q : Val → HL → Prop),
  Gw T pl rk U S k → P.ok → S.line + k + n ≤ 8000 → Sub H (wL a b r p e cl bu S pp c cap P cs) R →
  (∀ S' P' y, Nm T pl rk U S S' k x.k y n → P'.ok → Q (.int y) (wH a b r p e cl bu S' pp c cap P' cs R)) →
  WP B (callN G fuel dd f_l_name [.ref a, .ref pp, x.v]) H Q
def kxB : Kx → Kd → Bool
  | .few, _ => false
  | .kd k, q => ksB q k
def KxKs : Kx → Prop
  | .few => True
  | .kd k => Ks k
theorem eqV_kx {st : Store} {q : Kd} {x : Kx} (hq : Ks q) (hx : KxKs x) : eqV st q.v x.v = some (kxB x q) := by
  cases x with
  | few => exact eqV_few hq
  | kd k => exact eqV_ks hq hx
def someN (x : Kx) (Γ : Ga) : List Int := (Γ.filter fun q => kxB x q.2).map (·.1)
def pickK (x : Kx) (Γ : Ga) (v : Val) : Option Val := match v with
  | .tup [.int y, w] => if Γ.any (fun q => decide (parV q = .tup [.int y, w]) && kxB x q.2) then some (.int y) else none
  | _ => none
theorem ksv_inj {a b : Kd} (ha : Ks a) (hb : Ks b) (h : a.v = b.v) : a = b := by
  have h1 := eqV_ks (st := ⟨0, fun _ => none, fun _ => false⟩) ha hb
  have h2 := eqV_ks (st := ⟨0, fun _ => none, fun _ => false⟩) hb hb
  rw [h, h2, ksB_self hb] at h1
  exact ksB_eq ha hb (by injection h1 with h1; exact h1.symm)
theorem pick_at {x : Kx} {Γ : Ga} (hk : ∀ q ∈ Γ, Ks q.2) {q : Int × Kd} (hq : q ∈ Γ) : pickK x Γ (parV q) = if kxB x q.2 then some (.int q.1) else none := by
  show (if Γ.any (fun q' => decide (parV q' = .tup [.int q.1, q.2.v]) && kxB x q'.2) then some (Val.int q.1) else none) = _
  by_cases h : kxB x q.2 = true
  · rw [if_pos h, if_pos]
    rw [List.any_eq_true]
    exact ⟨q, hq, by rw [h, decide_eq_true rfl]; rfl⟩
  · rw [if_neg h, if_neg]
    intro hz
    rw [List.any_eq_true] at hz
    obtain ⟨q', hq', hz⟩ := hz
    rw [Bool.and_eq_true, decide_eq_true_eq] at hz
    obtain ⟨hz1, hz2⟩ := hz
    have hz1 : Val.tup [.int q'.1, q'.2.v] = Val.tup [.int q.1, q.2.v] := hz1
    injection hz1 with hz1
    injection hz1 with _ hz1
    injection hz1 with hz1 _
    rw [ksv_inj (hk q' hq') (hk q hq) hz1] at hz2
    exact h hz2
theorem pick_all {x : Kx} {Γ : Ga} (hk : ∀ q ∈ Γ, Ks q.2) : ∀ (l : Ga), (∀ q ∈ l, q ∈ Γ) → (l.map parV).filterMap (pickK x Γ) = (someN x l).map .int
  | [], _ => rfl
  | q :: l, h => by
    have ih := pick_all (x := x) hk l fun z hz => h z (by simp [hz])
    rw [List.map_cons, List.filterMap_cons, pick_at hk (h q (by simp))]
    unfold someN at ih ⊢
    by_cases hb : kxB x q.2 = true
    · rw [if_pos hb, List.filter_cons_of_pos (by simpa using hb), List.map_cons, List.map_cons, ih]
    · rw [if_neg hb, List.filter_cons_of_neg (by simpa using hb), ih]
theorem someN_len {x : Kx} {Γ : Ga} : (someN x Γ).length ≤ Γ.length := by
  unfold someN
  rw [List.length_map]
  exact List.length_filter_le _ _
theorem someN_mem {x : Kx} {Γ : Ga} (hx : KxKs x) (hk : ∀ q ∈ Γ, Ks q.2) {y : Int} (h : y ∈ someN x Γ) : (y, x.k) ∈ Γ := by
  unfold someN at h
  obtain ⟨q, hq, rfl⟩ := List.mem_map.mp h
  rw [List.mem_filter] at hq
  cases x with
  | few => simp [kxB] at hq
  | kd k =>
    have := ksB_eq (hk q hq.1) hx (by simpa [kxB] using hq.2)
    have e : q = (q.1, k) := by rw [← this]
    show (q.1, k) ∈ Γ
    rw [← e]; exact hq.1
section
variable {B H R R' : HL} {d : Nat} {Q : Val → HL → Prop}
theorem c_neN {kt : List (List Val)} {a b : Nat} {ns : List Int} {R2 : HL} {Q : Val → HL → Prop} (u1 : Sub H [(a, .lst (ns.map .int))] R) (u2 : Sub H [(b, .lst [])] R2) (q : Q (.bl (!decide (ns = []))) H) : WP B (cop kt .ne (.ref a) (.ref b)) H Q := by
  refine c_ned (k := decide (ns = [])) (fun st F s => ?_) q
  unfold eqV
  have f1 : dat st deep (.ref a) = some (.list (ns.map PySem.PyData.int)) := by
    show (match st.m a with | some (.lst xs) => (allO (xs.map (dat st 69))).map PySem.PyData.list | _ => none) = _
    rw [sub_at u1 s]
    show (allO ((ns.map Val.int).map (dat st 69))).map PySem.PyData.list = _
    rw [dat_ints st 68 ns]; rfl
  have f2 : dat st deep (.ref b) = some (.list (([] : List Int).map PySem.PyData.int)) := by
    show (match st.m b with | some (.lst xs) => (allO (xs.map (dat st 69))).map PySem.PyData.list | _ => none) = _
    rw [sub_at u2 s]; rfl
  have e0 : eq0 (.ref a) (.ref b) = none := rfl
  rw [e0]
  simp only [f1, f2]
  have s1 : ∀ ns : List Int, PySem.SeqAt.shaped (.list (ns.map PySem.PyData.int)) = true := fun ns => by
    unfold PySem.SeqAt.shaped
    rw [Bool.and_eq_true]
    refine ⟨?_, decide_eq_true ?_⟩
    · simp only [PySem.PyData.canLay0, lay_ints]
    · simp only [PySem.PyData.depth, deep_ints]; omega
  rw [s1, s1]
  simp only [Bool.and_self, if_true]
  cases ns <;> simp [PySem.PyData.eqv, PySem.PyData.eqvAll]
def nameT : Ss := dropS 3 d_l_name.body
abbrev nameE (a pp : Nat) (x : Kx) (D : Nat) : Env := [some (.ref a), some (.ref pp), some x.v, some numV, some (.ref D), none, none, none]
theorem sl_nameH {a b r p e cl pp c : Nat} {bu cap k : Int} {S : Gs} {P : Pot} {T : Sg} {pl : Plan} {rk : Nat} {U : List Nat} {cs : List (PySem.Str × Nat)} {x : Kx} (hx : KxKs x) (g : Gw T pl rk U S k) (hP : P.ok) (hl : S.line + k ≤ 9000) (hp : Sub H (wL a b r p e cl bu S pp c cap P cs) R)
    (q : ∀ P' y, (y, x.k) ∈ S.env → P'.ok → Q (.int y) (wH a b r p e cl bu S pp c cap P' cs R))
    (t : ∀ D, WSs B (cxN G fuel (d + 2)) nameT (nameE a pp x D) ((D, .lst []) :: wH a b r p e cl bu S pp c cap P cs R) (fun _ K => Conv Q .non K) (Conv Q) (fun _ _ => False) (fun _ _ => False)) :
    WP B (callN G fuel (d + 3) f_l_name [.ref a, .ref pp, x.v]) H Q := by
  refine wp_perm (show H.Perm (wH a b r p e cl bu S pp c cap P cs R) from hp) ?_
  have hz := g.z.ok hl
  have hz3 := hz.h3
  walk_at "in"
  show WSs B _ (.cons _ (.cons _ (.cons _ nameT))) _ _ _ _ _ _
  walk_at "w"
  rename_i D
  refine lc_pure (pickK x S.env) (wH a b r p e cl bu S pp c cap P cs R) (S.env.map parV) [] (fun v hv => ?_) (sees_sub (by walk_at "sub") sees_nil) (by simp; omega) ?_
  · obtain ⟨y, hy, rfl⟩ := List.mem_map.mp hv
    refine ⟨_, rfl, fun zs => ?_⟩
    walk_at "w"
    refine c_eqd (fun st F s => eqV_kx (g.ks y hy) hx) ?_
    refine t_bool ?_
    refine ⟨rfl, fun hb => ?_, fun hb => ?_⟩
    · walk_at "w"
      rw [pick_at g.ks hy, if_pos hb]
    · rw [pick_at g.ks hy, if_neg (by rw [hb]; decide)]
  rw [List.nil_append, pick_all g.ks S.env (fun _ h => h)]
  have hlen := someN_len (x := x) (Γ := S.env)
  have hmem : ∀ y ∈ someN x S.env, (y, x.k) ∈ S.env := fun y hy => someN_mem hx g.ks hy
  generalize someN x S.env = ns at hlen hmem ⊢
  walk_at "w"
  rename_i N
  refine c_neN (by walk_at "sub") (by walk_at "sub") ?_
  refine t_bool ?_
  refine br_ndec (fun hne => ?_) fun he => ?_
  · have hpos : 0 < ns.length := List.length_pos_iff.mpr hne
    walk_at "w"
    rw [List.length_map]
    refine sl_take (n := (ns.length : Int)) hP (by omega) (by omega) (by walk_at "subs") fun w P1 hP1 g0 g1 => ?_
    walk_at "w"
    obtain ⟨i, hi⟩ : ∃ i : Nat, (ns.length : Int) - 1 - w = (i : Int) := ⟨((ns.length : Int) - 1 - w).toNat, by omega⟩
    have hi2 : i < ns.length := by omega
    rw [hi]
    refine x_lst (v := .int ns[i]) (by walk_at "sub") (atI_nat (by rw [List.getElem?_map, List.getElem?_eq_getElem hi2]; rfl)) ?_
    exact conv (by walk_at "subs") (q P1 ns[i] (hmem _ (List.getElem_mem hi2)) hP1)
  · subst he
    walk_at "w"
    exact wss_sub (K := (D, .lst (([] : List Int).map .int)) :: wH a b r p e cl bu S pp c cap P cs R) (X := _) (by walk_at "subs") (t D)
theorem Nm.refl {T : Sg} {pl : Plan} {rk : Nat} {U : List Nat} {S : Gs} {k : Int} {kd : Kd} {y n : Int} (g : Gw T pl rk U S k) (h : (y, kd) ∈ S.env) (hn : 0 ≤ n) : Nm T pl rk U S S k kd y n := ⟨g, .refl S, h, Int.le_refl _, by omega, rfl, rfl⟩
theorem Nm.put {T : Sg} {pl : Plan} {rk : Nat} {U : List Nat} {S S1 : Gs} {k : Int} {kd : Kd} {n : Int} {op : Op} {args : List Int} {more : More} {ks : List Kd} (g : Gw T pl rk U S1 k) (le : Le S S1) (lo : S.line ≤ S1.line) (hi : S1.line + 1 ≤ S.line + n) (bl : S1.blocks = S.blocks) (nw : S1.now = S.now) (a : ArgsT S1.env args ks) (o : OpT T op more ks (some kd)) (hk : Ks kd) (hm : Fine 2 more.v) (hl : args.length ≤ 100) :
    Nm T pl rk U S (S1.put (some kd) op args more) k kd S1.next n :=
  ⟨g.put1 a o hk hm hl, le.trans .put1, Gs.put_mem, by show S.line ≤ S1.line + 1; omega, by show S1.line + 1 ≤ S.line + n; omega, bl, nw⟩
theorem sl_nameF {T : Sg} {cs : List (PySem.Str × Nat)} : NameOk B T cs (d + 3) .few 1 := by
  intro a b r p e cl pp c bu cap k S P pl rk U H R Q g hP hl hp q
  refine sl_nameH (x := .few) trivial g hP (by omega) hp (fun P' y hy hP' => q S P' y (.refl g hy (by decide)) hP') fun D => ?_
  unfold nameT d_l_name
  simp only [dropS]
  walk_at "w"
  refine sl_take (n := 4) hP (by decide) (by decide) (by walk_at "subs") fun w P1 hP1 g0 g1 => ?_
  walk_at "w"
  refine sl_put1 (S := S) (k := .num) (op := .number) (args := []) (more := .num w) (g.z.ok (by omega)) (by walk_at "subs") (.inl rfl) ?_
  refine conv (K := wH a b r p e cl bu (S.put (some .num) .number [] (.num w)) pp c cap P1 cs R) (by walk_at "subs") (q _ P1 S.next (.put g (.refl S) (Int.le_refl _) (Int.le_refl _) rfl rfl .nil (.number (num_of (by omega) (by omega))) .num fine_num (by decide)) hP1)
theorem sl_nameN {T : Sg} {cs : List (PySem.Str × Nat)} : NameOk B T cs (d + 3) (.kd .num) 1 := by
  intro a b r p e cl pp c bu cap k S P pl rk U H R Q g hP hl hp q
  refine sl_nameH (x := .kd .num) .num g hP (by omega) hp (fun P' y hy hP' => q S P' y (.refl g hy (by decide)) hP') fun D => ?_
  show WSs B _ nameT [some (.ref a), some (.ref pp), some (numV), some numV, some (.ref D), none, none, none] _ _ _ _ _
  unfold nameT d_l_name
  simp only [dropS]
  walk_at "w"
  refine c_eqd (fun st F s => eqV_few (a := .num) .num) ?_
  walk_at "w"
  refine c_eqd (fun st F s => eqV_ks (a := .num) (b := .tru) .num .tru) ?_
  walk_at "w"
  refine sl_put1 (S := S) (k := .num) (op := .number) (args := []) (more := .num 7) (g.z.ok (by omega)) (by walk_at "subs") (.inl rfl) ?_
  refine conv (K := wH a b r p e cl bu (S.put (some .num) .number [] (.num 7)) pp c cap P cs R) (by walk_at "subs") (q _ P S.next (.put g (.refl S) (Int.le_refl _) (Int.le_refl _) rfl rfl .nil (.number (num_of (by omega) (by omega))) .num fine_num (by decide)) hP)
theorem sl_nameT {T : Sg} {cs : List (PySem.Str × Nat)} : NameOk B T cs (d + 3) (.kd .tru) 1 := by
  intro a b r p e cl pp c bu cap k S P pl rk U H R Q g hP hl hp q
  refine sl_nameH (x := .kd .tru) .tru g hP (by omega) hp (fun P' y hy hP' => q S P' y (.refl g hy (by decide)) hP') fun D => ?_
  show WSs B _ nameT [some (.ref a), some (.ref pp), some (truV), some numV, some (.ref D), none, none, none] _ _ _ _ _
  unfold nameT d_l_name
  simp only [dropS]
  walk_at "w"
  refine c_eqd (fun st F s => eqV_few (a := .tru) .tru) ?_
  walk_at "w"
  refine c_eqd (fun st F s => eqV_ks (a := .tru) (b := .tru) .tru .tru) ?_
  walk_at "w"
  refine sl_put1 (S := S) (k := .tru) (op := .truth) (args := []) (more := .tru true) (g.z.ok (by omega)) (by walk_at "subs") (.inl rfl) ?_
  refine conv (K := wH a b r p e cl bu (S.put (some .tru) .truth [] (.tru true)) pp c cap P cs R) (by walk_at "subs") (q _ P S.next (.put g (.refl S) (Int.le_refl _) (Int.le_refl _) rfl rfl .nil .truth .tru fine_tru (by decide)) hP)
end
section
variable {B H R R' : HL} {d : Nat} {Q : Val → HL → Prop}
theorem argsT_mono {Γ Γ' : Ga} (h : ∀ q ∈ Γ, q ∈ Γ') : ∀ {xs : List Int} {ks : List Kd}, ArgsT Γ xs ks → ArgsT Γ' xs ks
  | _, _, .nil => .nil
  | _, _, .cons a t => .cons (h _ a) (argsT_mono h t)
theorem argsT_append {Γ : Ga} : ∀ {xs ys : List Int} {ks ls : List Kd}, ArgsT Γ xs ks → ArgsT Γ ys ls → ArgsT Γ (xs ++ ys) (ks ++ ls)
  | _, _, _, _, .nil, h => h
  | _, _, _, _, .cons a t, h => .cons a (argsT_append t h)
theorem argsT_len {Γ : Ga} : ∀ {xs : List Int} {ks : List Kd}, ArgsT Γ xs ks → xs.length = ks.length
  | _, _, .nil => rfl
  | _, _, .cons a t => by rw [List.length_cons, List.length_cons, argsT_len t]
/-- names of kinds: what has changed -/
structure Nms (T : Sg) (pl : Plan) (rk : Nat) (U : List Nat) (S S' : Gs) (k : Int) (ks : List Kd) (ys : List Int) (n : Int) : Prop where
  g : Gw T pl rk U S' k
  le : Le S S'
  m : ArgsT S'.env ys ks
  lo : S.line ≤ S'.line
  hi : S'.line ≤ S.line + n
  bl : S'.blocks = S.blocks
  nw : S'.now = S.now
/-- [name(state, pot, ..) for ..] -/
theorem sl_namesL {a b r p e cl pp c dd i D : Nat} {bu cap k : Int} {S0 : Gs} {T : Sg} {pl : Plan} {rk : Nat} {U : List Nat} {cs : List (PySem.Str × Nat)} {el : E} {s : Env} {all : List (Val × Kx)} {n : Nat}
    (hN : ∀ vx ∈ all, NameOk B T cs dd vx.2 n)
    (he : ∀ vx ∈ all, ∃ s1, setTg (.one i) vx.1 s = some s1 ∧ ∀ H Q, WP B (callN G fuel dd f_l_name [.ref a, .ref pp, vx.2.v]) H Q → WP B (ev (cxN G fuel dd) el s1) H Q) (hall : all.length ≤ 100) (h0 : S0.line + k + n * all.length ≤ 8000)
    (q : ∀ S' P' ys, Nms T pl rk U S0 S' k (all.map fun vx => vx.2.k) ys (n * all.length : Nat) → P'.ok → Q (.ref D) ((D, .lst (ys.map .int)) :: wH a b r p e cl bu S' pp c cap P' cs R)) :
    ∀ (todo did : List (Val × Kx)) (S : Gs) (P : Pot) (ys : List Int), all = did ++ todo → Nms T pl rk U S0 S k (did.map fun vx => vx.2.k) ys (n * did.length : Nat) → P.ok →
    WL B (cxN G fuel dd) (.one i) .yes el s D [] (todo.map (·.1)) ((D, .lst (ys.map .int)) :: wH a b r p e cl bu S pp c cap P cs R) Q
  | [], did, S, P, ys, ha, hm, hP => by
    rw [List.append_nil] at ha; subst ha
    exact lc_nil sees_nil (q S P ys hm hP)
  | (v, x) :: todo, did, S, P, ys, ha, hm, hP => by
    have hin : (v, x) ∈ all := by rw [ha]; simp
    have hlen : all.length = did.length + (todo.length + 1) := by rw [ha]; simp
    obtain ⟨s1, hs, he1⟩ := he _ hin
    have hy := argsT_len hm.m
    rw [List.length_map] at hy
    have hmul : n * did.length + n ≤ n * all.length := by rw [hlen, ← Nat.mul_succ]; exact Nat.mul_le_mul_left _ (by omega)
    have h1 := hm.hi
    refine lc_cons sees_nil hs ?_
    refine b_yes (br_t rfl ?_)
    refine he1 _ _ (hN _ hin a b r p e cl pp c bu cap k S P pl rk U _ _ _ hm.g hP (by push_cast at h0 h1 ⊢; omega) (by walk_at "subs") fun S' P' y h hP' => ?_)
    refine ⟨ys.map .int, _, by walk_at "upd", by rw [List.length_map]; omega, ?_⟩
    rw [show ys.map Val.int ++ [.int y] = (ys ++ [y]).map Val.int by simp]
    refine wl_perm (K := (D, .lst ((ys ++ [y]).map .int)) :: wH a b r p e cl bu S' pp c cap P' cs R) (show CL.Sub _ [_] _ from (by walk_at "sub")) ?_
    have hi := h.hi
    have lo := h.lo
    refine sl_namesL hN he hall h0 q todo (did ++ [(v, x)]) S' P' (ys ++ [y]) (by rw [ha]; simp) ⟨h.g, hm.le.trans h.le, ?_, Int.le_trans hm.lo h.lo, ?_, h.bl.trans hm.bl, h.nw.trans hm.nw⟩ hP'
    · rw [List.map_append]
      exact argsT_append (argsT_mono h.le hm.m) (.cons h.m .nil)
    · rw [List.length_append, List.length_singleton, Nat.mul_succ]
      push_cast at h1 ⊢
      omega
theorem sl_nameR {T : Sg} {cs : List (PySem.Str × Nat)} : NameOk B T cs (d + 4) (.kd (.row .num)) 3 := by
  intro a b r p e cl pp c bu cap k S P pl rk U H R Q g hP hl hp q
  refine sl_nameH (x := .kd (.row .num)) .row g hP (by omega) hp (fun P' y hy hP' => q S P' y (.refl g hy (by decide)) hP') fun D => ?_
  show WSs B _ nameT [some (.ref a), some (.ref pp), some (rowV), some numV, some (.ref D), none, none, none] _ _ _ _ _
  unfold nameT d_l_name
  simp only [dropS]
  walk_at "w"
  refine c_eqd (fun st F s => eqV_few (a := (.row .num)) .row) ?_
  walk_at "w"
  refine c_eqd (fun st F s => eqV_ks (a := (.row .num)) (b := .tru) .row .tru) ?_
  walk_at "w"
  rename_i D2
  refine wl_sub (K := (D2, .lst []) :: wH a b r p e cl bu S pp c cap P cs R) (X := _) (by walk_at "subs") ?_
  refine sl_namesL (S0 := S) (all := [(.int 0, .few), (.int 1, .few)]) (n := 1) (fun vx h => ?_) (fun vx h => ?_) (Nat.le_of_ble_eq_true rfl) (by simp; omega) (fun S' P' ys h hP' => ?_) [(.int 0, .few), (.int 1, .few)] [] S P [] rfl ⟨g, .refl S, .nil, Int.le_refl _, by simp, rfl, rfl⟩ hP
  · simp only [List.mem_cons, List.not_mem_nil, or_false] at h
    rcases h with rfl | rfl <;> exact sl_nameF
  · simp only [List.mem_cons, List.not_mem_nil, or_false] at h
    rcases h with rfl | rfl <;> exact ⟨_, rfl, fun H Q h => (by walk_at "w"; exact h)⟩
  · have hi := h.hi
    have hm := argsT_len h.m
    walk_at "w"
    refine sl_put1 (S := S') (k := .row .num) (op := .fill) (args := ys) (more := .no) (h.g.z.ok (by simp at hi; omega)) (by walk_at "subs") (.inr ⟨D2, _, rfl, by walk_at "sub"⟩) ?_
    exact conv (K := wH a b r p e cl bu (S'.put (some (.row .num)) .fill ys .no) pp c cap P' cs R) (by walk_at "subs") (q _ P' S'.next (.put h.g h.le h.lo (by simp at hi; omega) h.bl h.nw h.m .fill .row fine_no (by rw [hm]; exact Nat.le_of_ble_eq_true rfl)) hP')
end
section
variable {B H R R' : HL} {d : Nat} {Q : Val → HL → Prop}
theorem NameOk.mono {T : Sg} {cs : List (PySem.Str × Nat)} {dd : Nat} {x : Kx} {n n' : Int} (h : NameOk B T cs dd x n) (hn : n ≤ n') : NameOk B T cs dd x n' := by
  intro a b r p e cl pp c bu cap k S P pl rk U H R Q g hP hl hp q
  exact h a b r p e cl pp c bu cap k S P pl rk U H R Q g hP (by omega) hp fun S' P' y z => q S' P' y ⟨z.g, z.le, z.m, z.lo, Int.le_trans z.hi (by omega), z.bl, z.nw⟩
theorem sl_namePa {T : Sg} {cs : List (PySem.Str × Nat)} (hc : CsOk T cs) : NameOk B T cs (d + 4) (.kd (.rc "pair")) 25 := by
  intro a b r p e cl pp c bu cap k S P pl rk U H R Q g hP hl hp q
  have hr : (("pair" : PySem.Str), [Kd.num, .tru]) ∈ T.rc := by rw [hc.rc]; simp [recsL]
  refine sl_nameH (x := .kd (.rc "pair")) .pair g hP (by omega) hp (fun P' y hy hP' => q S P' y (.refl g hy (by decide)) hP') fun D => ?_
  show WSs B _ nameT [some (.ref a), some (.ref pp), some (.tup [.str "record", .str "pair"]), some numV, some (.ref D), none, none, none] _ _ _ _ _
  unfold nameT d_l_name
  simp only [dropS]
  walk_at "w"
  refine c_eqd (fun st F s => eqV_few (a := (.rc "pair")) .pair) ?_
  walk_at "w"
  refine c_eqd (fun st F s => eqV_ks (a := (.rc "pair")) (b := .tru) .pair .tru) ?_
  walk_at "w"
  rename_i D2
  refine wl_sub (K := (D2, .lst []) :: wH a b r p e cl bu S pp c cap P cs R) (X := _) (by walk_at "subs") ?_
  refine sl_namesL (S0 := S) (all := [(numV, .kd .num), (truV, .kd .tru)]) (n := 1) (fun vx h => ?_) (fun vx h => ?_) (Nat.le_of_ble_eq_true rfl) (by simp; omega) (fun S' P' ys h hP' => ?_) [(numV, .kd .num), (truV, .kd .tru)] [] S P [] rfl ⟨g, .refl S, .nil, Int.le_refl _, by simp, rfl, rfl⟩ hP
  · simp only [List.mem_cons, List.not_mem_nil, or_false] at h
    rcases h with rfl | rfl
    · exact sl_nameN
    · exact sl_nameT
  · simp only [List.mem_cons, List.not_mem_nil, or_false] at h
    rcases h with rfl | rfl <;> exact ⟨_, rfl, fun H Q h => (by walk_at "w"; exact h)⟩
  · have hi := h.hi
    have hm := argsT_len h.m
    walk_at "w"
    refine sl_put1 (S := S') (k := .rc "pair") (op := .make) (args := ys) (more := .nm "pair") (h.g.z.ok (by simp at hi; omega)) (by walk_at "subs") (.inr ⟨D2, _, rfl, by walk_at "sub"⟩) ?_
    exact conv (K := wH a b r p e cl bu (S'.put (some (.rc "pair")) .make ys (.nm "pair")) pp c cap P' cs R) (by walk_at "subs") (q _ P' S'.next (.put h.g h.le h.lo (by simp at hi; omega) h.bl h.nw h.m (.make hr) .pair (fine_nm (by decide +kernel)) (by rw [hm]; exact Nat.le_of_ble_eq_true rfl)) hP')
theorem sl_nameFn {T : Sg} {cs : List (PySem.Str × Nat)} (hc : CsOk T cs) (hn : cs ≠ []) : NameOk B T cs (d + 4) (.kd (.fn (numsK 1) .num)) 25 := by
  intro a b r p e cl pp c bu cap k S P pl rk U H R Q g hP hl hp q
  obtain ⟨c0, cr, hcr⟩ : ∃ c0 cr, cs = c0 :: cr := by
    cases cs with
    | nil => exact absurd rfl hn
    | cons c0 cr => exact ⟨c0, cr, rfl⟩
  have hc0 : c0 ∈ cs := by rw [hcr]; simp
  have hfn := hc.fn c0 hc0
  rw [hc.lo c0 hc0] at hfn
  have hat : L2.atI (csV cs) 0 = some (.str c0.1) := by rw [hcr]; exact atI_zero
  refine sl_nameH (x := .kd (.fn (numsK 1) .num)) (.fn 1) g hP (by omega) hp (fun P' y hy hP' => q S P' y (.refl g hy (by decide)) hP') fun D => ?_
  show WSs B _ nameT [some (.ref a), some (.ref pp), some (.tup [.str "fun", .tup [numV], numV]), some numV, some (.ref D), none, none, none] _ _ _ _ _
  unfold nameT d_l_name
  simp only [dropS]
  walk_at "w"
  refine c_eqd (fun st F s => eqV_few (a := (.fn (numsK 1) .num)) (.fn 1)) ?_
  walk_at "w"
  refine c_eqd (fun st F s => eqV_ks (a := (.fn (numsK 1) .num)) (b := .tru) (.fn 1) .tru) ?_
  walk_at "w"
  refine sl_nameN a b r p e cl pp c bu cap k S P pl rk U _ _ _ g hP (by omega) (by walk_at "subs") fun S1 P1 y h1 hP1 => ?_
  have hi1 := h1.hi
  walk_at "w"
  refine x_lst (by walk_at "sub") hat ?_
  walk_at "w"
  refine sl_put1 (S := S1) (k := .fn (numsK 1) .num) (op := .close) (args := [y]) (more := .nm c0.1) (h1.g.z.ok (by omega)) (by walk_at "subs") (.inl rfl) ?_
  exact conv (K := wH a b r p e cl bu (S1.put (some (.fn (numsK 1) .num)) .close [y] (.nm c0.1)) pp c cap P1 cs R) (by walk_at "subs") (q _ P1 S1.next (.put h1.g h1.le h1.lo (by omega) h1.bl h1.nw (.cons h1.m .nil) (.close (ks := [.num]) (ps := [.num]) hfn (Nat.le_of_ble_eq_true rfl)) (.fn 1) (fine_nm (hc.nm c0 hc0)) (Nat.le_of_ble_eq_true rfl)) hP1)
theorem sl_nameX {T : Sg} {cs : List (PySem.Str × Nat)} {x : Kx} (hc : CsOk T cs) (hx : KxOk cs x) : NameOk B T cs (d + 5) x 25 := by
  cases x with
  | few => exact (sl_nameF (d := d + 2)).mono (by decide)
  | kd k =>
    obtain ⟨hk, hd, hf⟩ := hx
    cases hk with
    | num => exact (sl_nameN (d := d + 2)).mono (by decide)
    | tru => exact (sl_nameT (d := d + 2)).mono (by decide)
    | row => exact (sl_nameR (d := d + 1)).mono (by decide)
    | pair => exact sl_namePa (d := d + 1) hc
    | deep => exact absurd rfl hd
    | fn n =>
      obtain ⟨rfl, hz⟩ := hf n rfl
      exact sl_nameFn (d := d + 1) hc hz
end
section
variable {B H R R' : HL} {d : Nat} {Q : Val → HL → Prop}
structure Sr (T : Sg) (pl : Plan) (rk : Nat) (U : List Nat) (S S' : Gs) (k : Int) : Prop where
  g : Gw T pl rk U S' k
  le : Le S S'
  lo : S.line ≤ S'.line
  hi : S'.line ≤ max S.line 360
  bl : S'.blocks = S.blocks
  nw : S'.now = S.now
def strB : Ss := forB d_l_straight.body
theorem xs_at {α β : Type} {f : α → β} {xs : List α} {w : Int} (h0 : 0 ≤ w) (h1 : w < xs.length) : ∃ x ∈ xs, L2.atI (xs.map f) w = some (f x) := by
  have h : w.toNat < xs.length := by omega
  exact ⟨xs[w.toNat], List.getElem_mem h, atI_int h0 (by rw [List.getElem?_map, List.getElem?_eq_getElem h]; rfl)⟩
theorem sl_strL {a b r p e cl pp c l : Nat} {bu cap k : Int} {S0 : Gs} {T : Sg} {pl : Plan} {rk : Nat} {U : List Nat} {cs : List (PySem.Str × Nat)} {es : List Oe} {N : Env → HL → Prop} {T' : Val → HL → Prop} (hc : CsOk T cs) (hes : ∀ o ∈ es, OeOk T cs o) (hne : es ≠ []) (hel : es.length ≤ 1000) (hcap : cap ≤ 88) (hsz : max S0.line 360 + k ≤ 7000)
    (q : ∀ S' P' s, Sr T pl rk U S0 S' k → P'.ok → N s ((l, .lst (es.map Oe.v)) :: wH a b r p e cl bu S' pp c cap P' cs R)) :
    ∀ (n : Nat) (x0 : Int) (S : Gs) (P : Pot) (s3 s4 s5 s6 s7 s8 : Option Val), Sr T pl rk U S0 S k → P.ok →
    WF B (cxN G fuel (d + 5)) (.one 3) strB [] (rangeL x0 n) [some (.ref a), some (.ref pp), some (.ref l), s3, s4, s5, s6, s7, s8] ((l, .lst (es.map Oe.v)) :: wH a b r p e cl bu S pp c cap P cs R) N T'
  | 0, x0, S, P, s3, s4, s5, s6, s7, s8, h, hP => by
    rw [rangeL]
    exact for_nil sees_nil (q S P _ h hP)
  | n + 1, x0, S, P, s3, s4, s5, s6, s7, s8, h, hP => by
    have hpos : 0 < es.length := List.length_pos_iff.mpr hne
    have hi := h.hi
    rw [rangeL]
    refine for_cons sees_nil rfl ?_
    unfold strB d_l_straight
    simp only [forB]
    walk_at "w"
    rw [List.length_map]
    refine sl_take (n := (es.length : Int)) hP (by omega) (by omega) (by walk_at "subs") fun w P1 hP1 g0 g1 => ?_
    obtain ⟨o, ho, hat⟩ := xs_at (f := Oe.v) g0 g1
    have hO := hes o ho
    refine x_lst (by walk_at "sub") hat ?_
    walk_at "w"
    refine br_dec (fun hlt => ?_) fun hlt => ?_
    · walk_at "w"
      rename_i D
      refine wl_sub (K := (D, .lst []) :: wH a b r p e cl bu S pp c cap P1 cs ((l, .lst (es.map Oe.v)) :: R)) (X := []) (by walk_at "subs") ?_
      have hN : ∀ vx ∈ o.ks.map (fun x => (x.v, x)), NameOk B T cs (d + 5) vx.2 (25 : Nat) := fun vx hv => by
        obtain ⟨x, hx, rfl⟩ := List.mem_map.mp hv
        exact sl_nameX hc (hO.ks x hx)
      have e1 : (o.ks.map (fun x => (x.v, x))).map (·.1) = o.ks.map Kx.v := by rw [List.map_map]; rfl
      have e2 : (o.ks.map (fun x => (x.v, x))).map (fun vx => vx.2.k) = o.ks.map Kx.k := by rw [List.map_map]; rfl
      have hle := hO.le
      rw [← e1]
      refine sl_namesL (S0 := S) (all := o.ks.map fun x => (x.v, x)) (n := 25) hN (fun vx hv => ?_) (by rw [List.length_map]; omega) (by rw [List.length_map]; omega) (fun S' P' ys h2 hP' => ?_) (o.ks.map fun x => (x.v, x)) [] S P1 [] rfl ⟨h.g, .refl S, .nil, Int.le_refl _, by simp, rfl, rfl⟩ hP1
      · obtain ⟨x, hx, rfl⟩ := List.mem_map.mp hv
        exact ⟨_, rfl, fun H Q h => (by walk_at "w"; exact h)⟩
      · have hi2 := h2.hi
        have lo2 := h2.lo
        have hm := h2.m
        rw [e2] at hm
        have hm' := argsT_len hm
        rw [List.length_map] at hi2 hm'
        have hty := hO.ty
        have hkd := hO.kd
        walk_at "w"
        cases hd : o.kd with
        | some kd =>
          rw [hd] at hty hkd
          refine sl_put1 (S := S') (k := kd) (op := o.op) (args := ys) (more := o.more) (h2.g.z.ok (by omega)) (by walk_at "subs") (.inr ⟨D, _, rfl, by walk_at "sub"⟩) ?_
          have g3 := h2.g.put1 hm hty (hkd kd rfl) hO.mo (by omega)
          have lo3 : S'.line + 1 = (S'.put (some kd) o.op ys o.more).line := rfl
          have h3 : Sr T pl rk U S0 (S'.put (some kd) o.op ys o.more) k := ⟨g3, (h.le.trans h2.le).trans .put1, by have := h.lo; omega, by rw [← lo3]; have := h.lo; omega, h2.bl.trans h.bl, h2.nw.trans h.nw⟩
          generalize S'.put (some kd) o.op ys o.more = S3 at h3 ⊢
          walk_at "w"
          refine wf_sub (K := (l, .lst (es.map Oe.v)) :: wH a b r p e cl bu S3 pp c cap P' cs R) (X := _) (by walk_at "subs") ?_
          exact sl_strL hc hes hne hel hcap hsz q n _ S3 P' _ _ _ _ _ _ h3 hP'
        | none =>
          rw [hd] at hty hkd
          refine sl_put0 (S := S') (op := o.op) (args := ys) (more := o.more) (h2.g.z.ok (by omega)) (by walk_at "subs") (.inr ⟨D, _, rfl, by walk_at "sub"⟩) ?_
          have g3 := h2.g.put0 hm hty hO.mo (by omega)
          have lo3 : S'.line + 1 = (S'.put none o.op ys o.more).line := rfl
          have h3 : Sr T pl rk U S0 (S'.put none o.op ys o.more) k := ⟨g3, (h.le.trans h2.le).trans .put0, by have := h.lo; omega, by rw [← lo3]; have := h.lo; omega, h2.bl.trans h.bl, h2.nw.trans h.nw⟩
          generalize S'.put none o.op ys o.more = S3 at h3 ⊢
          walk_at "w"
          refine wf_sub (K := (l, .lst (es.map Oe.v)) :: wH a b r p e cl bu S3 pp c cap P' cs R) (X := _) (by walk_at "subs") ?_
          exact sl_strL hc hes hne hel hcap hsz q n _ S3 P' _ _ _ _ _ _ h3 hP'
    · walk_at "w"
      refine wf_sub (K := (l, .lst (es.map Oe.v)) :: wH a b r p e cl bu S pp c cap P1 cs R) (X := _) (by walk_at "subs") ?_
      exact sl_strL hc hes hne hel hcap hsz q n _ S P1 _ _ _ _ _ _ h hP1
theorem sl_straight {a b r p e cl pp c : Nat} {bu cap k : Int} {S : Gs} {P : Pot} {T : Sg} {pl : Plan} {rk : Nat} {U : List Nat} {cs : List (PySem.Str × Nat)} (hc : CsOk T cs) (hcap : cap ≤ 88) (hsz : max S.line 360 + k ≤ 7000) (g : Gw T pl rk U S k) (hP : P.ok) (hp : Sub H (wL a b r p e cl bu S pp c cap P cs) R)
    (q : ∀ S' P', Sr T pl rk U S S' k → P'.ok → Q .non (wH a b r p e cl bu S' pp c cap P' cs R)) :
    WP B (callN G fuel (d + 6) f_l_straight [.ref a, .ref pp]) H Q := by
  refine wp_perm (show H.Perm (wH a b r p e cl bu S pp c cap P cs R) from hp) ?_
  walk_at "in"
  show WSs B _ (.cons _ (.cons (.for _ _ strB) _)) _ _ _ _ _ _
  walk_at "w"
  refine sl_ops (d := d + 3) hc (by walk_at "sub") fun l es hne hel hes => ?_
  walk_at "w"
  refine sl_take (n := 4) hP (by decide) (by decide) (by walk_at "subs") fun w P1 hP1 g0 g1 => ?_
  walk_at "w"
  refine wf_sub (K := (l, .lst (es.map Oe.v)) :: wH a b r p e cl bu S pp c cap P1 cs R) (X := _) (by walk_at "subs") ?_
  refine sl_strL hc hes hne hel hcap hsz (fun S' P' s h hP' => ?_) _ 0 S P1 _ _ _ _ _ _ ⟨g, .refl S, Int.le_refl _, by omega, rfl, rfl⟩ hP1
  walk_at "w"
  exact conv (K := wH a b r p e cl bu S' pp c cap P' cs R) (by walk_at "subs") (q S' P' h hP')
end
section
variable {B H R R' : HL} {d : Nat} {Q : Val → HL → Prop}
structure Bo (T : Sg) (pl pl' : Plan) (rk rk' : Nat) (U : List Nat) (S S' : Gs) (k k' bu bu' : Int) (N : Nat) : Prop where
  pl : PlLe pl pl'
  g : Gw T pl' rk' U S' k'
  rk : rk ≤ rk' + N
  le : Le S S'
  lo : S.line ≤ S'.line
  bd : bu' ≤ bu
  hi : S'.line ≤ max S.line 360 + 20 * ((bu.toNat : Int) - bu'.toNat)
  k0 : k ≤ k'
  kk : k' ≤ k + 10 * ((bu.toNat : Int) - bu'.toNat)
/-- a body that is filled -/
def BodyOk (B : HL) (T : Sg) (cs : List (PySem.Str × Nat)) (dd : Nat) (deep : Int) (N : Nat) : Prop := ∀ (a b r p e cl pp c : Nat) (bu cap k : Int) (S : Gs) (P : Pot) (pl : Plan) (rk : Nat) (U : List Nat) (H R : HL) (Q : Val → HL → Prop),
  Gw T pl rk U S k → P.ok → N ≤ rk → cap ≤ 88 → max S.line 360 + k + 30 * bu.toNat ≤ 6000 → Sub H (wL a b r p e cl bu S pp c cap P cs) R →
  (∀ r' p' e' bu' S' P' pl' rk' k', Bo T pl pl' rk rk' U S S' k k' bu bu' N → P'.ok → Q .non (wH a b r' p' e' cl bu' S' pp c cap P' cs R)) →
  WP B (callN G fuel dd f_l_body [.ref a, .ref pp, .int deep]) H Q
/-- an arm that is filled -/
structure Ar (T : Sg) (pl pl' : Plan) (U : List Nat) (Γ : Ga) (S S' : Gs) (k k' bu bu' : Int) : Prop where
  pl : PlLe pl pl'
  h : Hw T pl' U S' k'
  le : ∀ q ∈ Γ, q ∈ S'.env
  lo : S.line ≤ S'.line
  bd : bu' ≤ bu
  hi : S'.line ≤ max S.line 360 + 1 + 20 * ((bu.toNat : Int) - bu'.toNat)
  k0 : k ≤ k'
  kk : k' ≤ k + 10 * ((bu.toNat : Int) - bu'.toNat)
def armB : Ss := forB d_l_choice.body
def elseB : Ss → Ss
  | .cons (.cond _ _ b) _ => b
  | .cons _ r => elseB r
  | .nil => .nil
def armJ : Ss := elseB armB
abbrev armE (a pp : Nat) (deep : Int) (s3 : Option Val) (E0 i ys : Nat) (s7 : Option Val) (jn : Nat) : Env := [some (.ref a), some (.ref pp), some (.int deep), s3, some (.ref E0), some (.int i), some (.int ys), s7, some (.int jn)]
theorem sl_jump {a b r p e cl pp c E0 i jn ys : Nat} {bu cap k deep : Int} {S : Gs} {P : Pot} {T : Sg} {pl : Plan} {rk rj : Nat} {U : List Nat} {Γ : Ga} {cs : List (PySem.Str × Nat)} {s3 s7 : Option Val} {N K C : Env → HL → Prop} {T' : Val → HL → Prop} {X : HL} (g : Gw T pl rk U S k) (hpj : pl jn = some ⟨Γ, [.num], rj, false⟩) (hrj : rj < rk) (le : ∀ q ∈ Γ, q ∈ S.env) (hP : P.ok) (hsz : S.line + k ≤ 7000) (hp : Sub H (wH a b r p e cl bu S pp c cap P cs R) X)
    (q : ∀ S' P', Hw T pl U S' k → (∀ q ∈ Γ, q ∈ S'.env) → S.line ≤ S'.line → S'.line ≤ S.line + 1 → P'.ok → ∀ K' X', Sub K' (wH a b r p e cl bu S' pp c cap P' cs R) X' → N (armE a pp deep s3 E0 i ys s7 jn) K') :
    WSs B (cxN G fuel (d + 3)) armJ (armE a pp deep s3 E0 i ys s7 jn) H N T' K C := by
  refine wss_sub hp ?_
  unfold armJ armB d_l_choice
  simp only [forB, elseB]
  walk_at "w"
  refine sl_nameN a b r p e cl pp c bu cap k S P pl rk U _ _ _ g hP (by omega) (by walk_at "subs") fun S4 P5 y h4 hP5 => ?_
  have hi4 := h4.hi
  have lo4 := h4.lo
  have hw := h4.g.fin (en := .jump jn [y]) (.jump (.cons h4.m .nil) ⟨_, hpj, rfl, fun q hq => h4.le q (le q hq), .inr hrj⟩) (fun c args z => (by cases z; exact Nat.le_of_ble_eq_true rfl)) jump_fine
  walk_at "w"
  refine sl_end (S := S4) (en := .jump jn [y]) h4.g.O.now (by walk_at "subs") ?_
  have l5 : (S4.fin (.jump jn [y])).line = S4.line := rfl
  have l6 : (S4.fin (.jump jn [y])).env = S4.env := rfl
  generalize S4.fin (.jump jn [y]) = S5 at hw l5 l6 ⊢
  walk_at "w"
  exact q S5 P5 hw (fun q hq => by rw [l6]; exact h4.le q (le q hq)) (by omega) (by omega) hP5 _ _ (by walk_at "subs")
theorem sl_arm {a b r p e cl pp c E0 i jn ys : Nat} {bu cap k deep : Int} {S : Gs} {P : Pot} {T : Sg} {pl : Plan} {rk rj N1 : Nat} {U1 U2 : List Nat} {Γ : Ga} {cs : List (PySem.Str × Nat)} {s3 s7 : Option Val} {N K C : Env → HL → Prop} {T' : Val → HL → Prop} {X : HL} (hb : BodyOk B T cs (d + 3) (deep + 1) N1) (h : Hw T pl U1 S k) (hpi : pl i = some ⟨Γ, [], rk, false⟩) (hpj : pl jn = some ⟨Γ, [.num], rj, false⟩) (hrj : rj + N1 < rk) (hU : ∀ j ∈ U1, j = i ∨ j ∈ U2)
    (h1 : ∀ q ∈ Γ, q.1 < S.next) (h2 : (Γ.length : Int) ≤ S.line + k) (h3 : ∀ q ∈ Γ, Ks q.2) (hP : P.ok) (hcap : cap ≤ 88) (hsz : max S.line 360 + k + 30 * bu.toNat ≤ 6000) (hp : Sub H (wH a b r p e cl bu S pp c cap P cs ((E0, .lst (Γ.map parV)) :: R)) X)
    (q : ∀ r' p' e' bu' S' P' pl' k', Ar T pl pl' U2 Γ S S' k k' bu bu' → P'.ok → ∀ K' X', Sub K' (wH a b r' p' e' cl bu' S' pp c cap P' cs ((E0, .lst (Γ.map parV)) :: R)) X' → N (armE a pp deep s3 E0 i ys s7 jn) K') :
    WSs B (cxN G fuel (d + 3)) armB (armE a pp deep s3 E0 i ys s7 jn) H N T' K C := by
  refine wss_sub hp ?_
  show WSs B _ (.cons _ (.cons _ (.cons _ (.cons (.cond _ _ armJ) _)))) _ _ _ _ _ _
  have h0 := h.env_ h1 h2
  have hz5 := h.z.h5
  walk_at "w"
  rename_i e1
  refine wp_less (K := wH a b r p e1 cl bu { S with env := Γ } pp c cap P cs ((E0, .lst (Γ.map parV)) :: R)) (X := _) (by walk_at "subs") ?_
  refine sl_begin (S := { S with env := Γ }) (at' := i) (ks := []) (h0.z.ok (by show S.line + k ≤ 9000; omega)) (by decide) (by walk_at "subs") (.inl rfl) fun n2 r2 p2 e2 => ?_
  have g1 := h0.beg (i := i) (U' := U2) hpi rfl hU (Nat.zero_le _) rfl h3 (by simp)
  have le1 : ∀ q ∈ Γ, q ∈ (({ S with env := Γ } : Gs).beg i []).env := fun q hq => List.mem_append_left _ hq
  have ln1 : (({ S with env := Γ } : Gs).beg i []).line = S.line := rfl
  have g1 : Gw T pl rk U2 (({ S with env := Γ } : Gs).beg i []) k := by simpa using g1
  generalize ({ S with env := Γ } : Gs).beg i [] = S1 at g1 le1 ln1 ⊢
  walk_at "w"
  refine hb a b r2 p2 e2 cl pp c bu cap k S1 P pl rk U2 _ _ _ g1 hP (by omega) hcap (by omega) (by walk_at "subs") fun r3 p3 e3 bu3 S3 P3 pl3 rk3 k3 o hP3 => ?_
  have e0 := o.pl _ _ hpj
  have orl := o.rk
  have ohi := o.hi
  have olo := o.lo
  have obd := o.bd
  have ok0 := o.k0
  have okk := o.kk
  have le3 : ∀ q ∈ Γ, q ∈ S3.env := fun q hq => o.le q (le1 q hq)
  have fin : ∀ S5 P5, Hw T pl3 U2 S5 k3 → (∀ q ∈ Γ, q ∈ S5.env) → S3.line ≤ S5.line → S5.line ≤ S3.line + 1 → P5.ok → ∀ K' X', Sub K' (wH a b r3 p3 e3 cl bu3 S5 pp c cap P5 cs ((E0, .lst (Γ.map parV)) :: R)) X' → N (armE a pp deep s3 E0 i ys s7 jn) K' := fun S5 P5 hw hl5 l1 l2 hP5 => q r3 p3 e3 bu3 S5 P5 pl3 k3 ⟨o.pl, hw, hl5, by omega, obd, by omega, ok0, okk⟩ hP5
  walk_at "w"
  refine br_dec (fun hy => ?_) fun hy => ?_
  · walk_at "w"
    refine sl_take (n := 9) hP3 (by decide) (by decide) (by walk_at "subs") fun w P4 hP4 w0 w1 => ?_
    walk_at "w"
    refine br_dec (fun hw8 => ?_) fun hw8 => ?_
    · walk_at "w"
      have hw := o.g.fin (en := .fail "fail" S3.line) (.fail (.inl rfl)) (fun c args z => (by cases z)) fail_fine
      refine sl_end (S := S3) (en := .fail "fail" S3.line) o.g.O.now (by walk_at "subs") ?_
      have l5 : (S3.fin (.fail "fail" S3.line)).line = S3.line := rfl
      have l6 : (S3.fin (.fail "fail" S3.line)).env = S3.env := rfl
      generalize S3.fin (.fail "fail" S3.line) = S5 at hw l5 l6 ⊢
      walk_at "w"
      exact fin S5 P4 hw (fun q hq => by rw [l6]; exact le3 q hq) (by omega) (by omega) hP4 _ _ (by walk_at "subs")
    · refine sl_jump (cap := cap) (R := (E0, .lst (Γ.map parV)) :: R) o.g e0 (by omega) le3 hP4 (by omega) (by walk_at "subs") fun S5 P5 hw l5 l1 l2 hP5 K' X' hs => ?_
      exact ss_nil (fin S5 P5 hw l5 l1 l2 hP5 K' X' hs)
  · refine br_f rfl ?_
    refine sl_jump (cap := cap) (R := (E0, .lst (Γ.map parV)) :: R) o.g e0 (by omega) le3 hP3 (by omega) (by walk_at "subs") fun S5 P5 hw l5 l1 l2 hP5 K' X' hs => ?_
    exact ss_nil (fin S5 P5 hw l5 l1 l2 hP5 K' X' hs)
end
section
variable {B H R R' : HL} {d : Nat} {Q : Val → HL → Prop}
theorem opn3 {T : Sg} {pl : Plan} {rk : Nat} {U : List Nat} {S : Gs} {k : Int} (g : Gw T pl rk U S k) : Gw T pl rk ((S.blocks.length + 2) :: (S.blocks.length + 1) :: S.blocks.length :: U) S.opn.opn.opn (k + 3) ∧ S.opn.opn.opn.blocks.length = S.blocks.length + 3 := by
  have gA := g.opn.opn.opn
  have lA : S.opn.blocks.length = S.blocks.length + 1 := by simp [Gs.opn]
  have lB : S.opn.opn.blocks.length = S.blocks.length + 2 := by simp [Gs.opn]
  rw [lA, lB] at gA
  exact ⟨by rw [show k + 3 = k + 1 + 1 + 1 by omega]; exact gA, by simp [Gs.opn]⟩
theorem sl_open3 {a b r p e cl : Nat} {bu : Int} {S : Gs} {s : Env} {Q : List Val → HL → Prop} (hS : SOk S) (h1 : S.blocks.length ≤ 9000) (hp : Sub H (stL a b r p e cl bu S) R) (hs : s[0]? = some (some (.ref a)))
    (q : Q [.int (S.blocks.length : Nat), .int ((S.blocks.length + 1 : Nat) : Int), .int ((S.blocks.length + 2 : Nat) : Int)] (stH a b r p e cl bu S.opn.opn.opn R)) :
    WP B (evs (cxN G fuel (d + 1)) (.cons (.call f_l_open (.cons (.v 0) .nil)) (.cons (.call f_l_open (.cons (.v 0) .nil)) (.cons (.call f_l_open (.cons (.v 0) .nil)) .nil))) s) H Q := by
  obtain ⟨g1, g2, g3, g4, g5⟩ := hS
  have lA : S.opn.blocks.length = S.blocks.length + 1 := by simp [Gs.opn]
  have lB : S.opn.opn.blocks.length = S.blocks.length + 2 := by simp [Gs.opn]
  refine e_cons (e_callN (e_cons (e_v hs (e_nil ?_))))
  refine sl_open (S := S) ⟨g1, g2, g3, g4, g5⟩ hp ?_
  refine e_cons (e_callN (e_cons (e_v hs (e_nil ?_))))
  refine sl_open (S := S.opn) ⟨by omega, g2, g3, g4, g5⟩ (by walk_at "subs") ?_
  refine e_cons (e_callN (e_cons (e_v hs (e_nil ?_))))
  refine sl_open (S := S.opn.opn) ⟨by omega, g2, g3, g4, g5⟩ (by walk_at "subs") ?_
  refine e_nil ?_
  rw [lA, lB]
  exact q
theorem mem3 {U : List Nat} {n0 : Nat} : ∀ j ∈ (n0 + 2) :: (n0 + 1) :: n0 :: U, j = n0 ∨ j ∈ (n0 + 2) :: (n0 + 1) :: U := fun j hj => by
  simp only [List.mem_cons] at hj ⊢
  rcases hj with h | h | h | h
  · exact .inr (.inl h)
  · exact .inr (.inr (.inl h))
  · exact .inl h
  · exact .inr (.inr (.inr h))
theorem mem2 {U : List Nat} {n0 : Nat} : ∀ j ∈ (n0 + 2) :: (n0 + 1) :: U, j = n0 + 1 ∨ j ∈ (n0 + 2) :: U := fun j hj => by
  simp only [List.mem_cons] at hj ⊢
  rcases hj with h | h | h
  · exact .inr (.inl h)
  · exact .inl h
  · exact .inr (.inr h)
theorem sl_choice {a b r p e cl pp c : Nat} {bu cap k deep : Int} {S : Gs} {P : Pot} {T : Sg} {pl : Plan} {rk N1 : Nat} {U : List Nat} {cs : List (PySem.Str × Nat)} (hb : BodyOk B T cs (d + 3) (deep + 1) N1) (g : Gw T pl rk U S k) (hP : P.ok) (hr : N1 + 2 ≤ rk) (hcap : cap ≤ 88) (hbu : 0 ≤ bu) (hsz : max S.line 360 + k + 30 * bu.toNat + 30 ≤ 6000) (hp : Sub H (wL a b r p e cl bu S pp c cap P cs) R)
    (q : ∀ r' p' e' bu' S' P' pl' rk' k', Bo T pl pl' rk rk' U S S' k k' (bu + 1) bu' (N1 + 2) → P'.ok → Q .non (wH a b r' p' e' cl bu' S' pp c cap P' cs R)) :
    WP B (callN G fuel (d + 4) f_l_choice [.ref a, .ref pp, .int deep]) H Q := by
  refine wp_perm (show H.Perm (wH a b r p e cl bu S pp c cap P cs R) from hp) ?_
  walk_at "in"
  show WSs B _ (.cons _ (.cons (.par _ _) (.cons _ (.cons _ (.cons (.for _ _ armB) _))))) _ _ _ _ _ _
  walk_at "w"
  refine sl_nameT a b r p e cl pp c bu cap k S P pl rk U _ _ _ g hP (by omega) (by walk_at "subs") fun S1 P1 y h1 hP1 => ?_
  have hi1 := h1.hi
  have lo1 := h1.lo
  have kx1 := h1.g.ks
  have ze1 := h1.g.z.h3
  have zb1 := h1.g.z.h1
  have zl1 := h1.g.z.h5
  have zO1 := h1.g.O.env
  refine ss_cons (s_par (sl_open3 (S := S1) (h1.g.z.ok (by omega)) (by omega) (by walk_at "subs") rfl ⟨_, rfl, ?_⟩))
  obtain ⟨gA, lC⟩ := opn3 h1.g
  have none0 : ∀ i, S1.blocks.length ≤ i → pl i = none := fun i hi => h1.g.O.none hi
  have env2 : S1.opn.opn.opn.env = S1.env := rfl
  have lin2 : S1.opn.opn.opn.line = S1.line := rfl
  have nxt2 : S1.opn.opn.opn.next = S1.next := rfl
  generalize S1.opn.opn.opn = S2 at gA lC env2 lin2 nxt2 ⊢
  generalize S1.blocks.length = n0 at gA lC none0 zb1 ⊢
  obtain ⟨pl', gB, hle, ej, en, ey⟩ : ∃ pl', Gw T pl' rk ((n0 + 2) :: (n0 + 1) :: n0 :: U) S2 (k + 3) ∧ PlLe pl pl' ∧ pl' (n0 + 2) = some ⟨S1.env, [.num], rk - 2 - N1, false⟩ ∧ pl' (n0 + 1) = some ⟨S1.env, [], rk - 1, false⟩ ∧ pl' n0 = some ⟨S1.env, [], rk - 1, false⟩ := by
    have a1 : pl (n0 + 2) = none := none0 _ (by omega)
    have a2 : plan (n0 + 2) ⟨S1.env, [.num], rk - 2 - N1, false⟩ pl (n0 + 1) = none := by rw [plan_ne (by omega)]; exact none0 _ (by omega)
    have a3 : plan (n0 + 1) ⟨S1.env, [], rk - 1, false⟩ (plan (n0 + 2) ⟨S1.env, [.num], rk - 2 - N1, false⟩ pl) n0 = none := by rw [plan_ne (by omega), plan_ne (by omega)]; exact none0 _ (by omega)
    refine ⟨plan n0 ⟨S1.env, [], rk - 1, false⟩ (plan (n0 + 1) ⟨S1.env, [], rk - 1, false⟩ (plan (n0 + 2) ⟨S1.env, [.num], rk - 2 - N1, false⟩ pl)), ((gA.plan a1 (by omega)).plan a2 (by omega)).plan a3 (by omega), (plan_le a1).trans ((plan_le a2).trans (plan_le a3)), ?_, ?_, plan_at⟩
    · rw [plan_ne (by omega), plan_ne (by omega)]; exact plan_at
    · rw [plan_ne (by omega)]; exact plan_at
  walk_at "w"
  have hw := gB.fin (en := .branch y n0 (n0 + 1)) (.branch (by rw [env2]; exact h1.m) ⟨_, ey, rfl, fun q hq => by rw [env2]; exact hq, .inr (by show rk - 1 < rk; omega)⟩ ⟨_, en, rfl, fun q hq => by rw [env2]; exact hq, .inr (by show rk - 1 < rk; omega)⟩) (fun c args z => (by cases z)) branch_fine
  refine sl_end (S := S2) (en := .branch y n0 (n0 + 1)) gB.O.now (by walk_at "subs") ?_
  have env3 : (S2.fin (.branch y n0 (n0 + 1))).env = S1.env := env2
  have lin3 : (S2.fin (.branch y n0 (n0 + 1))).line = S1.line := lin2
  have nxt3 : (S2.fin (.branch y n0 (n0 + 1))).next = S1.next := nxt2
  generalize S2.fin (.branch y n0 (n0 + 1)) = S3 at hw env3 lin3 nxt3 ⊢
  walk_at "w"
  rename_i E0
  have le3 : ∀ q ∈ S.env, q ∈ S3.env := fun z hz => by rw [env3]; exact h1.le z hz
  rw [← env3] at ey en ej kx1 ze1 zO1
  refine for_cons sees_nil rfl (sl_arm (bu := bu) (i := n0) (jn := n0 + 2) (ys := n0) (U2 := (n0 + 2) :: (n0 + 1) :: U) (Γ := S3.env) (E0 := E0) hb hw ey ej (by omega) mem3 (fun q hq => by rw [nxt3]; exact zO1 q hq) (by omega) kx1 hP1 hcap (by omega) (by walk_at "subs") fun r4 p4 e4 bu4 S4 P4 pl4 k4 A4 hP4 K4 X4 hs4 => ?_)
  refine wf_sub hs4 ?_
  have hi4 := A4.hi
  have lo4 := A4.lo
  have bd4 := A4.bd
  have k04 := A4.k0
  have kk4 := A4.kk
  have zO4 := A4.h.O.env
  refine for_cons sees_nil rfl (sl_arm (bu := bu4) (i := n0 + 1) (jn := n0 + 2) (ys := n0) (U2 := (n0 + 2) :: U) (Γ := S3.env) (E0 := E0) hb A4.h (A4.pl _ _ en) (A4.pl _ _ ej) (by omega) mem2 (fun q hq => zO4 q (A4.le q hq)) (by omega) kx1 hP4 hcap (by omega) (by walk_at "subs") fun r5 p5 e5 bu5 S5 P5 pl5 k5 A5 hP5 K5 X5 hs5 => ?_)
  refine wf_sub hs5 (for_nil sees_nil ?_)
  have hi5 := A5.hi
  have lo5 := A5.lo
  have bd5 := A5.bd
  have k05 := A5.k0
  have kk5 := A5.kk
  have zO5 := A5.h.O.env
  have h5 := A5.h.env_ (Γ := S3.env) (fun q hq => zO5 q (A5.le q hq)) (by omega)
  walk_at "w"
  rename_i e6
  refine wp_less (K := wH a b r5 p5 e6 cl bu5 { S5 with env := S3.env } pp c cap P5 cs R) (X := _) (by walk_at "subs") ?_
  refine sl_begin (S := { S5 with env := S3.env }) (at' := n0 + 2) (ks := [.num]) (h5.z.ok (by show S5.line + k5 ≤ 9000; omega)) (by decide) (by walk_at "subs") (.inl rfl) fun n7 r7 p7 e7 => ?_
  have g7 : Gw T pl5 (rk - 2 - N1) U (({ S5 with env := S3.env } : Gs).beg (n0 + 2) [.num]) (k5 + 1) := h5.beg (i := n0 + 2) (p := ⟨S3.env, [.num], rk - 2 - N1, false⟩) (U' := U) (A5.pl _ _ (A4.pl _ _ ej)) rfl (fun j hj => by simpa using hj) (Nat.le_of_ble_eq_true rfl) rfl kx1 (fun k hk => by cases List.mem_singleton.mp hk; exact .num)
  have le7 : ∀ q ∈ S3.env, q ∈ (({ S5 with env := S3.env } : Gs).beg (n0 + 2) [.num]).env := fun q hq => List.mem_append_left _ hq
  have ln7 : (({ S5 with env := S3.env } : Gs).beg (n0 + 2) [.num]).line = S5.line := rfl
  generalize ({ S5 with env := S3.env } : Gs).beg (n0 + 2) [.num] = S7 at g7 le7 ln7 ⊢
  walk_at "w"
  exact conv (K := wH a b r7 p7 e7 cl bu5 S7 pp c cap P5 cs R) (by walk_at "subs") (q r7 p7 e7 bu5 S7 P5 pl5 (rk - 2 - N1) (k5 + 1) ⟨hle.trans (A4.pl.trans A5.pl), g7, by omega, fun z hz => le7 z (le3 z hz), by omega, by omega, by omega, by omega, by omega⟩ hP5)
end
section
variable {B H R R' : HL} {d : Nat} {Q : Val → HL → Prop}
def loopT : Ss := dropS 8 d_l_loop.body
def loopP : Ss := dropS 2 d_l_loop.body
abbrev loopE (a pp : Nat) (deep : Int) (s4 : Val) (s5 : Int) (s6 s7 : Option Val) (n0 : Nat) (x y : Int) : Env := [some (.ref a), some (.ref pp), some (.int deep), some numV, some s4, some (.int s5), s6, s7, some (.int (n0 : Nat)), some (.int ((n0 + 1 : Nat) : Int)), some (.int ((n0 + 2 : Nat) : Int)), some (.int x), some (.int y)]
/-- behind a loop's body -/
theorem sl_loopT2 {a b r p e cl pp c E0 n0 : Nat} {bu cap k deep x y z5 : Int} {v4 : Val} {S : Gs} {P : Pot} {T : Sg} {pl : Plan} {rk rg rh : Nat} {U : List Nat} {Γ0 Γ : Ga} {cs : List (PySem.Str × Nat)} {X : HL} (hb : BodyOk B T cs (d + 3) (deep + 1) rk) (h : Hw T pl ((n0 + 2) :: (n0 + 1) :: U) S k) (hp0 : pl n0 = some ⟨Γ0, [.num, .num], rh, true⟩) (hp1 : pl (n0 + 1) = some ⟨Γ, [], rg, false⟩) (hp2 : pl (n0 + 2) = some ⟨Γ, [], rg, false⟩) (hrg : rk ≤ rg) (hy : (y, Kd.num) ∈ Γ) (h01 : ∀ q ∈ Γ0, q ∈ Γ)
    (he : S.env = Γ) (hks : ∀ q ∈ Γ, Ks q.2) (hP : P.ok) (hcap : cap ≤ 88) (hsz : max S.line 360 + k + 30 * bu.toNat + 10 ≤ 6000) (hp : Sub H (wH a b r p e cl bu S pp c cap P cs ((E0, .lst (Γ.map parV)) :: R)) X)
    (q : ∀ r' p' e' bu' S' P' pl' k', PlLe pl pl' → Gw T pl' rg U S' k' → (∀ q ∈ Γ, q ∈ S'.env) → S.line ≤ S'.line → bu' ≤ bu → S'.line ≤ max S.line 360 + 3 + 20 * ((bu.toNat : Int) - bu'.toNat) → k ≤ k' → k' ≤ k + 10 * ((bu.toNat : Int) - bu'.toNat) → P'.ok → Q .non (wH a b r' p' e' cl bu' S' pp c cap P' cs R)) :
    WSs B (cxN G fuel (d + 3)) (dropS 2 loopT) (loopE a pp deep v4 z5 (some (.ref E0)) none n0 x y) H (fun _ K => Conv Q .non K) (Conv Q) (fun _ _ => False) (fun _ _ => False) := by
  refine wss_sub hp ?_
  unfold loopT d_l_loop
  simp only [dropS]
  walk_at "w"
  refine sl_begin (S := S) (at' := n0 + 1) (ks := []) (h.z.ok (by omega)) (by decide) (by walk_at "subs") (.inl rfl) fun n2 r2 p2 e2 => ?_
  have g1 := h.beg (i := n0 + 1) (U' := (n0 + 2) :: U) hp1 he mem2 (Nat.zero_le _) rfl (by rw [he]; exact hks) (by simp)
  have le1 : ∀ q ∈ Γ, q ∈ (S.beg (n0 + 1) []).env := fun q hq => List.mem_append_left _ (by rw [he]; exact hq)
  have ln1 : (S.beg (n0 + 1) []).line = S.line := rfl
  have g1 : Gw T pl rg ((n0 + 2) :: U) (S.beg (n0 + 1) []) k := by simpa using g1
  have zh5 := h.z.h5
  have zO := h.O.env
  have zh3 := h.z.h3
  rw [he] at zO zh3
  generalize S.beg (n0 + 1) [] = S1 at g1 le1 ln1 ⊢
  walk_at "w"
  refine hb a b r2 p2 e2 cl pp c bu cap k S1 P pl rg _ _ _ _ g1 hP hrg hcap (by omega) (by walk_at "subs") fun r3 p3 e3 bu3 S3 P3 pl3 rk3 k3 o hP3 => ?_
  have orl := o.rk
  have ohi := o.hi
  have olo := o.lo
  have obd := o.bd
  have ok0 := o.k0
  have okk := o.kk
  have le3 : ∀ q ∈ Γ, q ∈ S3.env := fun q hq => o.le q (le1 q hq)
  walk_at "w"
  refine sl_put1 (S := S3) (k := .num) (op := .number) (args := []) (more := .num 1) (o.g.z.ok (by omega)) (by walk_at "subs") (.inl rfl) ?_
  have g4 := o.g.put1 (kd := .num) (op := .number) (more := .num 1) .nil (.number (num_of (by omega) (by omega))) .num fine_num (by decide)
  have le4 : Le S3 (S3.put (some .num) .number [] (.num 1)) := .put1
  have m4 : (S3.next, Kd.num) ∈ (S3.put (some .num) .number [] (.num 1)).env := Gs.put_mem
  have ln4 : (S3.put (some .num) .number [] (.num 1)).line = S3.line + 1 := rfl
  generalize S3.put (some .num) .number [] (.num 1) = S4 at g4 le4 m4 ln4 ⊢
  walk_at "w"
  refine sl_put1 (S := S4) (k := .num) (op := .sub) (args := [y, S3.next]) (more := .no) (g4.z.ok (by omega)) (by walk_at "subs") (.inl rfl) ?_
  have g5 := g4.put1 (kd := .num) (op := .sub) (args := [y, S3.next]) (more := .no) (.cons (le4 _ (le3 _ hy)) (.cons m4 .nil)) (.nums (by simp)) .num fine_no (Nat.le_of_ble_eq_true rfl)
  have le5 : Le S4 (S4.put (some .num) .sub [y, S3.next] .no) := .put1
  have m5 : (S4.next, Kd.num) ∈ (S4.put (some .num) .sub [y, S3.next] .no).env := Gs.put_mem
  have ln5 : (S4.put (some .num) .sub [y, S3.next] .no).line = S4.line + 1 := rfl
  generalize S4.put (some .num) .sub [y, S3.next] .no = S5 at g5 le5 m5 ln5 ⊢
  walk_at "w"
  refine sl_nameN a b r3 p3 e3 cl pp c bu3 cap k3 S5 P3 pl3 rk3 _ _ _ _ g5 hP3 (by omega) (by walk_at "subs") fun S6 P6 w h6 hP6 => ?_
  have hi6 := h6.hi
  have lo6 := h6.lo
  have le6 : ∀ q ∈ Γ, q ∈ S6.env := fun q hq => h6.le q (le5 q (le4 q (le3 q hq)))
  have hw := h6.g.fin (en := .jump n0 [w, S4.next]) (.jump (.cons h6.m (.cons (h6.le _ m5) .nil)) ⟨_, o.pl _ _ hp0, rfl, fun q hq => le6 q (h01 q hq), .inl rfl⟩) (fun c args z => (by cases z; exact Nat.le_of_ble_eq_true rfl)) jump_fine
  walk_at "w"
  refine sl_end (S := S6) (en := .jump n0 [w, S4.next]) h6.g.O.now (by walk_at "subs") ?_
  have l7 : (S6.fin (.jump n0 [w, S4.next])).line = S6.line := rfl
  have e7 : (S6.fin (.jump n0 [w, S4.next])).env = S6.env := rfl
  generalize S6.fin (.jump n0 [w, S4.next]) = S7 at hw l7 e7 ⊢
  have zO7 := hw.O.env
  rw [e7] at zO7
  have h8 := hw.env_ (Γ := Γ) (fun q hq => zO7 q (le6 q hq)) (by omega)
  walk_at "w"
  rename_i e8
  refine wp_less (K := wH a b r3 p3 e8 cl bu3 { S7 with env := Γ } pp c cap P6 cs R) (X := _) (by walk_at "subs") ?_
  refine sl_begin (S := { S7 with env := Γ }) (at' := n0 + 2) (ks := []) (h8.z.ok (by show S7.line + k3 ≤ 9000; omega)) (by decide) (by walk_at "subs") (.inl rfl) fun n9 r9 p9 e9 => ?_
  have g9 := h8.beg (i := n0 + 2) (p := ⟨Γ, [], rg, false⟩) (U' := U) (o.pl _ _ hp2) rfl (fun j hj => by simpa using hj) (Nat.zero_le _) rfl hks (by simp)
  have g9 : Gw T pl3 rg U (({ S7 with env := Γ } : Gs).beg (n0 + 2) []) k3 := by simpa using g9
  have le9 : ∀ q ∈ Γ, q ∈ (({ S7 with env := Γ } : Gs).beg (n0 + 2) []).env := fun q hq => List.mem_append_left _ hq
  have ln9 : (({ S7 with env := Γ } : Gs).beg (n0 + 2) []).line = S7.line := rfl
  generalize ({ S7 with env := Γ } : Gs).beg (n0 + 2) [] = S9 at g9 le9 ln9 ⊢
  walk_at "w"
  exact conv (K := wH a b r9 p9 e9 cl bu3 S9 pp c cap P6 cs R) (by walk_at "subs") (q r9 p9 e9 bu3 S9 P6 pl3 k3 o.pl g9 le9 (by omega) obd (by omega) ok0 okk hP6)
/-- behind a loop's head -/
theorem sl_loopT {a b r p e cl pp c n0 : Nat} {bu cap k deep x y z5 : Int} {v4 : Val} {S : Gs} {P : Pot} {T : Sg} {pl : Plan} {rk N1 : Nat} {U : List Nat} {Γ0 : Ga} {cs : List (PySem.Str × Nat)} {X : HL} (hb : BodyOk B T cs (d + 3) (deep + 1) N1) (g : Gw T pl rk ((n0 + 2) :: (n0 + 1) :: U) S k) (hp0 : pl n0 = some ⟨Γ0, [.num, .num], rk, true⟩) (hp1 : pl (n0 + 1) = none) (hp2 : pl (n0 + 2) = none) (hbl : n0 + 2 < S.blocks.length) (hr : N1 + 1 ≤ rk) (hy : (y, Kd.num) ∈ S.env) (hz : (z5, Kd.tru) ∈ S.env) (h01 : ∀ q ∈ Γ0, q ∈ S.env)
    (hP : P.ok) (hcap : cap ≤ 88) (hsz : max S.line 360 + k + 30 * bu.toNat + 10 ≤ 6000) (hp : Sub H (wH a b r p e cl bu S pp c cap P cs R) X)
    (q : ∀ r' p' e' bu' S' P' pl' k', PlLe pl pl' → Gw T pl' (rk - 1) U S' k' → (∀ q ∈ S.env, q ∈ S'.env) → S.line ≤ S'.line → bu' ≤ bu → S'.line ≤ max S.line 360 + 3 + 20 * ((bu.toNat : Int) - bu'.toNat) → k ≤ k' → k' ≤ k + 10 * ((bu.toNat : Int) - bu'.toNat) → P'.ok → Q .non (wH a b r' p' e' cl bu' S' pp c cap P' cs R)) :
    WSs B (cxN G fuel (d + 3)) loopT (loopE a pp deep v4 z5 none none n0 x y) H (fun _ K => Conv Q .non K) (Conv Q) (fun _ _ => False) (fun _ _ => False) := by
  refine wss_sub hp ?_
  show WSs B _ (.cons _ (.cons _ (dropS 2 loopT))) _ _ _ _ _ _
  obtain ⟨pl', gB, hle, e1, e2⟩ : ∃ pl', Gw T pl' rk ((n0 + 2) :: (n0 + 1) :: U) S k ∧ PlLe pl pl' ∧ pl' (n0 + 1) = some ⟨S.env, [], rk - 1, false⟩ ∧ pl' (n0 + 2) = some ⟨S.env, [], rk - 1, false⟩ := by
    have a2 : plan (n0 + 2) ⟨S.env, [], rk - 1, false⟩ pl (n0 + 1) = none := by rw [plan_ne (by omega)]; exact hp1
    refine ⟨plan (n0 + 1) ⟨S.env, [], rk - 1, false⟩ (plan (n0 + 2) ⟨S.env, [], rk - 1, false⟩ pl), (g.plan hp2 (by omega)).plan a2 (by omega), (plan_le hp2).trans (plan_le a2), plan_at, ?_⟩
    rw [plan_ne (by omega)]; exact plan_at
  have hw := gB.fin (en := .branch z5 (n0 + 1) (n0 + 2)) (.branch hz ⟨_, e1, rfl, fun q hq => hq, .inr (by show rk - 1 < rk; omega)⟩ ⟨_, e2, rfl, fun q hq => hq, .inr (by show rk - 1 < rk; omega)⟩) (fun c args z => (by cases z)) branch_fine
  walk_at "w"
  refine sl_end (S := S) (en := .branch z5 (n0 + 1) (n0 + 2)) g.O.now (by walk_at "subs") ?_
  have env3 : (S.fin (.branch z5 (n0 + 1) (n0 + 2))).env = S.env := rfl
  have lin3 : (S.fin (.branch z5 (n0 + 1) (n0 + 2))).line = S.line := rfl
  generalize S.fin (.branch z5 (n0 + 1) (n0 + 2)) = S3 at hw env3 lin3 ⊢
  walk_at "w"
  rename_i E0
  have h01 : ∀ q ∈ Γ0, q ∈ S3.env := fun q hq => by rw [env3]; exact h01 q hq
  have hks : ∀ q ∈ S3.env, Ks q.2 := by rw [env3]; exact g.ks
  rw [← env3] at e1 e2 hy
  refine sl_loopT2 (bu := bu) (E0 := E0) (Γ0 := Γ0) (Γ := S3.env) hb hw (hle _ _ hp0) e1 e2 (by omega) hy h01 rfl hks hP hcap (by omega) (by walk_at "subs") fun r' p' e' bu' S' P' pl2 k' h1 h2 h3 h4 h5 h6 h7 h8 h9 => ?_
  exact q r' p' e' bu' S' P' pl2 k' (hle.trans h1) h2 (fun z hz => h3 z (by rw [env3]; exact hz)) (by omega) h5 (by omega) h7 h8 h9
theorem sl_loop {a b r p e cl pp c : Nat} {bu cap k deep : Int} {S : Gs} {P : Pot} {T : Sg} {pl : Plan} {rk N1 : Nat} {U : List Nat} {cs : List (PySem.Str × Nat)} (hb : BodyOk B T cs (d + 3) (deep + 1) N1) (g : Gw T pl rk U S k) (hP : P.ok) (hr : N1 + 2 ≤ rk) (hcap : cap ≤ 88) (hbu : 0 ≤ bu) (hsz : max S.line 360 + k + 30 * bu.toNat + 30 ≤ 6000) (hp : Sub H (wL a b r p e cl bu S pp c cap P cs) R)
    (q : ∀ r' p' e' bu' S' P' pl' rk' k', Bo T pl pl' rk rk' U S S' k k' (bu + 1) bu' (N1 + 2) → P'.ok → Q .non (wH a b r' p' e' cl bu' S' pp c cap P' cs R)) :
    WP B (callN G fuel (d + 4) f_l_loop [.ref a, .ref pp, .int deep]) H Q := by
  refine wp_perm (show H.Perm (wH a b r p e cl bu S pp c cap P cs R) from hp) ?_
  walk_at "in"
  show WSs B _ (.cons _ (.cons _ loopP)) _ _ _ _ _ _
  walk_at "w"
  refine sl_nameN a b r p e cl pp c bu cap k S P pl rk U _ _ _ g hP (by omega) (by walk_at "subs") fun S0 P0 y0 h0 hP0 => ?_
  have hi0 := h0.hi
  have lo0 := h0.lo
  walk_at "w"
  refine sl_nameF a b r p e cl pp c bu cap k S0 P0 pl rk U _ _ _ h0.g hP0 (by omega) (by walk_at "subs") fun S1 P1 y1 h1 hP1 => ?_
  have hi1 := h1.hi
  have lo1 := h1.lo
  have kx1 := h1.g.ks
  have zb1 := h1.g.z.h1
  have zl1 := h1.g.z.h5
  walk_at "w"
  show WSs B _ (.cons (.par _ _) (.cons _ (.cons _ (.cons _ (.cons _ (.cons _ loopT)))))) _ _ _ _ _ _
  refine ss_cons (s_par (sl_open3 (S := S1) (h1.g.z.ok (by omega)) (by omega) (by walk_at "subs") rfl ⟨_, rfl, ?_⟩))
  obtain ⟨gA, lC⟩ := opn3 h1.g
  have none0 : ∀ i, S1.blocks.length ≤ i → pl i = none := fun i hi => h1.g.O.none hi
  have env2 : S1.opn.opn.opn.env = S1.env := rfl
  have lin2 : S1.opn.opn.opn.line = S1.line := rfl
  generalize S1.opn.opn.opn = S2 at gA lC env2 lin2 ⊢
  generalize S1.blocks.length = n0 at gA lC none0 zb1 ⊢
  have a1 : pl n0 = none := none0 _ (by omega)
  have gB := gA.plan (p := ⟨S1.env, [.num, .num], rk, true⟩) a1 (by omega)
  have en0 : plan n0 ⟨S1.env, [.num, .num], rk, true⟩ pl n0 = some ⟨S1.env, [.num, .num], rk, true⟩ := plan_at
  have en1 : plan n0 ⟨S1.env, [.num, .num], rk, true⟩ pl (n0 + 1) = none := by rw [plan_ne (by omega)]; exact none0 _ (by omega)
  have en2 : plan n0 ⟨S1.env, [.num, .num], rk, true⟩ pl (n0 + 2) = none := by rw [plan_ne (by omega)]; exact none0 _ (by omega)
  have hle : PlLe pl (plan n0 ⟨S1.env, [.num, .num], rk, true⟩ pl) := plan_le a1
  generalize plan n0 ⟨S1.env, [.num, .num], rk, true⟩ pl = pl' at gB en0 en1 en2 hle
  have hw := gB.fin (en := .jump n0 [y0, y1]) (.jump (.cons (by rw [env2]; exact h1.le _ h0.m) (.cons (by rw [env2]; exact h1.m) .nil)) ⟨_, en0, rfl, fun q hq => by rw [env2]; exact hq, .inl rfl⟩) (fun c args z => (by cases z; exact Nat.le_of_ble_eq_true rfl)) jump_fine
  walk_at "w"
  refine sl_end (S := S2) (en := .jump n0 [y0, y1]) gB.O.now (by walk_at "subs") ?_
  have env3 : (S2.fin (.jump n0 [y0, y1])).env = S1.env := env2
  have lin3 : (S2.fin (.jump n0 [y0, y1])).line = S1.line := lin2
  have blk3 : (S2.fin (.jump n0 [y0, y1])).blocks.length = n0 + 3 := by show (S2.blocks.set _ _).length = _; rw [List.length_set]; exact lC
  generalize S2.fin (.jump n0 [y0, y1]) = S3 at hw env3 lin3 blk3 ⊢
  walk_at "w"
  refine sl_begin (S := S3) (at' := n0) (ks := [.num, .num]) (hw.z.ok (by omega)) (by decide) (by walk_at "subs") (.inl rfl) fun n4 r4 p4 e4 => ?_
  have g4 := hw.begT (i := n0) (p := ⟨S1.env, [.num, .num], rk, true⟩) (U' := (n0 + 2) :: (n0 + 1) :: U) en0 env3 mem3 (Nat.le_of_ble_eq_true rfl) (by rw [env3]; exact kx1) (fun k hk => by simp at hk; rw [hk]; exact .num)
  have g4 : Gw T pl' rk ((n0 + 2) :: (n0 + 1) :: U) ((S3.beg n0 [.num, .num]).put none .tick [] .no) (k + 5) := by
    rw [show k + 5 = k + 3 + ((2 : Nat) : Int) by omega]; exact g4
  have le4 : ∀ q ∈ S1.env, q ∈ ((S3.beg n0 [.num, .num]).put none .tick [] .no).env := fun q hq => List.mem_append_left _ (by rw [env3]; exact hq)
  have my : (S3.next + 1, Kd.num) ∈ ((S3.beg n0 [.num, .num]).put none .tick [] .no).env := List.mem_append_right _ (by simp [named])
  have ln4 : ((S3.beg n0 [.num, .num]).put none .tick [] .no).line = S1.line + 1 := by show S3.line + 1 = _; rw [lin3]
  have bl4 : ((S3.beg n0 [.num, .num]).put none .tick [] .no).blocks.length = n0 + 3 := blk3
  have ok4 : SOk (S3.beg n0 [.num, .num]) := (hw.z.beg n0 [.num, .num]).ok (by show S3.line + (k + 3 + ((2 : Nat) : Int)) ≤ 9000; omega)
  rw [show rangeL S3.next [Kd.num, Kd.num].length = [.int S3.next, .int (S3.next + 1)] from rfl]
  walk_at "w"
  refine sl_put0 (S := S3.beg n0 [.num, .num]) (op := .tick) (args := []) (more := .no) ok4 (by walk_at "subs") (.inl rfl) ?_
  generalize (S3.beg n0 [.num, .num]).put none .tick [] .no = S4 at g4 le4 my ln4 bl4 ⊢
  walk_at "w"
  refine sl_put1 (S := S4) (k := .num) (op := .number) (args := []) (more := .num 0) (g4.z.ok (by omega)) (by walk_at "subs") (.inl rfl) ?_
  have g5 := g4.put1 (kd := .num) (op := .number) (more := .num 0) .nil (.number (num_of (by omega) (by omega))) .num fine_num (by decide)
  have le5 : Le S4 (S4.put (some .num) .number [] (.num 0)) := .put1
  have m5 : (S4.next, Kd.num) ∈ (S4.put (some .num) .number [] (.num 0)).env := Gs.put_mem
  have ln5 : (S4.put (some .num) .number [] (.num 0)).line = S4.line + 1 := rfl
  have bl5 : (S4.put (some .num) .number [] (.num 0)).blocks.length = n0 + 3 := bl4
  generalize S4.put (some .num) .number [] (.num 0) = S5 at g5 le5 m5 ln5 bl5 ⊢
  walk_at "w"
  refine sl_put1 (S := S5) (k := .tru) (op := .lt) (args := [S4.next, S3.next + 1]) (more := .no) (g5.z.ok (by omega)) (by walk_at "subs") (.inl rfl) ?_
  have g6 := g5.put1 (kd := .tru) (op := .lt) (args := [S4.next, S3.next + 1]) (more := .no) (.cons m5 (.cons (le5 _ my) .nil)) (.cmps (.inl rfl)) .tru fine_no (Nat.le_of_ble_eq_true rfl)
  have le6 : Le S5 (S5.put (some .tru) .lt [S4.next, S3.next + 1] .no) := .put1
  have m6 : (S5.next, Kd.tru) ∈ (S5.put (some .tru) .lt [S4.next, S3.next + 1] .no).env := Gs.put_mem
  have ln6 : (S5.put (some .tru) .lt [S4.next, S3.next + 1] .no).line = S5.line + 1 := rfl
  have bl6 : (S5.put (some .tru) .lt [S4.next, S3.next + 1] .no).blocks.length = n0 + 3 := bl5
  generalize S5.put (some .tru) .lt [S4.next, S3.next + 1] .no = S6 at g6 le6 m6 ln6 bl6 ⊢
  have tail : ∀ S7 P7 z, Gw T pl' rk ((n0 + 2) :: (n0 + 1) :: U) S7 (k + 5) → Le S6 S7 → (z, Kd.tru) ∈ S7.env → S6.line ≤ S7.line → S7.line ≤ S6.line + 1 → S7.blocks.length = n0 + 3 → P7.ok → ∀ K' X', Sub K' (wH a b r4 p4 e4 cl bu S7 pp c cap P7 cs R) X' → WSs B (cxN G fuel (d + 3)) loopT (loopE a pp deep (.tup [.int y0, .int y1]) z none none n0 S3.next (S3.next + 1)) K' (fun _ K => Conv Q .non K) (Conv Q) (fun _ _ => False) (fun _ _ => False) := by
    intro S7 P7 z g7 le7 m7 lo7 hi7 bl7 hP7 K' X' hs
    refine sl_loopT (bu := bu) (Γ0 := S1.env) hb g7 en0 en1 en2 (by omega) (by omega) (le7 _ (le6 _ (le5 _ my))) m7 (fun q hq => le7 _ (le6 _ (le5 _ (le4 q hq)))) hP7 hcap (by omega) hs fun r' p' e' bu' S' P' pl2 k' i1 i2 i3 i4 i5 i6 i7 i8 i9 => ?_
    exact q r' p' e' bu' S' P' pl2 (rk - 1) k' ⟨hle.trans i1, i2, by omega, fun w hw => i3 w (le7 _ (le6 _ (le5 _ (le4 _ (h1.le _ (h0.le w hw)))))), by omega, by omega, by omega, by omega, by omega⟩ i9
  walk_at "w"
  refine sl_take (n := 8) hP1 (by decide) (by decide) (by walk_at "subs") fun w P2 hP2 w0 w1 => ?_
  walk_at "w"
  refine br_dec (fun hw7 => ?_) fun hw7 => ?_
  · walk_at "w"
    refine sl_nameT a b r4 p4 e4 cl pp c bu cap (k + 5) S6 P2 pl' rk _ _ _ _ g6 hP2 (by omega) (by walk_at "subs") fun S7 P7 z h7 hP7 => ?_
    have bl7 : S7.blocks.length = n0 + 3 := by rw [h7.bl]; exact bl6
    walk_at "w"
    exact tail S7 P7 z h7.g h7.le h7.m h7.lo h7.hi bl7 hP7 _ _ (by walk_at "subs")
  · walk_at "w"
    exact tail S6 P2 S5.next g6 (.refl S6) m6 (Int.le_refl _) (by omega) bl6 hP2 _ _ (by walk_at "subs")
end
section
variable {B H R R' : HL} {d : Nat} {Q : Val → HL → Prop}
theorem Bo.trans {T : Sg} {pl pl1 pl2 : Plan} {rk rk1 rk2 : Nat} {U : List Nat} {S S1 S2 : Gs} {k k1 k2 bu bu1 bu2 : Int} {N N' : Nat} (a : Bo T pl pl1 rk rk1 U S S1 k k1 bu bu1 N) (b : Bo T pl1 pl2 rk1 rk2 U S1 S2 k1 k2 bu1 bu2 N') : Bo T pl pl2 rk rk2 U S S2 k k2 bu bu2 (N + N') := by
  obtain ⟨a1, a2, a3, a4, a5, a6, a7, a8, a9⟩ := a
  obtain ⟨b1, b2, b3, b4, b5, b6, b7, b8, b9⟩ := b
  exact ⟨a1.trans b1, b2, by omega, a4.trans b4, by omega, by omega, by omega, by omega, by omega⟩
theorem Bo.mono {T : Sg} {pl pl1 : Plan} {rk rk1 : Nat} {U : List Nat} {S S1 : Gs} {k k1 bu bu1 : Int} {N N' : Nat} (a : Bo T pl pl1 rk rk1 U S S1 k k1 bu bu1 N) (h : N ≤ N') : Bo T pl pl1 rk rk1 U S S1 k k1 bu bu1 N' := by
  obtain ⟨a1, a2, a3, a4, a5, a6, a7, a8, a9⟩ := a
  exact ⟨a1, a2, by omega, a4, a5, a6, a7, a8, a9⟩
theorem Sr.bo {T : Sg} {pl : Plan} {rk : Nat} {U : List Nat} {S S' : Gs} {k bu bu' : Int} (h : Sr T pl rk U S S' k) (hb : bu' ≤ bu) : Bo T pl pl rk rk U S S' k k bu bu' 0 := by
  obtain ⟨h1, h2, h3, h4, h5, h6⟩ := h
  exact ⟨.refl pl, h1, by omega, h2, h3, hb, by omega, by omega, by omega⟩
abbrev bodyE (a pp : Nat) (deep : Int) (s3 s4 : Option Val) : Env := [some (.ref a), some (.ref pp), some (.int deep), s3, s4]
theorem sl_strS {a b r p e cl pp c : Nat} {bu cap k deep : Int} {s3 s4 : Option Val} {S : Gs} {P : Pot} {T : Sg} {pl : Plan} {rk : Nat} {U : List Nat} {cs : List (PySem.Str × Nat)} {N K C : Env → HL → Prop} {T' : Val → HL → Prop} {X : HL} (hc : CsOk T cs) (hcap : cap ≤ 88) (hsz : max S.line 360 + k ≤ 7000) (g : Gw T pl rk U S k) (hP : P.ok) (hp : Sub H (wH a b r p e cl bu S pp c cap P cs R) X)
    (q : ∀ S' P', Sr T pl rk U S S' k → P'.ok → ∀ K' X', Sub K' (wH a b r p e cl bu S' pp c cap P' cs R) X' → N (bodyE a pp deep s3 s4) K') :
    WSs B (cxN G fuel (d + 6)) (.cons (.ex (.call f_l_straight (.cons (.v 0) (.cons (.v 1) .nil)))) .nil) (bodyE a pp deep s3 s4) H N T' K C := by
  refine wss_sub hp ?_
  walk_at "w"
  refine sl_straight hc hcap hsz g hP (by walk_at "subs") fun S' P' h hP' => ?_
  walk_at "w"
  exact q S' P' h hP' _ _ (by walk_at "subs")
def bodyB : Ss := forB d_l_body.body
/-- one turn of a body -/
theorem sl_bodyT {a b r p e cl pp c M : Nat} {bu cap k deep : Int} {s3 s4 : Option Val} {S : Gs} {P : Pot} {T : Sg} {pl : Plan} {rk : Nat} {U : List Nat} {cs : List (PySem.Str × Nat)} {N K C : Env → HL → Prop} {T' : Val → HL → Prop} {X : HL} (hc : CsOk T cs) (hb : 2 < deep ∨ ∃ N1, BodyOk B T cs (d + 5) (deep + 1) N1 ∧ N1 + 2 ≤ M) (hcap : cap ≤ 88) (hsz : max S.line 360 + k + 30 * bu.toNat ≤ 6000) (g : Gw T pl rk U S k) (hP : P.ok) (hM : M ≤ rk) (hp : Sub H (wH a b r p e cl bu S pp c cap P cs R) X)
    (q : ∀ r' p' e' bu' S' P' pl' rk' k' s4, Bo T pl pl' rk rk' U S S' k k' bu bu' M → P'.ok → ∀ K' X', Sub K' (wH a b r' p' e' cl bu' S' pp c cap P' cs R) X' → N (bodyE a pp deep s3 s4) K') :
    WSs B (cxN G fuel (d + 6)) bodyB (bodyE a pp deep s3 s4) H N T' K C := by
  refine wss_sub hp ?_
  unfold bodyB d_l_body
  simp only [forB]
  walk_at "w"
  refine sl_take (n := 5) hP (by decide) (by decide) (by walk_at "subs") fun w P1 hP1 w0 w1 => ?_
  walk_at "w"
  refine br_dec (fun c1 => ?_) fun c1 => ?_
  · refine br_t rfl ?_
    refine sl_strS (bu := bu - 1) hc hcap (by omega) g hP1 (by walk_at "subs") fun S' P' h hP' K' X' hs => ?_
    exact ss_nil (q r p e (bu - 1) S' P' pl rk k _ ((h.bo (by omega)).mono (Nat.zero_le _)) hP' K' X' hs)
  · walk_at "w"
    refine br_dec (fun c2 => ?_) fun c2 => ?_
    · refine br_t rfl ?_
      refine sl_strS (bu := bu - 1) hc hcap (by omega) g hP1 (by walk_at "subs") fun S' P' h hP' K' X' hs => ?_
      exact ss_nil (q r p e (bu - 1) S' P' pl rk k _ ((h.bo (by omega)).mono (Nat.zero_le _)) hP' K' X' hs)
    · obtain ⟨N1, hb, hN⟩ := hb.resolve_left c2
      walk_at "w"
      refine br_dec (fun c3 => ?_) fun c3 => ?_
      · refine sl_strS (bu := bu - 1) hc hcap (by omega) g hP1 (by walk_at "subs") fun S' P' h hP' K' X' hs => ?_
        exact ss_nil (q r p e (bu - 1) S' P' pl rk k _ ((h.bo (by omega)).mono (Nat.zero_le _)) hP' K' X' hs)
      · have ebu : bu - 1 + 1 = bu := by omega
        walk_at "w"
        refine br_dec (fun c4 => ?_) fun c4 => ?_
        · walk_at "w"
          refine sl_choice (d := d + 2) (bu := bu - 1) (N1 := N1) hb g hP1 (by omega) hcap (by omega) (by omega) (by walk_at "subs") fun r' p' e' bu' S' P' pl' rk' k' o hP' => ?_
          rw [ebu] at o
          walk_at "w"
          exact q r' p' e' bu' S' P' pl' rk' k' _ (o.mono hN) hP' _ _ (by walk_at "subs")
        · walk_at "w"
          refine sl_loop (d := d + 2) (bu := bu - 1) (N1 := N1) hb g hP1 (by omega) hcap (by omega) (by omega) (by walk_at "subs") fun r' p' e' bu' S' P' pl' rk' k' o hP' => ?_
          rw [ebu] at o
          walk_at "w"
          exact q r' p' e' bu' S' P' pl' rk' k' _ (o.mono hN) hP' _ _ (by walk_at "subs")
theorem sl_bodyL {a b cl pp c M nn : Nat} {bu0 cap k0 deep : Int} {S0 : Gs} {T : Sg} {pl0 : Plan} {rk0 : Nat} {U : List Nat} {cs : List (PySem.Str × Nat)} {N : Env → HL → Prop} {T' : Val → HL → Prop} (hc : CsOk T cs) (hb : 2 < deep ∨ ∃ N1, BodyOk B T cs (d + 5) (deep + 1) N1 ∧ N1 + 2 ≤ M) (hcap : cap ≤ 88) (hsz : max S0.line 360 + k0 + 30 * bu0.toNat ≤ 6000) (hM : nn * M ≤ rk0)
    (q : ∀ r' p' e' bu' S' P' pl' rk' k' s, Bo T pl0 pl' rk0 rk' U S0 S' k0 k' bu0 bu' (nn * M) → P'.ok → ∀ K' X', Sub K' (wH a b r' p' e' cl bu' S' pp c cap P' cs R) X' → N s K') :
    ∀ (n did : Nat) (x0 : Int) (r p e : Nat) (bu : Int) (S : Gs) (P : Pot) (pl : Plan) (rk : Nat) (k : Int) (s3 s4 : Option Val) (H X : HL), did * M + n * M = nn * M → Bo T pl0 pl rk0 rk U S0 S k0 k bu0 bu (did * M) → P.ok → Sub H (wH a b r p e cl bu S pp c cap P cs R) X →
    WF B (cxN G fuel (d + 6)) (.one 3) bodyB [] (rangeL x0 n) (bodyE a pp deep s3 s4) H N T'
  | 0, did, x0, r, p, e, bu, S, P, pl, rk, k, s3, s4, H, X, hn, o, hP, hp => by
    rw [rangeL]
    rw [Nat.zero_mul, Nat.add_zero] at hn
    rw [hn] at o
    exact for_nil sees_nil (q r p e bu S P pl rk k _ o hP _ _ hp)
  | n + 1, did, x0, r, p, e, bu, S, P, pl, rk, k, s3, s4, H, X, hn, o, hP, hp => by
    rw [Nat.succ_mul] at hn
    have o3 := o.rk
    have o6 := o.bd
    have o7 := o.hi
    have o9 := o.kk
    rw [rangeL]
    refine for_cons sees_nil rfl (sl_bodyT (bu := bu) (k := k) (M := M) hc hb hcap (by omega) o.g hP (by omega) hp fun r' p' e' bu' S' P' pl' rk' k' s4 o' hP' K' X' hs => ?_)
    have o2 := o.trans o'
    rw [← Nat.succ_mul] at o2
    exact sl_bodyL hc hb hcap hsz hM q n (did + 1) _ r' p' e' bu' S' P' pl' rk' k' _ _ K' X' (by rw [Nat.succ_mul]; omega) o2 hP' hs
theorem sl_bodyX {T : Sg} {cs : List (PySem.Str × Nat)} {deep : Int} {M : Nat} (hc : CsOk T cs) (hb : 2 < deep ∨ ∃ N1, BodyOk B T cs (d + 5) (deep + 1) N1 ∧ N1 + 2 ≤ M) : BodyOk B T cs (d + 7) deep (3 * M) := by
  intro a b r p e cl pp c bu cap k S P pl rk U H R Q g hP hr hcap hsz hp q
  refine wp_perm (show H.Perm (wH a b r p e cl bu S pp c cap P cs R) from hp) ?_
  walk_at "in"
  show WSs B _ (.cons (.for _ _ bodyB) _) _ _ _ _ _ _
  walk_at "w"
  refine sl_take (n := 3) hP (by decide) (by decide) (by walk_at "subs") fun w P1 hP1 w0 w1 => ?_
  walk_at "w"
  have hn : (1 + w).toNat ≤ 3 := by omega
  generalize (1 + w).toNat = n at hn ⊢
  have hnM : n * M ≤ 3 * M := Nat.mul_le_mul_right _ hn
  refine sl_bodyL (nn := n) (rk0 := rk) (pl0 := pl) (bu0 := bu) hc hb hcap hsz (by omega) (fun r' p' e' bu' S' P' pl' rk' k' s o hP' K' X' hs => ?_) n 0 0 r p e bu S P1 pl rk k _ _ _ _ (by omega) ⟨.refl pl, g, by omega, .refl S, by omega, by omega, by omega, by omega, by omega⟩ hP1 (by walk_at "subs")
  walk_at "w"
  exact conv hs (q r' p' e' bu' S' P' pl' rk' k' (o.mono hnM) hP')
theorem sl_body0 {T : Sg} {cs : List (PySem.Str × Nat)} (hc : CsOk T cs) : BodyOk B T cs (d + 13) 0 78 := by
  have b3 : BodyOk B T cs (d + 7) 3 0 := sl_bodyX (M := 0) hc (.inl (by decide))
  have b2 : BodyOk B T cs (d + 9) 2 6 := sl_bodyX (d := d + 2) (M := 2) hc (.inr ⟨0, b3, by decide⟩)
  have b1 : BodyOk B T cs (d + 11) 1 24 := sl_bodyX (d := d + 4) (M := 8) hc (.inr ⟨6, b2, by decide⟩)
  exact sl_bodyX (d := d + 6) (M := 26) hc (.inr ⟨24, b1, by decide⟩)
end
section
variable {B H R R' : HL} {d : Nat} {Q : Val → HL → Prop}
/-- a function that is done -/
structure FnOk (T : Sg) (nm : PySem.Str) (ks : List Kd) (bs : List Block) : Prop where
  ty : FunT T ⟨nm, .num, bs⟩ ks
  sz : total bs + 1 ≤ 600
  bl : ∀ b ∈ bs, BlkB b
  fine : ∀ b ∈ bs, Fine 6 b.v
  ld : LeadsOk bs
theorem oB_map (bs : List Block) : (bs.map some).map oB = bs.map Block.v := by rw [List.map_map]; rfl
theorem first_gw {T : Sg} {many : Nat} (hm : many ≤ 9) : Gw T (plan 0 ⟨[], numsK many, 100, true⟩ fun _ => none) 100 [] (Gs.first 0 (numsK many)) 20 := by
  refine ⟨first_open 100 (by rw [List.length_replicate]; omega), ⟨?_, ?_, ?_, ?_, ?_⟩, fun q hq => ?_, fun r hr => ?_, fun p hp => ?_, fun b hb => ?_⟩
  · show ((1 : Nat) : Int) ≤ 20; decide
  · show ((1 : Nat) : Int) ≤ 0 + 1; decide
  · show (([] ++ named 0 (numsK many)).length : Int) ≤ 0 + 1 + 20
    rw [List.nil_append, named_len, List.length_replicate]; omega
  · show 0 ≤ 0 + ((numsK many).length : Int) ∧ 0 + ((numsK many).length : Int) ≤ 0 + 1 + 20
    rw [List.length_replicate]; omega
  · show (0 : Int) ≤ 0 + 1; decide
  · have := named_mem (show q ∈ named 0 (numsK many) from hq)
    rw [List.eq_of_mem_replicate this]; exact .num
  · have hr : r ∈ [(⟨none, none, .tick, [], .no, 0 + 1⟩ : Row)] := hr
    cases List.mem_singleton.mp hr
    exact row_fine (fun k e => by cases e) fine_no
  · have := named_mem (show p ∈ named 0 (numsK many) from hp)
    exact par_fine (by rw [List.eq_of_mem_replicate this]; exact .num)
  · simp [Gs.first, Gs.put, Gs.beg, Gs.opn, Gs.s0] at hb
theorem sl_function {pp c cl many : Nat} {cap bu : Int} {P : Pot} {T : Sg} {cs : List (PySem.Str × Nat)} {nm : PySem.Str} (hc : CsOk T cs) (hm : many ≤ 9) (hcap : cap ≤ 88) (hbu : bu ≤ 6) (hP : P.ok) (hp : Sub H [(pp, potD c P), (c, potL P), (cl, .lst (csV cs))] R)
    (q : ∀ bs P', P'.ok → FnOk T nm (numsK many) bs → Q (Fun.v ⟨nm, .num, bs⟩) ((pp, potD c P') :: (c, potL P') :: (cl, .lst (csV cs)) :: R)) :
    WP B (callN G fuel (d + 14) f_l_function [.ref pp, .str nm, .int many, .ref cl, .int bu]) H Q := by
  refine wp_perm (show H.Perm ((pp, potD c P) :: (c, potL P) :: (cl, .lst (csV cs)) :: R) from hp) ?_
  walk_at "in"
  walk_at "w"
  rename_i a b r e f
  show WP B _ ((f, .lst ((Gs.s0 0).env.map parV)) :: (e, .lst ((Gs.s0 0).params.map parV)) :: (r, .lst ((Gs.s0 0).rows.map Row.v)) :: (b, .lst ((Gs.s0 0).blocks.map oB)) :: (a, stD b r e f cl bu (Gs.s0 0)) :: (pp, potD c P) :: (c, potL P) :: (cl, .lst (csV cs)) :: R) _
  refine sl_open (S := Gs.s0 0) ⟨Nat.le_of_ble_eq_true rfl, Nat.le_of_ble_eq_true rfl, Nat.le_of_ble_eq_true rfl, by show (0 : Int) ≤ 0 ∧ (0 : Int) ≤ 1000000; omega, by show (0 : Int) ≤ 0 ∧ (0 : Int) ≤ 1000000; omega⟩ (by walk_at "subs") ?_
  walk_at "w"
  refine p_mull' (by walk_at "sub") (repOk_one (k := many) (by omega)) fun k2 => ?_
  rw [rep_num]
  walk_at "w"
  refine sl_begin (S := (Gs.s0 0).opn) (at' := 0) (ks := numsK many) ⟨Nat.le_of_ble_eq_true rfl, Nat.le_of_ble_eq_true rfl, Nat.le_of_ble_eq_true rfl, by show (0 : Int) ≤ 0 ∧ (0 : Int) ≤ 1000000; omega, by show (0 : Int) ≤ 0 ∧ (0 : Int) ≤ 1000000; omega⟩ (by rw [List.length_replicate]; omega) (by walk_at "subs") (.inr ⟨k2, _, rfl, by walk_at "sub"⟩) fun n r' p' e' => ?_
  walk_at "w"
  refine sl_put0 (S := ((Gs.s0 0).opn).beg 0 (numsK many)) (op := .tick) (args := []) (more := .no) ⟨Nat.le_of_ble_eq_true rfl, Nat.le_of_ble_eq_true rfl, ?_, ?_, by show (0 : Int) ≤ 0 ∧ (0 : Int) ≤ 1000000; omega⟩ (by walk_at "subs") (.inl rfl) ?_
  · show ([] ++ named 0 (numsK many)).length ≤ 100000
    rw [List.nil_append, named_len, List.length_replicate]; omega
  · show 0 ≤ 0 + ((numsK many).length : Int) ∧ 0 + ((numsK many).length : Int) ≤ 1000000
    rw [List.length_replicate]; omega
  have g0 := first_gw (T := T) hm
  have l0 : (Gs.first 0 (numsK many)).line = 1 := rfl
  have hpl : plan 0 ⟨[], numsK many, 100, true⟩ (fun _ => none) 0 = some ⟨[], numsK many, 100, true⟩ := plan_at
  walk_at "w"
  show WP B _ (stH a b r' p' e' cl bu (Gs.first 0 (numsK many)) _) _
  generalize Gs.first 0 (numsK many) = S0 at g0 l0 ⊢
  generalize plan 0 ⟨[], numsK many, 100, true⟩ (fun _ => none) = pl at g0 hpl
  refine sl_body0 hc a b r' p' e' cl pp c bu cap 20 S0 P pl 100 [] _ _ _ g0 hP (by decide) hcap (by omega) (by walk_at "subs") fun r1 p1 e1 bu1 S1 P1 pl1 rk1 k1 o hP1 => ?_
  have o6 := o.bd
  have o7 := o.hi
  have o9 := o.kk
  have o8 := o.k0
  walk_at "w"
  refine sl_nameN (d := d + 10) a b r1 p1 e1 cl pp c bu1 cap k1 S1 P1 pl1 rk1 [] _ _ _ o.g hP1 (by omega) (by walk_at "subs") fun S2 P2 y h2 hP2 => ?_
  have hi2 := h2.hi
  have hw := h2.g.fin (en := .give y) (.give h2.m) (fun c args z => (by cases z)) give_fine
  obtain ⟨bs, d1, d2, d3, d4⟩ := hw.O.done (nm := nm) (o.pl _ _ hpl)
  have d5 := hw.O.leads d1
  walk_at "w"
  refine sl_end (S := S2) (en := .give y) h2.g.O.now (by walk_at "subs") ?_
  have l3 : (S2.fin (.give y)).line = S2.line := rfl
  have hz := hw.z.h1
  have hf := hw.f.blks
  generalize S2.fin (.give y) = S3 at d1 d3 l3 hz hf ⊢
  walk_at "w"
  rw [d1, oB_map]
  refine conv (K := (pp, potD c P2) :: (c, potL P2) :: (cl, .lst (csV cs)) :: R) (by walk_at "subs") (q bs P2 hP2 ⟨d2, by omega, d4, fun b hb => hf b (by rw [d1]; exact List.mem_map.mpr ⟨b, hb, rfl⟩), d5⟩)
inductive FnsOk (T : Sg) : List Fun → List (PySem.Str × Nat) → Prop
  | nil : FnsOk T [] []
  | cons {c : PySem.Str × Nat} {cs : List (PySem.Str × Nat)} {gs : List Fun} {bs : List Block} (h : FnOk T c.1 (numsK c.2) bs) (t : FnsOk T gs cs) : FnsOk T (⟨c.1, .num, bs⟩ :: gs) (c :: cs)
theorem FnsOk.snoc {T : Sg} {c : PySem.Str × Nat} {bs : List Block} (h : FnOk T c.1 (numsK c.2) bs) : ∀ {gs : List Fun} {cs : List (PySem.Str × Nat)}, FnsOk T gs cs → FnsOk T (gs ++ [⟨c.1, .num, bs⟩]) (cs ++ [c])
  | _, _, .nil => .cons h .nil
  | _, _, .cons a t => .cons a (FnsOk.snoc h t)
theorem FnsOk.names {T : Sg} : ∀ {gs : List Fun} {cs : List (PySem.Str × Nat)}, FnsOk T gs cs → gs.map (·.name) = cs.map (·.1)
  | _, _, .nil => rfl
  | _, _, .cons a t => by rw [List.map_cons, List.map_cons, t.names]
theorem FnsOk.of {T : Sg} : ∀ {gs : List Fun} {cs : List (PySem.Str × Nat)}, FnsOk T gs cs → ∀ c ∈ cs, ∃ bs, ⟨c.1, .num, bs⟩ ∈ gs ∧ FnOk T c.1 (numsK c.2) bs
  | _, _, .nil, c, h => by cases h
  | _, _, .cons a t, c, h => by
    rcases List.mem_cons.mp h with rfl | h
    · exact ⟨_, by simp, a⟩
    · obtain ⟨bs, h1, h2⟩ := t.of c h
      exact ⟨bs, by simp [h1], h2⟩
theorem FnsOk.at {T : Sg} : ∀ {gs : List Fun} {cs : List (PySem.Str × Nat)}, FnsOk T gs cs → ∀ g ∈ gs, ∃ c ∈ cs, g.name = c.1 ∧ g.kd = .num ∧ FnOk T c.1 (numsK c.2) g.blocks
  | _, _, .nil, g, h => by cases h
  | _, _, .cons a t, g, h => by
    rcases List.mem_cons.mp h with rfl | h
    · exact ⟨_, by simp, rfl, rfl, a⟩
    · obtain ⟨c, h1, h2⟩ := t.at g h
      exact ⟨c, by simp [h1], h2⟩
theorem FnOk.ne {T : Sg} {nm : PySem.Str} {ks : List Kd} {bs : List Block} (h : FnOk T nm ks bs) : bs ≠ [] := fun z => by
  obtain ⟨pl, hb, rg, hp0⟩ := h.ty.ex
  obtain ⟨k0, hk0, _⟩ := hb _ _ hp0
  rw [z] at hk0; cases hk0
def sgOf (cs : List (PySem.Str × Nat)) : Sg := ⟨cs.map fun c => (c.1, numsK c.2, .num), recsL⟩
/-- a middle that is whole, and plain data -/
structure WholeF (m : Mid) (i : Nat) : Prop where
  w : Whole m 600 14 i
  f : Fine 10 m.v
  r : m.recs = recsL
theorem whole_okW {cs : List (PySem.Str × Nat)} {mm : Nat} {gs gs' : List Fun} (hF : FnsOk (sgOf (("main", mm) :: cs)) gs (("main", mm) :: cs)) (nd : ((("main" : PySem.Str), mm) :: cs |>.map (·.1)).Nodup) (hn : ∀ c ∈ cs, PySem.PyData.strOk c.1 = true) (hl : cs.length ≤ 10) (hp : gs'.Perm gs) : WholeF ⟨recsL, gs'⟩ mm := by
  have nd' : (gs'.map (·.name)).Nodup := by
    rw [(hp.map _).nodup_iff, hF.names]; exact nd
  have all : ∀ g ∈ gs', ∃ c ∈ (("main" : PySem.Str), mm) :: cs, g.name = c.1 ∧ g.kd = .num ∧ FnOk (sgOf (("main", mm) :: cs)) c.1 (numsK c.2) g.blocks := fun g hg => hF.at g (hp.mem_iff.mp hg)
  have fd : ∀ c ∈ (("main" : PySem.Str), mm) :: cs, ∃ bs, (gs'.find? fun h => decide (h.name = c.1)) = some ⟨c.1, .num, bs⟩ ∧ FnOk (sgOf (("main", mm) :: cs)) c.1 (numsK c.2) bs := fun c hc => by
    obtain ⟨bs, h1, h2⟩ := hF.of c hc
    exact ⟨bs, find_name (g := ⟨c.1, .num, bs⟩) nd' (hp.mem_iff.mpr h1), h2⟩
  have hlen : gs'.length ≤ 11 := by
    have h1 := congrArg List.length hF.names
    rw [List.length_map, List.length_map, List.length_cons] at h1
    rw [hp.length_eq, h1]; omega
  obtain ⟨b0, hb0, hf0⟩ := fd ("main", mm) (by simp)
  refine ⟨⟨⟨sgOf (("main", mm) :: cs), ⟨"main", .num, b0⟩, ⟨fun f ps k hm => ?_, fun g hg => ?_⟩, fun r ks ks' hr hr' => ?_, hb0, rfl, hf0.ty⟩, ⟨by decide, fun g hg => ?_, fun g hg k hk => ?_, fun g hg k hk r hr => ?_, fun g hg k hk b args e => ?_⟩, ?_⟩, ?_, rfl⟩
  · obtain ⟨c, hc, e⟩ := List.mem_map.mp (show (f, ps, k) ∈ List.map _ _ from hm)
    cases e
    obtain ⟨bs, h1, h2⟩ := fd c hc
    exact ⟨_, h1, rfl, h2.ty⟩
  · obtain ⟨c, _, _, _, h⟩ := all g hg
    exact h.sz
  · have hr : (r, ks) ∈ recsL := hr
    have hr' : (r, ks') ∈ recsL := hr'
    simp only [recsL, List.mem_cons, List.not_mem_nil, or_false, Prod.mk.injEq] at hr hr'
    rw [hr.2, hr'.2]
  · obtain ⟨c, _, _, _, h⟩ := all g hg
    exact h.ne
  · obtain ⟨c, _, _, _, h⟩ := all g hg
    exact (h.bl k hk).par
  · obtain ⟨c, _, _, _, h⟩ := all g hg
    exact Nat.le_trans ((h.bl k hk).row r hr) (by decide)
  · obtain ⟨c, _, _, _, h⟩ := all g hg
    exact Nat.le_trans ((h.bl k hk).jmp b args e) (by decide)
  · show gs'.length ≤ 1000
    omega
  · refine fine_tup fun x hx => ?_
    simp only [List.mem_cons, List.not_mem_nil, or_false] at hx
    rcases hx with rfl | rfl
    · show Fine 9 recsV
      simp only [Fine, List.mem_cons, List.not_mem_nil, or_false, forall_eq_or_imp, forall_eq, Kd.v]
      decide +kernel
    · refine fine_tup fun x hx => ?_
      obtain ⟨g, hg, rfl⟩ := List.mem_map.mp hx
      obtain ⟨c, hc, h1, h2, h⟩ := all g hg
      refine fine_tup fun x hx => ?_
      simp only [List.mem_cons, List.not_mem_nil, or_false] at hx
      rcases hx with rfl | rfl | rfl
      · show PySem.PyData.strOk g.name = true
        rw [h1]
        rcases List.mem_cons.mp hc with rfl | hc
        · show PySem.PyData.strOk "main" = true
          decide +kernel
        · exact hn c hc
      · rw [h2]
        exact Ks.num.fine.le (by decide)
      · refine fine_tup fun x hx => ?_
        obtain ⟨b, hb, rfl⟩ := List.mem_map.mp hx
        exact h.fine b hb
end
abbrev natsV (g : List Nat) : List Val := g.map fun (k : Nat) => Val.int k
def zipH : List Nat → List (List Nat) → HL
  | l :: ls, g :: gs => (l, .lst (natsV g)) :: zipH ls gs
  | _, _ => []
theorem zipH_snoc : ∀ {ls : List Nat} {gs : List (List Nat)} {l : Nat} {g : List Nat}, ls.length = gs.length → zipH (ls ++ [l]) (gs ++ [g]) = zipH ls gs ++ [(l, .lst (natsV g))]
  | [], [], l, g, _ => rfl
  | a :: ls, b :: gs, l, g, h => by
    rw [List.cons_append, List.cons_append, zipH, zipH, zipH_snoc (by simpa using h)]; rfl
theorem natsV_map (g : List Nat) : natsV g = (g.map fun (k : Nat) => (k : Int)).map Val.int := by rw [List.map_map]; rfl
theorem perm_move {a b : Nat × Ob} {Z R : HL} : (a :: b :: (Z ++ R)).Perm (b :: ((Z ++ [a]) ++ R)) := by
  refine (List.Perm.swap b a _).trans (.cons b ?_)
  rw [List.append_assoc]
  exact List.perm_middle.symm
theorem sub_memH {x : Nat × Ob} {L : HL} (h : x ∈ L) : ∃ R', CL.Sub L [x] R' := by
  obtain ⟨s, t, rfl⟩ := List.append_of_mem h
  exact ⟨s ++ t, List.perm_middle⟩
section
variable {B H R R' : HL} {d : Nat} {Q : Val → HL → Prop}
theorem sp_ends {e : End} (q : ∀ l, Q (.ref l) ((l, .lst (natsV e.to)) :: H)) : WP B (callN G fuel (d + 1) f_ends_leads [e.v]) H Q := by
  cases e with
  | jump b args =>
    walk_at "in"
    walk_at "w"
    exact conv0 (q _)
  | branch x b c =>
    walk_at "in"
    walk_at "w"
    refine x_sset (is := [(b : Int), (c : Int)]) rfl (by simp) fun l => ?_
    have := q l
    rw [show natsV (End.branch x b c).to = (((uniqI [(b : Int), (c : Int)]).mergeSort (fun i j => decide (i ≤ j))).map Val.int) by rw [sset_two, natsV_map]; rfl] at this
    exact conv0 this
  | give x =>
    walk_at "in"
    walk_at "w"
    exact conv0 (q _)
  | fail w l =>
    walk_at "in"
    walk_at "w"
    exact conv0 (q _)
theorem sp_leadsL {D : Nat} {s0 : Option Val} (q : ∀ ls gs, ls.length = gs.length → gs = all.map (fun k => k.en.to) → Q (.ref D) ((D, .lst (ls.map Val.ref)) :: (zipH ls gs ++ H))) (hall : all.length ≤ 10000) : ∀ (todo did : List Block) (ls : List Nat) (s1 : Option Val), all = did ++ todo → ls.length = did.length →
    WL B (cxN G fuel (d + 1)) (.one 1) .yes (.call f_ends_leads (.cons (.sub (.v 1) (.int 2)) .nil)) [s0, s1] D [] (todo.map Block.v) ((D, .lst (ls.map Val.ref)) :: (zipH ls (did.map fun k => k.en.to) ++ H)) Q
  | [], did, ls, s1, e, hl => by
    rw [List.append_nil] at e; subst e
    exact lc_nil sees_nil (q ls _ (by rw [List.length_map]; exact hl) rfl)
  | k :: todo, did, ls, s1, e, hl => by
    have hlen : all.length = did.length + (todo.length + 1) := by rw [e]; simp
    rw [List.map_cons]
    refine lc_cons sees_nil rfl ?_
    walk_at "w"
    refine sp_ends fun l => ?_
    refine ⟨ls.map .ref, _, by walk_at "upd", by rw [List.length_map]; omega, ?_⟩
    rw [show ls.map Val.ref ++ [.ref l] = (ls ++ [l]).map Val.ref by simp]
    have := sp_leadsL (s0 := s0) q hall todo (did ++ [k]) (ls ++ [l]) s1 (by rw [e]; simp) (by simp [hl])
    rw [show (did ++ [k]).map (fun k => k.en.to) = did.map (fun k => k.en.to) ++ [k.en.to] by simp, zipH_snoc (by rw [List.length_map]; exact hl)] at this
    exact wl_perm perm_move this
theorem sp_leads {f : Fun} (hb : f.blocks.length ≤ 10000) (q : ∀ D ls gs, ls.length = gs.length → gs = f.blocks.map (fun k => k.en.to) → Q (.ref D) ((D, .lst (ls.map Val.ref)) :: (zipH ls gs ++ H))) : WP B (callN G fuel (d + 2) f_leads [f.v]) H Q := by
  walk_at "in"
  walk_at "w"
  rename_i D
  exact sp_leadsL (all := f.blocks) (fun ls gs h1 h2 => conv0 (q D ls gs h1 h2)) hb f.blocks [] [] _ rfl rfl
def goalB : Ss := forB d_l_goals.body
theorem any_eq {k : Nat} : ∀ {bs : List Nat}, inFlat (.int k) (natsV bs) = some (bs.any fun b => decide (b = k)) := fun {bs} => by
  unfold inFlat
  have h1 : (natsV bs).all scalar = true := by
    rw [List.all_eq_true]
    intro v hv
    obtain ⟨b, _, rfl⟩ := List.mem_map.mp hv
    rfl
  rw [h1]
  show some ((natsV bs).any fun y => eqF y (.int k)) = _
  congr 1
  rw [List.any_map]
  congr 1
  funext b
  show ((b : Int) == (k : Int)) = _
  by_cases h : b = k
  · subst h; simp
  · have : ¬ (b : Int) = (k : Int) := by omega
    simp [h, this]
theorem natsV_filter {p : Nat → Bool} : ∀ l : List Nat, (natsV l).filterMap (fun v => match v with | .int i => if p i.toNat then some (.int i) else none | _ => none) = natsV (l.filter p)
  | [] => rfl
  | a :: r => by
    show (Val.int (a : Int) :: natsV r).filterMap _ = _
    rw [List.filterMap_cons, natsV_filter r]
    by_cases h : p a = true
    · rw [List.filter_cons_of_pos h]
      simp [h]
    · rw [List.filter_cons_of_neg h]
      simp [h]
/-- [at for at in range(n) if at in some] -/
theorem sl_inRange {n D sl : Nat} {bs : List Nat} {s0 s1 s2 s3 s4 s6 : Option Val} {R1 : HL} (hn : n ≤ 10000) (hs : Sub H [(sl, .lst (natsV bs))] R1) (q : Q (.ref D) ((D, .lst (natsV ((isRange 0 n).filter fun k => bs.any fun b => decide (b = k)))) :: H)) :
    WL B (cxN G fuel d) (.one 6) (.of (.cmp .has (.v 6) (.v 5))) (.v 6) [s0, s1, s2, s3, s4, some (.ref sl), s6] D [] (rangeL 0 n) ((D, .lst []) :: H) Q := by
  rw [show rangeL 0 n = natsV (isRange 0 n) from rangeL_nat n 0]
  refine lc_pure (fun v => match v with | .int i => if (bs.any fun b => decide (b = i.toNat)) then some (.int i) else none | _ => none) H _ [] (fun v hv => ?_) sees_nil ?_ ?_
  · obtain ⟨k, hk, rfl⟩ := List.mem_map.mp hv
    refine ⟨_, rfl, fun zs => ?_⟩
    walk_at "w"
    refine c_inl (sub_cons hs) any_eq ?_
    refine t_bool ⟨rfl, fun hb => ?_, fun hb => ?_⟩
    · walk_at "w"
      simp [hb]
    · simp [hb]
  · have : (isRange 0 n).length = n := by
      have h1 := congrArg List.length (rangeL_nat n 0)
      rw [List.length_map] at h1
      rw [← h1]
      clear hs q h1
      have : ∀ (n : Nat) (lo : Int), (rangeL lo n).length = n := fun n => by
        induction n with
        | zero => intro lo; rfl
        | succ n ih => intro lo; rw [rangeL, List.length_cons, ih]
      exact this n _
    simp [this]; omega
  · rw [List.nil_append, natsV_filter (p := fun k => bs.any fun b => decide (b = k))]
    exact q
theorem sl_goalsL {f : Fun} {F : Nat} {N : Env → HL → Prop} {T' : Val → HL → Prop} (hf : f.blocks.length ≤ 10000) (hL : LeadsOk f.blocks) (q : ∀ ls gs s, ls.length = gs.length → gs = f.blocks.map (fun k => k.en.to) → ∀ K X, Sub K ((F, .lst (ls.map Val.ref)) :: (zipH ls gs ++ H)) X → N (some f.v :: some (.ref F) :: s) K) : ∀ (todo did : List Block) (ls : List Nat) (s2 s3 s4 s5 s6 : Option Val) (K X : HL), f.blocks = did ++ todo → ls.length = did.length → Sub K ((F, .lst (ls.map Val.ref)) :: (zipH ls (did.map fun k => k.en.to) ++ H)) X →
    WF B (cxN G fuel d) (.many [2, 3, 4]) goalB [] (todo.map Block.v) [some f.v, some (.ref F), s2, s3, s4, s5, s6] K N T'
  | [], did, ls, s2, s3, s4, s5, s6, K, X, e, hl, hs => by
    rw [List.append_nil] at e
    rw [← e] at hs
    exact for_nil sees_nil (q ls _ _ (by rw [List.length_map, e]; exact hl) rfl K X hs)
  | k :: todo, did, ls, s2, s3, s4, s5, s6, K, X, e, hl, hs => by
    have hlen : f.blocks.length = did.length + (todo.length + 1) := by rw [e]; simp
    have hk : ∀ b ∈ k.en.raw, b < f.blocks.length := hL k (by rw [e]; simp)
    rw [List.map_cons]
    refine for_cons sees_nil rfl ?_
    refine wss_sub hs ?_
    have fin : ∀ (sl : Nat) (X : HL) (s : Option Val), WSs B (cxN G fuel d) (dropS 3 goalB) [some f.v, some (.ref F), some (.tup (k.params.map parV)), some (.tup (k.rows.map Row.v)), some k.en.v, some (.ref sl), s] ((sl, .lst (natsV k.en.raw)) :: (X ++ ((F, .lst (ls.map Val.ref)) :: (zipH ls (did.map fun k => k.en.to) ++ H)))) (fun s2 H2 => WF B (cxN G fuel d) (.many [2, 3, 4]) goalB [] (todo.map Block.v) s2 H2 N T') T' N (fun s2 H2 => WF B (cxN G fuel d) (.many [2, 3, 4]) goalB [] (todo.map Block.v) s2 H2 N T') := by
      intro sl X s
      unfold goalB d_l_goals
      simp only [forB, dropS]
      have hb3 : (f.blocks.map Block.v).length ≤ 10000 := by rw [List.length_map]; exact hf
      walk_at "w"
      rw [Int.toNat_natCast, List.length_map]
      rename_i D
      refine sl_inRange (bs := k.en.raw) hf sub_one ?_
      rw [End.to_range hk]
      refine e_nil ?_
      refine m_app (xs := ls.map Val.ref) (.there (.there (.left .here))) (by rw [List.length_map]; omega) ?_
      walk_at "w"
      rw [show ls.map Val.ref ++ [.ref D] = (ls ++ [D]).map Val.ref by simp]
      refine sl_goalsL hf hL q todo (did ++ [k]) (ls ++ [D]) _ _ _ _ _ _ ((sl, .lst (natsV k.en.raw)) :: X) (by rw [e]; simp) (by simp [hl]) ?_
      rw [show (did ++ [k]).map (fun k => k.en.to) = did.map (fun k => k.en.to) ++ [k.en.to] by simp, zipH_snoc (by rw [List.length_map]; exact hl)]
      show List.Perm _ _
      refine List.Perm.trans ?_ List.perm_append_comm
      rw [List.cons_append]
      refine (List.Perm.swap _ _ _).trans (.cons _ ?_)
      refine List.Perm.trans ?_ ((List.Perm.refl X).append perm_move)
      exact List.perm_middle.symm
    obtain ⟨params, rows, en⟩ := k
    show WSs B _ (.cons _ (.cons _ (.cons _ (dropS 3 goalB)))) _ _ _ _ _ _
    cases en with
    | jump b args =>
      walk_at "w"
      rename_i s0 s1
      exact fin s1 [_] _
    | branch x b c =>
      walk_at "w"
      rename_i s0 s1
      exact fin s1 [_] _
    | give x =>
      walk_at "w"
      rename_i s0
      exact fin s0 [] _
    | fail w l =>
      walk_at "w"
      rename_i s0
      exact fin s0 [] _
theorem sl_goals {f : Fun} (hb : f.blocks.length ≤ 10000) (hL : LeadsOk f.blocks) (q : ∀ F ls gs, ls.length = gs.length → gs = f.blocks.map (fun k => k.en.to) → Q (.ref F) ((F, .lst (ls.map Val.ref)) :: (zipH ls gs ++ H))) : WP B (callN G fuel (d + 1) f_l_goals [f.v]) H Q := by
  walk_at "in"
  show WSs B _ (.cons _ (.cons (.for _ _ goalB) _)) _ _ _ _ _ _
  walk_at "w"
  rename_i F
  refine sl_goalsL hb hL (fun ls gs s h1 h2 K X hs => ?_) f.blocks [] [] _ _ _ _ _ _ [] rfl rfl sub_all
  walk_at "w"
  exact conv hs (q F ls gs h1 h2)
end
def alikeB : Ss := forB d_l_alike.body
section
variable {B H R R' : HL} {d : Nat} {Q : Val → HL → Prop}
theorem bools_all {b : Bool} : ∀ (xs : List Val), bools (xs.filterMap fun _ => some (Val.bl b)) = some (xs.map fun _ => b)
  | [] => rfl
  | v :: r => by
    rw [List.filterMap_cons, List.map_cons]
    show (match bools (r.filterMap fun _ => some (Val.bl b)) with | some bs => some (b :: bs) | none => none) = _
    rw [bools_all r]
theorem sl_alikeL {w : Watch} {s0 s1 : Option Val} {N : Env → HL → Prop} {T' : Val → HL → Prop} (hw : Sees B H w) (q : ∀ s, N s H) : ∀ (l2 l2' : List Nat) (g2 : List (List Nat)) (s2 s3 s4 : Option Val), l2.length = g2.length → l2'.length = g2.length → (∀ x ∈ zipH l2 g2, x ∈ H) → (∀ x ∈ zipH l2' g2, x ∈ H) → (∀ g ∈ g2, g.length ≤ 1000) →
    WF B (cxN G fuel d) (.many [2, 3]) alikeB w (zipL (l2.map Val.ref) (l2'.map Val.ref)) [s0, s1, s2, s3, s4] H N T'
  | [], l2', g2, s2, s3, s4, _, _, _, _, _ => for_nil hw (q _)
  | _ :: _, _, [], _, _, _, h1, _, _, _, _ => by simp at h1
  | _ :: _, [], _ :: _, _, _, _, _, h2, _, _, _ => by simp at h2
  | l :: l2, l' :: l2', g :: g2, s2, s3, s4, h1, h2, h3, h4, h5 => by
    obtain ⟨R1, hs1⟩ := sub_memH (h3 (l, .lst (natsV g)) (by simp [zipH]))
    obtain ⟨R2, hs2⟩ := sub_memH (h4 (l', .lst (natsV g)) (by simp [zipH]))
    have hg := h5 g (by simp)
    rw [List.map_cons, List.map_cons, zipL]
    refine for_cons hw rfl ?_
    unfold alikeB d_l_alike
    simp only [forB]
    walk_at "w"
    refine c_ned (k := true) (fun st F s => ?_) ?_
    · have a1 := sub_at hs1 s
      have a2 := sub_at hs2 s
      rw [natsV_map] at a1 a2
      exact eq_lists a1 a2
    walk_at "w"
    rename_i D
    refine lc_pure (fun _ => some (.bl false)) H (natsV g) [] (fun v hv => ?_) (sees_sub hs1 sees_nil) (by simp; omega) ?_
    · obtain ⟨k, hk, rfl⟩ := List.mem_map.mp hv
      refine ⟨_, rfl, fun zs => ?_⟩
      walk_at "w"
      rfl
    rw [List.nil_append]
    walk_at "w"
    refine f_any sub_one (bools_all _) ?_
    have : ((natsV g).map fun _ => false).any id = false := by
      rw [List.any_eq_false]
      intro b hb
      obtain ⟨_, _, rfl⟩ := List.mem_map.mp hb
      simp
    rw [this]
    walk_at "w"
    refine wf_sub (K := H) (X := [_]) (sub_cons sub_all) ?_
    exact sl_alikeL hw q l2 l2' g2 _ _ _ (by simpa using h1) (by simpa using h2) (fun x hx => h3 x (List.mem_cons_of_mem _ hx)) (fun x hx => h4 x (List.mem_cons_of_mem _ hx)) (fun g hg => h5 g (List.mem_cons_of_mem _ hg))
theorem sl_alike {D F : Nat} {ls ls' : List Nat} {gs : List (List Nat)} (hD : (D, .lst (ls.map Val.ref)) ∈ H) (hF : (F, .lst (ls'.map Val.ref)) ∈ H) (h1 : ls.length = gs.length) (h2 : ls'.length = gs.length) (h3 : ∀ x ∈ zipH ls gs, x ∈ H) (h4 : ∀ x ∈ zipH ls' gs, x ∈ H) (h5 : ∀ g ∈ gs, g.length ≤ 1000) (q : Q (.bl true) H) :
    WP B (callN G fuel (d + 1) f_l_alike [.ref D, .ref F]) H Q := by
  obtain ⟨R1, hs1⟩ := sub_memH hD
  obtain ⟨R2, hs2⟩ := sub_memH hF
  walk_at "in"
  show WSs B _ (.cons _ (.cons (.for _ _ alikeB) _)) _ _ _ _ _ _
  walk_at "w"
  rw [List.length_map, List.length_map]
  refine br_ndec (fun z => absurd (by rw [h1, h2]) z) fun _ => ?_
  walk_at "w"
  refine ⟨_, _, its_lst hs1, its_lst hs2, ?_⟩
  refine sl_alikeL (sees_sub hs1 (sees_sub hs2 sees_nil)) (fun s => ?_) ls ls' gs _ _ _ h1 h2 h3 h4 h5
  walk_at "w"
  exact conv0 q
def rightB : Ss := forB d_l_right.body
def mutB : Ss := forB rightB
theorem sl_mut {D : Nat} {ls : List Nat} {K : HL} {s0 s1 s2 s3 : Option Val} {N : Env → HL → Prop} {T' : Val → HL → Prop} (q : ∀ s4 Z, N [s0, s1, s2, s3, s4] ((D, .lst (ls.map Val.ref)) :: (Z ++ K))) : ∀ (l2 : List Nat) (g2 : List (List Nat)) (Z : HL) (s4 : Option Val), l2.length = g2.length → (∀ g ∈ g2, g.length ≤ 1000) →
    WF B (cxN G fuel d) (.one 4) mutB [(D, ls.map Val.ref)] (l2.map Val.ref) [s0, s1, s2, s3, s4] ((D, .lst (ls.map Val.ref)) :: (Z ++ (zipH l2 g2 ++ K))) N T'
  | [], g2, Z, s4, h, _ => by
    have : g2 = [] := by cases g2 with | nil => rfl | cons a b => simp at h
    subst this
    exact for_nil (sees_sub sub_one sees_nil) (q s4 Z)
  | _ :: _, [], _, _, h, _ => by simp at h
  | l :: l2, g :: g2, Z, s4, h, h5 => by
    have hg := h5 g (by simp)
    rw [List.map_cons]
    refine for_cons (sees_sub sub_one sees_nil) rfl ?_
    unfold mutB rightB d_l_right
    simp only [forB]
    rw [zipH, List.cons_append]
    walk_at "w"
    refine m_app (xs := natsV g) (.there (.left .here)) (by simp; omega) ?_
    walk_at "w"
    have := sl_mut (D := D) (ls := ls) (K := K) (T' := T') q l2 g2 (Z ++ [(l, .lst (natsV g ++ [.int 0]))]) (some (.ref l)) (by simpa using h) (fun g hg => h5 g (List.mem_cons_of_mem _ hg))
    rw [List.append_assoc] at this
    exact this
theorem sl_turn {f : Fun} {F : Nat} {ls' : List Nat} {gs : List (List Nat)} {s2 s3 s4 : Option Val} {N K C : Env → HL → Prop} {T : Val → HL → Prop} (hb : f.blocks.length ≤ 10000) (hg : gs = f.blocks.map fun k => k.en.to) (h2 : ls'.length = gs.length) (hF : (F, .lst (ls'.map Val.ref)) ∈ H) (h4 : ∀ x ∈ zipH ls' gs, x ∈ H) (h5 : ∀ g ∈ gs, g.length ≤ 1000)
    (q : ∀ s3 s4 X, N [some f.v, some (.ref F), s2, s3, s4] (X ++ H)) :
    WSs B (cxN G fuel (d + 2)) rightB [some f.v, some (.ref F), s2, s3, s4] H N T K C := by
  show WSs B _ (.cons _ (.cons _ (.cons (.for _ _ mutB) _))) _ _ _ _ _ _
  walk_at "w"
  refine sp_leads hb fun D ls gs2 k1 k2 => ?_
  rw [← hg] at k2
  subst k2
  walk_at "w"
  refine sl_alike (gs := gs2) (ls := ls) (ls' := ls') (by simp) (by simp [hF]) k1 h2 (fun x hx => by simp [hx]) (fun x hx => by simp [h4 x hx]) h5 ?_
  walk_at "w"
  refine sl_mut (ls := ls) (K := H) (fun s4 Z => ?_) ls gs2 [] _ k1 h5
  walk_at "w"
  rename_i e0
  have hlen : ls.length ≤ 10000 := by rw [k1, hg, List.length_map]; exact hb
  refine m_app (by walk_at "upd") (by rw [List.length_map]; omega) ?_
  walk_at "w"
  exact q _ _ ((e0, .lst []) :: (D, _) :: Z)
theorem sl_right {f : Fun} (hb : f.blocks.length ≤ 10000) (hL : LeadsOk f.blocks) (q : Q (.bl true) H) : WP B (callN G fuel (d + 3) f_l_right [f.v]) H Q := by
  have h5 : ∀ g ∈ f.blocks.map (fun k => k.en.to), g.length ≤ 1000 := fun g hg => by
    obtain ⟨k, _, rfl⟩ := List.mem_map.mp hg
    cases k.en with
    | jump b args => simp [End.to]
    | branch x b c =>
      show (if b = c then [b] else if b < c then [b, c] else [c, b]).length ≤ 1000
      by_cases h1 : b = c
      · rw [if_pos h1]; simp
      · rw [if_neg h1]
        by_cases h2 : b < c
        · rw [if_pos h2]; simp
        · rw [if_neg h2]; simp
    | give x => simp [End.to]
    | fail w l => simp [End.to]
  walk_at "in"
  show WSs B _ (.cons _ (.cons (.for _ _ rightB) _)) _ _ _ _ _ _
  walk_at "w"
  refine sl_goals (d := d + 1) hb hL fun F ls' gs k1 k2 => ?_
  rw [← k2] at h5
  walk_at "w"
  refine for_cons sees_nil rfl (sl_turn hb k2 k1 (by simp) (fun x hx => by simp [hx]) h5 fun s3 s4 X => ?_)
  refine for_cons sees_nil rfl (sl_turn hb k2 k1 (by simp) (fun x hx => by simp [hx]) h5 fun s3 s4 X2 => ?_)
  refine for_nil sees_nil ?_
  walk_at "w"
  refine conv (K := H) (X := X2 ++ (X ++ ((F, .lst (ls'.map Val.ref)) :: zipH ls' gs))) ?_ q
  show List.Perm _ _
  refine List.Perm.trans ?_ List.perm_append_comm
  simp only [List.append_assoc, List.cons_append]
  exact .refl _
end
inductive RE where
  | give (x : Int) | branch (x : Int) (b c : Nat) | jump (b : Nat)
@[reducible] def RE.v : RE → Val
  | .give x => .tup [.str "give", .int x]
  | .branch x b c => .tup [.str "branch", .tup [.int x], .int (b : Nat), .int (c : Nat)]
  | .jump b => .tup [.str "jump", .int (b : Nat), .tup []]
def RE.gs : RE → List Nat
  | .give _ => []
  | .branch _ b c => [b, c]
  | .jump b => [b]
def grRows (k : Nat) : List Row := [⟨none, none, .tick, [], .no, k⟩, ⟨some (2 * (k : Int)), some .num, .number, [], .num k, k⟩, ⟨some (2 * (k : Int) + 1), some .tru, .truth, [], .tru (decide ((k : Int).fmod 2 = 0)), k⟩]
abbrev blkV (p : Nat × RE) : Val := .tup [.tup [], .tup ((grRows p.1).map Row.v), p.2.v]
abbrev dictM (ms : List Nat) : Ob := .dK (ms.map fun (k : Nat) => (.inl (k : Int), Val.bl true))
theorem look_M (g : Nat) : ∀ ms : List Nat, (look (ms.map fun (k : Nat) => ((.inl (k : Int) : L2.Key), Val.bl true)) (.inl (g : Int))).isSome = decide (g ∈ ms)
  | [] => by simp [look]
  | m :: ms => by
    have ih := look_M g ms
    unfold look at ih ⊢
    rw [List.map_cons]
    by_cases h : m = g
    · subst h
      rw [List.find?_cons_of_pos (by simp)]
      simp
    · rw [List.find?_cons_of_neg (by simp; omega), ih]
      have : ¬ g = m := fun z => h z.symm
      simp [this]
theorem put_M {g : Nat} {ms : List Nat} (h : g ∉ ms) : put (ms.map fun (k : Nat) => ((.inl (k : Int) : L2.Key), Val.bl true)) (.inl (g : Int)) (.bl true) = (ms ++ [g]).map fun (k : Nat) => ((.inl (k : Int) : L2.Key), Val.bl true) := by
  unfold put
  rw [if_neg]
  · rw [List.map_append]; rfl
  · intro z
    rw [List.any_eq_true] at z
    obtain ⟨kv, hk, he⟩ := z
    obtain ⟨k, hk2, rfl⟩ := List.mem_map.mp hk
    have he := of_decide_eq_true he
    simp only [Sum.inl.injEq] at he
    have : k = g := by omega
    exact h (this ▸ hk2)
theorem keys_M : ∀ ms : List Nat, keysI (ms.map fun (k : Nat) => ((.inl (k : Int) : L2.Key), Val.bl true)) = some (ms.map fun (k : Nat) => (k : Int))
  | [] => rfl
  | m :: ms => by rw [List.map_cons, keysI, keys_M ms]; rfl
/-- blocks met, blocks that wait -/
structure Met (xs : List (Nat × RE)) (ms ws : List Nat) : Prop where
  nd : ms.Nodup
  lt : ∀ k ∈ ms, k < xs.length
  z : 0 ∈ ms
  wt : ∀ k ∈ ws, k ∈ ms
  cl : ∀ k ∈ ms, k ∈ ws ∨ ∀ p, xs[k]? = some p → ∀ b ∈ p.2.gs, b ∈ ms
theorem nodup_len : ∀ {n : Nat} {ms : List Nat}, ms.Nodup → (∀ k ∈ ms, k < n) → ms.length ≤ n
  | 0, ms, nd, lt => by
    cases ms with
    | nil => simp
    | cons a r => have := lt a (by simp); omega
  | n + 1, ms, nd, lt => by
    by_cases h : n ∈ ms
    · have h1 : (ms.erase n).length ≤ n := nodup_len (nd.erase n) fun k hk => by
        have h2 := (List.Nodup.mem_erase_iff nd).mp hk
        have := lt k h2.2
        have := h2.1
        omega
      have h3 := List.length_erase_of_mem h
      omega
    · have := nodup_len (n := n) nd fun k hk => by
        have := lt k hk
        have : k ≠ n := fun z => h (z ▸ hk)
        omega
      omega
section
variable {B H R R' : HL} {d : Nat} {Q : Val → HL → Prop}
def keptB : Ss := match d_l_kept.body with
  | .cons _ (.cons _ (.cons (.whl _ b) _)) => b
  | _ => .nil
def keptF : Ss := forB keptB
/-- the goals of a block -/
theorem sl_keptF {M W : Nat} {n : Nat} {m0 w0 all : List Nat} {s0 s3 : Option Val} {N : Env → HL → Prop} {T' : Val → HL → Prop} (hn : n ≤ 1000) (hw0 : w0.length ≤ 1000)
    (q : ∀ ms ws s4 K X, ms.Nodup → (∀ k ∈ ms, k < n) → (∀ k ∈ m0, k ∈ ms) → (∀ k ∈ ws, k ∈ ms) → (∀ k ∈ ms, k ∈ m0 ∨ k ∈ ws) → (∀ k ∈ w0, k ∈ ws) → (∀ g ∈ all, g ∈ ms) → 2 * m0.length + ws.length ≤ 2 * ms.length + w0.length → m0.length ≤ ms.length → Sub K ((M, dictM ms) :: (W, .lst (natsV ws)) :: R) X → ws.length + m0.length ≤ w0.length + ms.length → N [s0, some (.ref M), some (.ref W), s3, s4] K) :
    ∀ (todo did ms ws : List Nat) (s4 : Option Val) (K X : HL), all = did ++ todo → (∀ g ∈ todo, g < n) → ms.Nodup → (∀ k ∈ ms, k < n) → (∀ k ∈ m0, k ∈ ms) → (∀ k ∈ ws, k ∈ ms) → (∀ k ∈ ms, k ∈ m0 ∨ k ∈ ws) → (∀ k ∈ w0, k ∈ ws) → (∀ g ∈ did, g ∈ ms) → m0.length ≤ ms.length → ws.length + m0.length = w0.length + ms.length → Sub K ((M, dictM ms) :: (W, .lst (natsV ws)) :: R) X →
    WF B (cxN G fuel d) (.one 4) keptF [] (natsV todo) [s0, some (.ref M), some (.ref W), s3, s4] K N T'
  | [], did, ms, ws, s4, K, X, e, ht, nd, lt, h1, h2, h3, h4, h5, h6, h7, hs => by
    rw [List.append_nil] at e; subst e
    exact for_nil sees_nil (q ms ws s4 K X nd lt h1 h2 h3 h4 h5 (by omega) h6 hs (by omega))
  | g :: todo, did, ms, ws, s4, K, X, e, ht, nd, lt, h1, h2, h3, h4, h5, h6, h7, hs => by
    have hlen := nodup_len nd lt
    rw [show natsV (g :: todo) = Val.int (g : Nat) :: natsV todo from rfl]
    refine for_cons sees_nil rfl ?_
    refine wss_sub hs ?_
    unfold keptF keptB d_l_kept
    simp only [forB]
    walk_at "w"
    refine c_nind (k := .inl (g : Int)) (by walk_at "sub") rfl ?_
    rw [look_M]
    refine t_bool ?_
    refine br_ndec (fun hg => ?_) fun hg => ?_
    · walk_at "w"
      refine y_dK (k := .inl (g : Int)) .here rfl (by simp; omega) ?_
      rw [put_M hg]
      walk_at "w"
      refine m_app (by walk_at "upd") (by simp; omega) ?_
      walk_at "w"
      rw [show natsV ws ++ [Val.int (g : Nat)] = natsV (ws ++ [g]) by simp]
      refine sl_keptF hn hw0 q todo (did ++ [g]) (ms ++ [g]) (ws ++ [g]) _ _ [] (by rw [e]; simp) (fun k hk => ht k (by simp [hk])) ?_ ?_ ?_ ?_ ?_ ?_ ?_ (by simp; omega) (by simp; omega) sub_all
      · rw [List.nodup_append]
        refine ⟨nd, by simp, fun a ha b hb z => ?_⟩
        simp at hb
        subst hb z
        exact hg ha
      · intro k hk
        rcases List.mem_append.mp hk with hk | hk
        · exact lt k hk
        · cases List.mem_singleton.mp hk; exact ht g (by simp)
      · exact fun k hk => List.mem_append_left _ (h1 k hk)
      · intro k hk
        rcases List.mem_append.mp hk with hk | hk
        · exact List.mem_append_left _ (h2 k hk)
        · exact List.mem_append_right _ hk
      · intro k hk
        rcases List.mem_append.mp hk with hk | hk
        · rcases h3 k hk with h | h
          · exact .inl h
          · exact .inr (List.mem_append_left _ h)
        · exact .inr (List.mem_append_right _ hk)
      · exact fun k hk => List.mem_append_left _ (h4 k hk)
      · intro k hk
        rcases List.mem_append.mp hk with hk | hk
        · exact List.mem_append_left _ (h5 k hk)
        · exact List.mem_append_right _ hk
    · walk_at "w"
      refine sl_keptF hn hw0 q todo (did ++ [g]) ms ws _ _ [] (by rw [e]; simp) (fun k hk => ht k (by simp [hk])) nd lt h1 h2 h3 h4 ?_ h6 h7 sub_all
      intro k hk
      rcases List.mem_append.mp hk with hk | hk
      · exact h5 k hk
      · cases List.mem_singleton.mp hk; exact hg
structure KeptOk (xs : List (Nat × RE)) (ks : List Nat) : Prop where
  nd : ks.Nodup
  lt : ∀ k ∈ ks, k < xs.length
  z : 0 ∈ ks
  cl : ∀ k ∈ ks, ∀ p, xs[k]? = some p → ∀ b ∈ p.2.gs, b ∈ ks
  so : ks.Pairwise (· ≤ ·)
theorem sl_keptW {bl M W k : Nat} {xs : List (Nat × RE)} {p : Nat × RE} {ms ws : List Nat} {s3 s4 : Option Val} {N K' C : Env → HL → Prop} {T' : Val → HL → Prop} {R0 X0 : HL} (hn : xs.length ≤ 1000) (hws : ws.length + 1 ≤ ms.length) (hg : ∀ p ∈ xs, ∀ b ∈ p.2.gs, b < xs.length) (hbl : Sub H [(bl, .lst (xs.map blkV))] R0) (hm : Met xs ms (ws ++ [k])) (hk : xs[k]? = some p) (hp : Sub R ((M, dictM ms) :: (W, .lst (natsV (ws ++ [k]))) :: H) X0)
    (q : ∀ ms' ws' s3 s4 K X, Met xs ms' ws' → 2 * (xs.length - ms'.length) + ws'.length < 2 * (xs.length - ms.length) + (ws ++ [k]).length → ws'.length ≤ ms'.length → Sub K ((M, dictM ms') :: (W, .lst (natsV ws')) :: H) X → N [some (.ref bl), some (.ref M), some (.ref W), s3, s4] K) :
    WSs B (cxN G fuel d) keptB [some (.ref bl), some (.ref M), some (.ref W), s3, s4] R N T' K' C := by
  refine wss_sub hp ?_
  have hpm : p ∈ xs := List.mem_of_getElem? hk
  have hml := nodup_len hm.nd hm.lt
  show WSs B _ (.cons _ (.cons (.for _ _ keptF) _)) _ _ _ _ _ _
  walk_at "w"
  refine m_pop (xs := natsV (ws ++ [k])) (v := .int (k : Nat)) (.there .here) (by simp) ?_
  rw [show (natsV (ws ++ [k])).dropLast = natsV ws by simp]
  refine x_lst (v := blkV p) (by walk_at "sub") (atI_nat (by rw [List.getElem?_map, hk]; rfl)) ?_
  have fin : ∀ (s3 : Option Val) (K : HL) (X : HL), Sub K ((M, dictM ms) :: (W, .lst (natsV ws)) :: H) X → WF B (cxN G fuel d) (.one 4) keptF [] (natsV p.2.gs) [some (.ref bl), some (.ref M), some (.ref W), s3, s4] K (fun s1 H1 => WSs B (cxN G fuel d) .nil s1 H1 N T' K' C) T' := by
    intro s3 K X hs
    by_cases hkw : k ∈ ws
    · refine sl_keptF (n := xs.length) (m0 := ms) (w0 := ws) (all := p.2.gs) (by omega) (by omega) (fun ms' ws' s4 K X h1 h2 h3 h4 h5 h6 h7 h8 h9 h10 h11 => ?_) p.2.gs [] ms ws s4 K X rfl (hg p hpm) hm.nd hm.lt (fun k h => h) (fun j hj => hm.wt j (by simp [hj])) (fun k h => .inl h) (fun k h => h) (fun g h => by cases h) (Nat.le_refl _) rfl hs
      have hl := nodup_len h1 h2
      refine ss_nil (q ms' ws' _ _ K X ⟨h1, h2, h3 0 hm.z, h4, fun j hj => ?_⟩ (by simp; omega) (by omega) h10)
      rcases h5 j hj with hj | hj
      · rcases hm.cl j hj with hj | hj
        · rcases List.mem_append.mp hj with hj | hj
          · exact .inl (h6 j hj)
          · cases List.mem_singleton.mp hj
            exact .inl (h6 _ hkw)
        · exact .inr fun p hp b hb => h3 b (hj p hp b hb)
      · exact .inl hj
    · refine sl_keptF (n := xs.length) (m0 := ms) (w0 := ws) (all := p.2.gs) (by omega) (by omega) (fun ms' ws' s4 K X h1 h2 h3 h4 h5 h6 h7 h8 h9 h10 h11 => ?_) p.2.gs [] ms ws s4 K X rfl (hg p hpm) hm.nd hm.lt (fun k h => h) (fun j hj => hm.wt j (by simp [hj])) (fun k h => .inl h) (fun k h => h) (fun g h => by cases h) (Nat.le_refl _) rfl hs
      have hl := nodup_len h1 h2
      refine ss_nil (q ms' ws' _ _ K X ⟨h1, h2, h3 0 hm.z, h4, fun j hj => ?_⟩ (by simp; omega) (by omega) h10)
      rcases h5 j hj with hj | hj
      · rcases hm.cl j hj with hj | hj
        · rcases List.mem_append.mp hj with hj | hj
          · exact .inl (h6 j hj)
          · cases List.mem_singleton.mp hj
            refine .inr fun p' hp' b hb => ?_
            rw [hk] at hp'; cases hp'
            exact h7 b hb
        · exact .inr fun p hp b hb => h3 b (hj p hp b hb)
      · exact .inl hj
  obtain ⟨pk, pe⟩ := p
  cases pe with
  | give x =>
    walk_at "w"
    refine x_dK (k := .inr "give") (v := .tup (natsV [])) sub_one rfl rfl ?_
    walk_at "w"
    exact fin _ _ _ (sub_cons sub_all)
  | branch x b c =>
    walk_at "w"
    refine x_dK (k := .inr "branch") (v := .tup (natsV [b, c])) sub_one rfl rfl ?_
    walk_at "w"
    exact fin _ _ _ (sub_cons sub_all)
  | jump b =>
    walk_at "w"
    refine x_dK (k := .inr "jump") (v := .tup (natsV [b])) sub_one rfl rfl ?_
    walk_at "w"
    exact fin _ _ _ (sub_cons sub_all)
theorem sl_kept {bl : Nat} {xs : List (Nat × RE)} {R0 : HL} (h0 : 0 < xs.length) (hn : xs.length ≤ 60) (hg : ∀ p ∈ xs, ∀ b ∈ p.2.gs, b < xs.length) (hbl : Sub H [(bl, .lst (xs.map blkV))] R0) (q : ∀ l ks, KeptOk xs ks → Q (.ref l) ((l, .lst (natsV ks)) :: H)) :
    WP B (callN G fuel (d + 1) f_l_kept [.ref bl]) H Q := by
  walk_at "in"
  show WSs B _ (.cons _ (.cons _ (.cons (.whl _ keptB) _))) _ _ _ _ _ _
  walk_at "w"
  rename_i M W
  refine whl_by (fun n s K => ∃ ms ws s3 s4 X, s = [some (.ref bl), some (.ref M), some (.ref W), s3, s4] ∧ Sub K ((M, dictM ms) :: (W, .lst (natsV ws)) :: H) X ∧ Met xs ms ws ∧ ws.length ≤ ms.length ∧ n = 2 * (xs.length - ms.length) + ws.length) (fun n s K ⟨ms, ws, s3, s4, X, es, hs, hm, hw, en⟩ => ?_) fuel (2 * (xs.length - 1) + 1) _ _ (by show 2 * (xs.length - 1) + 1 < 1000000; omega) ⟨[0], [0], none, none, [], rfl, ?_, ⟨by simp, fun k hk => by cases List.mem_singleton.mp hk; exact h0, by simp, fun k hk => hk, fun k hk => .inl hk⟩, by simp, by simp⟩
  · subst es
    refine wp_less hs ?_
    walk_at "w"
    rename_i e0
    refine c_neN (ns := ws.map fun (k : Nat) => (k : Int)) (by rw [← natsV_map]; walk_at "sub") (by walk_at "sub") ?_
    refine t_bool ?_
    refine br_ndec (fun hne => ?_) fun he => ?_
    · have hne : ws ≠ [] := fun z => hne (by rw [z]; rfl)
      obtain ⟨wr, k, rfl⟩ : ∃ wr k, ws = wr ++ [k] := ⟨ws.dropLast, ws.getLast hne, (List.dropLast_concat_getLast hne).symm⟩
      have hkm : k < xs.length := hm.lt k (hm.wt k (by simp))
      refine sl_keptW (p := xs[k]) (by omega) (by simpa using hw) hg hbl hm (List.getElem?_eq_getElem hkm) (X0 := [(e0, .lst [])]) ?_ fun ms' ws' s3 s4 K X h1 h2 h3 h4 => ?_
      · walk_at "subs"
      · exact ⟨_, by rw [en]; exact h2, ms', ws', s3, s4, X, rfl, h4, h1, h3, rfl⟩
    · have he : ws = [] := by cases ws with | nil => rfl | cons a b => cases he
      subst he
      walk_at "w"
      refine f_sortedD (ks := ms.map fun (k : Nat) => (k : Int)) (by walk_at "sub") (keys_M ms) (by rw [List.length_map]; have := nodup_len hm.nd hm.lt; omega) fun l => ?_
      obtain ⟨ks, e1, e2⟩ : ∃ ks : List Nat, (ms.map fun (k : Nat) => (k : Int)).mergeSort (fun i j => decide (i ≤ j)) = ks.map (fun (k : Nat) => (k : Int)) ∧ ks.Perm ms := by
        refine ⟨ms.mergeSort (fun i j => decide (i ≤ j)), ?_, List.mergeSort_perm _ _⟩
        rw [List.map_mergeSort]
        intro a _ b _
        simp
      rw [e1, ← natsV_map]
      have hso : ks.Pairwise (· ≤ ·) := by
        have := List.pairwise_mergeSort (le := fun i j : Int => decide (i ≤ j)) (fun i j k h1 h2 => by simp at *; omega) (fun i j => by simp; omega) (ms.map fun (k : Nat) => (k : Int))
        rw [e1, List.pairwise_map] at this
        exact this.imp fun h => by simpa using h
      exact conv (by walk_at "subs") (q l ks ⟨e2.nodup_iff.mpr hm.nd, fun k hk => hm.lt k (e2.mem_iff.mp hk), e2.mem_iff.mpr hm.z, fun k hk p hp b hb => e2.mem_iff.mpr (((hm.cl k (e2.mem_iff.mp hk)).resolve_left (by simp)) p hp b hb), hso⟩)
  · show CL.Sub ((W, .lst (natsV [0])) :: (M, dictM [0]) :: H) _ []
    exact (by unfold CL.Sub; rw [List.append_nil]; exact List.Perm.swap _ _ _)
end
def idx (ks : List Nat) (b : Nat) : Nat := (ks.findIdx? fun k => decide (k = b)).getD 0
theorem idx_lt {ks : List Nat} {b : Nat} (h : b ∈ ks) : (ks.findIdx? fun k => decide (k = b)) = some (idx ks b) ∧ idx ks b < ks.length ∧ ks[idx ks b]? = some b := by
  unfold idx
  cases e : ks.findIdx? fun k => decide (k = b) with
  | none =>
    rw [List.findIdx?_eq_none_iff] at e
    have := e b h
    simp at this
  | some j =>
    rw [List.findIdx?_eq_some_iff_getElem] at e
    obtain ⟨h1, h2, _⟩ := e
    refine ⟨rfl, h1, ?_⟩
    show ks[j]? = some b
    rw [List.getElem?_eq_getElem h1, of_decide_eq_true h2]
theorem find_data {b : Nat} : ∀ ks : List Nat, ((ks.map fun (k : Nat) => (k : Int)).map PySem.PyData.int).findIdx? (fun z => PySem.PyData.eqv z (.int (b : Int))) = ks.findIdx? fun k => decide (k = b)
  | [] => rfl
  | a :: r => by
    rw [List.map_cons, List.map_cons, List.findIdx?_cons, List.findIdx?_cons, find_data r]
    have : PySem.PyData.eqv (.int (a : Int)) (.int (b : Int)) = decide (a = b) := by
      by_cases h : a = b
      · subst h; simp [PySem.PyData.eqv]
      · have : ¬ (a : Int) = (b : Int) := by omega
        simp [PySem.PyData.eqv, h, this]
    rw [this]
section
variable {B H R R' : HL} {d : Nat} {Q : Val → HL → Prop}
theorem m_index {a b : Nat} {ks : List Nat} (u : Sub H [(a, .lst (natsV ks))] R) (h : b ∈ ks) (q : Q (.int (idx ks b : Nat)) H) : WP B (bmt .index (.ref a) [.int (b : Nat)]) H Q := wp_of (fun st F s => by
  have e1 : dat st deep (.ref a) = some (.list ((ks.map fun (k : Nat) => (k : Int)).map PySem.PyData.int)) := by
    show (match st.m a with | some (.lst xs) => (allO (xs.map (dat st 69))).map PySem.PyData.list | _ => none) = _
    rw [sub_at u s]
    show (allO ((natsV ks).map (dat st 69))).map PySem.PyData.list = _
    rw [natsV_map, dat_ints st 68]; rfl
  have e2 : dat st deep (.int (b : Int)) = some (.int (b : Int)) := rfl
  have s1 : PySem.SeqAt.shaped (.list ((ks.map fun (k : Nat) => (k : Int)).map PySem.PyData.int)) = true := by
    unfold PySem.SeqAt.shaped
    rw [Bool.and_eq_true]
    refine ⟨?_, decide_eq_true ?_⟩
    · simp only [PySem.PyData.canLay0, lay_ints]
    · simp only [PySem.PyData.depth, deep_ints]; omega
  have s2 : PySem.SeqAt.shaped (.int (b : Int)) = true := by
    unfold PySem.SeqAt.shaped
    rw [Bool.and_eq_true]
    exact ⟨rfl, decide_eq_true (by simp [PySem.PyData.depth])⟩
  unfold bmt
  simp only [sub_at u s, e1, e2, s1, s2, Bool.and_self, if_true, find_data, (idx_lt h).1]) q
/-- an end with its blocks' new numbers -/
def RE.en (ks : List Nat) : RE → End
  | .give x => .give x
  | .branch x b c => .branch x (idx ks b) (idx ks c)
  | .jump b => .jump (idx ks b) []
theorem sl_renum {kl : Nat} {ks : List Nat} {r : RE} (u : Sub H [(kl, .lst (natsV ks))] R) (h : ∀ b ∈ r.gs, b ∈ ks) (q : Q (r.en ks).v H) : WP B (callN G fuel (d + 1) f_l_renumbered [r.v, .ref kl]) H Q := by
  cases r with
  | give x =>
    walk_at "in"
    walk_at "w"
    exact conv0 q
  | branch x b c =>
    walk_at "in"
    walk_at "w"
    refine m_index u (h b (by simp [RE.gs])) ?_
    walk_at "w"
    refine m_index u (h c (by simp [RE.gs])) ?_
    walk_at "w"
    exact conv0 q
  | jump b =>
    walk_at "in"
    walk_at "w"
    refine m_index u (h b (by simp [RE.gs])) ?_
    walk_at "w"
    exact conv0 q
/-- a drawn function's blocks -/
def grBlocks (xs : List (Nat × RE)) (ks : List Nat) : List Block := ks.filterMap fun k => (xs[k]?).map fun p => ⟨[], grRows p.1, p.2.en ks⟩
theorem grBlocks_len {xs : List (Nat × RE)} {ks : List Nat} : ∀ l : List Nat, (∀ k ∈ l, k < xs.length) → (l.filterMap fun k => (xs[k]?).map fun p => (⟨[], grRows p.1, p.2.en ks⟩ : Block)).length = l.length
  | [], _ => rfl
  | a :: r, h => by
    have := h a (by simp)
    rw [List.filterMap_cons, List.getElem?_eq_getElem this]
    simp only [Option.map_some, List.length_cons]
    rw [grBlocks_len r fun k hk => h k (by simp [hk])]
theorem grBlocks_ok {xs : List (Nat × RE)} {ks : List Nat} (h : KeptOk xs ks) : LeadsOk (grBlocks xs ks) := by
  intro k hk b hb
  obtain ⟨j, hj, e⟩ := List.mem_filterMap.mp hk
  obtain ⟨p, hp, rfl⟩ := Option.map_eq_some_iff.mp e
  rw [grBlocks, grBlocks_len ks h.lt]
  have cl := h.cl j hj p hp
  generalize p.2 = r at hb cl
  cases r with
  | give x => simp [RE.en, End.raw] at hb
  | branch x b1 c1 =>
    simp [RE.en, End.raw] at hb
    rcases hb with rfl | rfl
    · exact (idx_lt (cl b1 (by simp [RE.gs]))).2.1
    · exact (idx_lt (cl c1 (by simp [RE.gs]))).2.1
  | jump b1 =>
    simp [RE.en, End.raw] at hb
    subst hb
    exact (idx_lt (cl b1 (by simp [RE.gs]))).2.1
def graphB : Ss := forB d_l_graph.body
structure GrOk (n : Nat) (xs : List (Nat × RE)) : Prop where
  ix : ∀ (j : Nat) p, xs[j]? = some p → p.1 = j
  gs : ∀ p ∈ xs, ∀ b ∈ p.2.gs, 1 ≤ b ∧ b < n
theorem GrOk.snoc {n : Nat} {xs : List (Nat × RE)} {r : RE} (h : GrOk n xs) (hr : ∀ b ∈ r.gs, 1 ≤ b ∧ b < n) : GrOk n (xs ++ [(xs.length, r)]) := by
  refine ⟨fun j p e => ?_, fun p hp => ?_⟩
  · by_cases hlt : j < xs.length
    · rw [List.getElem?_append_left hlt] at e; exact h.ix j p e
    · rw [List.getElem?_append_right (by omega)] at e
      have hk0 : j - xs.length = 0 := by
        have := (List.getElem?_eq_some_iff.mp e).1
        simpa using this
      rw [hk0] at e
      simp at e
      subst e
      show xs.length = j
      omega
  · rcases List.mem_append.mp hp with hp | hp
    · exact h.gs p hp
    · cases List.mem_singleton.mp hp; exact hr
theorem sl_graphL {p c bl n : Nat} {s4 : Option Val} {N : Env → HL → Prop} {T' : Val → HL → Prop} (hn : 1 ≤ n ∧ n ≤ 60)
    (q : ∀ xs P' s3 s7 s8 s9 K X, xs.length = n → GrOk n xs → P'.ok → Sub K ((bl, .lst (xs.map blkV)) :: (p, potD c P') :: (c, potL P') :: R) X → N [some (.ref p), some (.int (n : Nat)), some (.ref bl), s3, s4, some numV, some truV, s7, s8, s9] K) :
    ∀ (m : Nat) (xs : List (Nat × RE)) (P : Pot) (s3 s7 s8 s9 : Option Val) (K X : HL), xs.length + m = n → GrOk n xs → P.ok → Sub K ((bl, .lst (xs.map blkV)) :: (p, potD c P) :: (c, potL P) :: R) X →
    WF B (cxN G fuel (d + 2)) (.one 3) graphB [] (rangeL (xs.length : Nat) m) [some (.ref p), some (.int (n : Nat)), some (.ref bl), s3, s4, some numV, some truV, s7, s8, s9] K N T'
  | 0, xs, P, s3, s7, s8, s9, K, X, hm, hx, hP, hs => by
    rw [rangeL]
    exact for_nil sees_nil (q xs P s3 s7 s8 s9 K X hm hx hP hs)
  | m + 1, xs, P, s3, s7, s8, s9, K, X, hm, hx, hP, hs => by
    rw [rangeL]
    refine for_cons sees_nil rfl ?_
    refine wss_sub hs ?_
    show WSs B _ (.cons _ (.cons _ (.cons _ (.cons _ (dropS 4 graphB))))) _ _ _ _ _ _
    have fin : ∀ (r : RE) (P' : Pot) (s7 s9 : Option Val) (K X : HL), (∀ b ∈ r.gs, 1 ≤ b ∧ b < n) → P'.ok → Sub K ((bl, .lst (xs.map blkV)) :: (p, potD c P') :: (c, potL P') :: R) X → WSs B (cxN G fuel (d + 2)) (dropS 4 graphB) [some (.ref p), some (.int (n : Nat)), some (.ref bl), some (.int (xs.length : Nat)), s4, some numV, some truV, s7, some r.v, s9] K (fun s2 H2 => WF B (cxN G fuel (d + 2)) (.one 3) graphB [] (rangeL ((xs.length : Nat) + 1) m) s2 H2 N T') T' N (fun s2 H2 => WF B (cxN G fuel (d + 2)) (.one 3) graphB [] (rangeL ((xs.length : Nat) + 1) m) s2 H2 N T') := by
      intro r P' s7 s9 K X hr hP' hs
      refine wss_sub hs ?_
      unfold graphB d_l_graph
      simp only [forB, dropS]
      walk_at "w"
      refine p_mul' (mulOk_left (by decide)) ?_
      walk_at "w"
      refine p_mul' (mulOk_left (by decide)) ?_
      walk_at "w"
      refine p_mod' (by decide) ?_
      walk_at "w"
      refine m_app (by walk_at "upd") (Nat.le_of_ble_eq_true rfl) ?_
      walk_at "w"
      refine m_app (by walk_at "upd") (by rw [List.length_map]; omega) ?_
      walk_at "w"
      rename_i rl
      have := sl_graphL (T' := T') hn q m (xs ++ [(xs.length, r)]) P' (some (.int (xs.length : Nat))) s7 (some r.v) (some (.ref rl)) _ _ (by simp; omega) (hx.snoc hr) hP' (sub_all (L := (bl, .lst ((xs ++ [(xs.length, r)]).map blkV)) :: (p, potD c P') :: (c, potL P') :: R))
      rw [List.length_append, List.length_singleton, List.map_append] at this
      show WF B _ _ _ _ _ _ ((rl, _) :: (bl, .lst (xs.map blkV ++ [blkV (xs.length, r)])) :: (p, potD c P') :: (c, potL P') :: R) _ _
      exact wf_sub (sub_cons sub_all) this
    walk_at "w"
    refine sl_take (n := 6) hP (by decide) (by decide) (by walk_at "subs") fun w P1 hP1 w0 w1 => ?_
    walk_at "w"
    refine p_mul' (mulOk_left (by decide)) ?_
    walk_at "w"
    have g0 : ∀ b ∈ (RE.give (2 * (xs.length : Int))).gs, 1 ≤ b ∧ b < n := fun b hb => by simp [RE.gs] at hb
    refine br_dec (fun c1 => ?_) fun c1 => ?_
    · walk_at "w"
      refine br_dec (fun c2 => ?_) fun c2 => ?_
      · walk_at "w"
        refine br_dec (fun c3 => ?_) fun c3 => ?_
        · walk_at "w"
          refine p_mul' (mulOk_left (by decide)) ?_
          walk_at "w"
          refine sl_take (n := (n : Int) - 1) hP1 (by omega) (by omega) (by walk_at "subs") fun w2 P2 hP2 w20 w21 => ?_
          walk_at "w"
          refine sl_take (n := (n : Int) - 1) hP2 (by omega) (by omega) (by walk_at "subs") fun w3 P3 hP3 w30 w31 => ?_
          walk_at "w"
          refine br_dec (fun c4 => ?_) fun c4 => ?_
          · walk_at "w"
            refine br_dec (fun c5 => ?_) fun c5 => ?_
            · omega
            · obtain ⟨b1, hb1⟩ : ∃ b : Nat, 1 + w2 = (b : Int) := ⟨(1 + w2).toNat, by omega⟩
              obtain ⟨b2, hb2⟩ : ∃ b : Nat, 1 + w3 = (b : Int) := ⟨(1 + w3).toNat, by omega⟩
              rw [hb1, hb2]
              walk_at "w"
              refine fin (.branch (2 * (xs.length : Int) + 1) b1 b2) P3 _ _ _ [] (fun b hb => ?_) hP3 ?_
              · simp [RE.gs] at hb
                rcases hb with rfl | rfl <;> omega
              · exact (by unfold CL.Sub; rw [List.append_nil]; exact (show CL.Sub _ [_] _ from (by walk_at "sub")))
          · omega
        · walk_at "w"
          refine br_dec (fun c4 => ?_) fun c4 => ?_
          · walk_at "w"
            refine br_dec (fun c5 => ?_) fun c5 => ?_
            · walk_at "w"
              refine sl_take (n := (n : Int) - 1) hP1 (by omega) (by omega) (by walk_at "subs") fun w2 P2 hP2 w20 w21 => ?_
              obtain ⟨b1, hb1⟩ : ∃ b : Nat, 1 + w2 = (b : Int) := ⟨(1 + w2).toNat, by omega⟩
              walk_at "w"
              rw [hb1]
              refine fin (.jump b1) P2 _ _ _ [] (fun b hb => ?_) hP2 ?_
              · simp [RE.gs] at hb
                omega
              · exact (by unfold CL.Sub; rw [List.append_nil]; exact (show CL.Sub _ [_] _ from (by walk_at "sub")))
            · omega
          · omega
      · walk_at "w"
        refine br_dec (fun c4 => ?_) fun c4 => ?_
        · walk_at "w"
          refine br_dec (fun c5 => ?_) fun c5 => ?_
          · omega
          · walk_at "w"
            refine fin (.give (2 * (xs.length : Int))) P1 _ _ _ [] g0 hP1 ?_
            exact (by unfold CL.Sub; rw [List.append_nil]; exact (show CL.Sub _ [_] _ from (by walk_at "sub")))
        · omega
    · walk_at "w"
      refine br_dec (fun c4 => ?_) fun c4 => ?_
      · omega
      · walk_at "w"
        refine fin (.give (2 * (xs.length : Int))) P1 _ _ _ [] g0 hP1 ?_
        exact (by unfold CL.Sub; rw [List.append_nil]; exact (show CL.Sub _ [_] _ from (by walk_at "sub")))
end
section
variable {B H R R' : HL} {d : Nat} {Q : Val → HL → Prop}
def grG (xs : List (Nat × RE)) (ks : List Nat) (v : Val) : Option Val := match v with
  | .int i => (xs[i.toNat]?).map fun p => Block.v ⟨[], grRows p.1, p.2.en ks⟩
  | _ => none
theorem grG_all {xs : List (Nat × RE)} {ks : List Nat} : ∀ l : List Nat, (natsV l).filterMap (grG xs ks) = (l.filterMap fun k => (xs[k]?).map fun p => (⟨[], grRows p.1, p.2.en ks⟩ : Block)).map Block.v
  | [] => rfl
  | a :: r => by
    show (Val.int (a : Int) :: natsV r).filterMap _ = _
    rw [List.filterMap_cons, List.filterMap_cons, grG_all r]
    have : grG xs ks (.int (a : Int)) = (xs[a]?).map fun p => Block.v ⟨[], grRows p.1, p.2.en ks⟩ := by
      show (xs[(a : Int).toNat]?).map _ = _
      rw [Int.toNat_natCast]
    rw [this]
    cases xs[a]? with
    | none => rfl
    | some p => rfl
theorem sl_graph {p c : Nat} {P : Pot} (hP : P.ok) (hp : Sub H [(p, potD c P), (c, potL P)] R) (q : ∀ bs, LeadsOk bs → bs.length ≤ 60 → Q (Fun.v ⟨"main", .num, bs⟩) R) : WP B (callN G fuel (d + 3) f_l_graph [.ref p]) H Q := by
  refine wp_perm (show H.Perm ((p, potD c P) :: (c, potL P) :: R) from hp) ?_
  walk_at "in"
  show WSs B _ (.cons _ (.cons _ (.cons _ (.cons (.for _ _ graphB) _)))) _ _ _ _ _ _
  walk_at "w"
  rename_i l0
  refine sl_take (n := 4) hP (by decide) (by decide) (by walk_at "subs") fun w P1 hP1 w0 w1 => ?_
  obtain ⟨v, hv, hv1, hv2⟩ : ∃ v : Int, L2.atI [Val.int 3, .int 5, .int 9, .int 16] w = some (.int v) ∧ 0 < v ∧ v ≤ 16 := by
    have : w = 0 ∨ w = 1 ∨ w = 2 ∨ w = 3 := by omega
    rcases this with rfl | rfl | rfl | rfl
    · exact ⟨3, rfl, by decide, by decide⟩
    · exact ⟨5, rfl, by decide, by decide⟩
    · exact ⟨9, rfl, by decide, by decide⟩
    · exact ⟨16, rfl, by decide, by decide⟩
  refine x_lst (by walk_at "sub") hv ?_
  walk_at "w"
  refine sl_take (n := v) hP1 hv1 (by omega) (by walk_at "subs") fun w2 P2 hP2 w20 w21 => ?_
  obtain ⟨n, hn⟩ : ∃ n : Nat, 1 + w2 = (n : Int) := ⟨(1 + w2).toNat, by omega⟩
  have hn1 : 1 ≤ n ∧ n ≤ 60 := by omega
  walk_at "w"
  rw [hn]
  rename_i bl
  rw [Int.toNat_natCast]
  refine sl_graphL (R := R) hn1 (fun xs P' s3 s7 s8 s9 K X h1 h2 hP' hs => ?_) n [] P2 _ _ _ _ _ _ (by simp) ⟨fun j p e => by simp at e, fun p hp => by cases hp⟩ hP2 (show CL.Sub _ ((bl, .lst []) :: (p, potD c P2) :: (c, potL P2) :: R) _ from (by walk_at "subs"))
  refine wss_sub hs ?_
  walk_at "w"
  refine sl_kept (xs := xs) (by omega) (by omega) (fun p hp b hb => by have := h2.gs p hp b hb; omega) sub_one fun kl ks hk => ?_
  have hkl := nodup_len hk.nd hk.lt
  walk_at "w"
  rename_i D
  refine lc_pure (grG xs ks) ((kl, .lst (natsV ks)) :: (bl, .lst (xs.map blkV)) :: (p, potD c P') :: (c, potL P') :: R) (natsV ks) [] (fun v hv => ?_) (sees_sub sub_one sees_nil) (by simp; omega) ?_
  · obtain ⟨k, hkm, rfl⟩ := List.mem_map.mp hv
    have hkx := hk.lt k hkm
    have hat : L2.atI (xs.map blkV) (k : Int) = some (blkV xs[k]) := atI_nat (by rw [List.getElem?_map, List.getElem?_eq_getElem hkx]; rfl)
    refine ⟨_, rfl, fun zs => ?_⟩
    walk_at "w"
    refine x_lst (by walk_at "sub") hat ?_
    walk_at "w"
    refine x_lst (by walk_at "sub") hat ?_
    walk_at "w"
    refine x_lst (by walk_at "sub") hat ?_
    walk_at "w"
    refine sl_renum (by walk_at "sub") (fun b hb => hk.cl k hkm xs[k] (List.getElem?_eq_getElem hkx) b hb) ?_
    walk_at "w"
    show (xs[(k : Int).toNat]?).map _ = _
    rw [Int.toNat_natCast, List.getElem?_eq_getElem hkx]; rfl
  rw [List.nil_append, grG_all]
  walk_at "w"
  have hb := grBlocks_ok hk
  have hbl : (grBlocks xs ks).length ≤ 60 := by rw [grBlocks, grBlocks_len ks hk.lt]; omega
  exact conv (K := R) (by walk_at "subs") (q (grBlocks xs ks) hb hbl)
theorem sl_potH {l : Nat} {ns : List Int} {R0 : HL} (hl : Sub H [(l, .lst (ns.map .int))] R0) (hn : ns.length ≤ 63) (q : ∀ p c P, P.ok → Q (.ref p) ((p, potD c P) :: (c, potL P) :: H)) : WP B (callN G fuel (d + 1) f_l_pot [.ref l]) H Q := by
  walk_at "in"
  walk_at "w"
  rw [List.length_map]
  cases ns with
  | nil =>
    walk_at "w"
    rename_i p c
    show Conv Q _ ((c, potL ⟨[], 0, 0, 0, false⟩) :: (p, potD c ⟨[], 0, 0, 0, false⟩) :: H)
    exact conv_perm (.swap _ _ _) (q p c ⟨[], 0, 0, 0, _⟩ ⟨by show (0 : Int) ≤ 0; omega, by show (0 : Int) ≤ 0; omega, by show (0 : Int) ≤ 0; omega, fun z => (by cases z), (by show (0 : Nat) ≤ 100; omega)⟩)
  | cons x r =>
    refine br_t (by simp) ?_
    walk_at "w"
    refine p_mod' (by decide) ?_
    walk_at "w"
    rename_i p c
    show Conv Q _ ((c, potL ⟨x :: r, 0, 0, 0, decide (x.fmod 2 = 1)⟩) :: (p, potD c ⟨x :: r, 0, 0, 0, decide (x.fmod 2 = 1)⟩) :: H)
    exact conv_perm (.swap _ _ _) (q p c ⟨x :: r, 0, 0, 0, _⟩ ⟨by show (0 : Int) ≤ 0; omega, by show (0 : Int) ≤ 0; omega, by show (0 : Int) ≤ 0; omega, fun _ => by simp, by show (x :: r).length ≤ 100; omega⟩)
def TA : Sg := sgOf [("leaf", 2), ("stem", 2)]
theorem csA {cs : List (PySem.Str × Nat)} (h : ∀ c ∈ cs, c = (("leaf" : PySem.Str), 2) ∨ c = (("stem" : PySem.Str), 2)) (hl : cs.length ≤ 10) : CsOk TA cs := by
  refine ⟨fun c hc => ?_, fun c hc => ?_, fun c hc => ?_, rfl, hl⟩
  · rcases h c hc with rfl | rfl <;> simp [TA, sgOf]
  · rcases h c hc with rfl | rfl <;> rfl
  · rcases h c hc with rfl | rfl <;> decide +kernel
theorem sl_middleA {p c : Nat} {P : Pot} (hP : P.ok) (hp : Sub H [(p, potD c P), (c, potL P)] R) (q : ∀ gs : List Fun, gs.length = 3 → (∀ g ∈ gs, ∃ nm ks, FnOk TA nm ks g.blocks) → Q (.tup [recsV, .tup (gs.map Fun.v)]) R) : WP B (callN G fuel (d + 15) f_l_middle [.ref p]) H Q := by
  refine wp_perm (show H.Perm ((p, potD c P) :: (c, potL P) :: R) from hp) ?_
  walk_at "in"
  walk_at "w"
  refine p_fdiv' (by decide) ?_
  refine e_nil ?_
  refine f_min ?_
  refine p_add' ?_
  rw [List.length_map]
  have hbu : 0 ≤ 1 + (if (P.cells.length : Int).fdiv 5 < 5 then (P.cells.length : Int).fdiv 5 else 5) ∧ 1 + (if (P.cells.length : Int).fdiv 5 < 5 then (P.cells.length : Int).fdiv 5 else 5) ≤ 6 := by
    rw [fdiv_pos (by decide)]
    split <;> omega
  generalize 1 + (if (P.cells.length : Int).fdiv 5 < 5 then (P.cells.length : Int).fdiv 5 else 5) = bu at hbu ⊢
  have hbu2 : bu.fdiv 2 ≤ 6 := by rw [fdiv_pos (by decide)]; omega
  walk_at "w"
  rename_i l0
  refine p_fdiv' (by decide) ?_
  refine e_nil ?_
  show WP B _ ((l0, .lst (csV [])) :: _) _
  refine sl_function (T := TA) (many := 2) (cap := 0) (cs := []) (csA (fun c h => by cases h) (by decide)) (by decide) (by decide) hbu2 hP (by walk_at "subs") fun b1 P1 hP1 f1 => ?_
  walk_at "w"
  rename_i l1
  refine sl_take (n := 2) hP1 (by decide) (by decide) (by walk_at "subs") fun w P2 hP2 w0 w1 => ?_
  walk_at "w"
  refine p_fdiv' (by decide) ?_
  refine e_nil ?_
  rename_i l2
  have e2 : cutL [Val.str "leaf", .str "stem"] none (some (1 + w)) = csV ([(("leaf" : PySem.Str), 2), ("stem", 2)].take (1 + w).toNat) := by
    rw [show 1 + w = (((1 + w).toNat : Nat) : Int) by omega, cut_to, Int.toNat_natCast]
    exact (List.map_take (f := fun c : PySem.Str × Nat => Val.str c.1) (l := [("leaf", 2), ("stem", 2)])).symm
  rw [e2]
  refine sl_function (T := TA) (many := 2) (cap := 0) (cs := [(("leaf" : PySem.Str), 2), ("stem", 2)].take (1 + w).toNat) (csA (fun c h => ?_) (by rw [List.length_take]; simp; omega)) (by decide) (by decide) hbu2 hP2 (by walk_at "subs") fun b2 P3 hP3 f2 => ?_
  · have := List.mem_of_mem_take h
    simpa using this
  walk_at "w"
  refine sl_take (n := 5) hP3 (by decide) (by decide) (by walk_at "subs") fun w2 P4 hP4 w20 w21 => ?_
  obtain ⟨mm, rfl⟩ : ∃ n : Nat, w2 = (n : Int) := ⟨w2.toNat, by omega⟩
  walk_at "w"
  rename_i l3
  show WP B _ ((l3, .lst (csV [(("stem" : PySem.Str), 2), ("leaf", 2)])) :: _) _
  refine sl_function (T := TA) (many := mm) (cap := 0) (cs := [(("stem" : PySem.Str), 2), ("leaf", 2)]) (csA (fun c h => ?_) (by decide)) (by omega) (by decide) hbu.2 hP4 (by walk_at "subs") fun b3 P5 hP5 f3 => ?_
  · simp at h
    exact h.symm
  walk_at "w"
  rename_i l4
  refine sl_take (n := 3) hP5 (by decide) (by decide) (by walk_at "subs") fun w5 P6 hP6 w50 w51 => ?_
  obtain ⟨n, rfl⟩ : ∃ n : Nat, w5 = (n : Int) := ⟨w5.toNat, by omega⟩
  obtain ⟨gs, hgs, hgl, hok⟩ : ∃ gs : List Fun, [Fun.v ⟨"main", .num, b3⟩, Fun.v ⟨"leaf", .num, b1⟩, Fun.v ⟨"stem", .num, b2⟩] = gs.map Fun.v ∧ gs.length = 3 ∧ ∀ g ∈ gs, ∃ nm ks, FnOk TA nm ks g.blocks := by
    refine ⟨[⟨"main", .num, b3⟩, ⟨"leaf", .num, b1⟩, ⟨"stem", .num, b2⟩], rfl, rfl, fun g hg => ?_⟩
    simp only [List.mem_cons, List.not_mem_nil, or_false] at hg
    rcases hg with rfl | rfl | rfl
    · exact ⟨_, _, f3⟩
    · exact ⟨_, _, f1⟩
    · exact ⟨_, _, f2⟩
  rw [hgs]
  walk_at "w"
  rw [cut_from, cut_to, ← List.map_drop, ← List.map_take]
  refine p_addl' (by walk_at "sub") (by walk_at "sub") (fits_small (by rw [List.length_map, List.length_map, List.length_drop, List.length_take]; omega)) fun l5 => ?_
  rw [← List.map_append]
  walk_at "w"
  exact conv (K := R) (by walk_at "subs") (q (gs.drop n ++ gs.take n) (by rw [List.length_append, List.length_drop, List.length_take]; omega) (fun g hg => by
    rcases List.mem_append.mp hg with hg | hg
    · exact hok g (List.mem_of_mem_drop hg)
    · exact hok g (List.mem_of_mem_take hg)))
end
section
variable {B H R R' : HL} {d : Nat} {Q : Val → HL → Prop}
theorem sl_potB {l : Nat} {ns : List Int} (hl : (l, .lst (ns.map .int)) ∈ B) (hn : ns.length ≤ 63) (q : ∀ p c P, P.ok → Q (.ref p) ((p, potD c P) :: (c, potL P) :: H)) : WP B (callN G fuel (d + 1) f_l_pot [.ref l]) H Q := by
  walk_at "in"
  walk_at "w"
  refine f_lenB hl ?_
  rw [List.length_map]
  walk_at "w"
  cases ns with
  | nil =>
    walk_at "w"
    refine f_listB hl fun c => ?_
    walk_at "w"
    rename_i p
    show Conv Q _ ((c, potL ⟨[], 0, 0, 0, false⟩) :: (p, potD c ⟨[], 0, 0, 0, false⟩) :: H)
    exact conv_perm (.swap _ _ _) (q p c ⟨[], 0, 0, 0, _⟩ ⟨by show (0 : Int) ≤ 0; omega, by show (0 : Int) ≤ 0; omega, by show (0 : Int) ≤ 0; omega, fun z => (by cases z), (by show (0 : Nat) ≤ 100; omega)⟩)
  | cons x r =>
    refine br_t (by simp) ?_
    walk_at "w"
    refine x_lstB hl (show L2.atI ((x :: r).map Val.int) 0 = some (.int x) from atI_nat (i := 0) rfl) ?_
    walk_at "w"
    refine p_mod' (by decide) ?_
    walk_at "w"
    refine f_listB hl fun c => ?_
    walk_at "w"
    rename_i p
    show Conv Q _ ((c, potL ⟨x :: r, 0, 0, 0, decide (x.fmod 2 = 1)⟩) :: (p, potD c ⟨x :: r, 0, 0, 0, decide (x.fmod 2 = 1)⟩) :: H)
    exact conv_perm (.swap _ _ _) (q p c ⟨x :: r, 0, 0, 0, _⟩ ⟨by show (0 : Int) ≤ 0; omega, by show (0 : Int) ≤ 0; omega, by show (0 : Int) ≤ 0; omega, fun _ => by simp, by show (x :: r).length ≤ 100; omega⟩)
end
def cellB : Ss := forB d_law.body
theorem total_len : ∀ bs : List Block, bs.length ≤ total bs
  | [] => Nat.le_refl _
  | b :: r => by rw [total, List.length_cons]; have := total_len r; omega
section
variable {B H R R' : HL} {d : Nat} {Q : Val → HL → Prop}
theorem sl_cell {x : Int} {s0 s2 : Option Val} {N K C : Env → HL → Prop} {T : Val → HL → Prop} (q : ∀ X, N [s0, some (.int x), s2] (X ++ H)) :
    WSs B (cxN G fuel (d + 3)) cellB [s0, some (.int x), s2] H N T K C := by
  unfold cellB d_law
  simp only [forB]
  walk_at "w"
  refine p_fdiv' (by decide) ?_
  walk_at "w"
  rename_i l
  refine sl_potH (ns := [x, x.fdiv 3]) sub_one (Nat.le_of_ble_eq_true rfl) fun p c P hP => ?_
  walk_at "w"
  refine sl_graph hP (by walk_at "subs") fun bs hb hl => ?_
  walk_at "w"
  refine sl_right (f := ⟨"main", .num, bs⟩) (by show bs.length ≤ 10000; omega) hb ?_
  walk_at "w"
  exact q [_]
theorem sl_cells {w : Watch} {s0 s2 : Option Val} {N : Env → HL → Prop} {T : Val → HL → Prop} (hw : ∀ X, Sees B (X ++ H) w) (q : ∀ s1 X, N [s0, s1, s2] (X ++ H)) : ∀ (xs : List Int) (s1 : Option Val) (Y : HL),
    WF B (cxN G fuel (d + 3)) (.one 1) cellB w (xs.map .int) [s0, s1, s2] (Y ++ H) N T
  | [], s1, Y => for_nil (hw Y) (q s1 Y)
  | x :: xs, s1, Y => by
    rw [List.map_cons]
    refine for_cons (hw Y) rfl (sl_cell fun X => ?_)
    rw [← List.append_assoc]
    exact sl_cells hw q xs _ (X ++ Y)
end
abbrev depth : Nat := 16
theorem runs : ∀ ns : List Int, ns.length ≤ 63 → ∃ st', CL.callN G fuel depth f_law [.ref 0] (CL.st0 ns) = .ok (.bl true) st' := by
  intro ns hl
  have main : WP [(0, .lst (ns.map .int))] (callN G fuel (15 + 1) f_law [.ref 0]) [] (fun v _ => v = .bl true) := by
    walk_at "in"
    show WSs _ _ (.cons (.for _ _ cellB) _) _ _ _ _ _ _
    walk_at "w"
    refine x_cutB (xs := ns.map .int) (by simp) rfl rfl fun p1 => ?_
    rw [cut63 (by rw [List.length_map]; exact hl)]
    walk_at "w"
    refine f_lenB (xs := ns.map .int) (by simp) ?_
    walk_at "w"
    rename_i p2
    refine p_addl' (by walk_at "sub") (by walk_at "sub") (fits_small (by simp; omega)) fun p3 => ?_
    walk_at "w"
    rw [show ns.map Val.int ++ [Val.int ((ns.map Val.int).length : Nat)] = (ns ++ [(ns.length : Int)]).map Val.int by simp]
    refine sl_cells (d := 12) (H := [(p3, _), _, _]) (fun X i xs h => ?_) (fun s1 X => ?_) (ns ++ [(ns.length : Int)]) _ []
    · cases List.mem_singleton.mp h
      exact .inl (by simp)
    · walk_at "w"
      refine sl_potB (ns := ns) (by simp) hl fun p c P hP => ?_
      walk_at "w"
      refine sl_middleA (d := 0) hP (by walk_at "subs") fun gs h3 hg => ?_
      walk_at "w"
      refine lc_pure (fun _ => some (.bl true)) _ (gs.map Fun.v) [] (fun v hv => ?_) sees_nil (by simp; omega) ?_
      · obtain ⟨f, hf, rfl⟩ := List.mem_map.mp hv
        obtain ⟨nm, ks, ho⟩ := hg f hf
        have := total_len f.blocks
        have := ho.sz
        refine ⟨_, rfl, fun zs => ?_⟩
        walk_at "w"
        refine sl_right (d := 12) (by omega) ho.ld ?_
        exact ⟨rfl, rfl⟩
      · rw [List.nil_append]
        walk_at "w"
        refine f_all sub_one (bools_all _) ?_
        refine conv0 ?_
        congr 1
        rw [List.all_eq_true]
        intro b hb
        obtain ⟨_, _, rfl⟩ := List.mem_map.mp hb
        rfl
  obtain ⟨v, K, st', e, rfl, _⟩ := main (st0 ns) [] ⟨fun a o m => by simp at m, by simp, fun a o m => by simp at m, fun a o m => by simp at m, fun a o m => (by
    cases List.mem_singleton.mp m
    exact ⟨rfl, (by show 0 < 1; decide), rfl⟩)⟩
  exact ⟨st', e⟩
end LK24

namespace LK24
open PySem
def psns : List (List Str) := (([["end"], ["function"], ["_law_cells"], ["_law_number", "_law_turn"], ["_law_pot_here", "_law_many"], ["_law_calls"], ["_law_state", "_law_kind", "_law_op", "_law_args", "_law_more"], ["_law_state", "_law_pot_here", "_law_kind"], ["_law_state", "_law_pot_here"], ["_law_state"], ["_law_state", "_law_at", "_law_kinds"], ["_law_state", "_law_end_here"], ["_law_state", "_law_pot_here", "_law_deep"], ["_law_state", "_law_pot_here", "_law_deep"], ["_law_state", "_law_pot_here", "_law_deep"], ["_law_pot_here", "_law_name_here", "_law_many", "_law_calls", "_law_budget"], ["_law_pot_here"], ["_law_blocks"], ["_law_end_here", "_law_kept_here"], ["_law_pot_here"]] : List (List Str)) ++ ([["_law_function_here"], ["_law_found", "_law_due"], ["_law_function_here"], ["_law_script"]] : List (List Str)))
set_option maxHeartbeats 0 in
theorem all_mk {K : PySem.W.Frag} {h : Heap} {mg : Str → Option Value} {fa : Addr} (X : K.In h) (Gg : h.Ns mainGlobals mg) (hfa : mg "law" = some (.ref fa))
    {a0 : Addr} {od0 an0 : Option Addr} {sl0 : Array (Option Value)} {oc0 kV0 dc0 pm0 cd0 ct0 : Value} {a1 : Addr} {od1 an1 : Option Addr} {sl1 : Array (Option Value)} {oc1 kV1 dc1 pm1 cd1 ct1 : Value} {a2 : Addr} {od2 an2 : Option Addr} {sl2 : Array (Option Value)} {oc2 kV2 dc2 pm2 cd2 ct2 : Value} {a3 : Addr} {od3 an3 : Option Addr} {sl3 : Array (Option Value)} {oc3 kV3 dc3 pm3 cd3 ct3 : Value} {a4 : Addr} {od4 an4 : Option Addr} {sl4 : Array (Option Value)} {oc4 kV4 dc4 pm4 cd4 ct4 : Value} {a5 : Addr} {od5 an5 : Option Addr} {sl5 : Array (Option Value)} {oc5 kV5 dc5 pm5 cd5 ct5 : Value} {a6 : Addr} {od6 an6 : Option Addr} {sl6 : Array (Option Value)} {oc6 kV6 dc6 pm6 cd6 ct6 : Value} {a7 : Addr} {od7 an7 : Option Addr} {sl7 : Array (Option Value)} {oc7 kV7 dc7 pm7 cd7 ct7 : Value} {a8 : Addr} {od8 an8 : Option Addr} {sl8 : Array (Option Value)} {oc8 kV8 dc8 pm8 cd8 ct8 : Value} {a9 : Addr} {od9 an9 : Option Addr} {sl9 : Array (Option Value)} {oc9 kV9 dc9 pm9 cd9 ct9 : Value} {a10 : Addr} {od10 an10 : Option Addr} {sl10 : Array (Option Value)} {oc10 kV10 dc10 pm10 cd10 ct10 : Value} {a11 : Addr} {od11 an11 : Option Addr} {sl11 : Array (Option Value)} {oc11 kV11 dc11 pm11 cd11 ct11 : Value} {a12 : Addr} {od12 an12 : Option Addr} {sl12 : Array (Option Value)} {oc12 kV12 dc12 pm12 cd12 ct12 : Value} {a13 : Addr} {od13 an13 : Option Addr} {sl13 : Array (Option Value)} {oc13 kV13 dc13 pm13 cd13 ct13 : Value} {a14 : Addr} {od14 an14 : Option Addr} {sl14 : Array (Option Value)} {oc14 kV14 dc14 pm14 cd14 ct14 : Value} {a15 : Addr} {od15 an15 : Option Addr} {sl15 : Array (Option Value)} {oc15 kV15 dc15 pm15 cd15 ct15 : Value} {a16 : Addr} {od16 an16 : Option Addr} {sl16 : Array (Option Value)} {oc16 kV16 dc16 pm16 cd16 ct16 : Value} {a17 : Addr} {od17 an17 : Option Addr} {sl17 : Array (Option Value)} {oc17 kV17 dc17 pm17 cd17 ct17 : Value} {a18 : Addr} {od18 an18 : Option Addr} {sl18 : Array (Option Value)} {oc18 kV18 dc18 pm18 cd18 ct18 : Value} {a19 : Addr} {od19 an19 : Option Addr} {sl19 : Array (Option Value)} {oc19 kV19 dc19 pm19 cd19 ct19 : Value} {a20 : Addr} {od20 an20 : Option Addr} {sl20 : Array (Option Value)} {oc20 kV20 dc20 pm20 cd20 ct20 : Value} {a21 : Addr} {od21 an21 : Option Addr} {sl21 : Array (Option Value)} {oc21 kV21 dc21 pm21 cd21 ct21 : Value} {a22 : Addr} {od22 an22 : Option Addr} {sl22 : Array (Option Value)} {oc22 kV22 dc22 pm22 cd22 ct22 : Value} {a23 : Addr} {od23 an23 : Option Addr} {sl23 : Array (Option Value)} {oc23 kV23 dc23 pm23 cd23 ct23 : Value}
    (m0 : PySem.W.nsIn K mainGlobals "ends_leads" = some (some (.ref a0)))
    (l0 : K.lookup a0 = some ⟨oc0, od0, .func (PySem.W.fnOf "ends_leads" "ends_leads" (L2.defArgs (top 1)) (L2.defBody (top 1)) (L2.defScope (top 1)) .none kV0 dc0 pm0 an0 cd0 ct0), sl0⟩)
    (c0 : PySem.W.codeIn K cd0 "ends_leads" = true)
    (k0 : PySem.W.keepIn K (.ref a0) = true)
    (m1 : PySem.W.nsIn K mainGlobals "leads" = some (some (.ref a1)))
    (l1 : K.lookup a1 = some ⟨oc1, od1, .func (PySem.W.fnOf "leads" "leads" (L2.defArgs (top 2)) (L2.defBody (top 2)) (L2.defScope (top 2)) .none kV1 dc1 pm1 an1 cd1 ct1), sl1⟩)
    (c1 : PySem.W.codeIn K cd1 "leads" = true)
    (k1 : PySem.W.keepIn K (.ref a1) = true)
    (m2 : PySem.W.nsIn K mainGlobals "_law_pot" = some (some (.ref a2)))
    (l2 : K.lookup a2 = some ⟨oc2, od2, .func (PySem.W.fnOf "_law_pot" "_law_pot" (L2.defArgs (top 4)) (L2.defBody (top 4)) (L2.defScope (top 4)) .none kV2 dc2 pm2 an2 cd2 ct2), sl2⟩)
    (c2 : PySem.W.codeIn K cd2 "_law_pot" = true)
    (k2 : PySem.W.keepIn K (.ref a2) = true)
    (m3 : PySem.W.nsIn K mainGlobals "_law_mix" = some (some (.ref a3)))
    (l3 : K.lookup a3 = some ⟨oc3, od3, .func (PySem.W.fnOf "_law_mix" "_law_mix" (L2.defArgs (top 5)) (L2.defBody (top 5)) (L2.defScope (top 5)) .none kV3 dc3 pm3 an3 cd3 ct3), sl3⟩)
    (c3 : PySem.W.codeIn K cd3 "_law_mix" = true)
    (k3 : PySem.W.keepIn K (.ref a3) = true)
    (m4 : PySem.W.nsIn K mainGlobals "_law_take" = some (some (.ref a4)))
    (l4 : K.lookup a4 = some ⟨oc4, od4, .func (PySem.W.fnOf "_law_take" "_law_take" (L2.defArgs (top 6)) (L2.defBody (top 6)) (L2.defScope (top 6)) .none kV4 dc4 pm4 an4 cd4 ct4), sl4⟩)
    (c4 : PySem.W.codeIn K cd4 "_law_take" = true)
    (k4 : PySem.W.keepIn K (.ref a4) = true)
    (m5 : PySem.W.nsIn K mainGlobals "_law_ops" = some (some (.ref a5)))
    (l5 : K.lookup a5 = some ⟨oc5, od5, .func (PySem.W.fnOf "_law_ops" "_law_ops" (L2.defArgs (top 7)) (L2.defBody (top 7)) (L2.defScope (top 7)) .none kV5 dc5 pm5 an5 cd5 ct5), sl5⟩)
    (c5 : PySem.W.codeIn K cd5 "_law_ops" = true)
    (k5 : PySem.W.keepIn K (.ref a5) = true)
    (m6 : PySem.W.nsIn K mainGlobals "_law_put" = some (some (.ref a6)))
    (l6 : K.lookup a6 = some ⟨oc6, od6, .func (PySem.W.fnOf "_law_put" "_law_put" (L2.defArgs (top 8)) (L2.defBody (top 8)) (L2.defScope (top 8)) .none kV6 dc6 pm6 an6 cd6 ct6), sl6⟩)
    (c6 : PySem.W.codeIn K cd6 "_law_put" = true)
    (k6 : PySem.W.keepIn K (.ref a6) = true)
    (m7 : PySem.W.nsIn K mainGlobals "_law_name" = some (some (.ref a7)))
    (l7 : K.lookup a7 = some ⟨oc7, od7, .func (PySem.W.fnOf "_law_name" "_law_name" (L2.defArgs (top 9)) (L2.defBody (top 9)) (L2.defScope (top 9)) .none kV7 dc7 pm7 an7 cd7 ct7), sl7⟩)
    (c7 : PySem.W.codeIn K cd7 "_law_name" = true)
    (k7 : PySem.W.keepIn K (.ref a7) = true)
    (m8 : PySem.W.nsIn K mainGlobals "_law_straight" = some (some (.ref a8)))
    (l8 : K.lookup a8 = some ⟨oc8, od8, .func (PySem.W.fnOf "_law_straight" "_law_straight" (L2.defArgs (top 10)) (L2.defBody (top 10)) (L2.defScope (top 10)) .none kV8 dc8 pm8 an8 cd8 ct8), sl8⟩)
    (c8 : PySem.W.codeIn K cd8 "_law_straight" = true)
    (k8 : PySem.W.keepIn K (.ref a8) = true)
    (m9 : PySem.W.nsIn K mainGlobals "_law_open" = some (some (.ref a9)))
    (l9 : K.lookup a9 = some ⟨oc9, od9, .func (PySem.W.fnOf "_law_open" "_law_open" (L2.defArgs (top 11)) (L2.defBody (top 11)) (L2.defScope (top 11)) .none kV9 dc9 pm9 an9 cd9 ct9), sl9⟩)
    (c9 : PySem.W.codeIn K cd9 "_law_open" = true)
    (k9 : PySem.W.keepIn K (.ref a9) = true)
    (m10 : PySem.W.nsIn K mainGlobals "_law_begin" = some (some (.ref a10)))
    (l10 : K.lookup a10 = some ⟨oc10, od10, .func (PySem.W.fnOf "_law_begin" "_law_begin" (L2.defArgs (top 12)) (L2.defBody (top 12)) (L2.defScope (top 12)) .none kV10 dc10 pm10 an10 cd10 ct10), sl10⟩)
    (c10 : PySem.W.codeIn K cd10 "_law_begin" = true)
    (k10 : PySem.W.keepIn K (.ref a10) = true)
    (m11 : PySem.W.nsIn K mainGlobals "_law_end" = some (some (.ref a11)))
    (l11 : K.lookup a11 = some ⟨oc11, od11, .func (PySem.W.fnOf "_law_end" "_law_end" (L2.defArgs (top 13)) (L2.defBody (top 13)) (L2.defScope (top 13)) .none kV11 dc11 pm11 an11 cd11 ct11), sl11⟩)
    (c11 : PySem.W.codeIn K cd11 "_law_end" = true)
    (k11 : PySem.W.keepIn K (.ref a11) = true)
    (m12 : PySem.W.nsIn K mainGlobals "_law_choice" = some (some (.ref a12)))
    (l12 : K.lookup a12 = some ⟨oc12, od12, .func (PySem.W.fnOf "_law_choice" "_law_choice" (L2.defArgs (top 14)) (L2.defBody (top 14)) (L2.defScope (top 14)) .none kV12 dc12 pm12 an12 cd12 ct12), sl12⟩)
    (c12 : PySem.W.codeIn K cd12 "_law_choice" = true)
    (k12 : PySem.W.keepIn K (.ref a12) = true)
    (m13 : PySem.W.nsIn K mainGlobals "_law_loop" = some (some (.ref a13)))
    (l13 : K.lookup a13 = some ⟨oc13, od13, .func (PySem.W.fnOf "_law_loop" "_law_loop" (L2.defArgs (top 15)) (L2.defBody (top 15)) (L2.defScope (top 15)) .none kV13 dc13 pm13 an13 cd13 ct13), sl13⟩)
    (c13 : PySem.W.codeIn K cd13 "_law_loop" = true)
    (k13 : PySem.W.keepIn K (.ref a13) = true)
    (m14 : PySem.W.nsIn K mainGlobals "_law_body" = some (some (.ref a14)))
    (l14 : K.lookup a14 = some ⟨oc14, od14, .func (PySem.W.fnOf "_law_body" "_law_body" (L2.defArgs (top 16)) (L2.defBody (top 16)) (L2.defScope (top 16)) .none kV14 dc14 pm14 an14 cd14 ct14), sl14⟩)
    (c14 : PySem.W.codeIn K cd14 "_law_body" = true)
    (k14 : PySem.W.keepIn K (.ref a14) = true)
    (m15 : PySem.W.nsIn K mainGlobals "_law_function" = some (some (.ref a15)))
    (l15 : K.lookup a15 = some ⟨oc15, od15, .func (PySem.W.fnOf "_law_function" "_law_function" (L2.defArgs (top 17)) (L2.defBody (top 17)) (L2.defScope (top 17)) .none kV15 dc15 pm15 an15 cd15 ct15), sl15⟩)
    (c15 : PySem.W.codeIn K cd15 "_law_function" = true)
    (k15 : PySem.W.keepIn K (.ref a15) = true)
    (m16 : PySem.W.nsIn K mainGlobals "_law_middle" = some (some (.ref a16)))
    (l16 : K.lookup a16 = some ⟨oc16, od16, .func (PySem.W.fnOf "_law_middle" "_law_middle" (L2.defArgs (top 18)) (L2.defBody (top 18)) (L2.defScope (top 18)) .none kV16 dc16 pm16 an16 cd16 ct16), sl16⟩)
    (c16 : PySem.W.codeIn K cd16 "_law_middle" = true)
    (k16 : PySem.W.keepIn K (.ref a16) = true)
    (m17 : PySem.W.nsIn K mainGlobals "_law_kept" = some (some (.ref a17)))
    (l17 : K.lookup a17 = some ⟨oc17, od17, .func (PySem.W.fnOf "_law_kept" "_law_kept" (L2.defArgs (top 19)) (L2.defBody (top 19)) (L2.defScope (top 19)) .none kV17 dc17 pm17 an17 cd17 ct17), sl17⟩)
    (c17 : PySem.W.codeIn K cd17 "_law_kept" = true)
    (k17 : PySem.W.keepIn K (.ref a17) = true)
    (m18 : PySem.W.nsIn K mainGlobals "_law_renumbered" = some (some (.ref a18)))
    (l18 : K.lookup a18 = some ⟨oc18, od18, .func (PySem.W.fnOf "_law_renumbered" "_law_renumbered" (L2.defArgs (top 20)) (L2.defBody (top 20)) (L2.defScope (top 20)) .none kV18 dc18 pm18 an18 cd18 ct18), sl18⟩)
    (c18 : PySem.W.codeIn K cd18 "_law_renumbered" = true)
    (k18 : PySem.W.keepIn K (.ref a18) = true)
    (m19 : PySem.W.nsIn K mainGlobals "_law_graph" = some (some (.ref a19)))
    (l19 : K.lookup a19 = some ⟨oc19, od19, .func (PySem.W.fnOf "_law_graph" "_law_graph" (L2.defArgs (top 21)) (L2.defBody (top 21)) (L2.defScope (top 21)) .none kV19 dc19 pm19 an19 cd19 ct19), sl19⟩)
    (c19 : PySem.W.codeIn K cd19 "_law_graph" = true)
    (k19 : PySem.W.keepIn K (.ref a19) = true)
    (m20 : PySem.W.nsIn K mainGlobals "_law_goals" = some (some (.ref a20)))
    (l20 : K.lookup a20 = some ⟨oc20, od20, .func (PySem.W.fnOf "_law_goals" "_law_goals" (L2.defArgs (top 22)) (L2.defBody (top 22)) (L2.defScope (top 22)) .none kV20 dc20 pm20 an20 cd20 ct20), sl20⟩)
    (c20 : PySem.W.codeIn K cd20 "_law_goals" = true)
    (k20 : PySem.W.keepIn K (.ref a20) = true)
    (m21 : PySem.W.nsIn K mainGlobals "_law_alike" = some (some (.ref a21)))
    (l21 : K.lookup a21 = some ⟨oc21, od21, .func (PySem.W.fnOf "_law_alike" "_law_alike" (L2.defArgs (top 23)) (L2.defBody (top 23)) (L2.defScope (top 23)) .none kV21 dc21 pm21 an21 cd21 ct21), sl21⟩)
    (c21 : PySem.W.codeIn K cd21 "_law_alike" = true)
    (k21 : PySem.W.keepIn K (.ref a21) = true)
    (m22 : PySem.W.nsIn K mainGlobals "_law_right" = some (some (.ref a22)))
    (l22 : K.lookup a22 = some ⟨oc22, od22, .func (PySem.W.fnOf "_law_right" "_law_right" (L2.defArgs (top 24)) (L2.defBody (top 24)) (L2.defScope (top 24)) .none kV22 dc22 pm22 an22 cd22 ct22), sl22⟩)
    (c22 : PySem.W.codeIn K cd22 "_law_right" = true)
    (k22 : PySem.W.keepIn K (.ref a22) = true)
    (m23 : PySem.W.nsIn K mainGlobals "law" = some (some (.ref a23)))
    (l23 : K.lookup a23 = some ⟨oc23, od23, .func (PySem.W.fnOf "law" "law" (L2.defArgs (top 25)) (L2.defBody (top 25)) (L2.defScope (top 25)) .none kV23 dc23 pm23 an23 cd23 ct23), sl23⟩)
    (c23 : PySem.W.codeIn K cd23 "law" = true)
    (k23 : PySem.W.keepIn K (.ref a23) = true)
    (z_len : PySem.W.nsIn K mainGlobals "len" = some none)
    (z_abs : PySem.W.nsIn K mainGlobals "abs" = some none)
    (z_list : PySem.W.nsIn K mainGlobals "list" = some none)
    (z_tuple : PySem.W.nsIn K mainGlobals "tuple" = some none)
    (z_int : PySem.W.nsIn K mainGlobals "int" = some none)
    (z_any : PySem.W.nsIn K mainGlobals "any" = some none)
    (z_all : PySem.W.nsIn K mainGlobals "all" = some none)
    (z_min : PySem.W.nsIn K mainGlobals "min" = some none)
    (z_max : PySem.W.nsIn K mainGlobals "max" = some none)
    (z_isinstance : PySem.W.nsIn K mainGlobals "isinstance" = some none)
    (z_bool : PySem.W.nsIn K mainGlobals "bool" = some none)
    (z_str : PySem.W.nsIn K mainGlobals "str" = some none)
    (z_dict : PySem.W.nsIn K mainGlobals "dict" = some none)
    (z_range : PySem.W.nsIn K mainGlobals "range" = some none)
    (z_enumerate : PySem.W.nsIn K mainGlobals "enumerate" = some none)
    (z_zip : PySem.W.nsIn K mainGlobals "zip" = some none)
    (z_sorted : PySem.W.nsIn K mainGlobals "sorted" = some none)
    (z_set : PySem.W.nsIn K mainGlobals "set" = some none) :
    ∃ T : CL.Tab, CL.Laid G fuel f_law "_law_script" K mg fa T := by
  obtain rfl : a23 = fa := by have e := hfa.symm.trans (PySem.W.mg_of X Gg m23); injection e with e; injection e with e; exact e.symm
  refine ⟨⟨G, fuel, nm, fun c => ([] : List Addr).getD c 0, fun f => (([a0, a1, a2, a3, a4, a5, a6, a7, a8, a9, a10, a11, a12, a13, a14, a15, a16, a17, a18, a19] : List Addr) ++ ([a20, a21, a22, a23] : List Addr)).getD f 0, fun f => (([PySem.W.fnOf "ends_leads" "ends_leads" (L2.defArgs (top 1)) (L2.defBody (top 1)) (L2.defScope (top 1)) .none kV0 dc0 pm0 an0 cd0 ct0, PySem.W.fnOf "leads" "leads" (L2.defArgs (top 2)) (L2.defBody (top 2)) (L2.defScope (top 2)) .none kV1 dc1 pm1 an1 cd1 ct1, PySem.W.fnOf "_law_pot" "_law_pot" (L2.defArgs (top 4)) (L2.defBody (top 4)) (L2.defScope (top 4)) .none kV2 dc2 pm2 an2 cd2 ct2, PySem.W.fnOf "_law_mix" "_law_mix" (L2.defArgs (top 5)) (L2.defBody (top 5)) (L2.defScope (top 5)) .none kV3 dc3 pm3 an3 cd3 ct3, PySem.W.fnOf "_law_take" "_law_take" (L2.defArgs (top 6)) (L2.defBody (top 6)) (L2.defScope (top 6)) .none kV4 dc4 pm4 an4 cd4 ct4, PySem.W.fnOf "_law_ops" "_law_ops" (L2.defArgs (top 7)) (L2.defBody (top 7)) (L2.defScope (top 7)) .none kV5 dc5 pm5 an5 cd5 ct5, PySem.W.fnOf "_law_put" "_law_put" (L2.defArgs (top 8)) (L2.defBody (top 8)) (L2.defScope (top 8)) .none kV6 dc6 pm6 an6 cd6 ct6, PySem.W.fnOf "_law_name" "_law_name" (L2.defArgs (top 9)) (L2.defBody (top 9)) (L2.defScope (top 9)) .none kV7 dc7 pm7 an7 cd7 ct7, PySem.W.fnOf "_law_straight" "_law_straight" (L2.defArgs (top 10)) (L2.defBody (top 10)) (L2.defScope (top 10)) .none kV8 dc8 pm8 an8 cd8 ct8, PySem.W.fnOf "_law_open" "_law_open" (L2.defArgs (top 11)) (L2.defBody (top 11)) (L2.defScope (top 11)) .none kV9 dc9 pm9 an9 cd9 ct9, PySem.W.fnOf "_law_begin" "_law_begin" (L2.defArgs (top 12)) (L2.defBody (top 12)) (L2.defScope (top 12)) .none kV10 dc10 pm10 an10 cd10 ct10, PySem.W.fnOf "_law_end" "_law_end" (L2.defArgs (top 13)) (L2.defBody (top 13)) (L2.defScope (top 13)) .none kV11 dc11 pm11 an11 cd11 ct11, PySem.W.fnOf "_law_choice" "_law_choice" (L2.defArgs (top 14)) (L2.defBody (top 14)) (L2.defScope (top 14)) .none kV12 dc12 pm12 an12 cd12 ct12, PySem.W.fnOf "_law_loop" "_law_loop" (L2.defArgs (top 15)) (L2.defBody (top 15)) (L2.defScope (top 15)) .none kV13 dc13 pm13 an13 cd13 ct13, PySem.W.fnOf "_law_body" "_law_body" (L2.defArgs (top 16)) (L2.defBody (top 16)) (L2.defScope (top 16)) .none kV14 dc14 pm14 an14 cd14 ct14, PySem.W.fnOf "_law_function" "_law_function" (L2.defArgs (top 17)) (L2.defBody (top 17)) (L2.defScope (top 17)) .none kV15 dc15 pm15 an15 cd15 ct15, PySem.W.fnOf "_law_middle" "_law_middle" (L2.defArgs (top 18)) (L2.defBody (top 18)) (L2.defScope (top 18)) .none kV16 dc16 pm16 an16 cd16 ct16, PySem.W.fnOf "_law_kept" "_law_kept" (L2.defArgs (top 19)) (L2.defBody (top 19)) (L2.defScope (top 19)) .none kV17 dc17 pm17 an17 cd17 ct17, PySem.W.fnOf "_law_renumbered" "_law_renumbered" (L2.defArgs (top 20)) (L2.defBody (top 20)) (L2.defScope (top 20)) .none kV18 dc18 pm18 an18 cd18 ct18, PySem.W.fnOf "_law_graph" "_law_graph" (L2.defArgs (top 21)) (L2.defBody (top 21)) (L2.defScope (top 21)) .none kV19 dc19 pm19 an19 cd19 ct19] : List FuncData) ++ ([PySem.W.fnOf "_law_goals" "_law_goals" (L2.defArgs (top 22)) (L2.defBody (top 22)) (L2.defScope (top 22)) .none kV20 dc20 pm20 an20 cd20 ct20, PySem.W.fnOf "_law_alike" "_law_alike" (L2.defArgs (top 23)) (L2.defBody (top 23)) (L2.defScope (top 23)) .none kV21 dc21 pm21 an21 cd21 ct21, PySem.W.fnOf "_law_right" "_law_right" (L2.defArgs (top 24)) (L2.defBody (top 24)) (L2.defScope (top 24)) .none kV22 dc22 pm22 an22 cd22 ct22, PySem.W.fnOf "law" "law" (L2.defArgs (top 25)) (L2.defBody (top 25)) (L2.defScope (top 25)) .none kV23 dc23 pm23 an23 cd23 ct23] : List FuncData)).getD f default, fun f => psns.getD f []⟩, rfl, rfl, rfl, rfl, ?top, ?defs, fun s u => .of_eq rfl⟩
  case defs =>
    intro f fd hf
    refine CL.allI0 (P := fun f fd => CL.DefOk _ K f fd) (l := fns) ?_ f fd hf
    exact ⟨⟨"ends_leads", "ends_leads", (top 1), n_ends_leads, L2.fun_mk l0 c0 k0, sc_ends_leads, rfl, ch_ends_leads⟩, ⟨"leads", "leads", (top 2), n_leads, L2.fun_mk l1 c1 k1, sc_leads, rfl, ch_leads⟩, ⟨"_law_pot", "_law_pot", (top 4), n_l_pot, L2.fun_mk l2 c2 k2, sc_l_pot, rfl, ch_l_pot⟩, ⟨"_law_mix", "_law_mix", (top 5), n_l_mix, L2.fun_mk l3 c3 k3, sc_l_mix, rfl, ch_l_mix⟩, ⟨"_law_take", "_law_take", (top 6), n_l_take, L2.fun_mk l4 c4 k4, sc_l_take, rfl, ch_l_take⟩, ⟨"_law_ops", "_law_ops", (top 7), n_l_ops, L2.fun_mk l5 c5 k5, sc_l_ops, rfl, ch_l_ops⟩, ⟨"_law_put", "_law_put", (top 8), n_l_put, L2.fun_mk l6 c6 k6, sc_l_put, rfl, ch_l_put⟩, ⟨"_law_name", "_law_name", (top 9), n_l_name, L2.fun_mk l7 c7 k7, sc_l_name, rfl, ch_l_name⟩, ⟨"_law_straight", "_law_straight", (top 10), n_l_straight, L2.fun_mk l8 c8 k8, sc_l_straight, rfl, ch_l_straight⟩, ⟨"_law_open", "_law_open", (top 11), n_l_open, L2.fun_mk l9 c9 k9, sc_l_open, rfl, ch_l_open⟩, ⟨"_law_begin", "_law_begin", (top 12), n_l_begin, L2.fun_mk l10 c10 k10, sc_l_begin, rfl, ch_l_begin⟩, ⟨"_law_end", "_law_end", (top 13), n_l_end, L2.fun_mk l11 c11 k11, sc_l_end, rfl, ch_l_end⟩, ⟨"_law_choice", "_law_choice", (top 14), n_l_choice, L2.fun_mk l12 c12 k12, sc_l_choice, rfl, ch_l_choice⟩, ⟨"_law_loop", "_law_loop", (top 15), n_l_loop, L2.fun_mk l13 c13 k13, sc_l_loop, rfl, ch_l_loop⟩, ⟨"_law_body", "_law_body", (top 16), n_l_body, L2.fun_mk l14 c14 k14, sc_l_body, rfl, ch_l_body⟩, ⟨"_law_function", "_law_function", (top 17), n_l_function, L2.fun_mk l15 c15 k15, sc_l_function, rfl, ch_l_function⟩, ⟨"_law_middle", "_law_middle", (top 18), n_l_middle, L2.fun_mk l16 c16 k16, sc_l_middle, rfl, ch_l_middle⟩, ⟨"_law_kept", "_law_kept", (top 19), n_l_kept, L2.fun_mk l17 c17 k17, sc_l_kept, rfl, ch_l_kept⟩, ⟨"_law_renumbered", "_law_renumbered", (top 20), n_l_renumbered, L2.fun_mk l18 c18 k18, sc_l_renumbered, rfl, ch_l_renumbered⟩, ⟨"_law_graph", "_law_graph", (top 21), n_l_graph, L2.fun_mk l19 c19 k19, sc_l_graph, rfl, ch_l_graph⟩, ⟨"_law_goals", "_law_goals", (top 22), n_l_goals, L2.fun_mk l20 c20 k20, sc_l_goals, rfl, ch_l_goals⟩, ⟨"_law_alike", "_law_alike", (top 23), n_l_alike, L2.fun_mk l21 c21 k21, sc_l_alike, rfl, ch_l_alike⟩, ⟨"_law_right", "_law_right", (top 24), n_l_right, L2.fun_mk l22 c22 k22, sc_l_right, rfl, ch_l_right⟩, ⟨"law", "law", (top 25), n_law, L2.fun_mk l23 c23 k23, sc_law, rfl, ch_law⟩, trivial⟩
  case top =>
    refine { bf := ?bf, isi := PySem.W.mg_none_of X Gg z_isinstance, ty := ?ty, rng := PySem.W.mg_none_of X Gg z_range, enu := PySem.W.mg_none_of X Gg z_enumerate, zip := PySem.W.mg_none_of X Gg z_zip, gl := ?gl, fn := ?fn, mt := ?mt, ini := ?ini, fl := ?fl }
    case bf => intro b; cases b; exact PySem.W.mg_none_of X Gg z_len; exact PySem.W.mg_none_of X Gg z_abs; exact PySem.W.mg_none_of X Gg z_list; exact PySem.W.mg_none_of X Gg z_tuple; exact PySem.W.mg_none_of X Gg z_int; exact PySem.W.mg_none_of X Gg z_any; exact PySem.W.mg_none_of X Gg z_all; exact PySem.W.mg_none_of X Gg z_min; exact PySem.W.mg_none_of X Gg z_max; exact PySem.W.mg_none_of X Gg z_str; exact PySem.W.mg_none_of X Gg z_sorted; exact PySem.W.mg_none_of X Gg z_dict; exact PySem.W.mg_none_of X Gg z_set
    case ty => intro t ht; cases t; exact PySem.W.mg_none_of X Gg z_int; exact PySem.W.mg_none_of X Gg z_bool; exact PySem.W.mg_none_of X Gg z_str; exact PySem.W.mg_none_of X Gg z_list; exact PySem.W.mg_none_of X Gg z_tuple; exact PySem.W.mg_none_of X Gg z_dict; cases ht
    case gl =>
      intro g v hg
      refine CL.allI0 (P := fun g v => ∃ u w, mg (nm.gl g) = some u ∧ L2.RelV w u ∧ ∀ io n H, CL.RV K G.kt io n H v w) (l := gls) ?_ g v hg
      exact trivial
    case fn =>
      intro f fd hf
      refine CL.allI0 (P := fun f fd => L2.Binds K ((([PySem.W.fnOf "ends_leads" "ends_leads" (L2.defArgs (top 1)) (L2.defBody (top 1)) (L2.defScope (top 1)) .none kV0 dc0 pm0 an0 cd0 ct0, PySem.W.fnOf "leads" "leads" (L2.defArgs (top 2)) (L2.defBody (top 2)) (L2.defScope (top 2)) .none kV1 dc1 pm1 an1 cd1 ct1, PySem.W.fnOf "_law_pot" "_law_pot" (L2.defArgs (top 4)) (L2.defBody (top 4)) (L2.defScope (top 4)) .none kV2 dc2 pm2 an2 cd2 ct2, PySem.W.fnOf "_law_mix" "_law_mix" (L2.defArgs (top 5)) (L2.defBody (top 5)) (L2.defScope (top 5)) .none kV3 dc3 pm3 an3 cd3 ct3, PySem.W.fnOf "_law_take" "_law_take" (L2.defArgs (top 6)) (L2.defBody (top 6)) (L2.defScope (top 6)) .none kV4 dc4 pm4 an4 cd4 ct4, PySem.W.fnOf "_law_ops" "_law_ops" (L2.defArgs (top 7)) (L2.defBody (top 7)) (L2.defScope (top 7)) .none kV5 dc5 pm5 an5 cd5 ct5, PySem.W.fnOf "_law_put" "_law_put" (L2.defArgs (top 8)) (L2.defBody (top 8)) (L2.defScope (top 8)) .none kV6 dc6 pm6 an6 cd6 ct6, PySem.W.fnOf "_law_name" "_law_name" (L2.defArgs (top 9)) (L2.defBody (top 9)) (L2.defScope (top 9)) .none kV7 dc7 pm7 an7 cd7 ct7, PySem.W.fnOf "_law_straight" "_law_straight" (L2.defArgs (top 10)) (L2.defBody (top 10)) (L2.defScope (top 10)) .none kV8 dc8 pm8 an8 cd8 ct8, PySem.W.fnOf "_law_open" "_law_open" (L2.defArgs (top 11)) (L2.defBody (top 11)) (L2.defScope (top 11)) .none kV9 dc9 pm9 an9 cd9 ct9, PySem.W.fnOf "_law_begin" "_law_begin" (L2.defArgs (top 12)) (L2.defBody (top 12)) (L2.defScope (top 12)) .none kV10 dc10 pm10 an10 cd10 ct10, PySem.W.fnOf "_law_end" "_law_end" (L2.defArgs (top 13)) (L2.defBody (top 13)) (L2.defScope (top 13)) .none kV11 dc11 pm11 an11 cd11 ct11, PySem.W.fnOf "_law_choice" "_law_choice" (L2.defArgs (top 14)) (L2.defBody (top 14)) (L2.defScope (top 14)) .none kV12 dc12 pm12 an12 cd12 ct12, PySem.W.fnOf "_law_loop" "_law_loop" (L2.defArgs (top 15)) (L2.defBody (top 15)) (L2.defScope (top 15)) .none kV13 dc13 pm13 an13 cd13 ct13, PySem.W.fnOf "_law_body" "_law_body" (L2.defArgs (top 16)) (L2.defBody (top 16)) (L2.defScope (top 16)) .none kV14 dc14 pm14 an14 cd14 ct14, PySem.W.fnOf "_law_function" "_law_function" (L2.defArgs (top 17)) (L2.defBody (top 17)) (L2.defScope (top 17)) .none kV15 dc15 pm15 an15 cd15 ct15, PySem.W.fnOf "_law_middle" "_law_middle" (L2.defArgs (top 18)) (L2.defBody (top 18)) (L2.defScope (top 18)) .none kV16 dc16 pm16 an16 cd16 ct16, PySem.W.fnOf "_law_kept" "_law_kept" (L2.defArgs (top 19)) (L2.defBody (top 19)) (L2.defScope (top 19)) .none kV17 dc17 pm17 an17 cd17 ct17, PySem.W.fnOf "_law_renumbered" "_law_renumbered" (L2.defArgs (top 20)) (L2.defBody (top 20)) (L2.defScope (top 20)) .none kV18 dc18 pm18 an18 cd18 ct18, PySem.W.fnOf "_law_graph" "_law_graph" (L2.defArgs (top 21)) (L2.defBody (top 21)) (L2.defScope (top 21)) .none kV19 dc19 pm19 an19 cd19 ct19] : List FuncData) ++ ([PySem.W.fnOf "_law_goals" "_law_goals" (L2.defArgs (top 22)) (L2.defBody (top 22)) (L2.defScope (top 22)) .none kV20 dc20 pm20 an20 cd20 ct20, PySem.W.fnOf "_law_alike" "_law_alike" (L2.defArgs (top 23)) (L2.defBody (top 23)) (L2.defScope (top 23)) .none kV21 dc21 pm21 an21 cd21 ct21, PySem.W.fnOf "_law_right" "_law_right" (L2.defArgs (top 24)) (L2.defBody (top 24)) (L2.defScope (top 24)) .none kV22 dc22 pm22 an22 cd22 ct22, PySem.W.fnOf "law" "law" (L2.defArgs (top 25)) (L2.defBody (top 25)) (L2.defScope (top 25)) .none kV23 dc23 pm23 an23 cd23 ct23] : List FuncData)).getD f default) (psns.getD f []) [] ∧ (psns.getD f []).length = fd.np ∧ (nm.isG f = true → mg (nm.fn f) = some (.ref ((([a0, a1, a2, a3, a4, a5, a6, a7, a8, a9, a10, a11, a12, a13, a14, a15, a16, a17, a18, a19] : List Addr) ++ ([a20, a21, a22, a23] : List Addr)).getD f 0)) ∧ PySem.W.keepIn K (.ref ((([a0, a1, a2, a3, a4, a5, a6, a7, a8, a9, a10, a11, a12, a13, a14, a15, a16, a17, a18, a19] : List Addr) ++ ([a20, a21, a22, a23] : List Addr)).getD f 0)) = true)) (l := fns) ?_ f fd hf
      exact ⟨⟨(L2.fun_mk (st := (top 1)) l0 c0 k0).binds (ps := ["end"]) fun _ _ _ _ _ _ us hl => match us, hl with | [_], _ => rfl, rfl, fun _ => ⟨PySem.W.mg_of X Gg m0, k0⟩⟩,
        ⟨(L2.fun_mk (st := (top 2)) l1 c1 k1).binds (ps := ["function"]) fun _ _ _ _ _ _ us hl => match us, hl with | [_], _ => rfl, rfl, fun _ => ⟨PySem.W.mg_of X Gg m1, k1⟩⟩,
        ⟨(L2.fun_mk (st := (top 4)) l2 c2 k2).binds (ps := ["_law_cells"]) fun _ _ _ _ _ _ us hl => match us, hl with | [_], _ => rfl, rfl, fun _ => ⟨PySem.W.mg_of X Gg m2, k2⟩⟩,
        ⟨(L2.fun_mk (st := (top 5)) l3 c3 k3).binds (ps := ["_law_number", "_law_turn"]) fun _ _ _ _ _ _ us hl => match us, hl with | [_, _], _ => rfl, rfl, fun _ => ⟨PySem.W.mg_of X Gg m3, k3⟩⟩,
        ⟨(L2.fun_mk (st := (top 6)) l4 c4 k4).binds (ps := ["_law_pot_here", "_law_many"]) fun _ _ _ _ _ _ us hl => match us, hl with | [_, _], _ => rfl, rfl, fun _ => ⟨PySem.W.mg_of X Gg m4, k4⟩⟩,
        ⟨(L2.fun_mk (st := (top 7)) l5 c5 k5).binds (ps := ["_law_calls"]) fun _ _ _ _ _ _ us hl => match us, hl with | [_], _ => rfl, rfl, fun _ => ⟨PySem.W.mg_of X Gg m5, k5⟩⟩,
        ⟨(L2.fun_mk (st := (top 8)) l6 c6 k6).binds (ps := ["_law_state", "_law_kind", "_law_op", "_law_args", "_law_more"]) fun _ _ _ _ _ _ us hl => match us, hl with | [_, _, _, _, _], _ => rfl, rfl, fun _ => ⟨PySem.W.mg_of X Gg m6, k6⟩⟩,
        ⟨(L2.fun_mk (st := (top 9)) l7 c7 k7).binds (ps := ["_law_state", "_law_pot_here", "_law_kind"]) fun _ _ _ _ _ _ us hl => match us, hl with | [_, _, _], _ => rfl, rfl, fun _ => ⟨PySem.W.mg_of X Gg m7, k7⟩⟩,
        ⟨(L2.fun_mk (st := (top 10)) l8 c8 k8).binds (ps := ["_law_state", "_law_pot_here"]) fun _ _ _ _ _ _ us hl => match us, hl with | [_, _], _ => rfl, rfl, fun _ => ⟨PySem.W.mg_of X Gg m8, k8⟩⟩,
        ⟨(L2.fun_mk (st := (top 11)) l9 c9 k9).binds (ps := ["_law_state"]) fun _ _ _ _ _ _ us hl => match us, hl with | [_], _ => rfl, rfl, fun _ => ⟨PySem.W.mg_of X Gg m9, k9⟩⟩,
        ⟨(L2.fun_mk (st := (top 12)) l10 c10 k10).binds (ps := ["_law_state", "_law_at", "_law_kinds"]) fun _ _ _ _ _ _ us hl => match us, hl with | [_, _, _], _ => rfl, rfl, fun _ => ⟨PySem.W.mg_of X Gg m10, k10⟩⟩,
        ⟨(L2.fun_mk (st := (top 13)) l11 c11 k11).binds (ps := ["_law_state", "_law_end_here"]) fun _ _ _ _ _ _ us hl => match us, hl with | [_, _], _ => rfl, rfl, fun _ => ⟨PySem.W.mg_of X Gg m11, k11⟩⟩,
        ⟨(L2.fun_mk (st := (top 14)) l12 c12 k12).binds (ps := ["_law_state", "_law_pot_here", "_law_deep"]) fun _ _ _ _ _ _ us hl => match us, hl with | [_, _, _], _ => rfl, rfl, fun _ => ⟨PySem.W.mg_of X Gg m12, k12⟩⟩,
        ⟨(L2.fun_mk (st := (top 15)) l13 c13 k13).binds (ps := ["_law_state", "_law_pot_here", "_law_deep"]) fun _ _ _ _ _ _ us hl => match us, hl with | [_, _, _], _ => rfl, rfl, fun _ => ⟨PySem.W.mg_of X Gg m13, k13⟩⟩,
        ⟨(L2.fun_mk (st := (top 16)) l14 c14 k14).binds (ps := ["_law_state", "_law_pot_here", "_law_deep"]) fun _ _ _ _ _ _ us hl => match us, hl with | [_, _, _], _ => rfl, rfl, fun _ => ⟨PySem.W.mg_of X Gg m14, k14⟩⟩,
        ⟨(L2.fun_mk (st := (top 17)) l15 c15 k15).binds (ps := ["_law_pot_here", "_law_name_here", "_law_many", "_law_calls", "_law_budget"]) fun _ _ _ _ _ _ us hl => match us, hl with | [_, _, _, _, _], _ => rfl, rfl, fun _ => ⟨PySem.W.mg_of X Gg m15, k15⟩⟩,
        ⟨(L2.fun_mk (st := (top 18)) l16 c16 k16).binds (ps := ["_law_pot_here"]) fun _ _ _ _ _ _ us hl => match us, hl with | [_], _ => rfl, rfl, fun _ => ⟨PySem.W.mg_of X Gg m16, k16⟩⟩,
        ⟨(L2.fun_mk (st := (top 19)) l17 c17 k17).binds (ps := ["_law_blocks"]) fun _ _ _ _ _ _ us hl => match us, hl with | [_], _ => rfl, rfl, fun _ => ⟨PySem.W.mg_of X Gg m17, k17⟩⟩,
        ⟨(L2.fun_mk (st := (top 20)) l18 c18 k18).binds (ps := ["_law_end_here", "_law_kept_here"]) fun _ _ _ _ _ _ us hl => match us, hl with | [_, _], _ => rfl, rfl, fun _ => ⟨PySem.W.mg_of X Gg m18, k18⟩⟩,
        ⟨(L2.fun_mk (st := (top 21)) l19 c19 k19).binds (ps := ["_law_pot_here"]) fun _ _ _ _ _ _ us hl => match us, hl with | [_], _ => rfl, rfl, fun _ => ⟨PySem.W.mg_of X Gg m19, k19⟩⟩,
        ⟨(L2.fun_mk (st := (top 22)) l20 c20 k20).binds (ps := ["_law_function_here"]) fun _ _ _ _ _ _ us hl => match us, hl with | [_], _ => rfl, rfl, fun _ => ⟨PySem.W.mg_of X Gg m20, k20⟩⟩,
        ⟨(L2.fun_mk (st := (top 23)) l21 c21 k21).binds (ps := ["_law_found", "_law_due"]) fun _ _ _ _ _ _ us hl => match us, hl with | [_, _], _ => rfl, rfl, fun _ => ⟨PySem.W.mg_of X Gg m21, k21⟩⟩,
        ⟨(L2.fun_mk (st := (top 24)) l22 c22 k22).binds (ps := ["_law_function_here"]) fun _ _ _ _ _ _ us hl => match us, hl with | [_], _ => rfl, rfl, fun _ => ⟨PySem.W.mg_of X Gg m22, k22⟩⟩,
        ⟨(L2.fun_mk (st := (top 25)) l23 c23 k23).binds (ps := ["_law_script"]) fun _ _ _ _ _ _ us hl => match us, hl with | [_], _ => rfl, rfl, fun _ => ⟨PySem.W.mg_of X Gg m23, k23⟩⟩, trivial⟩
    case mt => intro c m f hm; cases hm
    case ini => intro c f hm; cases hm
    case fl => intro c f hm; cases hm
end LK24
open PySem PySem.W PyProof.Rows
set_option maxRecDepth 100000 in
set_option maxHeartbeats 0 in
theorem PySem.Challenge.cw_chainwright_k24_leads_holds : PySem.Challenge.rw_chainwright_k24_leads.Holds := by
  w_on; o_law; k_head; (case hw => w_witness2)
  k_fill
  refine CL.law_walk (l := PySem.Challenge.rw_chainwright_k24_leads) (n := 63) (x := "_law_script") (k := LK24.depth) LK24.G LK24.fuel LK24.f_law LK24.d_law rfl rfl (by decide) rfl ⟨rfl, by decide, by decide⟩ (fun w h Y => PySem.W.kIn_of Y) LK24.runs ?F
  case F =>
    intro w mg fa h KX Gg hmg
    refine' LK24.all_mk KX Gg hmg ?xxm0 ?xxl0 ?xxc0 ?xxk0 ?xxm1 ?xxl1 ?xxc1 ?xxk1 ?xxm2 ?xxl2 ?xxc2 ?xxk2 ?xxm3 ?xxl3 ?xxc3 ?xxk3 ?xxm4 ?xxl4 ?xxc4 ?xxk4 ?xxm5 ?xxl5 ?xxc5 ?xxk5 ?xxm6 ?xxl6 ?xxc6 ?xxk6 ?xxm7 ?xxl7 ?xxc7 ?xxk7 ?xxm8 ?xxl8 ?xxc8 ?xxk8 ?xxm9 ?xxl9 ?xxc9 ?xxk9 ?xxm10 ?xxl10 ?xxc10 ?xxk10 ?xxm11 ?xxl11 ?xxc11 ?xxk11 ?xxm12 ?xxl12 ?xxc12 ?xxk12 ?xxm13 ?xxl13 ?xxc13 ?xxk13 ?xxm14 ?xxl14 ?xxc14 ?xxk14 ?xxm15 ?xxl15 ?xxc15 ?xxk15 ?xxm16 ?xxl16 ?xxc16 ?xxk16 ?xxm17 ?xxl17 ?xxc17 ?xxk17 ?xxm18 ?xxl18 ?xxc18 ?xxk18 ?xxm19 ?xxl19 ?xxc19 ?xxk19 ?xxm20 ?xxl20 ?xxc20 ?xxk20 ?xxm21 ?xxl21 ?xxc21 ?xxk21 ?xxm22 ?xxl22 ?xxc22 ?xxk22 ?xxm23 ?xxl23 ?xxc23 ?xxk23 ?xxz_len ?xxz_abs ?xxz_list ?xxz_tuple ?xxz_int ?xxz_any ?xxz_all ?xxz_min ?xxz_max ?xxz_isinstance ?xxz_bool ?xxz_str ?xxz_dict ?xxz_range ?xxz_enumerate ?xxz_zip ?xxz_sorted ?xxz_set
    (case xxm0 => k_is); (case xxl0 => k_is); (case xxc0 => k_is); (case xxk0 => k_is); (case xxm1 => k_is); (case xxl1 => k_is)
    (case xxc1 => k_is); (case xxk1 => k_is); (case xxm2 => k_is); (case xxl2 => k_is); (case xxc2 => k_is); (case xxk2 => k_is)
    (case xxm3 => k_is); (case xxl3 => k_is); (case xxc3 => k_is); (case xxk3 => k_is); (case xxm4 => k_is); (case xxl4 => k_is)
    (case xxc4 => k_is); (case xxk4 => k_is); (case xxm5 => k_is); (case xxl5 => k_is); (case xxc5 => k_is); (case xxk5 => k_is)
    (case xxm6 => k_is); (case xxl6 => k_is); (case xxc6 => k_is); (case xxk6 => k_is); (case xxm7 => k_is); (case xxl7 => k_is)
    (case xxc7 => k_is); (case xxk7 => k_is); (case xxm8 => k_is); (case xxl8 => k_is); (case xxc8 => k_is); (case xxk8 => k_is)
    (case xxm9 => k_is); (case xxl9 => k_is); (case xxc9 => k_is); (case xxk9 => k_is); (case xxm10 => k_is); (case xxl10 => k_is)
    (case xxc10 => k_is); (case xxk10 => k_is); (case xxm11 => k_is); (case xxl11 => k_is); (case xxc11 => k_is); (case xxk11 => k_is)
    (case xxm12 => k_is); (case xxl12 => k_is); (case xxc12 => k_is); (case xxk12 => k_is); (case xxm13 => k_is); (case xxl13 => k_is)
    (case xxc13 => k_is); (case xxk13 => k_is); (case xxm14 => k_is); (case xxl14 => k_is); (case xxc14 => k_is); (case xxk14 => k_is)
    (case xxm15 => k_is); (case xxl15 => k_is); (case xxc15 => k_is); (case xxk15 => k_is); (case xxm16 => k_is); (case xxl16 => k_is)
    (case xxc16 => k_is); (case xxk16 => k_is); (case xxm17 => k_is); (case xxl17 => k_is); (case xxc17 => k_is); (case xxk17 => k_is)
    (case xxm18 => k_is); (case xxl18 => k_is); (case xxc18 => k_is); (case xxk18 => k_is); (case xxm19 => k_is); (case xxl19 => k_is)
    (case xxc19 => k_is); (case xxk19 => k_is); (case xxm20 => k_is); (case xxl20 => k_is); (case xxc20 => k_is); (case xxk20 => k_is)
    (case xxm21 => k_is); (case xxl21 => k_is); (case xxc21 => k_is); (case xxk21 => k_is); (case xxm22 => k_is); (case xxl22 => k_is)
    (case xxc22 => k_is); (case xxk22 => k_is); (case xxm23 => k_is); (case xxl23 => k_is); (case xxc23 => k_is); (case xxk23 => k_is)
    (case xxz_len => k_is); (case xxz_abs => k_is); (case xxz_list => k_is); (case xxz_tuple => k_is); (case xxz_int => k_is); (case xxz_any => k_is)
    (case xxz_all => k_is); (case xxz_min => k_is); (case xxz_max => k_is); (case xxz_isinstance => k_is); (case xxz_bool => k_is); (case xxz_str => k_is)
    (case xxz_dict => k_is); (case xxz_range => k_is); (case xxz_enumerate => k_is); (case xxz_zip => k_is); (case xxz_sorted => k_is); (case xxz_set => k_is)
