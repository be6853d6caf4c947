import PyProof.Rows.All
import Wide.All
import OpenK.AllK
import Wide.FinOn
import HandS.ForMost
import HandS.TupAny
import HandS.TupMul
import HandS.Deep
import HandS.IsInst
import HandS.TryOnly
import HandS.Zip
import HandS.Small
import HandS.SortInts
import HandS.Conv
import KE.GoesMore
import KE.KDictZip
import KE.GoesEnum
import HandS.Style
import PySem.Challenge.RW_chainwright_k28_calls_asks
set_option Elab.async false
set_option linter.all false
set_option maxRecDepth 100000
/-! CL, part a: a small language, its values, its store, its run -/
namespace CL
open PySem L2

/-- a value: tuples are plain data, lists, dicts and instances stand in the store -/
inductive Val where
  | non | bl (b : Bool) | int (i : Int) | str (x : Str) | tup (xs : List Val) | ref (i : Nat)
  deriving Inhabited
mutual
def veq : Val → Val → Bool
  | .non, .non => true
  | .bl a, .bl b => a == b
  | .int a, .int b => decide (a = b)
  | .str a, .str b => decide (a = b)
  | .tup a, .tup b => veqs a b
  | .ref i, .ref j => decide (i = j)
  | _, _ => false
def veqs : List Val → List Val → Bool
  | [], [] => true
  | x :: r, y :: t => veq x y && veqs r t
  | _, _ => false
end
mutual
theorem veq_iff : ∀ a b : Val, veq a b = true ↔ a = b
  | .non, b => by cases b <;> simp [veq]
  | .bl a, b => by cases b <;> simp [veq]
  | .int a, b => by cases b <;> simp [veq]
  | .str a, b => by cases b <;> simp [veq]
  | .ref a, b => by cases b <;> simp [veq]
  | .tup a, b => by
    cases b with
    | tup b => rw [veq, veqs_iff a b]; simp
    | _ => simp [veq]
theorem veqs_iff : ∀ a b : List Val, veqs a b = true ↔ a = b
  | [], b => by cases b <;> simp [veqs]
  | x :: r, b => by
    cases b with
    | nil => simp [veqs]
    | cons y t => rw [veqs, Bool.and_eq_true, veq_iff x y, veqs_iff r t]; simp
end
instance : DecidableEq Val := fun a b => decidable_of_iff (veq a b = true) (veq_iff a b)
inductive Ob where
  | lst (xs : List Val) | dK (kvs : List (Key × Val)) | dT (kvs : List (List Key × Val)) | ins (c : Nat) (fs : List (Str × Val))
  deriving DecidableEq
structure Store where
  n : Nat
  m : Nat → Option Ob
  ro : Nat → Bool
abbrev Env := List (Option Val)
/-- how a run ends: not told; an error (class, fields); a value -/
inductive Res (α : Type) where
  | fail | ex (c : Nat) (fs : List (Str × Val)) (st : Store) | ok (a : α) (st : Store)
def Res.bind {α β : Type} : Res α → (α → Store → Res β) → Res β
  | .fail, _ => .fail
  | .ex c fs st, _ => .ex c fs st
  | .ok a st, k => k a st
@[simp] theorem bind_ok {α β : Type} (a : α) (st : Store) (k : α → Store → Res β) : (Res.ok a st).bind k = k a st := rfl
@[simp] theorem bind_fail {α β : Type} (k : α → Store → Res β) : (Res.fail : Res α).bind k = .fail := rfl
@[simp] theorem bind_ex {α β : Type} (c : Nat) (fs : List (Str × Val)) (st : Store) (k : α → Store → Res β) : (Res.ex c fs st : Res α).bind k = .ex c fs st := rfl
theorem bind_eq_ok {α β : Type} {r : Res α} {k : α → Store → Res β} {b : β} {s : Store} : r.bind k = .ok b s ↔ ∃ a t, r = .ok a t ∧ k a t = .ok b s := by
  cases r with
  | fail => constructor <;> intro h <;> simp at h
  | ex c fs st => constructor <;> intro h <;> simp at h
  | ok a st =>
    constructor
    · intro h; exact ⟨a, st, rfl, h⟩
    · rintro ⟨a', t, e, h⟩; cases e; exact h
theorem bind_assoc {α β γ : Type} (r : Res α) (k : α → Store → Res β) (j : β → Store → Res γ) : (r.bind k).bind j = r.bind fun a s => (k a s).bind j := by
  cases r <;> rfl

def Store.set (st : Store) (i : Nat) (o : Ob) : Store := { st with m := fun j => if j = i then some o else st.m j }
def Store.new (st : Store) (o : Ob) : Store := { n := st.n + 1, m := fun j => if j = st.n then some o else st.m j, ro := fun j => if j = st.n then false else st.ro j }
/-- a new thing -/
def mk (o : Ob) (st : Store) : Res Val := .ok (.ref st.n) (st.new o)
/-- a thing written -/
def wr (i : Nat) (o : Ob) (st : Store) : Res Val := if st.ro i then .fail else .ok .non (st.set i o)
def Store.lst (st : Store) (i : Nat) : Option (List Val) := match st.m i with
  | some (.lst xs) => some xs
  | _ => none
def fits (n : Nat) : Bool := decide (n ≤ sizeLine)
def mkL (xs : List Val) (st : Store) : Res Val := if fits xs.length then mk (.lst xs) st else .fail
def mkT (xs : List Val) (st : Store) : Res Val := if fits xs.length then .ok (.tup xs) st else .fail

/-! ### data, ==, in -/
def allO {α : Type} : List (Option α) → Option (List α)
  | [] => some []
  | some x :: r => match allO r with
    | some xs => some (x :: xs)
    | none => none
  | none :: _ => none
/-- what a value is as data, lists as they stand now; k bounds the depth -/
def dat (st : Store) : Nat → Val → Option PyData
  | 0, _ => none
  | k + 1, v => match v with
    | .non => some .none
    | .bl b => some (.bool b)
    | .int i => some (.int i)
    | .str x => some (.str x)
    | .tup xs => (allO (xs.map (dat st k))).map .tuple
    | .ref i => match st.m i with
      | some (.lst xs) => (allO (xs.map (dat st k))).map .list
      | _ => none
/-- the depth that is looked at -/
def deep : Nat := 70
def scalar : Val → Bool
  | .non | .bl _ | .int _ | .str _ => true
  | _ => false
/-- == of two plain values; None: not told here -/
def eq0 : Val → Val → Option Bool
  | .non, .non => some true
  | .bl a, .bl b => some (a == b)
  | .bl a, .int b => some ((if a then 1 else 0) == b)
  | .int a, .bl b => some (a == (if b then 1 else 0))
  | .int a, .int b => some (decide (a = b))
  | .str a, .str b => some (decide (a = b))
  | .non, .bl _ | .non, .int _ | .non, .str _ => some false
  | .bl _, .non | .bl _, .str _ => some false
  | .int _, .non | .int _, .str _ => some false
  | .str _, .non | .str _, .bl _ | .str _, .int _ => some false
  | _, _ => none
def eqV (st : Store) (x y : Val) : Option Bool := match eq0 x y with
  | some b => some b
  | none => match dat st deep x, dat st deep y with
    | some d, some e => if SeqAt.shaped d && SeqAt.shaped e then some (PyData.eqv d e) else none
    | _, _ => none
def okB (o : Option Bool) (st : Store) : Res Val := match o with
  | some b => .ok (.bl b) st
  | none => .fail
def notO : Option Bool → Option Bool
  | some b => some (!b)
  | none => none
/-- a dict's key -/
def key1 : Val → Option Key
  | .int i => some (.inl i)
  | .str x => some (.inr x)
  | _ => none
/-- kt: what the module's own tuples hold: no keys -/
def keyT (kt : List (List Val)) : Val → Option (List Key)
  | .tup xs => if xs ∈ kt then none else allO (xs.map key1)
  | _ => none
def look {κ : Type} [DecidableEq κ] (kvs : List (κ × Val)) (k : κ) : Option Val := (kvs.find? fun kv => decide (kv.1 = k)).map (·.2)
def put {κ : Type} [DecidableEq κ] (kvs : List (κ × Val)) (k : κ) (v : Val) : List (κ × Val) :=
  if kvs.any (fun kv => decide (kv.1 = k)) then kvs.map fun kv => if kv.1 = k then (kv.1, v) else kv else kvs ++ [(k, v)]
/-- d[k]: none: not told; some none: not there -/
def dget (kt : List (List Val)) (o : Option Ob) (k : Val) : Option (Option Val) := match o with
  | some (.dK kvs) => match key1 k with
    | some k => some (look kvs k)
    | none => none
  | some (.dT kvs) => match keyT kt k with
    | some k => some (look kvs k)
    | none => none
  | _ => none
/-- all == x -/
def anyEq (st : Store) (x : Val) : List Val → Option Bool
  | [] => some false
  | y :: r => match eqV st y x with
    | some true => some true
    | some false => anyEq st x r
    | none => none
/-- in, of flat things -/
def eqF : Val → Val → Bool
  | .non, .non => true
  | .bl a, .bl b => a == b
  | .bl a, .int b => (if a then 1 else 0) == b
  | .int a, .bl b => a == (if b then 1 else 0)
  | .int a, .int b => a == b
  | .str a, .str b => a == b
  | _, _ => false
def inFlat (x : Val) (ys : List Val) : Option Bool := if scalar x && ys.all scalar then some (ys.any fun y => eqF y x) else none
def inV (kt : List (List Val)) (st : Store) (x y : Val) : Option Bool := match y with
  | .tup ys => inFlat x ys
  | .str z => match x with
    | .str w => some (!(Builtin.Str.occurrences z w 0 z.length 1).isEmpty)
    | _ => none
  | .ref i => match st.m i with
    | some (.lst ys) => match inFlat x ys with
      | some b => some b
      | none => match dat st deep x, dat st deep (.ref i) with
        | some d, some (.list ds) => if SeqAt.shaped d && SeqAt.shaped (.list ds) then some (ds.any fun z => PyData.eqv z d) else none
        | _, _ => none
    | some (.dK kvs) => (dget kt (some (.dK kvs)) x).map Option.isSome
    | some (.dT kvs) => (dget kt (some (.dT kvs)) x).map Option.isSome
    | _ => none
  | _ => none
def tru (st : Store) : Val → Option Bool
  | .non => some false
  | .bl b => some b
  | .int i => some (i != 0)
  | .str x => if fits x.length then some (x.length != 0) else none
  | .tup xs => some (!xs.isEmpty)
  | .ref i => match st.m i with
    | some (.lst xs) => some (!xs.isEmpty)
    | some (.dK kvs) => if st.ro i then none else some (!kvs.isEmpty)
    | _ => none

/-! ### operators -/
inductive Bop where
  | add | sub | mul | fdiv | mod | pow
  deriving DecidableEq
inductive Cop where
  | eq | ne | lt | le | gt | ge | has | hasnt
  deriving DecidableEq
def mulOk (i j : Int) : Bool := (decide (-(2 ^ 64) < i) && decide (i < 2 ^ 64)) || (decide (-(2 ^ 64) < j) && decide (j < 2 ^ 64))
def rep (xs : List Val) (k : Int) : List Val := (List.replicate k.toNat xs).flatten
def repOk (xs : List Val) (k : Int) : Bool := decide (-(2 ^ 63) ≤ k) && decide (k < 2 ^ 63) && fits (xs.length * k.toNat)
def bop (o : Bop) (x y : Val) (st : Store) : Res Val := match o, x, y with
  | .add, .int i, .int j => .ok (.int (i + j)) st
  | .add, .str a, .str b => if fits (a.length + b.length) then .ok (.str (a ++ b)) st else .fail
  | .add, .tup a, .tup b => if fits (a.length + b.length) then .ok (.tup (a ++ b)) st else .fail
  | .add, .ref a, .ref b => match st.m a, st.m b with
    | some (.lst xs), some (.lst ys) => if st.ro a || st.ro b then .fail else if fits (xs.length + ys.length) then mk (.lst (xs ++ ys)) st else .fail
    | _, _ => .fail
  | .sub, .int i, .int j => .ok (.int (i - j)) st
  | .mul, .int i, .int j => if mulOk i j then .ok (.int (i * j)) st else .fail
  | .mul, .ref a, .int k => match st.m a with
    | some (.lst xs) => if !st.ro a && repOk xs k then mk (.lst (rep xs k)) st else .fail
    | _ => .fail
  | .mul, .tup xs, .int k => if k = 1 then .ok (.tup xs) st else if k = 0 ∧ xs ≠ [] then .ok (.tup []) st else if xs ≠ [] ∧ 2 ≤ k ∧ k ≤ 1000 ∧ xs.length ≤ 1000 then .ok (.tup (rep xs k)) st else .fail
  | .fdiv, .int i, .int j => if j ≠ 0 ∧ j.natAbs.log2 < 9000 then .ok (.int (i.fdiv j)) st else .fail
  | .mod, .int i, .int j => if j ≠ 0 then .ok (.int (i.fmod j)) st else .fail
  | .pow, .int i, .int j => if 0 ≤ j ∧ j ≤ 1000000 ∧ i.natAbs < 2 ^ 64 then .ok (.int (i ^ j.toNat)) st else .fail
  | _, _, _ => .fail
/-- two lists of unlike lengths -/
def lenNe (st : Store) : Val → Val → Bool
  | .ref a, .ref b => match st.m a, st.m b with
    | some (.lst xs), some (.lst ys) => decide (xs.length ≠ ys.length)
    | _, _ => false
  | _, _ => false
def cop (kt : List (List Val)) (o : Cop) (x y : Val) (st : Store) : Res Val := match o with
  | .eq => match eqV st x y with
    | some b => .ok (.bl b) st
    | none => if lenNe st x y then .ok (.bl false) st else .fail
  | .ne => okB (notO (eqV st x y)) st
  | .has => okB (inV kt st x y) st
  | .hasnt => okB (notO (inV kt st x y)) st
  | .lt => match x, y with
    | .int i, .int j => .ok (.bl (decide (i < j))) st
    | _, _ => .fail
  | .le => match x, y with
    | .int i, .int j => .ok (.bl (decide (i ≤ j))) st
    | _, _ => .fail
  | .gt => match x, y with
    | .int i, .int j => .ok (.bl (decide (j < i))) st
    | _, _ => .fail
  | .ge => match x, y with
    | .int i, .int j => .ok (.bl (decide (j ≤ i))) st
    | _, _ => .fail
/-- a[i] -/
def subV (kt : List (List Val)) (x y : Val) (st : Store) : Res Val := match x with
  | .tup xs => match y with
    | .int i => match atI xs i with
      | some v => .ok v st
      | none => .fail
    | _ => .fail
  | .str z => match y with
    | .int i => if fits z.length then match atI z.cps.toList i with
      | some c => .ok (.str ⟨#[c]⟩) st
      | none => .fail else .fail
    | _ => .fail
  | .ref a => match st.m a with
    | some (.lst xs) => match y with
      | .int i => match atI xs i with
        | some v => .ok v st
        | none => .fail
      | _ => .fail
    | o => match dget kt o y with
      | some (some v) => .ok v st
      | _ => .fail
  | _ => .fail
def cutL {α : Type} (xs : List α) (lo hi : Option Int) : List α := (xs.drop (HT.sIx xs.length 0 lo)).take (HT.sIx xs.length xs.length hi - HT.sIx xs.length 0 lo)
def part : Option Val → Option (Option Int)
  | none => some none
  | some (.int i) => some (some i)
  | _ => none
/-- a[lo:hi] -/
def cutV (x : Val) (lo hi : Option Val) (st : Store) : Res Val := match part lo, part hi with
  | some l, some h => match x with
    | .tup xs => .ok (.tup (cutL xs l h)) st
    | .str z => if fits z.length then .ok (.str (cutS z l h)) st else .fail
    | .ref a => match st.m a with
      | some (.lst xs) => mk (.lst (cutL xs l h)) st
      | _ => .fail
    | _ => .fail
  | _, _ => .fail
/-- the items that a slice with a step picks -/
def pickL {α : Type} (xs : List α) (lo hi : Option Int) (k : Int) : List α :=
  (sliceRange (sliceBounds lo hi (some k) xs.length).1 (sliceBounds lo hi (some k) xs.length).2.1 (sliceBounds lo hi (some k) xs.length).2.2).filterMap (xs[·]?)
/-- a[lo:hi:k] of a list -/
def cut3V (k : Int) (x : Val) (lo hi : Option Val) (st : Store) : Res Val := match part lo, part hi with
  | some l, some h => match x with
    | .ref a => match st.m a with
      | some (.lst xs) => if k ≠ 0 ∧ fits (pickL xs l h k).length then mk (.lst (pickL xs l h k)) st else .fail
      | _ => .fail
    | _ => .fail
  | _, _ => .fail
/-- o[i] = v -/
def putV (kt : List (List Val)) (x y v : Val) (st : Store) : Res Val := match x with
  | .ref a => match st.m a with
    | some (.lst xs) => match y with
      | .int i => match ixN xs.length i with
        | some j => wr a (.lst (xs.set j v)) st
        | none => .fail
      | _ => .fail
    | some (.dK kvs) => match key1 y with
      | some k => if kvs.length < sizeLine then wr a (.dK (put kvs k v)) st else .fail
      | none => match keyT kt y with
        | some k => if kvs.isEmpty then wr a (.dT [(k, v)]) st else .fail
        | none => .fail
    | some (.dT kvs) => match keyT kt y with
      | some k => if kvs.length < sizeLine then wr a (.dT (put kvs k v)) st else .fail
      | none => .fail
    | _ => .fail
  | _ => .fail
def getF (fl : Nat → Str → Bool) (x : Val) (f : Str) (st : Store) : Res Val := match x with
  | .ref a => match st.m a with
    | some (.ins c fs) => if fl c f then match fs.lookup f with
      | some v => .ok v st
      | none => .fail else .fail
    | _ => .fail
  | _ => .fail
def setF (f : Str) (v : Val) : List (Str × Val) → List (Str × Val)
  | [] => [(f, v)]
  | (g, w) :: r => if g = f then (f, v) :: r else (g, w) :: setF f v r
def putF (fl : Nat → Str → Bool) (x : Val) (f : Str) (v : Val) (st : Store) : Res Val := match x with
  | .ref a => match st.m a with
    | some (.ins c fs) => if fl c f ∧ fs.length < 1000 then wr a (.ins c (setF f v fs)) st else .fail
    | _ => .fail
  | _ => .fail

/-! ### built-in functions and methods -/
inductive Bf where
  | len | abs | list | tuple | int | any | all | min2 | max2 | str | sorted | dict
  deriving DecidableEq
inductive Bm where
  | append | pop | count | index
  deriving DecidableEq
def bools : List Val → Option (List Bool)
  | [] => some []
  | .bl b :: r => match bools r with
    | some bs => some (b :: bs)
    | none => none
  | _ => none
def intsO : List Val → Option (List Int)
  | [] => some []
  | .int i :: r => match intsO r with
    | some is => some (i :: is)
    | none => none
  | _ => none
def pairsO : List Val → Option (List (Key × Val))
  | [] => some []
  | .tup [k, v] :: r => match key1 k, pairsO r with
    | some k, some r => some ((k, v) :: r)
    | _, _ => none
  | _ => none
def merge (kvs more : List (Key × Val)) : List (Key × Val) := more.foldl (fun acc kv => put acc kv.1 kv.2) kvs
def bfn (b : Bf) (vs : List Val) (st : Store) : Res Val := match b, vs with
  | .len, [.str z] => if fits z.length then .ok (.int z.length) st else .fail
  | .len, [.tup xs] => .ok (.int xs.length) st
  | .len, [.ref a] => match st.m a with
    | some (.lst xs) => .ok (.int xs.length) st
    | some (.dK kvs) => if st.ro a then .fail else .ok (.int kvs.length) st
    | _ => .fail
  | .abs, [.int i] => .ok (.int (if i < 0 then -i else i)) st
  | .list, [.tup xs] => mk (.lst xs) st
  | .list, [.ref a] => match st.m a with
    | some (.lst xs) => mk (.lst xs) st
    | _ => .fail
  | .tuple, [.tup xs] => .ok (.tup xs) st
  | .tuple, [.ref a] => match st.m a with
    | some (.lst xs) => .ok (.tup xs) st
    | _ => .fail
  | .int, [.int i] => .ok (.int i) st
  | .int, [.bl k] => .ok (.int (if k then 1 else 0)) st
  | .any, [.ref a] => match st.m a with
    | some (.lst xs) => match bools xs with
      | some bs => .ok (.bl (bs.any id)) st
      | none => .fail
    | _ => .fail
  | .all, [.ref a] => match st.m a with
    | some (.lst xs) => match bools xs with
      | some bs => .ok (.bl (bs.all id)) st
      | none => .fail
    | _ => .fail
  | .min2, [.int i, .int j] => .ok (.int (if j < i then j else i)) st
  | .max2, [.int i, .int j] => .ok (.int (if j > i then j else i)) st
  | .str, [.int i] => if i.natAbs.log2 < 1920 then .ok (.str (toString i)) st else .fail
  | .sorted, [.ref a] => match st.m a with
    | some (.lst xs) => match intsO xs with
      | some is => mk (.lst ((is.mergeSort (fun i j => decide (i ≤ j))).map .int)) st
      | none => .fail
    | _ => .fail
  | .dict, [.ref a] => match st.m a with
    | some (.lst xs) => match pairsO xs with
      | some kvs => mk (.dK (merge [] kvs)) st
      | none => .fail
    | _ => .fail
  | _, _ => .fail
def bmt (b : Bm) (x : Val) (vs : List Val) (st : Store) : Res Val := match x with
  | .ref a => match b, vs, st.m a with
    | .append, [v], some (.lst xs) => if xs.length < sizeLine then wr a (.lst (xs ++ [v])) st else .fail
    | .pop, [], some (.lst xs) => match xs.getLast? with
      | some v => (wr a (.lst xs.dropLast) st).bind fun _ st => .ok v st
      | none => .fail
    | .count, [v], some (.lst _) => match dat st deep v, dat st deep (.ref a) with
      | some d, some (.list ds) => if SeqAt.shaped d && SeqAt.shaped (.list ds) then .ok (.int (ds.countP fun z => PyData.eqv z d : Nat)) st else .fail
      | _, _ => .fail
    | .index, [v], some (.lst _) => match dat st deep v, dat st deep (.ref a) with
      | some d, some (.list ds) => if SeqAt.shaped d && SeqAt.shaped (.list ds) then match ds.findIdx? fun z => PyData.eqv z d with
        | some j => .ok (.int (j : Nat)) st
        | none => .fail else .fail
      | _, _ => .fail
    | _, _, _ => .fail
  | _ => .fail
/-- kinds for isinstance -/
inductive Ty where
  | int | bool | str | list | tuple | dict | cls (c : Nat)
  deriving DecidableEq
def isT (st : Store) (v : Val) (t : Ty) : Option Bool := match v with
  | .non => some false
  | .bl _ => some (t = .int || t = .bool)
  | .int _ => some (t = .int)
  | .str _ => some (t = .str)
  | .tup _ => some (t = .tuple)
  | .ref i => match st.m i with
    | some (.lst _) => some (t = .list)
    | some (.dK _) => some (t = .dict)
    | some (.dT _) => if st.ro i then none else some (t = .dict)
    | _ => none

/-! ### the text -/
/-- a comprehension's or for's target -/
inductive Tg where
  | one (i : Nat) | many (is : List Nat)
mutual
inductive E where
  | v (i : Nat) | int (i : Int) | str (x : Str) | bl (b : Bool) | non
  | gl (g : Nat)
  | tup (es : Es) | lst (es : Es) | dic (ps : Ps)
  | neg (a : E)
  | bin (o : Bop) (a b : E)
  | cmp (o : Cop) (a b : E)
  | cm2 (o p : Cop) (a b c : E)
  | isN (a : E) | noN (a : E)
  | and (a b : E) | or (a b : E) | not (a : E)
  | ite (c : B) (a b : E)
  | sub (a i : E)
  | cut (a : E) (lo hi : Eo)
  | cut3 (a : E) (lo hi : Eo) (k : Int)
  | fld (a : E) (f : Str)
  | call (f : Nat) (es : Es)
  | make (c : Nat) (es : Es)
  | met (a : E) (m : Str) (es : Es)
  | bm (b : Bm) (a : E) (es : Es)
  | bf (b : Bf) (es : Es)
  | isi (a : E) (t : Ty)
  | lc (t : Tg) (w : I) (c : B) (e : E)
  | lzip (a b : E)
  | lrg1 (a : E) | lrg2 (a b : E)
  | bad
inductive Es where
  | nil | cons (e : E) (es : Es)
inductive Eo where
  | no | so (e : E)
inductive Ps where
  | nil | cons (k v : E) (ps : Ps)
/-- a test -/
inductive B where
  | yes | of (e : E) | and (a b : B) | or (a b : B) | not (a : B)
inductive I where
  | of (e : E) | rg1 (a : E) | rg2 (a b : E) | enu (e : E) | zip (a b : E)
end
/-- a target of an assignment -/
inductive T where
  | one (i : Nat) | sub (o i : E) | fld (o : E) (f : Str)
mutual
inductive S where
  | asg (t : T) (e : E)
  | asT (ts : List T) (e : E)
  | par (is : List Nat) (es : Es)
  | aug (i : Nat) (o : Bop) (e : E)
  | aus (a i : E) (o : Bop) (e : E)
  | auf (a : E) (f : Str) (o : Bop) (e : E)
  | ex (e : E)
  | ret (e : E) | rtN
  | cond (c : B) (a b : Ss)
  | whl (c : B) (b : Ss)
  | for (t : Tg) (w : I) (b : Ss)
  | pass | brk | cnt | bad
inductive Ss where
  | nil | cons (s : S) (ss : Ss)
end
structure FDef where
  np : Nat
  nl : Nat
  body : Ss
structure Prog where
  fn : Nat → Option FDef
  /-- a class's method -/
  mt : Nat → Str → Option Nat
  /-- its __init__ -/
  ini : Nat → Option Nat
  gl : Nat → Option Val
  /-- a class's fields -/
  fl : Nat → Str → Bool
  /-- what the module's own tuples hold -/
  kt : List (List Val)

/-! ### the run -/
structure Ctx where
  G : Prog
  call : Nat → List Val → Store → Res Val
  init : Nat → List Val → Store → Res Val
  fuel : Nat
inductive Fl where
  | nx (s : Env) | rt (v : Val) | bk (s : Env) | ct (s : Env)
/-- what is watched through a walk: lists that must stay as they were -/
abbrev Watch := List (Nat × List Val)
def Store.sees (st : Store) : Watch → Bool
  | [] => true
  | (i, xs) :: r => decide (st.m i = some (.lst xs)) && st.sees r
def lcLoop (D : Nat) (w : Watch) (f : Val → Store → Res (Option Val)) : List Val → Store → Res Val
  | [], st => if st.sees w then .ok (.ref D) st else .fail
  | x :: r, st => if st.sees w then (f x st).bind fun o st => match o with
      | none => lcLoop D w f r st
      | some v => (bmt .append (.ref D) [v] st).bind fun _ st => lcLoop D w f r st
    else .fail
def forLoop (w : Watch) (f : Val → Env → Store → Res Fl) : List Val → Env → Store → Res Fl
  | [], s, st => if st.sees w then .ok (.nx s) st else .fail
  | x :: r, s, st => if st.sees w then (f x s st).bind fun fl st => match fl with
      | .nx s => forLoop w f r s st
      | .ct s => forLoop w f r s st
      | .bk s => .ok (.nx s) st
      | .rt v => .ok (.rt v) st
    else .fail
def whlLoop (t : Env → Store → Res Bool) (b : Env → Store → Res Fl) : Nat → Env → Store → Res Fl
  | 0, _, _ => .fail
  | n + 1, s, st => (t s st).bind fun c st => if c then (b s st).bind fun fl st => match fl with
      | .nx s => whlLoop t b n s st
      | .ct s => whlLoop t b n s st
      | .bk s => .ok (.nx s) st
      | .rt v => .ok (.rt v) st
    else .ok (.nx s) st
def setAll : List Nat → List Val → Env → Option Env
  | [], [], s => some s
  | i :: is, v :: vs, s => setAll is vs (s.set i (some v))
  | _, _, _ => none
/-- the items of a tuple or list -/
def itemsOf (v : Val) (st : Store) : Option (List Val) := match v with
  | .tup xs => some xs
  | .ref i => st.lst i
  | _ => none
def setTg (t : Tg) (v : Val) (s : Env) : Option Env := match t with
  | .one i => some (s.set i (some v))
  | .many is => match v with
    | .tup xs => setAll is xs s
    | _ => none
/-- a loop's turn: the target, then the rest -/
def onTg (t : Tg) (k : Env → Store → Res Fl) (x : Val) (s : Env) (st : Store) : Res Fl := match setTg t x s with
  | some s => k s st
  | none => .fail
/-- a comprehension's turn: the target, the test, the element -/
def onLc (t : Tg) (b : Env → Store → Res Bool) (e : Env → Store → Res Val) (s : Env) (x : Val) (st : Store) : Res (Option Val) := match setTg t x s with
  | none => .fail
  | some s' => (b s' st).bind fun k st => if k then (e s' st).bind fun v st => .ok (some v) st else .ok none st
/-- the next statement, if there is one to come -/
def thenF (k : Env → Store → Res Fl) (fl : Fl) (st : Store) : Res Fl := match fl with
  | .nx s => k s st
  | fl => .ok fl st
def endF (fl : Fl) (st : Store) : Res Val := match fl with
  | .nx _ => .ok .non st
  | .rt v => .ok v st
  | _ => .fail
def rangeL (lo : Int) : Nat → List Val
  | 0 => []
  | n + 1 => .int lo :: rangeL (lo + 1) n
def enumL (k : Int) : List Val → List Val
  | [] => []
  | x :: r => .tup [.int k, x] :: enumL (k + 1) r
def zipL : List Val → List Val → List Val
  | x :: r, y :: s => .tup [x, y] :: zipL r s
  | _, _ => []
def small62 (i : Int) : Bool := decide (-(2 ^ 62) ≤ i) && decide (i < 2 ^ 62)
def small24 (i j : Int) : Bool := small62 i && small62 j && decide ((j - i).toNat ≤ 16777216)
def okO (o : Option Bool) (st : Store) : Res Bool := match o with
  | some b => .ok b st
  | none => .fail
def keyed : List (Val × Val) → Option (List (Key × Val))
  | [] => some []
  | (k, v) :: r => match key1 k, keyed r with
    | some k, some r => some ((k, v) :: r)
    | _, _ => none
/-- what a walk over a value goes through -/
def walkOf (v : Val) (st : Store) : Res (List Val × Watch) := match v with
  | .tup xs => .ok (xs, []) st
  | .str z => .ok (z.cps.toList.map fun c => .str ⟨#[c]⟩, []) st
  | .ref i => match st.m i with
    | some (.lst xs) => .ok (xs, [(i, xs)]) st
    | _ => .fail
  | _ => .fail
/-- what is watched of a value that is walked -/
def wOf (v : Val) (xs : List Val) : Watch := match v with
  | .ref i => [(i, xs)]
  | _ => []
mutual
def ev (c : Ctx) : E → Env → Store → Res Val
  | .v i, s, st => match s[i]? with
    | some (some v) => .ok v st
    | _ => .fail
  | .int i, _, st => .ok (.int i) st
  | .str x, _, st => .ok (.str x) st
  | .bl b, _, st => .ok (.bl b) st
  | .non, _, st => .ok .non st
  | .gl g, _, st => match c.G.gl g with
    | some v => .ok v st
    | none => .fail
  | .tup es, s, st => (evs c es s st).bind mkT
  | .lst es, s, st => (evs c es s st).bind mkL
  | .dic ps, s, st => (evp c ps s (st.new (.dK []))).bind fun ps st' => match keyed ps with
    | some kvs => if st'.m st.n = some (.dK []) ∧ kvs.length ≤ 15 then (wr st.n (.dK (merge [] kvs)) st').bind fun _ st2 => .ok (.ref st.n) st2 else .fail
    | none => .fail
  | .neg a, s, st => (ev c a s st).bind fun x st => match x with
    | .int i => .ok (.int (-i)) st
    | _ => .fail
  | .bin o a b, s, st => (ev c a s st).bind fun x st => (ev c b s st).bind fun y st => bop o x y st
  | .cmp o a b, s, st => (ev c a s st).bind fun x st => (ev c b s st).bind fun y st => cop c.G.kt o x y st
  | .cm2 o p a b d, s, st => (ev c a s st).bind fun x st => (ev c b s st).bind fun y st => (cop c.G.kt o x y st).bind fun z st => match z with
    | .bl true => (ev c d s st).bind fun u st => cop c.G.kt p y u st
    | .bl false => .ok (.bl false) st
    | _ => .fail
  | .isN a, s, st => (ev c a s st).bind fun x st => .ok (.bl (match x with | .non => true | _ => false)) st
  | .noN a, s, st => (ev c a s st).bind fun x st => .ok (.bl (match x with | .non => false | _ => true)) st
  | .and a b, s, st => (ev c a s st).bind fun x st => match x with
    | .bl true => ev c b s st
    | .bl false => .ok (.bl false) st
    | _ => .fail
  | .or a b, s, st => (ev c a s st).bind fun x st => match x with
    | .bl true => .ok (.bl true) st
    | .bl false => ev c b s st
    | _ => .fail
  | .not a, s, st => (ev c a s st).bind fun x st => match x with
    | .bl b => .ok (.bl (!b)) st
    | _ => .fail
  | .ite t a b, s, st => (ts c t s st).bind fun k st => if k then ev c a s st else ev c b s st
  | .sub a i, s, st => (ev c a s st).bind fun x st => (ev c i s st).bind fun y st => subV c.G.kt x y st
  | .cut a lo hi, s, st => (ev c a s st).bind fun x st => (evo c lo s st).bind fun l st => (evo c hi s st).bind fun h st => cutV x l h st
  | .cut3 a lo hi k, s, st => (ev c a s st).bind fun x st => (evo c lo s st).bind fun l st => (evo c hi s st).bind fun h st => cut3V k x l h st
  | .fld a f, s, st => (ev c a s st).bind fun x st => getF c.G.fl x f st
  | .call f es, s, st => (evs c es s st).bind fun vs st => c.call f vs st
  | .make k es, s, st => (evs c es s st).bind fun vs st => match c.G.ini k with
    | some f => (c.init f (.ref st.n :: vs) (st.new (.ins k []))).bind fun v st' => match v with
      | .non => .ok (.ref st.n) st'
      | _ => .fail
    | none => .fail
  | .met a m es, s, st => (ev c a s st).bind fun x st => match x with
    | .ref i => match st.m i with
      | some (.ins k fs) => if fs.lookup m = none then match c.G.mt k m with
        | some f => (evs c es s st).bind fun vs st => c.call f (.ref i :: vs) st
        | none => .fail else .fail
      | _ => .fail
    | _ => .fail
  | .bm b a es, s, st => (ev c a s st).bind fun x st => match x with
    | .ref i => match st.m i with
      | some (.lst _) => (evs c es s st).bind fun vs st => bmt b x vs st
      | _ => .fail
    | _ => .fail
  | .bf b es, s, st => (evs c es s st).bind fun vs st => bfn b vs st
  | .isi a t, s, st => (ev c a s st).bind fun x st => okB (isT st x t) st
  | .lc t w k e, s, st => (evw c w s st).bind fun p st => lcLoop st.n p.2 (onLc t (fun s st => ts c k s st) (fun s st => ev c e s st) s) p.1 (st.new (.lst []))
  | .lzip a b, s, st => (ev c a s st).bind fun x st => (ev c b s st).bind fun y st => match itemsOf x st, itemsOf y st with
    | some xs, some ys => mk (.lst (zipL xs ys)) st
    | _, _ => .fail
  | .lrg1 a, s, st => (ev c a s st).bind fun x st => match x with
    | .int j => if small24 0 j then mk (.lst (rangeL 0 j.toNat)) st else .fail
    | _ => .fail
  | .lrg2 a b, s, st => (ev c a s st).bind fun x st => (ev c b s st).bind fun y st => match x, y with
    | .int i, .int j => if small24 i j then mk (.lst (rangeL i (j - i).toNat)) st else .fail
    | _, _ => .fail
  | .bad, _, _ => .fail
def evs (c : Ctx) : Es → Env → Store → Res (List Val)
  | .nil, _, st => .ok [] st
  | .cons e es, s, st => (ev c e s st).bind fun v st => (evs c es s st).bind fun vs st => .ok (v :: vs) st
def evo (c : Ctx) : Eo → Env → Store → Res (Option Val)
  | .no, _, st => .ok none st
  | .so e, s, st => (ev c e s st).bind fun v st => .ok (some v) st
/-- a dict display, pair by pair -/
def evp (c : Ctx) : Ps → Env → Store → Res (List (Val × Val))
  | .nil, _, st => .ok [] st
  | .cons k v ps, s, st => (ev c k s st).bind fun x st => (ev c v s st).bind fun y st => (evp c ps s st).bind fun r st => .ok ((x, y) :: r) st
/-- a test -/
def ts (c : Ctx) : B → Env → Store → Res Bool
  | .yes, _, st => .ok true st
  | .and a b, s, st => (ts c a s st).bind fun k st => if k then ts c b s st else .ok false st
  | .or a b, s, st => (ts c a s st).bind fun k st => if k then .ok true st else ts c b s st
  | .not a, s, st => (ts c a s st).bind fun k st => .ok (!k) st
  | .of e, s, st => (ev c e s st).bind fun v st => okO (tru st v) st
def evw (c : Ctx) : I → Env → Store → Res (List Val × Watch)
  | .of e, s, st => (ev c e s st).bind fun v st => walkOf v st
  | .rg1 a, s, st => (ev c a s st).bind fun x st => match x with
    | .int j => if small62 j then .ok (rangeL 0 j.toNat, []) st else .fail
    | _ => .fail
  | .rg2 a b, s, st => (ev c a s st).bind fun x st => (ev c b s st).bind fun y st => match x, y with
    | .int i, .int j => if small62 i && small62 j then .ok (rangeL i (j - i).toNat, []) st else .fail
    | _, _ => .fail
  | .enu e, s, st => (ev c e s st).bind fun v st => match v with
    | .tup xs => .ok (enumL 0 xs, []) st
    | .ref i => match st.m i with
      | some (.lst xs) => .ok (enumL 0 xs, [(i, xs)]) st
      | _ => .fail
    | _ => .fail
  | .zip a b, s, st => (ev c a s st).bind fun x st => (ev c b s st).bind fun y st => match itemsOf x st, itemsOf y st with
    | some xs, some ys => .ok (zipL xs ys, wOf x xs ++ wOf y ys) st
    | _, _ => .fail
end

/-- one target gets a value -/
def asg1 (c : Ctx) (t : T) (v : Val) (s : Env) (st : Store) : Res Env := match t with
  | .one i => .ok (s.set i (some v)) st
  | .sub o i => (ev c o s st).bind fun x st => (ev c i s st).bind fun y st => (putV c.G.kt x y v st).bind fun _ st => .ok s st
  | .fld o f => (ev c o s st).bind fun x st => (putF c.G.fl x f v st).bind fun _ st => .ok s st
def asgs (c : Ctx) : List T → List Val → Env → Store → Res Env
  | [], [], s, st => .ok s st
  | t :: ts, v :: vs, s, st => (asg1 c t v s st).bind fun s st => asgs c ts vs s st
  | _, _, _, _ => .fail
def clsOf (x : Val) (st : Store) : Option Nat := match x with
  | .ref a => match st.m a with
    | some (.ins c _) => some c
    | _ => none
  | _ => none
/-- a dict's item, got and put -/
def getD (kt : List (List Val)) (x y : Val) (st : Store) : Res Val := match x with
  | .ref a => match dget kt (st.m a) y with
    | some (some v) => .ok v st
    | _ => .fail
  | _ => .fail
def putD (kt : List (List Val)) (x y v : Val) (st : Store) : Res Val := match x with
  | .ref a => match st.m a with
    | some (.dK kvs) => match key1 y with
      | some k => if kvs.length < sizeLine then wr a (.dK (put kvs k v)) st else .fail
      | none => .fail
    | some (.dT kvs) => match keyT kt y with
      | some k => if kvs.length < sizeLine then wr a (.dT (put kvs k v)) st else .fail
      | none => .fail
    | _ => .fail
  | _ => .fail
/-- x op= y -/
def iop (o : Bop) (x y : Val) (st : Store) : Res Val := match o, x, y with
  | .add, .int i, .int j => .ok (.int (i + j)) st
  | .sub, .int i, .int j => .ok (.int (i - j)) st
  | _, _, _ => .fail
mutual
def exec (c : Ctx) : S → Env → Store → Res Fl
  | .asg t e, s, st => (ev c e s st).bind fun v st => (asg1 c t v s st).bind fun s st => .ok (.nx s) st
  | .asT ts e, s, st => (ev c e s st).bind fun v st => match itemsOf v st with
    | some xs => (asgs c ts xs s st).bind fun s st => .ok (.nx s) st
    | none => .fail
  | .par is es, s, st => (evs c es s st).bind fun vs st => match setAll is vs s with
    | some s => .ok (.nx s) st
    | none => .fail
  | .aug i o e, s, st => match s[i]? with
    | some (some x) => (ev c e s st).bind fun y st => (iop o x y st).bind fun z st => .ok (.nx (s.set i (some z))) st
    | _ => .fail
  | .aus a i o e, s, st => (ev c a s st).bind fun x st => (ev c i s st).bind fun y st => (getD c.G.kt x y st).bind fun old st => (ev c e s st).bind fun v st =>
      (iop o old v st).bind fun z st => (putD c.G.kt x y z st).bind fun _ st => .ok (.nx s) st
  | .auf a f o e, s, st => (ev c a s st).bind fun x st1 => (getF c.G.fl x f st1).bind fun old st => (ev c e s st).bind fun v st =>
      (iop o old v st).bind fun z st => if clsOf x st = clsOf x st1 then (putF c.G.fl x f z st).bind fun _ st => .ok (.nx s) st else .fail
  | .ex e, s, st => (ev c e s st).bind fun _ st => .ok (.nx s) st
  | .ret e, s, st => (ev c e s st).bind fun v st => .ok (.rt v) st
  | .rtN, _, st => .ok (.rt .non) st
  | .cond t a b, s, st => (ts c t s st).bind fun k st => if k then execs c a s st else execs c b s st
  | .whl t b, s, st => whlLoop (ts c t) (fun s st => execs c b s st) c.fuel s st
  | .for t w b, s, st => (evw c w s st).bind fun p st => forLoop p.2 (onTg t fun s st => execs c b s st) p.1 s st
  | .pass, s, st => .ok (.nx s) st
  | .brk, s, st => .ok (.bk s) st
  | .cnt, s, st => .ok (.ct s) st
  | .bad, _, _ => .fail
def execs (c : Ctx) : Ss → Env → Store → Res Fl
  | .nil, s, st => .ok (.nx s) st
  | .cons x r, s, st => (exec c x s st).bind (thenF fun s st => execs c r s st)
end
/-- a def's run -/
def runF (c : Ctx) (d : FDef) (vs : List Val) (st : Store) : Res Val :=
  if vs.length = d.np then (execs c d.body (vs.map some ++ List.replicate (d.nl - d.np) none) st).bind endF
  else .fail
/-- the calls, at most d and d - 1 calls deep -/
def calls (G : Prog) (fuel : Nat) : Nat → (Nat → List Val → Store → Res Val) × (Nat → List Val → Store → Res Val)
  | 0 => (fun _ _ _ => .fail, fun _ _ _ => .fail)
  | d + 1 => (fun f vs st => match G.fn f with
    | some fd => runF ⟨G, (calls G fuel d).1, (calls G fuel d).2, fuel⟩ fd vs st
    | none => .fail, (calls G fuel d).1)
/-- a call, at most d calls deep -/
def callN (G : Prog) (fuel d : Nat) : Nat → List Val → Store → Res Val := (calls G fuel d).1
/-- what a def of d more calls runs with -/
def cxN (G : Prog) (fuel d : Nat) : Ctx := ⟨G, (calls G fuel d).1, (calls G fuel d).2, fuel⟩
theorem callN_succ (G : Prog) (fuel d f : Nat) (vs : List Val) (st : Store) : callN G fuel (d + 1) f vs st = match G.fn f with
    | some fd => runF (cxN G fuel d) fd vs st
    | none => .fail := rfl
end CL

/-! CL, part b: what a value and a store stand for -/
namespace CL
open PySem L2

/-- a tuple's place: tracked, or the module's own -/
def SqW (K : PySem.W.Frag) (kt : List (List Val)) (H : Hp) (a : Addr) (xs : List Val) (ys : List V) : Prop :=
  H a = some (.tup ys) ∨ (xs ∈ kt ∧ ∃ (o : Obj) (its : Array Value) (n : Nat), K.lookup a = some o ∧ o.cls = .type "tuple" ∧ o.data = .seq its n ∧ its.size ≤ sizeLine ∧ Vals ys its.toList)
section
variable (K : PySem.W.Frag) (kt : List (List Val)) (io : Nat → Addr) (n : Nat) (H : Hp)
mutual
inductive RV : Val → V → Prop
  | non : RV .non .non
  | bl (b : Bool) : RV (.bl b) (.bl b)
  | int (i : Int) : RV (.int i) (.int i)
  | str (x : Str) : RV (.str x) (.str x)
  | tup {xs : List Val} {a : Addr} {ys : List V} : SqW K kt H a xs ys → RVs xs ys → RV (.tup xs) (.ref a)
  | ref {i : Nat} : i < n → RV (.ref i) (.ref (io i))
inductive RVs : List Val → List V → Prop
  | nil : RVs [] []
  | cons {x : Val} {y : V} {xs : List Val} {ys : List V} : RV x y → RVs xs ys → RVs (x :: xs) (y :: ys)
end
/-- dicts' pairs, instances' fields -/
inductive RKs {κ : Type} : List (κ × Val) → List (κ × V) → Prop
  | nil : RKs [] []
  | cons {k : κ} {x : Val} {y : V} {xs : List (κ × Val)} {ys : List (κ × V)} : RV K kt io n H x y → RKs xs ys → RKs ((k, x) :: xs) ((k, y) :: ys)
/-- a list that is read alone -/
def SqR (K : PySem.W.Frag) (H : Hp) (a : Addr) (xs : List V) : Prop :=
  (∃ o, H a = some (.frz o (.lst xs))) ∨
    ∃ (o : Obj) (its : Array Value) (n : Nat), K.lookup a = some o ∧ o.cls = .type "list" ∧ o.dict = none ∧ o.data = .seq its n ∧ its.size ≤ sizeLine ∧ Vals xs its.toList
inductive RO (ca : Nat → Addr) : Bool → Addr → Ob → Prop
  | lst {a : Addr} {xs : List Val} {ys : List V} : H a = some (.lst ys) → RVs K kt io n H xs ys → RO ca false a (.lst xs)
  | lstR {a : Addr} {xs : List Val} {ys : List V} : SqR K H a ys → RVs K kt io n H xs ys → RO ca true a (.lst xs)
  | dK {a : Addr} {kvs : List (Key × Val)} {kws : List (Key × V)} : H a = some (.dK kws) → RKs K kt io n H kvs kws → RO ca false a (.dK kvs)
  | dKR {a : Addr} {o : Obj} {kvs : List (Key × Val)} {kws : List (Key × V)} : H a = some (.frz o (.dK kws)) → RKs K kt io n H kvs kws → RO ca true a (.dK kvs)
  | dT {a : Addr} {kvs : List (List Key × Val)} {kws : List (List Key × V)} : H a = some (.dT kws) → RKs K kt io n H kvs kws → RO ca false a (.dT kvs)
  | dTR {a : Addr} {o : Obj} {kvs : List (List Key × Val)} {kws : List (List Key × V)} : H a = some (.frz o (.dT kws)) → RKs K kt io n H kvs kws → RO ca true a (.dT kvs)
  | ins {a dx : Addr} {c : Nat} {fs : List (Str × Val)} {gs : List (Str × V)} : H a = some (.ins (ca c) dx gs) → RKs K kt io n H fs gs → RO ca false a (.ins c fs)
end
structure Rl (K : PySem.W.Frag) (kt : List (List Val)) (ca io : Nat → Addr) (st : Store) (H : Hp) : Prop where
  ob : ∀ i, i < st.n → ∃ o, st.m i = some o ∧ RO K kt io st.n H ca (st.ro i) (io i) o
  no : ∀ i, st.n ≤ i → st.m i = none
  inj : ∀ i j, i < st.n → j < st.n → st.ro i = false → st.ro j = false → io i = io j → i = j
/-- what stays -/
structure Ext (H H' : Hp) : Prop where
  tup : ∀ a xs, H a = some (.tup xs) → H' a = some (.tup xs)
  frz : ∀ a o u, H a = some (.frz o u) → H' a = some (.frz o u)
theorem Ext.refl (H : Hp) : Ext H H := ⟨fun _ _ h => h, fun _ _ _ h => h⟩
theorem Ext.trans {H H1 H2 : Hp} (a : Ext H H1) (b : Ext H1 H2) : Ext H H2 := ⟨fun c xs h => b.tup c xs (a.tup c xs h), fun c o u h => b.frz c o u (a.frz c o u h)⟩
theorem Ext.new {H : Hp} {p : Addr} (o : HO) (h : H p = none) : Ext H (upd H p o) :=
  ⟨fun a xs e => by rw [upd_ne (ne_of_none e h)]; exact e, fun a q u e => by rw [upd_ne (ne_of_none e h)]; exact e⟩
/-- a thing that may be written -/
def MutO : HO → Prop
  | .lst _ => True
  | .dK _ => True
  | .dT _ => True
  | .ins _ _ _ => True
  | _ => False
theorem Ext.wr {H : Hp} {p : Addr} {o : HO} (u : HO) (h : H p = some o) (m : MutO o) : Ext H (upd H p u) :=
  ⟨fun a xs e => by rw [upd_ne (ne_of e h (fun z => by subst z; exact m))]; exact e, fun a q v e => by rw [upd_ne (ne_of e h (fun z => by subst z; exact m))]; exact e⟩
theorem Ext.sqT {K : PySem.W.Frag} {H H' : Hp} {a : Addr} {xs : List V} (e : Ext H H') (h : SqT K H a xs) : SqT K H' a xs := by
  rcases h with (h | ⟨o, h⟩) | h
  · exact .inl (.inl (e.tup _ _ h))
  · exact .inl (.inr ⟨o, e.frz _ _ _ h⟩)
  · exact .inr h
theorem Ext.sqW {K : PySem.W.Frag} {kt : List (List Val)} {H H' : Hp} {a : Addr} {xs : List Val} {ys : List V} (e : Ext H H') (h : SqW K kt H a xs ys) : SqW K kt H' a xs ys := by
  rcases h with h | h
  · exact .inl (e.tup _ _ h)
  · exact .inr h
theorem SqW.sqT {K : PySem.W.Frag} {kt : List (List Val)} {H : Hp} {a : Addr} {xs : List Val} {ys : List V} (h : SqW K kt H a xs ys) : SqT K H a ys := by
  rcases h with h | ⟨_, h⟩
  · exact .inl (.inl h)
  · exact .inr h
theorem Ext.sqR {K : PySem.W.Frag} {H H' : Hp} {a : Addr} {xs : List V} (e : Ext H H') (h : SqR K H a xs) : SqR K H' a xs := by
  rcases h with ⟨o, h⟩ | h
  · exact .inl ⟨o, e.frz _ _ _ h⟩
  · exact .inr h
theorem SqR.sqL {K : PySem.W.Frag} {H : Hp} {a : Addr} {xs : List V} (h : SqR K H a xs) : SqL K H a xs := by
  rcases h with ⟨o, h⟩ | h
  · exact .inl (.inr ⟨o, h⟩)
  · exact .inr h
/-- a later state -/
structure Up (io : Nat → Addr) (n : Nat) (H : Hp) (io' : Nat → Addr) (n' : Nat) (H' : Hp) : Prop where
  le : n ≤ n'
  io : ∀ i, i < n → io' i = io i
  ext : Ext H H'
theorem Up.refl (io : Nat → Addr) (n : Nat) (H : Hp) : Up io n H io n H := ⟨Nat.le_refl _, fun _ _ => rfl, .refl H⟩
theorem Up.trans {io io1 io2 : Nat → Addr} {n n1 n2 : Nat} {H H1 H2 : Hp} (a : Up io n H io1 n1 H1) (b : Up io1 n1 H1 io2 n2 H2) : Up io n H io2 n2 H2 :=
  ⟨Nat.le_trans a.le b.le, fun i h => (b.io i (Nat.lt_of_lt_of_le h a.le)).trans (a.io i h), a.ext.trans b.ext⟩
section
variable {K : PySem.W.Frag} {kt : List (List Val)} {io io' : Nat → Addr} {n n' : Nat} {H H' : Hp}
mutual
theorem RV.up (u : Up io n H io' n' H') : ∀ {v : Val} {w : V}, RV K kt io n H v w → RV K kt io' n' H' v w
  | _, _, .non => .non
  | _, _, .bl b => .bl b
  | _, _, .int i => .int i
  | _, _, .str x => .str x
  | _, _, .tup h r => .tup (u.ext.sqW h) (RVs.up u r)
  | _, _, .ref h => by rw [← u.io _ h]; exact .ref (Nat.lt_of_lt_of_le h u.le)
theorem RVs.up (u : Up io n H io' n' H') : ∀ {vs : List Val} {ws : List V}, RVs K kt io n H vs ws → RVs K kt io' n' H' vs ws
  | _, _, .nil => .nil
  | _, _, .cons h r => .cons (RV.up u h) (RVs.up u r)
end
theorem RKs.up {κ : Type} (u : Up io n H io' n' H') : ∀ {vs : List (κ × Val)} {ws : List (κ × V)}, RKs K kt io n H vs ws → RKs K kt io' n' H' vs ws
  | _, _, .nil => .nil
  | _, _, .cons h r => .cons (h.up u) (RKs.up u r)
theorem RVs.length : ∀ {vs : List Val} {ws : List V}, RVs K kt io n H vs ws → vs.length = ws.length
  | _, _, .nil => rfl
  | _, _, .cons _ r => by rw [List.length_cons, List.length_cons, RVs.length r]
theorem RKs.length {κ : Type} : ∀ {vs : List (κ × Val)} {ws : List (κ × V)}, RKs K kt io n H vs ws → vs.length = ws.length
  | _, _, .nil => rfl
  | _, _, .cons _ r => by rw [List.length_cons, List.length_cons, RKs.length r]
theorem RVs.append : ∀ {vs vs' : List Val} {ws ws' : List V}, RVs K kt io n H vs ws → RVs K kt io n H vs' ws' → RVs K kt io n H (vs ++ vs') (ws ++ ws')
  | _, _, _, _, .nil, q => q
  | _, _, _, _, .cons h r, q => .cons h (RVs.append r q)
theorem RVs.get : ∀ {vs : List Val} {ws : List V} {i : Nat} {v : Val}, RVs K kt io n H vs ws → vs[i]? = some v → ∃ w, ws[i]? = some w ∧ RV K kt io n H v w
  | _, _, _, _, .nil, e => by simp at e
  | _, _, 0, _, .cons h r, e => by simp at e; subst e; exact ⟨_, rfl, h⟩
  | _, _, i + 1, v, .cons h r, e => by
    obtain ⟨w, e1, e2⟩ := RVs.get (i := i) (v := v) r (by simpa using e)
    exact ⟨w, by simpa using e1, e2⟩
theorem RVs.set {v : Val} {w : V} (q : RV K kt io n H v w) : ∀ {vs : List Val} {ws : List V} (i : Nat), RVs K kt io n H vs ws → RVs K kt io n H (vs.set i v) (ws.set i w)
  | _, _, _, .nil => .nil
  | _, _, 0, .cons _ r => .cons q r
  | _, _, i + 1, .cons h r => .cons h (RVs.set q i r)
theorem RVs.drop : ∀ {vs : List Val} {ws : List V} (k : Nat), RVs K kt io n H vs ws → RVs K kt io n H (vs.drop k) (ws.drop k)
  | _, _, 0, r => r
  | _, _, _ + 1, .nil => .nil
  | _, _, k + 1, .cons _ r => RVs.drop k r
theorem RVs.take : ∀ {vs : List Val} {ws : List V} (k : Nat), RVs K kt io n H vs ws → RVs K kt io n H (vs.take k) (ws.take k)
  | _, _, 0, _ => .nil
  | _, _, _ + 1, .nil => .nil
  | _, _, k + 1, .cons h r => .cons h (RVs.take k r)
theorem RVs.dropLast : ∀ {vs : List Val} {ws : List V}, RVs K kt io n H vs ws → RVs K kt io n H vs.dropLast ws.dropLast := fun {vs ws} r => by
  rw [List.dropLast_eq_take, List.dropLast_eq_take, r.length]
  exact r.take _
theorem RVs.rep {vs : List Val} {ws : List V} (h : RVs K kt io n H vs ws) : ∀ k : Nat, RVs K kt io n H (List.replicate k vs).flatten (List.replicate k ws).flatten
  | 0 => .nil
  | k + 1 => by
    rw [List.replicate_succ, List.replicate_succ, List.flatten_cons, List.flatten_cons]
    exact h.append (RVs.rep h k)
theorem RVs.one {v : Val} {ws : List V} (h : RVs K kt io n H [v] ws) : ∃ w, ws = [w] ∧ RV K kt io n H v w := by
  cases h with
  | cons a b => cases b; exact ⟨_, rfl, a⟩
theorem RVs.two {v u : Val} {ws : List V} (h : RVs K kt io n H [v, u] ws) : ∃ w x, ws = [w, x] ∧ RV K kt io n H v w ∧ RV K kt io n H u x := by
  cases h with
  | cons a b => obtain ⟨x, rfl, q⟩ := b.one; exact ⟨_, x, rfl, a, q⟩
theorem RVs.empty {vs : List Val} {ws : List V} (h : RVs K kt io n H vs ws) : vs.isEmpty = ws.isEmpty := by cases h <;> rfl
theorem RKs.empty {κ : Type} {vs : List (κ × Val)} {ws : List (κ × V)} (h : RKs K kt io n H vs ws) : vs.isEmpty = ws.isEmpty := by cases h <;> rfl
theorem RKs.look {κ : Type} [DecidableEq κ] (k : κ) : ∀ {vs : List (κ × Val)} {ws : List (κ × V)}, RKs K kt io n H vs ws →
    (look vs k = none ∧ valV ws k = none) ∨ ∃ v w, look vs k = some v ∧ valV ws k = some w ∧ RV K kt io n H v w
  | _, _, .nil => .inl ⟨rfl, rfl⟩
  | _, _, @RKs.cons _ _ _ _ _ _ j x y xs ys h r => by
    by_cases e : j = k
    · refine .inr ⟨x, y, ?_, ?_, h⟩
      · simp [CL.look, List.find?_cons, e]
      · exact valV_pos e
    · have ih := RKs.look k r
      have e1 : CL.look ((j, x) :: xs) k = CL.look xs k := by simp [CL.look, List.find?_cons, e]
      have e2 : valV ((j, y) :: ys) k = valV ys k := valV_neg (p := (j, y)) e
      rw [e1, e2]; exact ih
theorem RKs.any {κ : Type} [DecidableEq κ] (k : κ) : ∀ {vs : List (κ × Val)} {ws : List (κ × V)}, RKs K kt io n H vs ws → (vs.any fun kv => decide (kv.1 = k)) = ws.any fun kv => decide (kv.1 = k)
  | _, _, .nil => rfl
  | _, _, .cons h r => by rw [List.any_cons, List.any_cons, RKs.any k r]
theorem RKs.repl {κ : Type} [DecidableEq κ] (k : κ) {v : Val} {w : V} (q : RV K kt io n H v w) : ∀ {vs : List (κ × Val)} {ws : List (κ × V)}, RKs K kt io n H vs ws →
    RKs K kt io n H (vs.map fun kv => if kv.1 = k then (kv.1, v) else kv) (ws.map fun kv => if kv.1 = k then (kv.1, w) else kv)
  | _, _, .nil => .nil
  | _, _, @RKs.cons _ _ _ _ _ _ j x y xs ys h r => by
    rw [List.map_cons, List.map_cons]
    by_cases e : j = k
    · rw [if_pos e, if_pos e]; exact .cons q (RKs.repl k q r)
    · rw [if_neg e, if_neg e]; exact .cons h (RKs.repl k q r)
theorem RKs.snoc {κ : Type} (k : κ) {v : Val} {w : V} (q : RV K kt io n H v w) : ∀ {vs : List (κ × Val)} {ws : List (κ × V)}, RKs K kt io n H vs ws → RKs K kt io n H (vs ++ [(k, v)]) (ws ++ [(k, w)])
  | _, _, .nil => .cons q .nil
  | _, _, .cons h r => .cons h (RKs.snoc k q r)
theorem RKs.put {κ : Type} [DecidableEq κ] (k : κ) {v : Val} {w : V} (q : RV K kt io n H v w) {vs : List (κ × Val)} {ws : List (κ × V)} (r : RKs K kt io n H vs ws) : RKs K kt io n H (put vs k v) (putK ws k w) := by
  unfold CL.put putK
  rw [r.any k]
  split
  · exact r.repl k q
  · exact r.snoc k q
theorem RKs.merge {ms : List (Key × Val)} {ns : List (Key × V)} (h : RKs K kt io n H ms ns) : ∀ {vs : List (Key × Val)} {ws : List (Key × V)}, RKs K kt io n H vs ws → RKs K kt io n H (merge vs ms) (mergeK ws ns) := by
  induction h with
  | nil => intro vs ws r; exact r
  | cons h t ih => intro vs ws r; exact ih (r.put _ h)
theorem RKs.lookup (f : Str) : ∀ {vs : List (Str × Val)} {ws : List (Str × V)}, RKs K kt io n H vs ws →
    (vs.lookup f = none ∧ ws.lookup f = none) ∨ ∃ v w, vs.lookup f = some v ∧ ws.lookup f = some w ∧ RV K kt io n H v w
  | _, _, .nil => .inl ⟨rfl, rfl⟩
  | _, _, @RKs.cons _ _ _ _ _ _ j x y xs ys h r => by
    have ih := RKs.lookup f r
    rw [List.lookup_cons, List.lookup_cons]
    cases f == j with
    | true => exact .inr ⟨x, y, rfl, rfl, h⟩
    | false => exact ih
theorem RKs.setF (f : Str) {v : Val} {w : V} (q : RV K kt io n H v w) : ∀ {vs : List (Str × Val)} {ws : List (Str × V)}, RKs K kt io n H vs ws → RKs K kt io n H (setF f v vs) (L2.putF f w ws)
  | _, _, .nil => .cons q .nil
  | _, _, @RKs.cons _ _ _ _ _ _ j x y xs ys h r => by
    unfold CL.setF L2.putF
    by_cases e : j = f
    · rw [if_pos e, if_pos e, e]; exact .cons q r
    · rw [if_neg e, if_neg e]; exact .cons h (RKs.setF f q r)
theorem RO.up {ca : Nat → Addr} {a : Addr} {b : Bool} {o : Ob} (u : Up io n H io' n' H') (e : b = false → H' a = H a) (h : RO K kt io n H ca b a o) : RO K kt io' n' H' ca b a o := by
  cases h with
  | lst h r => exact .lst ((e rfl).trans h) (r.up u)
  | lstR h r => exact .lstR (u.ext.sqR h) (r.up u)
  | dK h r => exact .dK ((e rfl).trans h) (r.up u)
  | dKR h r => exact .dKR (u.ext.frz _ _ _ h) (r.up u)
  | dT h r => exact .dT ((e rfl).trans h) (r.up u)
  | dTR h r => exact .dTR (u.ext.frz _ _ _ h) (r.up u)
  | ins h r => exact .ins ((e rfl).trans h) (r.up u)
theorem RO.mutO {ca : Nat → Addr} {a : Addr} {o : Ob} (h : RO K kt io n H ca false a o) : ∃ x, H a = some x ∧ MutO x := by
  cases h with
  | lst h r => exact ⟨_, h, trivial⟩
  | dK h r => exact ⟨_, h, trivial⟩
  | dT h r => exact ⟨_, h, trivial⟩
  | ins h r => exact ⟨_, h, trivial⟩
end

section
variable {K : PySem.W.Frag} {kt : List (List Val)} {ca io : Nat → Addr} {st : Store} {H : Hp}
theorem Rl.at (R : Rl K kt ca io st H) {i : Nat} {o : Ob} (e : st.m i = some o) : i < st.n ∧ RO K kt io st.n H ca (st.ro i) (io i) o := by
  by_cases h : i < st.n
  · obtain ⟨o', e', r⟩ := R.ob i h
    rw [e] at e'; cases e'
    exact ⟨h, r⟩
  · rw [R.no i (Nat.le_of_not_lt h)] at e; cases e
/-- the map behind a new thing -/
def ioNew (io : Nat → Addr) (n : Nat) (p : Addr) : Nat → Addr := fun i => if i = n then p else io i
theorem ioNew_at (io : Nat → Addr) (n : Nat) (p : Addr) : ioNew io n p n = p := if_pos rfl
theorem ioNew_ne {io : Nat → Addr} {n i : Nat} {p : Addr} (h : i ≠ n) : ioNew io n p i = io i := if_neg h
theorem Up.new {p : Addr} (o : HO) (h : H p = none) : Up io st.n H (ioNew io st.n p) (st.n + 1) (upd H p o) :=
  ⟨Nat.le_succ _, fun i hi => ioNew_ne (Nat.ne_of_lt hi), .new o h⟩
theorem Rl.new (R : Rl K kt ca io st H) {p : Addr} {o : Ob} {u : HO} (h : H p = none) (r : RO K kt (ioNew io st.n p) (st.n + 1) (upd H p u) ca false p o) :
    Rl K kt ca (ioNew io st.n p) (st.new o) (upd H p u) := by
  have up := Up.new (io := io) (st := st) u h
  have old : ∀ i, i < st.n → ∃ q, st.m i = some q ∧ RO K kt (ioNew io st.n p) (st.n + 1) (upd H p u) ca (st.ro i) (io i) q := fun i hi => by
    obtain ⟨q, e, rq⟩ := R.ob i hi
    refine ⟨q, e, rq.up up fun hr => ?_⟩
    rw [hr] at rq
    obtain ⟨x, ex, _⟩ := rq.mutO
    exact upd_ne (ne_of_none ex h)
  refine ⟨fun i hi => ?_, fun i hi => ?_, fun i j hi hj ri rj e => ?_⟩
  · by_cases e : i = st.n
    · subst e
      refine ⟨o, if_pos rfl, ?_⟩
      show RO K kt (ioNew io st.n p) (st.n + 1) (upd H p u) ca (if st.n = st.n then false else st.ro st.n) (ioNew io st.n p st.n) o
      rw [if_pos rfl, ioNew_at]; exact r
    · have hi' : i < st.n + 1 := hi
      obtain ⟨q, eq, rq⟩ := old i (by omega)
      refine ⟨q, (if_neg e).trans eq, ?_⟩
      show RO K kt (ioNew io st.n p) (st.n + 1) (upd H p u) ca (if i = st.n then false else st.ro i) (ioNew io st.n p i) q
      rw [if_neg e, ioNew_ne e]; exact rq
  · have hi' : st.n + 1 ≤ i := hi
    exact (if_neg (by omega)).trans (R.no i (by omega))
  · have hi' : i < st.n + 1 := hi
    have hj' : j < st.n + 1 := hj
    have apart : ∀ k, k < st.n → (st.new o).ro k = false → io k ≠ p := fun k hk rk => by
      have rk' : st.ro k = false := by
        have : (if k = st.n then false else st.ro k) = false := rk
        rw [if_neg (Nat.ne_of_lt hk)] at this; exact this
      obtain ⟨q, _, rq⟩ := R.ob k hk
      rw [rk'] at rq
      obtain ⟨x, ex, _⟩ := rq.mutO
      exact ne_of_none ex h
    by_cases ei : i = st.n
    · by_cases ej : j = st.n
      · rw [ei, ej]
      · rw [ei, ioNew_at, ioNew_ne ej] at e
        exact absurd e.symm (apart j (by omega) rj)
    · by_cases ej : j = st.n
      · rw [ej, ioNew_at, ioNew_ne ei] at e
        exact absurd e (apart i (by omega) ri)
      · rw [ioNew_ne ei, ioNew_ne ej] at e
        have r1 : (if i = st.n then false else st.ro i) = false := ri
        have r2 : (if j = st.n then false else st.ro j) = false := rj
        rw [if_neg ei] at r1; rw [if_neg ej] at r2
        exact R.inj i j (by omega) (by omega) r1 r2 e
theorem Up.wr {i : Nat} {x : HO} (u : HO) (h : H (io i) = some x) (m : MutO x) : Up io st.n H io st.n (upd H (io i) u) := ⟨Nat.le_refl _, fun _ _ => rfl, .wr u h m⟩
theorem Rl.wr (R : Rl K kt ca io st H) {i : Nat} {o : Ob} {u : HO} (hi : i < st.n) (hr : st.ro i = false) (r : RO K kt io st.n (upd H (io i) u) ca false (io i) o) :
    Rl K kt ca io (st.set i o) (upd H (io i) u) := by
  obtain ⟨q, _, rq⟩ := R.ob i hi
  rw [hr] at rq
  obtain ⟨x, ex, mx⟩ := rq.mutO
  have up := Up.wr (io := io) (st := st) u ex mx
  refine ⟨fun j hj => ?_, fun j hj => ?_, R.inj⟩
  · by_cases e : j = i
    · subst e
      refine ⟨o, if_pos rfl, ?_⟩
      show RO K kt io st.n (upd H (io j) u) ca (st.ro j) (io j) o
      rw [hr]; exact r
    · obtain ⟨p, ep, rp⟩ := R.ob j hj
      refine ⟨p, (if_neg e).trans ep, rp.up up fun hj' => upd_ne fun z => e (R.inj j i hj hi hj' hr z)⟩
  · have hj' : st.n ≤ j := hj
    exact (if_neg (by omega)).trans (R.no j hj')
end
end CL

/-! CL, part 0: a tuple once -/
namespace CL
open PySem PySem.Spec PyProof.Rows L2
set_option maxHeartbeats 4000000 in
theorem tuple_mul1 (l : Addr) (items : Array Value) (n : Nat) (dd : Option Addr) (sl : Array (Option Value)) (u : Tok) (c1 : (items.isEmpty || (1 : Int) == 1) = true) :
    Meets (Builtin.«tuple.__mul__» ⟨[.ref l, .int 1 u], []⟩) (fun _ R s => s.heap.get? l = some { cls := .type "tuple", dict := dd, data := .seq items n, slots := sl } ∧ R (.ok (.ret (Value.ref l))) s) :=
  .of_wp fun prog w A R s h => by
    obtain ⟨hp, g, d, tk, os⟩ := s
    obtain ⟨hl, h⟩ := h
    have f1 := AutoSeq1.idx_int
    wp_walk using wpAny_loadPart' hl
    repeat (first
      | (refine wpAny_ite_false (decide_eq_false (by decide)) ?_; wp_walk using wpAny_loadPart' hl)
      | (refine wpAny_ite_true (decide_eq_true c1) ?_; wp_walk using wpAny_loadPart' hl))
    exact ⟨_, rfl, h⟩
def rOneT (K : PySem.W.Frag) : R2 := fun x y H Q => ∃ l xs, x = .ref l ∧ y = .int 1 ∧ SqT K H l xs ∧ Q (.ref l) H
theorem op_oneT {X : Cx} : OpR X (binaryOp .Mult) (rOneT X.K) := by
  intro pins s σ H x y v u Q I rx ry h
  obtain ⟨l, xs, rfl, rfl, hT, q⟩ := h
  cases rx
  obtain ⟨t, rfl⟩ := ry
  obtain ⟨its, r, ⟨⟨cls, dd, data, sl⟩, ho, hc, n, hd⟩, hs⟩ := I.tuple hT
  simp only at hc hd
  subst hc hd
  refine wpAny_binaryOp_repeat_ref (T := "tuple") (U := "int") (by decide) ⟨_, ho, rfl⟩ (fun s' => typeIs_int s' 1 t) noFill_tuple_mul F.fills_int_mul F.slot_int_rmul repeat_tuple F.slot_int_index.lookup
    (call_meets F.slot_int_rmul (typeIs_int s 1 t) F.entry_int_rmul (F.args_int_rmul_2 _ _) (int_rmul_tuple 1 t l its.toArray n dd sl)
      ⟨ho, rfl, ⟨_, ho, rfl⟩, call_meets F.slot_tuple_mul ⟨_, ho, rfl⟩ F.entry_tuple_mul (F.args_tuple_mul_2 _ _) (tuple_mul1 l its.toArray n dd sl t (by simp)) ⟨ho, ?_⟩⟩)
  exact ⟨.ref l, H, I, rfl, q⟩
set_option maxHeartbeats 4000000 in
theorem tuple_mul0 (l : Addr) (items : Array Value) (n : Nat) (dd : Option Addr) (sl : Array (Option Value)) (u : Tok) (c1 : (items.isEmpty || (0 : Int) == 1) = false) :
    Meets (Builtin.«tuple.__mul__» ⟨[.ref l, .int 0 u], []⟩) (fun _ R s => s.heap.get? l = some { cls := .type "tuple", dict := dd, data := .seq items n, slots := sl } ∧ R (.ok (.ret (Value.ref s.heap.objs.size))) { s with heap := s.heap.push { cls := Value.type "tuple", data := Data.seq #[] }, toks := s.toks }) :=
  .of_wp fun prog w A R s h => by
    obtain ⟨hp, g, d, tk, os⟩ := s
    obtain ⟨hl, h⟩ := h
    have f1 := AutoSeq1.idx_int
    have c2 : (decide ((0 : Int) ≤ 0) || items.isEmpty) = true := rfl
    wp_walk using wpAny_loadPart' hl
    repeat (first
      | (refine wpAny_ite_false (decide_eq_false (by decide)) ?_; wp_walk using wpAny_loadPart' hl)
      | (refine wpAny_ite_false (decide_eq_false (by rw [c1]; exact Bool.false_ne_true)) ?_; wp_walk using wpAny_loadPart' hl)
      | (refine wpAny_ite_true (decide_eq_true c2) ?_; wp_walk using wpAny_loadPart' hl))
    exact ⟨_, rfl, h⟩
def rNoneT (K : PySem.W.Frag) : R2 := fun x y H Q => ∃ l xs, x = .ref l ∧ y = .int 0 ∧ SqT K H l xs ∧ xs ≠ [] ∧ ∀ p, H p = none → Q (.ref p) (upd H p (.tup []))
theorem op_noneT {X : Cx} : OpR X (binaryOp .Mult) (rNoneT X.K) := by
  intro pins s σ H x y v u Q I rx ry h
  obtain ⟨l, xs, rfl, rfl, hT, hne, q⟩ := h
  cases rx
  obtain ⟨t, rfl⟩ := ry
  obtain ⟨its, r, ⟨⟨cls, dd, data, sl⟩, ho, hc, n, hd⟩, hs⟩ := I.tuple hT
  simp only at hc hd
  subst hc hd
  have hi : its.toArray.isEmpty = false := by
    cases its with
    | nil => cases r; exact absurd rfl hne
    | cons a b => rfl
  refine wpAny_binaryOp_repeat_ref (T := "tuple") (U := "int") (by decide) ⟨_, ho, rfl⟩ (fun s' => typeIs_int s' 0 t) noFill_tuple_mul F.fills_int_mul F.slot_int_rmul repeat_tuple F.slot_int_index.lookup
    (call_meets F.slot_int_rmul (typeIs_int s 0 t) F.entry_int_rmul (F.args_int_rmul_2 _ _) (int_rmul_tuple 0 t l its.toArray n dd sl)
      ⟨ho, rfl, ⟨_, ho, rfl⟩, call_meets F.slot_tuple_mul ⟨_, ho, rfl⟩ F.entry_tuple_mul (F.args_tuple_mul_2 _ _) (tuple_mul0 l its.toArray n dd sl t (by rw [hi]; rfl)) ⟨ho, ?_⟩⟩)
  refine ⟨.ref s.heap.objs.size, _, I.laid (t' := s.toks) (o := .tup []) (fun b ob q => Heap.get?_push_of_some _ q) (Nat.le_refl _) ?_, rfl, q _ (I.hok.fresh (Nat.le_refl _))⟩
  exact ⟨Nat.zero_le _, [], .nil, IsTup.new _ _⟩
end CL

/-! CL, part c: operators, subscripts, built-ins: what the store's run says holds of the model -/
namespace CL
open PySem L2

/-- what is wanted behind a run that gave v and left st' -/
def Post (K : PySem.W.Frag) (kt : List (List Val)) (ca io : Nat → Addr) (st : Store) (H : Hp) (v : Val) (st' : Store) (Q : VK) : Prop :=
  ∀ (io' : Nat → Addr) (H' : Hp) (w : V), Up io st.n H io' st'.n H' → Rl K kt ca io' st' H' → RV K kt io' st'.n H' v w → Q w H'
section
variable {K : PySem.W.Frag} {kt : List (List Val)} {ca io : Nat → Addr} {st st' : Store} {H : Hp} {v : Val} {w : V} {Q : VK}
theorem Post.here (p : Post K kt ca io st H v st Q) (R : Rl K kt ca io st H) (r : RV K kt io st.n H v w) : Q w H := p io H w (.refl _ _ _) R r
/-- a new list, dict -/
theorem Post.made {o : Ob} {u : HO} (p : Post K kt ca io st H (.ref st.n) (st.new o) Q) (R : Rl K kt ca io st H)
    (r : ∀ a, H a = none → RO K kt (ioNew io st.n a) (st.n + 1) (upd H a u) ca false a o) (a : Addr) (ha : H a = none) : Q (.ref a) (upd H a u) := by
  refine p (ioNew io st.n a) _ _ (Up.new u ha) (R.new ha (r a ha)) ?_
  have h : RV K kt (ioNew io st.n a) (st.n + 1) (upd H a u) (.ref st.n) (.ref (ioNew io st.n a st.n)) := .ref (Nat.lt_succ_self _)
  rw [ioNew_at] at h; exact h
theorem Post.list {xs : List Val} {ys : List V} (p : Post K kt ca io st H (.ref st.n) (st.new (.lst xs)) Q) (R : Rl K kt ca io st H) (r : RVs K kt io st.n H xs ys) (a : Addr) (ha : H a = none) :
    Q (.ref a) (upd H a (.lst ys)) := p.made R (fun a ha => .lst upd_same (r.up (Up.new _ ha))) a ha
/-- a new tuple -/
theorem Post.tup {xs : List Val} {ys : List V} (p : Post K kt ca io st H (.tup xs) st Q) (R : Rl K kt ca io st H) (r : RVs K kt io st.n H xs ys) (a : Addr) (ha : H a = none) :
    Q (.ref a) (upd H a (.tup ys)) := by
  have up : Up io st.n H io st.n (upd H a (.tup ys)) := ⟨Nat.le_refl _, fun _ _ => rfl, .new _ ha⟩
  refine p io _ _ up ⟨fun i hi => ?_, R.no, R.inj⟩ (.tup (.inl upd_same) (r.up up))
  obtain ⟨q, e, rq⟩ := R.ob i hi
  refine ⟨q, e, rq.up up fun hr => ?_⟩
  rw [hr] at rq
  obtain ⟨x, ex, _⟩ := rq.mutO
  exact upd_ne (ne_of_none ex ha)
/-- a thing written -/
theorem Post.wrote {i : Nat} {o : Ob} {u : HO} (p : Post K kt ca io st H v (st.set i o) Q) (R : Rl K kt ca io st H) (hi : i < st.n) (hr : st.ro i = false)
    (r : Up io st.n H io st.n (upd H (io i) u) → RO K kt io st.n (upd H (io i) u) ca false (io i) o ∧ RV K kt io st.n (upd H (io i) u) v w) : Q w (upd H (io i) u) := by
  obtain ⟨q, _, rq⟩ := R.ob i hi
  rw [hr] at rq
  obtain ⟨x, ex, mx⟩ := rq.mutO
  have up := Up.wr (io := io) (st := st) u ex mx
  obtain ⟨r1, r2⟩ := r up
  exact p io _ _ up (R.wr hi hr r1) r2
end

/-! ### the model's own readings, by what they are -/
section
variable {X : Cx}
def tSem (X : Cx) (e : Expr) : TE := fun σ H Q => ∀ (pins : List (Addr × Obj)) (s : Shared), Inv X pins σ H s → wpAny (model X.prog X.w) X.A (eval e X.env) (EP X pins σ Q) X.xe s
theorem pe_sem {e : Expr} : PE X e (tSem X e) := ⟨fun pins s σ H Q I h => h pins s I⟩
def bSem (X : Cx) (e : Expr) : TT := fun σ H Q => ∀ (pins : List (Addr × Obj)) (s : Shared), Inv X pins σ H s → wpAny (model X.prog X.w) X.A (isTrue e X.env (eval e X.env)) (TP X pins σ Q) X.xe s
theorem pt_sem {e : Expr} : PT X e (bSem X e) := ⟨fun pins s σ H Q I h => h pins s I⟩
def oSem (X : Cx) (f : Value → Value → Sem Value) : R2 := fun x y H Q => ∀ (pins : List (Addr × Obj)) (s : Shared) (σ : St) (v u : Value), Inv X pins σ H s → RelV x v → RelV y u → wpAny (model X.prog X.w) X.A (f v u) (EP X pins σ Q) X.xe s
theorem op_sem {f : Value → Value → Sem Value} : OpR X f (oSem X f) := fun pins s σ H x y v u Q I rx ry h => h pins s σ v u I rx ry
theorem oSem.of {f : Value → Value → Sem Value} {r : R2} (ho : OpR X f r) {x y : V} {H : Hp} {Q : VK} (h : r x y H Q) : oSem X f x y H Q := fun pins s σ v u I rx ry => ho pins s σ H x y v u Q I rx ry h
def cSem (X : Cx) (f : Value) : List V → Hp → VK → Prop := fun xs H Q => ∀ (pins : List (Addr × Obj)) (s : Shared) (σ : St) (us : List Value), Inv X pins σ H s → Vals xs us → wpAny (model X.prog X.w) X.A (call f us) (EP X pins σ Q) X.xe s
theorem call_sem {f : Value} : CallR X f (cSem X f) := fun pins s σ H xs us Q I r h => h pins s σ us I r
theorem cSem.of {f : Value} {r : List V → Hp → VK → Prop} (ho : CallR X f r) {xs : List V} {H : Hp} {Q : VK} (h : r xs H Q) : cSem X f xs H Q := fun pins s σ us I rv => ho pins s σ H xs us Q I rv h
def mSem (X : Cx) (id : String) : V → List V → Hp → VK → Prop := fun x xs H Q => ∀ (pins : List (Addr × Obj)) (s : Shared) (σ : St) (v : Value) (us : List Value), Inv X pins σ H s → RelV x v → Vals xs us → wpAny (model X.prog X.w) X.A (call (.builtin id) (v :: us)) (EP X pins σ Q) X.xe s
theorem mt_sem {id : String} : MtR X id (mSem X id) := fun pins s σ H x xs v us Q I r rs h => h pins s σ v us I r rs
theorem mSem.of {id : String} {r : V → List V → Hp → VK → Prop} (ho : MtR X id r) {x : V} {xs : List V} {H : Hp} {Q : VK} (h : r x xs H Q) : mSem X id x xs H Q := fun pins s σ v us I rx rs => ho pins s σ H x xs v us Q I rx rs h
def gSem (X : Cx) : TSet := fun o i v H Q => ∀ (pins : List (Addr × Obj)) (s : Shared) (σ : St) (ov iv u : Value), Inv X pins σ H s → RelV o ov → RelV i iv → RelV v u → wpAny (model X.prog X.w) X.A (setItem ov iv u) (fun _ s' => ∃ H', Inv X pins σ H' s' ∧ Q H') X.xe s
theorem set_sem : PSet X (gSem X) := fun pins s σ H o i v ov iv u Q I ro ri rv h => h pins s σ ov iv u I ro ri rv
theorem gSem.of {t : TSet} (ho : PSet X t) {o i v : V} {H : Hp} {Q : Hp → Prop} (h : t o i v H Q) : gSem X o i v H Q := fun pins s σ ov iv u I r1 r2 r3 => ho pins s σ H o i v ov iv u Q I r1 r2 r3 h
end

/-! ### a list's place -/
section
variable {K : PySem.W.Frag} {kt : List (List Val)} {ca io : Nat → Addr} {st st' : Store} {H : Hp}
theorem Rl.list (R : Rl K kt ca io st H) {i : Nat} {xs : List Val} (e : st.m i = some (.lst xs)) : ∃ ys, SqL K H (io i) ys ∧ RVs K kt io st.n H xs ys ∧ (st.ro i = false → H (io i) = some (.lst ys)) := by
  obtain ⟨hi, r⟩ := R.at e
  generalize st.ro i = b at r ⊢
  cases r with
  | lst h q => exact ⟨_, .of h, q, fun _ => h⟩
  | lstR h q => exact ⟨_, h.sqL, q, fun z => by cases z⟩
theorem Rl.dictK (R : Rl K kt ca io st H) {i : Nat} {kvs : List (Key × Val)} (e : st.m i = some (.dK kvs)) : ∃ kws, Rd H (io i) (.dK kws) ∧ RKs K kt io st.n H kvs kws ∧ (st.ro i = false → H (io i) = some (.dK kws)) := by
  obtain ⟨hi, r⟩ := R.at e
  generalize st.ro i = b at r ⊢
  cases r with
  | dK h q => exact ⟨_, .inl h, q, fun _ => h⟩
  | dKR h q => exact ⟨_, .inr ⟨_, h⟩, q, fun z => by cases z⟩
theorem Rl.dictT (R : Rl K kt ca io st H) {i : Nat} {kvs : List (List Key × Val)} (e : st.m i = some (.dT kvs)) : ∃ kws, Rd H (io i) (.dT kws) ∧ RKs K kt io st.n H kvs kws ∧ (st.ro i = false → H (io i) = some (.dT kws)) := by
  obtain ⟨hi, r⟩ := R.at e
  generalize st.ro i = b at r ⊢
  cases r with
  | dT h q => exact ⟨_, .inl h, q, fun _ => h⟩
  | dTR h q => exact ⟨_, .inr ⟨_, h⟩, q, fun z => by cases z⟩
theorem Rl.inst (R : Rl K kt ca io st H) {i c : Nat} {fs : List (Str × Val)} (e : st.m i = some (.ins c fs)) : i < st.n ∧ st.ro i = false ∧ ∃ dx gs, H (io i) = some (.ins (ca c) dx gs) ∧ RKs K kt io st.n H fs gs := by
  obtain ⟨hi, r⟩ := R.at e
  refine ⟨hi, ?_⟩
  generalize st.ro i = b at r ⊢
  cases r with
  | ins h q => exact ⟨rfl, _, _, h, q⟩
theorem RV.iref {i : Nat} {n : Nat} {w : V} (h : RV K kt io n H (.ref i) w) : w = .ref (io i) ∧ i < n := by cases h with | ref h => exact ⟨rfl, h⟩
theorem RV.iint {i : Int} {n : Nat} {w : V} (h : RV K kt io n H (.int i) w) : w = .int i := by cases h; rfl
theorem RV.istr {x : Str} {n : Nat} {w : V} (h : RV K kt io n H (.str x) w) : w = .str x := by cases h; rfl
theorem RV.ibl {b : Bool} {n : Nat} {w : V} (h : RV K kt io n H (.bl b) w) : w = .bl b := by cases h; rfl
theorem RV.inon {n : Nat} {w : V} (h : RV K kt io n H .non w) : w = .non := by cases h; rfl
theorem RV.itup {xs : List Val} {n : Nat} {w : V} (h : RV K kt io n H (.tup xs) w) : ∃ a ys, w = .ref a ∧ SqW K kt H a xs ys ∧ RVs K kt io n H xs ys := by cases h with | tup h r => exact ⟨_, _, rfl, h, r⟩
theorem RVs.atI {xs : List Val} {ys : List V} {n : Nat} (r : RVs K kt io n H xs ys) {i : Int} {v : Val} (h : atI xs i = some v) : ∃ w, atI ys i = some w ∧ RV K kt io n H v w := by
  unfold L2.atI at h ⊢
  rw [← r.length]
  cases q : ixN xs.length i with
  | none => rw [q] at h; cases h
  | some j =>
    rw [q] at h
    exact r.get (show xs[j]? = some v from h)
theorem RVs.cut {xs : List Val} {ys : List V} {n : Nat} (r : RVs K kt io n H xs ys) (lo hi : Option Int) : RVs K kt io n H (cutL xs lo hi) (L2.cutV ys lo hi) := by
  unfold cutL L2.cutV
  rw [r.length]
  exact (r.drop _).take _
end
theorem fits_le {n : Nat} (h : fits n = true) : n ≤ sizeLine := of_decide_eq_true h

/-! ### + - * // % ** -/
section
variable {X : Cx} {kt : List (List Val)} {ca io : Nat → Addr} {st st' : Store} {H : Hp}
def CDivL (_ j : Int) : Prop := j ≠ 0 ∧ j.natAbs.log2 < 9000
theorem op_fdivL : OpR X (binaryOp .FloorDiv) (rI CDivL fun i j => .int (i.fdiv j)) := opI fun _ _ _ _ _ _ _ hc q => PyProof.Rows.floordiv_int hc.1 q (.inl (PyProof.noPylong_of_log2 hc.2))
def opOf : Bop → Operator
  | .add => .Add | .sub => .Sub | .mul => .Mult | .fdiv => .FloorDiv | .mod => .Mod | .pow => .Pow
theorem bop_ok {o : Bop} {a b v : Val} {x y : V} {Q : VK} (R : Rl X.K kt ca io st H) (ra : RV X.K kt io st.n H a x) (rb : RV X.K kt io st.n H b y) (e : bop o a b st = .ok v st') (p : Post X.K kt ca io st H v st' Q) :
    oSem X (binaryOp (opOf o)) x y H Q := by
  unfold bop at e
  split at e
  · cases e
    obtain rfl := ra.iint
    obtain rfl := rb.iint
    exact oSem.of op_add ⟨_, _, rfl, rfl, p.here R (.int _)⟩
  · split at e
    · rename_i hf
      cases e
      obtain rfl := ra.istr
      obtain rfl := rb.istr
      exact oSem.of op_add_str ⟨_, _, rfl, rfl, fits_le hf, p.here R (.str _)⟩
    · cases e
  · split at e
    · rename_i hf
      cases e
      obtain ⟨a1, ys, rfl, s1, r1⟩ := ra.itup
      obtain ⟨a2, zs, rfl, s2, r2⟩ := rb.itup
      refine oSem.of op_catA ⟨_, _, ys, zs, rfl, rfl, s1.sqT, s2.sqT, by rw [← r1.length, ← r2.length]; exact fits_le hf, fun h => ?_, fun _ h => ?_, fun _ _ q hq => p.tup R (r1.append r2) q hq⟩
      · subst h
        cases r1
        exact p.here R (.tup s2 r2)
      · subst h
        cases r2
        rw [List.append_nil] at p
        exact p.here R (.tup s1 r1)
    · cases e
  · split at e
    · rename_i xs ys e1 e2
      split at e
      · cases e
      · rename_i hro
        split at e
        · rename_i hf
          cases e
          obtain ⟨rfl, _⟩ := ra.iref
          obtain ⟨rfl, _⟩ := rb.iref
          obtain ⟨us, s1, r1, h1⟩ := R.list e1
          obtain ⟨ws, s2, r2, h2⟩ := R.list e2
          simp only [Bool.or_eq_true, not_or, Bool.not_eq_true] at hro
          exact oSem.of op_cat ⟨_, _, us, ws, rfl, rfl, h1 hro.1, h2 hro.2, by rw [← r1.length, ← r2.length]; exact fits_le hf, fun q hq => p.list R (r1.append r2) q hq⟩
        · cases e
    · cases e
  · cases e
    obtain rfl := ra.iint
    obtain rfl := rb.iint
    exact oSem.of op_sub ⟨_, _, rfl, rfl, p.here R (.int _)⟩
  · split at e
    · rename_i hm
      cases e
      obtain rfl := ra.iint
      obtain rfl := rb.iint
      refine oSem.of op_mul ⟨_, _, rfl, rfl, ?_, p.here R (.int _)⟩
      unfold mulOk at hm
      simp only [Bool.or_eq_true, Bool.and_eq_true, decide_eq_true_eq] at hm
      exact hm
    · cases e
  · split at e
    · rename_i xs e1
      split at e
      · rename_i hm
        cases e
        obtain ⟨rfl, _⟩ := ra.iref
        obtain rfl := rb.iint
        obtain ⟨us, s1, r1, h1⟩ := R.list e1
        unfold repOk at hm
        simp only [Bool.and_eq_true, decide_eq_true_eq, Bool.not_eq_true'] at hm
        obtain ⟨hro, ⟨h2, h3⟩, h4⟩ := hm
        exact oSem.of op_rep ⟨_, _, us, rfl, rfl, h1 hro, h2, h3, by rw [← r1.length]; exact fits_le h4, fun q hq => p.list R (r1.rep _) q hq⟩
      · cases e
    · cases e
  · split at e
    · rename_i hm
      cases e
      subst hm
      obtain ⟨a1, ys, rfl, s1, r1⟩ := ra.itup
      obtain rfl := rb.iint
      exact oSem.of op_oneT ⟨_, ys, rfl, rfl, s1.sqT, p.here R ra⟩
    split at e
    · rename_i hm
      cases e
      obtain ⟨rfl, hne⟩ := hm
      obtain ⟨a1, ys, rfl, s1, r1⟩ := ra.itup
      obtain rfl := rb.iint
      refine oSem.of op_noneT ⟨_, ys, rfl, rfl, s1.sqT, fun z => ?_, fun q hq => p.tup R .nil q hq⟩
      subst z
      cases r1
      exact hne rfl
    split at e
    · rename_i hm
      cases e
      obtain ⟨a1, ys, rfl, s1, r1⟩ := ra.itup
      obtain rfl := rb.iint
      obtain ⟨h1, h2, h3, h4⟩ := hm
      refine oSem.of op_repT ⟨_, _, ys, rfl, rfl, s1.sqT, fun z => ?_, h2, h3, by rw [← r1.length]; exact h4, fun q hq => p.tup R (r1.rep _) q hq⟩
      subst z
      cases r1
      exact h1 rfl
    · cases e
  · split at e
    · rename_i hm
      cases e
      obtain rfl := ra.iint
      obtain rfl := rb.iint
      exact oSem.of op_fdivL ⟨_, _, rfl, rfl, hm, p.here R (.int _)⟩
    · cases e
  · split at e
    · rename_i hm
      cases e
      obtain rfl := ra.iint
      obtain rfl := rb.iint
      exact oSem.of op_modN ⟨_, _, rfl, rfl, hm, p.here R (.int _)⟩
    · cases e
  · split at e
    · rename_i hm
      cases e
      obtain rfl := ra.iint
      obtain rfl := rb.iint
      exact oSem.of op_pow ⟨_, _, rfl, rfl, hm, p.here R (.int _)⟩
    · cases e
  · cases e

/-! ### == != -/
theorem allO_cons {α : Type} {x : Option α} {r : List (Option α)} {ys : List α} (h : allO (x :: r) = some ys) : ∃ y zs, x = some y ∧ allO r = some zs ∧ ys = y :: zs := by
  cases x with
  | none => cases h
  | some y =>
    unfold allO at h
    split at h
    · rename_i zs e; cases h; exact ⟨y, zs, rfl, e, rfl⟩
    · cases h
theorem dats_dp {K : PySem.W.Frag} {k : Nat} (ih : ∀ v d w, dat st k v = some d → RV K kt io st.n H v w → Dp K H w d) :
    ∀ (xs : List Val) (ds : List PyData) (ws : List V), allO (xs.map (dat st k)) = some ds → RVs K kt io st.n H xs ws → DpAll K H ws ds
  | [], ds, ws, h, r => by cases r; cases h; exact .nil
  | x :: xs, ds, ws, h, r => by
    cases r with
    | cons a b =>
      obtain ⟨y, zs, e1, e2, rfl⟩ := allO_cons h
      exact .cons (ih _ _ _ e1 a) (dats_dp ih xs zs _ e2 b)
theorem dat_dp {K : PySem.W.Frag} (R : Rl K kt ca io st H) : ∀ (k : Nat) (v : Val) (d : PyData) (w : V), dat st k v = some d → RV K kt io st.n H v w → Dp K H w d
  | 0, _, _, _, h, _ => by cases h
  | k + 1, v, d, w, h, r => by
    have ih := dat_dp R k
    cases r with
    | non => cases h; exact .non
    | bl b => cases h; exact .bl b
    | int i => cases h; exact .int i
    | str x => cases h; exact .str x
    | @tup xs _ _ s q =>
      unfold dat at h
      simp only at h
      cases e : allO (List.map (dat st k) xs) with
      | none => rw [e] at h; cases h
      | some ds =>
        rw [e] at h; cases h
        exact .tup s.sqT (dats_dp ih _ _ _ e q)
    | @ref i hi =>
      unfold dat at h
      simp only at h
      split at h
      · rename_i xs em
        obtain ⟨ys, sl, q, _⟩ := R.list em
        cases e : allO (List.map (dat st k) xs) with
        | none => rw [e] at h; cases h
        | some ds =>
          rw [e] at h; cases h
          exact .lst sl (dats_dp ih _ _ _ e q)
      · cases h
theorem eq_ok {a b : Val} {x y : V} {k : Bool} {Q : VK} (hu : X.A.units + 64 < cLine) (R : Rl X.K kt ca io st H) (ra : RV X.K kt io st.n H a x) (rb : RV X.K kt io st.n H b y) (e : eqV st a b = some k) (q : Q (.bl k) H) : oSem X (compareOp .Eq) x y H Q := by
  unfold eqV at e
  split at e
  · rename_i b0 e0
    cases e
    cases ra <;> cases rb <;> simp only [eq0, Option.some.injEq, reduceCtorEq] at e0 <;> subst e0
    · exact oSem.of op_eq ⟨rfl, q⟩
    · exact oSem.of op_eq ⟨rfl, q⟩
    · exact oSem.of op_eq ⟨rfl, q⟩
    · exact oSem.of op_eq ⟨rfl, q⟩
    · exact oSem.of op_eq ⟨rfl, q⟩
    · exact oSem.of op_eq ⟨rfl, by rw [dec_bl]; exact q⟩
    · exact oSem.of (op_eqD hu) ⟨_, _, .bl _, .int _, rfl, rfl, q⟩
    · exact oSem.of op_eq ⟨rfl, q⟩
    · exact oSem.of op_eq ⟨rfl, q⟩
    · exact oSem.of (op_eqD hu) ⟨_, _, .int _, .bl _, rfl, rfl, q⟩
    · exact oSem.of op_eq ⟨rfl, by rw [dec_int, Bool.beq_eq_decide_eq]; exact q⟩
    · exact oSem.of op_eq ⟨rfl, q⟩
    · exact oSem.of op_eq ⟨rfl, q⟩
    · exact oSem.of op_eq ⟨rfl, q⟩
    · exact oSem.of op_eq ⟨rfl, q⟩
    · exact oSem.of op_eq ⟨rfl, by rw [dec_str, Bool.beq_eq_decide_eq]; exact q⟩
  · split at e
    · rename_i d1 d2 e1 e2
      split at e
      · rename_i hs
        cases e
        rw [Bool.and_eq_true] at hs
        exact oSem.of (op_eqD hu) ⟨_, _, dat_dp R _ _ _ _ e1 ra, dat_dp R _ _ _ _ e2 rb, hs.1, hs.2, q⟩
      · cases e
    · cases e
theorem ne_ok {a b : Val} {x y : V} {k : Bool} {Q : VK} (hu : X.A.units + 64 < cLine) (R : Rl X.K kt ca io st H) (ra : RV X.K kt io st.n H a x) (rb : RV X.K kt io st.n H b y) (e : eqV st a b = some k) (q : Q (.bl (!k)) H) : oSem X (compareOp .NotEq) x y H Q := by
  unfold eqV at e
  split at e
  · rename_i b0 e0
    cases e
    cases ra <;> cases rb <;> simp only [eq0, Option.some.injEq, reduceCtorEq] at e0 <;> subst e0
    · exact oSem.of op_ne ⟨rfl, q⟩
    · exact oSem.of op_ne ⟨rfl, q⟩
    · exact oSem.of op_ne ⟨rfl, q⟩
    · exact oSem.of op_ne ⟨rfl, q⟩
    · exact oSem.of op_ne ⟨rfl, q⟩
    · exact oSem.of op_ne ⟨rfl, by rw [dec_bl]; exact q⟩
    · exact oSem.of (op_neD hu) ⟨_, _, .bl _, .int _, rfl, rfl, q⟩
    · exact oSem.of op_ne ⟨rfl, q⟩
    · exact oSem.of op_ne ⟨rfl, q⟩
    · exact oSem.of (op_neD hu) ⟨_, _, .int _, .bl _, rfl, rfl, q⟩
    · exact oSem.of op_ne ⟨rfl, by rw [dec_int, Bool.beq_eq_decide_eq]; exact q⟩
    · exact oSem.of op_ne ⟨rfl, q⟩
    · exact oSem.of op_ne ⟨rfl, q⟩
    · exact oSem.of op_ne ⟨rfl, q⟩
    · exact oSem.of op_ne ⟨rfl, q⟩
    · exact oSem.of op_ne ⟨rfl, by rw [dec_str, Bool.beq_eq_decide_eq]; exact q⟩
  · split at e
    · rename_i d1 d2 e1 e2
      split at e
      · rename_i hs
        cases e
        rw [Bool.and_eq_true] at hs
        exact oSem.of (op_neD hu) ⟨_, _, dat_dp R _ _ _ _ e1 ra, dat_dp R _ _ _ _ e2 rb, hs.1, hs.2, q⟩
      · cases e
    · cases e

/-! ### in, < -/
theorem scalar_flat {K : PySem.W.Frag} {n : Nat} {a : Val} {x : V} (r : RV K kt io n H a x) (h : scalar a = true) : flatV x = true := by
  cases r <;> first | rfl | cases h
theorem scalars_flat {K : PySem.W.Frag} {n : Nat} : ∀ {xs : List Val} {ys : List V}, RVs K kt io n H xs ys → xs.all scalar = true → ys.all flatV = true
  | _, _, .nil, _ => rfl
  | _, _, .cons a b, h => by
    rw [List.all_cons, Bool.and_eq_true] at h ⊢
    exact ⟨scalar_flat a h.1, scalars_flat b h.2⟩
theorem eqF_eqV {K : PySem.W.Frag} {n : Nat} {a b : Val} {x y : V} (ra : RV K kt io n H a x) (rb : RV K kt io n H b y) (h : scalar a = true) (h' : scalar b = true) : L2.eqV x y = eqF a b := by
  cases ra <;> first | (cases h; done) | (cases rb <;> first | (cases h'; done) | rfl)
theorem any_eqF {K : PySem.W.Frag} {n : Nat} {a : Val} {x : V} (ra : RV K kt io n H a x) (h : scalar a = true) : ∀ {xs : List Val} {ys : List V}, RVs K kt io n H xs ys → xs.all scalar = true → (ys.any fun y => L2.eqV y x) = xs.any fun y => eqF y a
  | _, _, .nil, _ => rfl
  | _, _, .cons r t, q => by
    rw [List.all_cons, Bool.and_eq_true] at q
    rw [List.any_cons, List.any_cons, eqF_eqV r ra q.1 h, any_eqF ra h t q.2]
theorem in_flat {K : PySem.W.Frag} {n : Nat} {a : Val} {x : V} {xs : List Val} {ys : List V} {k : Bool} (ra : RV K kt io n H a x) (r : RVs K kt io n H xs ys) (e : inFlat a xs = some k) :
    flatV x = true ∧ ys.all flatV = true ∧ L2.inV x ys = k := by
  unfold inFlat at e
  split at e
  · rename_i h
    cases e
    rw [Bool.and_eq_true] at h
    exact ⟨scalar_flat ra h.1, scalars_flat r h.2, any_eqF ra h.1 r h.2⟩
  · cases e
theorem key1_kV {K : PySem.W.Frag} {n : Nat} {a : Val} {x : V} {k : Key} (ra : RV K kt io n H a x) (e : key1 a = some k) : x = kV k := by
  cases ra <;> cases e <;> rfl
theorem keys_kV {K : PySem.W.Frag} {n : Nat} : ∀ {xs : List Val} {ys : List V} {ks : List Key}, RVs K kt io n H xs ys → allO (xs.map key1) = some ks → ys = ks.map kV
  | _, _, _, .nil, e => by cases e; rfl
  | _, _, _, .cons r t, e => by
    obtain ⟨k, ks, e1, e2, rfl⟩ := allO_cons e
    rw [List.map_cons, ← key1_kV r e1, ← keys_kV t e2]
/-- what a store's and a heap's dict say of a key -/
def RVo (K : PySem.W.Frag) (kt : List (List Val)) (io : Nat → Addr) (n : Nat) (H : Hp) : Option Val → Option V → Prop
  | none, none => True
  | some v, some w => RV K kt io n H v w
  | _, _ => False
theorem look_o {κ : Type} [DecidableEq κ] {K : PySem.W.Frag} {n : Nat} {vs : List (κ × Val)} {ws : List (κ × V)} (q : RKs K kt io n H vs ws) (k : κ) : RVo K kt io n H (look vs k) (valV ws k) := by
  rcases q.look k with ⟨e1, e2⟩ | ⟨v, w, e1, e2, r⟩
  · rw [e1, e2]; exact trivial
  · rw [e1, e2]; exact r
theorem keyT_ok {K : PySem.W.Frag} {n : Nat} {a : Val} {x : V} {ks : List Key} (ra : RV K kt io n H a x) (e : keyT kt a = some ks) : ∃ b, x = .ref b ∧ H b = some (.tup (ks.map kV)) := by
  unfold keyT at e
  split at e
  · split at e
    · cases e
    · rename_i hn
      obtain ⟨b, ys, rfl, s, rs⟩ := ra.itup
      have := keys_kV rs e
      subst this
      rcases s with s | ⟨s, _⟩
      · exact ⟨b, rfl, s⟩
      · exact absurd s hn
  · cases e
theorem dget_ok {K : PySem.W.Frag} {o : Option Ob} {i : Nat} {k : Val} {x : V} {r : Option Val} (R : Rl K kt ca io st H) (ei : st.m i = o) (rk : RV K kt io st.n H k x) (e : dget kt o k = some r) :
    ∃ rw, DGet H (io i) x rw ∧ RVo K kt io st.n H r rw := by
  unfold dget at e
  split at e
  · split at e
    · rename_i kvs k' e1
      cases e
      obtain ⟨kws, h, q, _⟩ := R.dictK ei
      exact ⟨_, .inl ⟨kws, k', h, key1_kV rk e1, rfl⟩, look_o q k'⟩
    · cases e
  · split at e
    · rename_i kvs ks e1
      cases e
      obtain ⟨kws, h, q, _⟩ := R.dictT ei
      obtain ⟨b, rfl, hb⟩ := keyT_ok rk e1
      exact ⟨_, .inr ⟨kws, ks, b, h, rfl, hb, rfl⟩, look_o q ks⟩
    · cases e
  · cases e
theorem RVo.isSome {K : PySem.W.Frag} {n : Nat} {r : Option Val} {w : Option V} (h : RVo K kt io n H r w) : w.isSome = r.isSome := by
  cases r <;> cases w <;> first | rfl | cases h
theorem din_ok {k : Val} {x : V} {i : Nat} {o : Option Ob} {r : Option Val} {neg : Bool} {Q : VK} (hu : X.A.units + 1 < cLine) (R : Rl X.K kt ca io st H) (ei : st.m i = o) (rk : RV X.K kt io st.n H k x) (e : dget kt o k = some r) (q : Q (.bl (if neg then !r.isSome else r.isSome)) H) :
    oSem X (compareOp (if neg then .NotIn else .In)) x (.ref (io i)) H Q := by
  obtain ⟨rw', g, rr⟩ := dget_ok R ei rk e
  intro pins s σ v u I rx ry
  cases ry
  cases neg with
  | false => exact d_in hu I g rx fun s' I' => ⟨.bl rw'.isSome, H, I', rfl, by rw [rr.isSome]; exact q⟩
  | true => exact d_notIn hu I g rx fun s' I' => ⟨.bl (!rw'.isSome), H, I', rfl, by rw [rr.isSome]; exact q⟩
theorem in_ok {a b : Val} {x y : V} {k : Bool} {Q : VK} (hu : X.A.units + 65 < cLine) (R : Rl X.K kt ca io st H) (ra : RV X.K kt io st.n H a x) (rb : RV X.K kt io st.n H b y) (e : inV kt st a b = some k) :
    (Q (.bl k) H → oSem X (compareOp .In) x y H Q) ∧ (Q (.bl (!k)) H → oSem X (compareOp .NotIn) x y H Q) := by
  unfold inV at e
  split at e
  · obtain ⟨b1, ys, rfl, s, rs⟩ := rb.itup
    obtain ⟨f1, f2, rfl⟩ := in_flat ra rs e
    exact ⟨fun q => oSem.of op_in_seq ⟨_, ys, rfl, .inr s.sqT, f1, f2, q⟩, fun q => oSem.of op_notIn_seq ⟨_, ys, rfl, .inr s.sqT, f1, f2, q⟩⟩
  · split at e
    · cases e
      obtain rfl := ra.istr
      obtain rfl := rb.istr
      exact ⟨fun q => oSem.of op_in_str ⟨_, _, rfl, rfl, q⟩, fun q => oSem.of op_notin_str ⟨_, _, rfl, rfl, q⟩⟩
    · cases e
  · obtain ⟨rfl, hi⟩ := rb.iref
    split at e
    · rename_i ys em
      obtain ⟨ws, sl, rs, _⟩ := R.list em
      split at e
      · rename_i bb eb
        cases e
        obtain ⟨f1, f2, rfl⟩ := in_flat ra rs eb
        exact ⟨fun q => oSem.of op_in_seq ⟨_, ws, rfl, .inl sl, f1, f2, q⟩, fun q => oSem.of op_notIn_seq ⟨_, ws, rfl, .inl sl, f1, f2, q⟩⟩
      · split at e
        · rename_i d ds e1 e2
          split at e
          · rename_i hs
            cases e
            rw [Bool.and_eq_true] at hs
            exact ⟨fun q => oSem.of (op_inD hu) ⟨_, _, dat_dp R _ _ _ _ e1 ra, dat_dp R _ _ _ _ e2 rb, hs.1, hs.2, q⟩, fun q => oSem.of (op_notInD hu) ⟨_, _, dat_dp R _ _ _ _ e1 ra, dat_dp R _ _ _ _ e2 rb, hs.1, hs.2, q⟩⟩
          · cases e
        · cases e
    · rename_i kvs em
      cases e1 : dget kt (some (.dK kvs)) a with
      | none => rw [e1] at e; cases e
      | some r =>
        rw [e1] at e; cases e
        exact ⟨fun q => din_ok (neg := false) (by omega) R em ra e1 q, fun q => din_ok (neg := true) (by omega) R em ra e1 q⟩
    · rename_i kvs em
      cases e1 : dget kt (some (.dT kvs)) a with
      | none => rw [e1] at e; cases e
      | some r =>
        rw [e1] at e; cases e
        exact ⟨fun q => din_ok (neg := false) (by omega) R em ra e1 q, fun q => din_ok (neg := true) (by omega) R em ra e1 q⟩
    · cases e
  · cases e
def copOf : Cop → CmpOp
  | .eq => .Eq | .ne => .NotEq | .lt => .Lt | .le => .LtE | .gt => .Gt | .ge => .GtE | .has => .In | .hasnt => .NotIn
theorem okB_inv {o : Option Bool} {v : Val} (h : okB o st = .ok v st') : ∃ k, o = some k ∧ v = .bl k ∧ st' = st := by
  cases o with
  | none => cases h
  | some k => cases h; exact ⟨k, rfl, rfl, rfl⟩
theorem notO_inv {o : Option Bool} {k : Bool} (h : notO o = some k) : ∃ j, o = some j ∧ k = !j := by
  cases o with
  | none => cases h
  | some j => cases h; exact ⟨j, rfl, rfl⟩
def rEqLen (K : PySem.W.Frag) : R2 := fun x y H Q => ∃ l b xs ys, x = .ref l ∧ y = .ref b ∧ SqL K H l xs ∧ SqL K H b ys ∧ xs.length ≠ ys.length ∧ Q (.bl false) H
theorem op_eqLen (hu : X.A.units < cLine) : OpR X (compareOp .Eq) (rEqLen X.K) := by
  intro pins s σ H x y v u Q I rx ry h
  obtain ⟨l, b, xs, ys, rfl, rfl, h1, h2, hne, q⟩ := h
  cases rx
  cases ry
  obtain ⟨its, r, ⟨⟨cls, dd, data, sl⟩, n, ho, hc, hd, hdat⟩, hz⟩ := I.list h1
  obtain ⟨its2, r2, ⟨⟨cls2, dd2, data2, sl2⟩, n2, ho2, hc2, hd2, hdat2⟩, hz2⟩ := I.list h2
  simp only at hc hd hc2 hd2 hdat hdat2
  subst hc hd hc2 hd2 hdat hdat2
  have ta : s.TypeIs (.ref l) "list" := ⟨_, ho, rfl⟩
  have tb : s.TypeIs (.ref b) "list" := ⟨_, ho2, rfl⟩
  have c0 : (its.toArray.size != its2.toArray.size) = true := by
    rw [List.size_toArray, List.size_toArray, ← r.length, ← r2.length]
    simpa using hne
  exact wpAny_richCompare_same_room (op := .Eq) ta tb F.slot_list_eq (call_meets F.slot_list_eq ta F.entry_list_eq (F.args_list_eq_2 _ _) (PySem.SeqAt.list_eq_lengthsAt l b its.toArray its2.toArray n n2 none none sl sl2 c0)
    ⟨ho, ho2, ⟨(fun x => nomatch x), ⟨.bl false, H, I, rfl, q⟩⟩⟩) hu
theorem cop_ok {o : Cop} {a b v : Val} {x y : V} {Q : VK} (hu : X.A.units + 65 < cLine) (R : Rl X.K kt ca io st H) (ra : RV X.K kt io st.n H a x) (rb : RV X.K kt io st.n H b y) (e : cop kt o a b st = .ok v st') (p : Post X.K kt ca io st H v st' Q) :
    oSem X (compareOp (copOf o)) x y H Q := by
  unfold cop at e
  split at e
  · split at e
    · rename_i k e1
      cases e
      exact eq_ok (by omega) R ra rb e1 (p.here R (.bl _))
    · split at e
      · rename_i hl
        cases e
        unfold lenNe at hl
        split at hl
        · split at hl
          · rename_i e1 e2
            obtain ⟨rfl, _⟩ := ra.iref
            obtain ⟨rfl, _⟩ := rb.iref
            obtain ⟨ys1, s1, r1, _⟩ := R.list e1
            obtain ⟨ys2, s2, r2, _⟩ := R.list e2
            exact oSem.of (op_eqLen (by omega)) ⟨_, _, _, _, rfl, rfl, s1, s2, by rw [← r1.length, ← r2.length]; exact of_decide_eq_true hl, p.here R (.bl _)⟩
          · cases hl
        · cases hl
      · cases e
  · obtain ⟨k, e1, rfl, rfl⟩ := okB_inv e
    obtain ⟨j, e2, rfl⟩ := notO_inv e1
    exact ne_ok (by omega) R ra rb e2 (p.here R (.bl _))
  · obtain ⟨k, e1, rfl, rfl⟩ := okB_inv e
    exact (in_ok hu R ra rb e1).1 (p.here R (.bl _))
  · obtain ⟨k, e1, rfl, rfl⟩ := okB_inv e
    obtain ⟨j, e2, rfl⟩ := notO_inv e1
    exact (in_ok hu R ra rb e2).2 (p.here R (.bl _))
  · split at e
    · cases e; obtain rfl := ra.iint; obtain rfl := rb.iint
      exact oSem.of op_lt ⟨_, _, rfl, rfl, p.here R (.bl _)⟩
    · cases e
  · split at e
    · cases e; obtain rfl := ra.iint; obtain rfl := rb.iint
      exact oSem.of op_le ⟨_, _, rfl, rfl, p.here R (.bl _)⟩
    · cases e
  · split at e
    · cases e; obtain rfl := ra.iint; obtain rfl := rb.iint
      exact oSem.of op_gt ⟨_, _, rfl, rfl, p.here R (.bl _)⟩
    · cases e
  · split at e
    · cases e; obtain rfl := ra.iint; obtain rfl := rb.iint
      exact oSem.of op_ge ⟨_, _, rfl, rfl, p.here R (.bl _)⟩
    · cases e
end
end CL

/-! CL, part d: subscripts, cuts, stores, built-ins -/
namespace CL
open PySem PySem.Spec PyProof.Rows L2
section
variable {X : Cx} {kt : List (List Val)} {ca io : Nat → Addr} {st st' : Store} {H : Hp}

/-! ### a[i] -/
/-- what a plain subscript of values must do -/
def iSem (X : Cx) : R2 := fun x y H Q => ∀ (value slice : Expr) (pins : List (Addr × Obj)) (s : Shared) (σ : L2.St) (v u : Value), Inv X pins σ H s → RelV x v → RelV y u →
    subscripted slice false v u = operate [v, u] (getItem v u) → wpAny (model X.prog X.w) X.A (subscriptTail value slice v u) (EP X pins σ Q) X.xe s
theorem ix_sem : IxR X (iSem X) := fun value slice pins s σ H x y v u Q I rx ry h hs => h value slice pins s σ v u I rx ry hs
theorem iSem.of {r : R2} (ho : IxR X r) {x y : V} {H : Hp} {Q : VK} (h : r x y H Q) : iSem X x y H Q := fun value slice pins s σ v u I rx ry hs => ho value slice pins s σ H x y v u Q I rx ry h hs
def rDGet : R2 := fun x y H Q => ∃ a v, x = .ref a ∧ DGet H a y (some v) ∧ Q v H
theorem ix_dict (hu : X.A.units + 1 < cLine) : IxR X rDGet := by
  intro value slice pins s σ H x y v u Q I rx ry h hs
  obtain ⟨a, w, rfl, g, q⟩ := h
  cases rx
  exact tail_any (dict_typeIs I g) PySem.F.slot_dict_getitem.lookup (d_getItem hu I g ry fun w' s' I' r => ⟨w, H, I', r, q⟩) hs
theorem sub_ok {a b v : Val} {x y : V} {Q : VK} (hu : X.A.units + 65 < cLine) (R : Rl X.K kt ca io st H) (ra : RV X.K kt io st.n H a x) (rb : RV X.K kt io st.n H b y) (e : subV kt a b st = .ok v st') (p : Post X.K kt ca io st H v st' Q) :
    iSem X x y H Q := by
  unfold subV at e
  split at e
  · split at e
    · split at e
      · rename_i w e1
        cases e
        obtain ⟨a1, ys, rfl, s, rs⟩ := ra.itup
        obtain rfl := rb.iint
        obtain ⟨z, e2, rz⟩ := rs.atI e1
        exact iSem.of ix_tup ⟨_, ys, _, z, rfl, rfl, s.sqT, e2, p.here R rz⟩
      · cases e
    · cases e
  · split at e
    · split at e
      · rename_i hf
        split at e
        · rename_i c e1
          cases e
          obtain rfl := ra.istr
          obtain rfl := rb.iint
          exact iSem.of ix_str ⟨_, _, c, rfl, rfl, fits_le hf, e1, p.here R (.str _)⟩
        · cases e
      · cases e
    · cases e
  · obtain ⟨rfl, hi⟩ := ra.iref
    split at e
    · rename_i xs em
      split at e
      · split at e
        · rename_i w e1
          cases e
          obtain rfl := rb.iint
          obtain ⟨ys, sl, rs, _⟩ := R.list em
          obtain ⟨z, e2, rz⟩ := rs.atI e1
          exact iSem.of ix_list ⟨_, ys, _, z, rfl, rfl, sl, e2, p.here R rz⟩
        · cases e
      · cases e
    · split at e
      · rename_i w e1
        cases e
        obtain ⟨rw', g, rr⟩ := dget_ok R rfl rb e1
        cases rw' with
        | none => cases rr
        | some z => exact iSem.of (ix_dict (by omega)) ⟨_, z, rfl, g, p.here R rr⟩
      · cases e
  · cases e

/-! ### a[lo:hi] -/
def sSem (X : Cx) : V → Option Int → Option Int → Hp → VK → Prop := fun x lo hi H Q => ∀ (pins : List (Addr × Obj)) (s : Shared) (σ : L2.St) (v vl vu : Value) (sl : Addr), Inv X pins σ H s → RelV x v → s.heap.IsSliceOf sl vl vu .none → IsPart vl lo → IsPart vu hi →
    ∃ T id, typeLookup (.type T) "__getitem__" = pure (some (.builtin id)) ∧ s.TypeIs v T ∧ wpAny (model X.prog X.w) X.A (getItem v (.ref sl)) (EP X pins σ Q) X.xe s
theorem sl_sem : SlR X (sSem X) := fun pins s σ H x v vl vu lo hi sl Q I rx hs pl pu h => h pins s σ v vl vu sl I rx hs pl pu
theorem sSem.of {r : V → Option Int → Option Int → Hp → VK → Prop} (ho : SlR X r) {x : V} {lo hi : Option Int} {H : Hp} {Q : VK} (h : r x lo hi H Q) : sSem X x lo hi H Q := fun pins s σ v vl vu sl I rx hs pl pu => ho pins s σ H x v vl vu lo hi sl Q I rx hs pl pu h
theorem cutL_all {α : Type} {xs : List α} {lo hi : Option Int} (h : HT.sIx xs.length 0 lo = 0 ∧ HT.sIx xs.length xs.length hi = xs.length) : cutL xs lo hi = xs := by
  unfold cutL
  rw [h.1, h.2]; simp
theorem cut_ok {a v : Val} {l h : Option Val} {lo hi : Option Int} {x : V} {Q : VK} (R : Rl X.K kt ca io st H) (ra : RV X.K kt io st.n H a x) (el : part l = some lo) (eh : part h = some hi) (e : cutV a l h st = .ok v st') (p : Post X.K kt ca io st H v st' Q) :
    sSem X x lo hi H Q := by
  unfold cutV at e
  rw [el, eh] at e
  simp only at e
  split at e
  · cases e
    obtain ⟨a1, ys, rfl, s, rs⟩ := ra.itup
    refine sSem.of sl_tupA ⟨_, ys, rfl, s.sqT, fun z => ?_, fun _ q hq => p.tup R (rs.cut lo hi) q hq⟩
    rw [← rs.length] at z
    rw [cutL_all z] at p
    exact p.here R (.tup s rs)
  · split at e
    · rename_i hf
      cases e
      obtain rfl := ra.istr
      exact sSem.of sl_str ⟨_, rfl, fits_le hf, p.here R (.str _)⟩
    · cases e
  · split at e
    · rename_i xs em
      cases e
      obtain ⟨rfl, hi'⟩ := ra.iref
      obtain ⟨ys, sl, rs, _⟩ := R.list em
      exact sSem.of sl_list ⟨_, ys, rfl, sl, fun q hq => p.list R (rs.cut lo hi) q hq⟩
    · cases e
  · cases e

/-! ### o[i] = v -/
theorem Inv.toT {pins : List (Addr × Obj)} {σ : L2.St} {H : Hp} {s : Shared} {a : Addr} (I : L2.Inv X pins σ H s) (h : H a = some (.dK [])) : L2.Inv X pins σ (upd H a (.dT [])) s := by
  obtain ⟨z, hd, vs, r, o, es, ep, ho, ex, ed, kk, pp, nd⟩ := (show ObjOk X.prog X.w H s.heap a (.dK []) from I.hok a _ h)
  cases r
  have ee : es.toList = [] := by
    generalize es.toList = l at pp
    cases pp; rfl
  refine I.write (x := a) (e := a) (o := .dT []) (h' := s.heap) (t' := s.toks) (by rw [h]; exact trivial) (.inl rfl) (fun b u _ q => q) ⟨o, ho⟩ ?_
  exact ⟨z, hd, [], .nil, o, es, ep, ho, ex, ed, by rw [ee]; rfl, by simp⟩
theorem put_ok {a b c v : Val} {x y z : V} {Q : Hp → Prop} (hu : X.A.units + 65 < cLine) (R : Rl X.K kt ca io st H) (ra : RV X.K kt io st.n H a x) (rb : RV X.K kt io st.n H b y) (rc : RV X.K kt io st.n H c z) (e : putV kt a b c st = .ok v st')
    (p : ∀ H', Up io st.n H io st'.n H' → Rl X.K kt ca io st' H' → Q H') : gSem X x y z H Q := by
  unfold putV at e
  have wr_inv : ∀ {i : Nat} {o : Ob}, wr i o st = .ok v st' → st.ro i = false ∧ st' = st.set i o := fun {i o} h => by
    unfold wr at h
    split at h
    · cases h
    · rename_i hr; cases h; exact ⟨by simpa using hr, rfl⟩
  split at e
  · obtain ⟨rfl, hi⟩ := ra.iref
    split at e
    · rename_i xs em
      split at e
      · split at e
        · rename_i k j ej
          obtain ⟨hr, rfl⟩ := wr_inv e
          obtain rfl := rb.iint
          obtain ⟨ys, sl, rs, hl⟩ := R.list em
          refine gSem.of set_list ⟨_, ys, _, j, rfl, rfl, hl hr, by rw [← rs.length]; exact ej, ?_⟩
          have up := Up.wr (io := io) (st := st) (.lst (ys.set j z)) (hl hr) trivial
          exact p _ up (R.wr hi hr (.lst upd_same ((rs.set rc j).up up)))
        · cases e
      · cases e
    · rename_i kvs em
      split at e
      · rename_i k ek
        split at e
        · rename_i hz
          obtain ⟨hr, rfl⟩ := wr_inv e
          obtain rfl := key1_kV rb ek
          obtain ⟨kws, _, q, hl⟩ := R.dictK em
          refine gSem.of (set_dict (by omega)) ⟨_, _, rfl, .k (hl hr) (by rw [← q.length]; exact hz), ?_⟩
          have up := Up.wr (io := io) (st := st) (.dK (putK kws k z)) (hl hr) trivial
          exact p _ up (R.wr hi hr (.dK upd_same ((q.put k rc).up up)))
        · cases e
      · split at e
        · rename_i ks ek
          split at e
          · rename_i hz
            obtain ⟨hr, rfl⟩ := wr_inv e
            obtain ⟨b1, rfl, hb⟩ := keyT_ok rb ek
            obtain ⟨kws, _, q, hl⟩ := R.dictK em
            have hk : kws = [] := by
              have := q.empty
              rw [hz] at this
              cases kws with
              | nil => rfl
              | cons _ _ => cases this
            subst hk
            have h0 := hl hr
            intro pins s σ ov iv u I ro ri rv
            have I2 := Inv.toT I h0
            have hne : b1 ≠ io _ := ne_of hb h0 (fun z => by cases z)
            refine thn (set_dict (X := X) (by omega) pins s σ _ _ _ _ ov iv u Q I2 ro ri rv ⟨_, _, rfl, .t (kvs := []) (k := ks) upd_same ((upd_ne hne).trans hb) (by decide), ?_⟩) fun _ _ q => q
            rw [upd_upd]
            have up := Up.wr (io := io) (st := st) (.dT (putK [] ks z)) h0 trivial
            exact p _ up (R.wr hi hr (.dT upd_same (RKs.cons (rc.up up) .nil)))
          · cases e
        · cases e
    · rename_i kvs em
      split at e
      · rename_i ks ek
        split at e
        · rename_i hz
          obtain ⟨hr, rfl⟩ := wr_inv e
          obtain ⟨b1, rfl, hb⟩ := keyT_ok rb ek
          obtain ⟨kws, _, q, hl⟩ := R.dictT em
          refine gSem.of (set_dict (by omega)) ⟨_, _, rfl, .t (hl hr) hb (by rw [← q.length]; exact hz), ?_⟩
          have up := Up.wr (io := io) (st := st) (.dT (putK kws ks z)) (hl hr) trivial
          exact p _ up (R.wr hi hr (.dT upd_same ((q.put ks rc).up up)))
        · cases e
      · cases e
    · cases e
  · cases e

/-! ### truth -/
theorem tru_ok {a : Val} {x : V} {k : Bool} (R : Rl X.K kt ca io st H) (ra : RV X.K kt io st.n H a x) (e : tru st a = some k) : TruV X.K x H k := by
  cases ra with
  | non => cases e; rfl
  | bl b => cases e; rfl
  | int i => cases e; rfl
  | str z =>
    unfold tru at e
    simp only at e
    split at e
    · rename_i hf
      cases e
      refine ⟨fits_le hf, ?_⟩
      cases z.length <;> rfl
    · cases e
  | tup s r => cases e; exact .inr (.inl ⟨_, s.sqT, by rw [r.empty]⟩)
  | @ref i hi =>
    unfold tru at e
    simp only at e
    split at e
    · rename_i xs em
      cases e
      obtain ⟨ys, sl, rs, _⟩ := R.list em
      exact .inl ⟨ys, sl, by rw [rs.empty]⟩
    · rename_i kvs em
      split at e
      · cases e
      · rename_i hr
        cases e
        obtain ⟨kws, _, q, hl⟩ := R.dictK em
        exact .inr (.inr ⟨kws, hl (by simpa using hr), by rw [q.empty]⟩)
    · cases e

/-! ### built-in functions -/
def bfName : Bf → Str
  | .len => "len" | .abs => "abs" | .list => "list" | .tuple => "tuple" | .int => "int" | .any => "any" | .all => "all" | .min2 => "min" | .max2 => "max" | .str => "str" | .sorted => "sorted" | .dict => "dict"
def bfVal : Bf → Value
  | .len => .builtin "len" | .abs => .builtin "abs" | .list => .type "list" | .tuple => .type "tuple" | .int => .type "int" | .any => .builtin "any" | .all => .builtin "all" | .min2 => .builtin "min" | .max2 => .builtin "max" | .str => .type "str" | .sorted => .builtin "sorted" | .dict => .type "dict"
theorem bools_ok {K : PySem.W.Frag} {n : Nat} : ∀ {xs : List Val} {ys : List V} {bs : List Bool}, RVs K kt io n H xs ys → bools xs = some bs → ys = bs.map V.bl
  | _, _, _, .nil, e => by cases e; rfl
  | _, _, _, .cons r t, e => by
    cases r with
    | bl b =>
      unfold bools at e
      split at e
      · rename_i bs e1; cases e; rw [List.map_cons, ← bools_ok t e1]
      · cases e
    | _ => cases e
theorem ints_ok {K : PySem.W.Frag} {n : Nat} : ∀ {xs : List Val} {ys : List V} {is : List Int}, RVs K kt io n H xs ys → intsO xs = some is → ys = is.map V.int
  | _, _, _, .nil, e => by cases e; rfl
  | _, _, _, .cons r t, e => by
    cases r with
    | int b =>
      unfold intsO at e
      split at e
      · rename_i bs e1; cases e; rw [List.map_cons, ← ints_ok t e1]
      · cases e
    | _ => cases e
theorem ints_rvs {K : PySem.W.Frag} {n : Nat} : ∀ ns : List Int, RVs K kt io n H (ns.map .int) (ns.map V.int)
  | [] => .nil
  | x :: r => .cons (.int x) (ints_rvs r)
theorem sort_uniq {ns is : List Int} (h1 : ns.Perm is) (h2 : ns.Pairwise (· ≤ ·)) : ns = is.mergeSort (fun i j => decide (i ≤ j)) := by
  have p2 : (is.mergeSort (fun i j => decide (i ≤ j))).Perm is := List.mergeSort_perm _ _
  have q2 : (is.mergeSort (fun i j => decide (i ≤ j))).Pairwise (fun a b => decide (a ≤ b) = true) := List.pairwise_mergeSort (fun a b c h1 h2 => by simp at *; omega) (fun a b => by simp; omega) _
  refine List.Perm.eq_of_pairwise (le := fun a b : Int => a ≤ b) (fun a b _ _ h1 h2 => by omega) h2 (q2.imp (by intro a b h; simpa using h)) (h1.trans p2.symm)
theorem pairs_okV {K : PySem.W.Frag} {n : Nat} : ∀ {xs : List Val} {ys : List V} {kvs : List (Key × Val)}, RVs K kt io n H xs ys → pairsO xs = some kvs →
    ∃ (ps : List Addr) (kws : List (Key × V)), ys = ps.map V.ref ∧ Paired (fun p kv => SqT K H p [kV kv.1, kv.2]) ps kws ∧ RKs K kt io n H kvs kws
  | _, _, _, .nil, e => by cases e; exact ⟨[], [], rfl, .nil, .nil⟩
  | _, _, _, .cons (x := x) r t, e => by
    cases r with
    | tup sq rs =>
      rename_i xs a ys
      match xs, e with
      | [k, v], e =>
        unfold pairsO at e
        split at e
        · rename_i k' r' e1 e2
          cases e
          obtain ⟨ps, kws, rfl, hp, hk⟩ := pairs_okV t e2
          obtain ⟨w, u, rfl, r1, r2⟩ := rs.two
          refine ⟨a :: ps, (k', u) :: kws, rfl, .cons ?_ hp, .cons r2 hk⟩
          have : w = kV k' := by
            cases r1 with
            | int i => cases e1; rfl
            | str z => cases e1; rfl
            | _ => cases e1
          subst this
          exact sq.sqT
        · cases e
      | [], e => cases e
      | [_], e => cases e
      | _ :: _ :: _ :: _, e => cases e
    | _ => cases e
theorem bf_ok {b : Bf} {vs : List Val} {v : Val} {xs : List V} {Q : VK} (hc : X.calm = true) (R : Rl X.K kt ca io st H) (rv : RVs X.K kt io st.n H vs xs) (e : bfn b vs st = .ok v st') (p : Post X.K kt ca io st H v st' Q) :
    cSem X (bfVal b) xs H Q := by
  unfold bfn at e
  split at e
  · obtain ⟨w, rfl, r⟩ := rv.one
    obtain rfl := r.istr
    split at e
    · rename_i hf
      cases e
      exact cSem.of call_len_str ⟨_, rfl, fits_le hf, p.here R (.int _)⟩
    · cases e
  · obtain ⟨w, rfl, r⟩ := rv.one
    obtain ⟨a, ys, rfl, s, rs⟩ := r.itup
    cases e
    exact cSem.of call_len_seq ⟨_, ys, rfl, .inr s.sqT, by rw [← rs.length]; exact p.here R (.int _)⟩
  · obtain ⟨w, rfl, r⟩ := rv.one
    obtain ⟨rfl, hi⟩ := r.iref
    split at e
    · rename_i zs em
      cases e
      obtain ⟨ys, sl, rs, _⟩ := R.list em
      exact cSem.of call_len_seq ⟨_, ys, rfl, .inl sl, by rw [← rs.length]; exact p.here R (.int _)⟩
    · rename_i kvs em
      split at e
      · cases e
      · rename_i hr
        cases e
        obtain ⟨kws, _, q, hl⟩ := R.dictK em
        exact cSem.of call_lenD ⟨_, kws, rfl, hl (by simpa using hr), by rw [← q.length]; exact p.here R (.int _)⟩
    · cases e
  · obtain ⟨w, rfl, r⟩ := rv.one
    obtain rfl := r.iint
    cases e
    exact cSem.of call_abs ⟨_, rfl, p.here R (.int _)⟩
  · obtain ⟨w, rfl, r⟩ := rv.one
    obtain ⟨a, ys, rfl, s, rs⟩ := r.itup
    cases e
    exact cSem.of call_list_of ⟨_, ys, rfl, .inr s.sqT, fun q hq => p.list R rs q hq⟩
  · obtain ⟨w, rfl, r⟩ := rv.one
    obtain ⟨rfl, hi⟩ := r.iref
    split at e
    · rename_i zs em
      cases e
      obtain ⟨ys, sl, rs, _⟩ := R.list em
      exact cSem.of call_list_of ⟨_, ys, rfl, .inl sl, fun q hq => p.list R rs q hq⟩
    · cases e
  · obtain ⟨w, rfl, r⟩ := rv.one
    obtain ⟨a, ys, rfl, s, rs⟩ := r.itup
    cases e
    exact cSem.of call_tuple_of ⟨_, ys, rfl, .inr ⟨s.sqT, p.here R (.tup s rs)⟩⟩
  · obtain ⟨w, rfl, r⟩ := rv.one
    obtain ⟨rfl, hi⟩ := r.iref
    split at e
    · rename_i zs em
      cases e
      obtain ⟨ys, sl, rs, _⟩ := R.list em
      exact cSem.of call_tuple_of ⟨_, ys, rfl, .inl ⟨sl, fun q hq => p.tup R rs q hq⟩⟩
    · cases e
  · obtain ⟨w, rfl, r⟩ := rv.one
    obtain rfl := r.iint
    cases e
    exact cSem.of call_int1 (.inl ⟨_, rfl, p.here R (.int _)⟩)
  · obtain ⟨w, rfl, r⟩ := rv.one
    obtain rfl := r.ibl
    cases e
    exact cSem.of call_int1 (.inr ⟨_, rfl, p.here R (.int _)⟩)
  · obtain ⟨w, rfl, r⟩ := rv.one
    obtain ⟨rfl, hi⟩ := r.iref
    split at e
    · rename_i zs em
      split at e
      · rename_i bs eb
        cases e
        obtain ⟨ys, sl, rs, _⟩ := R.list em
        obtain rfl := bools_ok rs eb
        exact cSem.of (cr_any hc) ⟨_, bs, rfl, sl, p.here R (.bl _)⟩
      · cases e
    · cases e
  · obtain ⟨w, rfl, r⟩ := rv.one
    obtain ⟨rfl, hi⟩ := r.iref
    split at e
    · rename_i zs em
      split at e
      · rename_i bs eb
        cases e
        obtain ⟨ys, sl, rs, _⟩ := R.list em
        obtain rfl := bools_ok rs eb
        exact cSem.of (cr_all hc) ⟨_, bs, rfl, sl, p.here R (.bl _)⟩
      · cases e
    · cases e
  · obtain ⟨w, u, rfl, r1, r2⟩ := rv.two
    obtain rfl := r1.iint
    obtain rfl := r2.iint
    cases e
    exact cSem.of (call_min2 hc) ⟨_, _, rfl, p.here R (.int _)⟩
  · obtain ⟨w, u, rfl, r1, r2⟩ := rv.two
    obtain rfl := r1.iint
    obtain rfl := r2.iint
    cases e
    exact cSem.of (call_max2 hc) ⟨_, _, rfl, p.here R (.int _)⟩
  · obtain ⟨w, rfl, r⟩ := rv.one
    obtain rfl := r.iint
    split at e
    · rename_i hl
      cases e
      exact cSem.of call_str_int ⟨_, rfl, hl, p.here R (.str _)⟩
    · cases e
  · obtain ⟨w, rfl, r⟩ := rv.one
    obtain ⟨rfl, hi⟩ := r.iref
    split at e
    · rename_i zs em
      split at e
      · rename_i is eb
        cases e
        obtain ⟨ys, sl, rs, _⟩ := R.list em
        obtain rfl := ints_ok rs eb
        refine cSem.of cr_sortedI ⟨_, is, rfl, sl, fun ns' q h1 h2 hq => ?_⟩
        rw [sort_uniq h1 h2]
        exact p.list R (ints_rvs _) q hq
      · cases e
    · cases e
  · obtain ⟨w, rfl, r⟩ := rv.one
    obtain ⟨rfl, hi⟩ := r.iref
    split at e
    · rename_i zs em
      split at e
      · rename_i kvs eb
        cases e
        obtain ⟨ys, sl, rs, _⟩ := R.list em
        obtain ⟨ps, kws, rfl, hp, hk⟩ := pairs_okV rs eb
        refine cSem.of (call_dictP hc) ⟨_, ps, kws, rfl, sl, hp, fun q hq => p.made (u := .dK (mergeK [] kws)) R (fun a ha => .dK upd_same ((RKs.merge hk .nil).up (Up.new _ ha))) q hq⟩
      · cases e
    · cases e
  · cases e

/-! ### methods of lists -/
def bmName : Bm → Str
  | .append => "append" | .pop => "pop" | .count => "count" | .index => "index"
def bmId : Bm → String
  | .append => "list.append" | .pop => "list.pop" | .count => "list.count" | .index => "list.index"
/-- l.count(x) of data -/
def rCountD (K : PySem.W.Frag) : V → List V → Hp → VK → Prop := fun x xs H Q => ∃ (a : Addr) (y : V) (d : PyData) (ds : List PyData), x = V.ref a ∧ xs = [y] ∧ Dp K H (V.ref a) (.list ds) ∧ Dp K H y d ∧
  SeqAt.shaped (.list ds) = true ∧ SeqAt.shaped d = true ∧ Q (.int (ds.countP fun z => PyData.eqv z d : Nat)) H
theorem mt_countD (hu : X.A.units + 65 < cLine) : MtR X "list.count" (rCountD X.K) := by
  intro pins s σ H x xs v us Q I rx rxs h
  obtain ⟨a, y, d, ds, rfl, rfl, hl, hy, sl, sd, q⟩ := h
  cases rx
  cases rxs with
  | cons ry rt =>
    rename_i uy ut
    cases rt
    obtain ⟨bs, r1⟩ := Dp.reads I d y uy hy ry
    have hxs : PyData.canLayAll0 ds = true := SeqAt.canLay_of_shaped sl
    have hroom : X.A.units + 1 + min (PyData.depthAll ds) d.depth < cLine := room_in_shaped sd hu
    cases hl with
    | lst hs ha =>
      obtain ⟨its, rv, ⟨⟨cls, dd, data, sls⟩, n, ho, hc, hdn, hdt⟩, hlen⟩ := I.list hs
      simp only at hc hdt
      subst hc hdt
      obtain ⟨as, h4⟩ := Dp.readsAll I ds _ its ha rv
      have hmap : its.map (SeqAt.readOf s.heap) = ds := SeqAt.readsAll_map ds its as hxs h4
      refine call_meets PySem.F.slot_list_count ⟨_, ho, rfl⟩ PySem.F.entry_list_count (PySem.F.args_list_count_2 _ _)
        (SeqAt.list_countAt a its.toArray n dd sls uy (fun u => PyData.eqv (SeqAt.readOf s.heap u) d)) ⟨ho, SeqAt.items_eqAt (vs := its.toArray) (show ReadsAll s.heap its.toArray.toList ds as from h4) r1 hxs (SeqAt.canLay_of_shaped sd) hroom, ?_⟩
      refine ⟨.int (ds.countP fun z => PyData.eqv z d : Nat), H, I.tok _, ⟨s.toks, ?_⟩, q⟩
      show Value.int ((its.toArray.toList.countP (fun u => PyData.eqv (SeqAt.readOf s.heap u) d) : Nat) : Int) s.toks = Value.int ((ds.countP fun z => PyData.eqv z d : Nat) : Int) s.toks
      rw [← hmap, List.countP_map]
      rfl
theorem wr_inv {i : Nat} {o : Ob} {v : Val} (h : wr i o st = .ok v st') : st.ro i = false ∧ v = .non ∧ st' = st.set i o := by
  unfold wr at h
  split at h
  · cases h
  · rename_i hr; cases h; exact ⟨by simpa using hr, rfl, rfl⟩
theorem bm_ok (hu : X.A.units + 65 < cLine) {b : Bm} {a v : Val} {vs : List Val} {x : V} {xs : List V} {Q : VK} (R : Rl X.K kt ca io st H) (ra : RV X.K kt io st.n H a x) (rv : RVs X.K kt io st.n H vs xs) (e : bmt b a vs st = .ok v st') (p : Post X.K kt ca io st H v st' Q) :
    mSem X (bmId b) x xs H Q := by
  unfold bmt at e
  split at e
  · obtain ⟨rfl, hi⟩ := ra.iref
    split at e
    · rename_i em
      split at e
      · rename_i hz
        obtain ⟨hr, rfl, rfl⟩ := wr_inv e
        obtain ⟨w, rfl, r⟩ := rv.one
        obtain ⟨ys, sl, rs, hl⟩ := R.list em
        exact mSem.of mt_append ⟨_, ys, w, rfl, rfl, hl hr, by rw [← rs.length]; exact hz, p.wrote R hi hr fun up => ⟨.lst upd_same ((rs.append (.cons r .nil)).up up), .non⟩⟩
      · cases e
    · rename_i em
      split at e
      · rename_i u eu
        obtain ⟨z, t, e1, e2⟩ := bind_eq_ok.mp e
        obtain ⟨hr, rfl, rfl⟩ := wr_inv e1
        cases e2
        obtain ⟨ys, sl, rs, hl⟩ := R.list em
        cases rv
        rw [List.getLast?_eq_getElem?] at eu
        obtain ⟨w, ew, rw'⟩ := rs.get eu
        refine mSem.of mt_pop ⟨_, ys, w, rfl, rfl, hl hr, by rw [← rs.length]; exact ew, p.wrote R hi hr fun up => ⟨.lst upd_same (rs.dropLast.up up), rw'.up up⟩⟩
      · cases e
    · rename_i em
      split at e
      · rename_i d ds e1 e2
        split at e
        · rename_i hs
          rw [Bool.and_eq_true] at hs
          obtain ⟨w, rfl, r⟩ := rv.one
          cases e
          exact mSem.of (mt_countD hu) ⟨_, _, d, ds, rfl, rfl, dat_dp R _ _ _ _ e2 ra, dat_dp R _ _ _ _ e1 r, hs.2, hs.1, p.here R (.int _)⟩
        · cases e
      · cases e
    · rename_i em
      split at e
      · rename_i d ds e1 e2
        split at e
        · rename_i hs
          rw [Bool.and_eq_true] at hs
          obtain ⟨w, rfl, r⟩ := rv.one
          split at e
          · rename_i j ej
            cases e
            obtain ⟨hj, h1, h2⟩ := List.findIdx?_eq_some_iff_getElem.mp ej
            refine mSem.of (mt_indexD hu) ⟨_, _, d, ds, j, ds[j], rfl, rfl, dat_dp R _ _ _ _ e2 ra, dat_dp R _ _ _ _ e1 r, hs.2, hs.1, List.getElem?_eq_getElem hj, h1, fun m z' hm hz => ?_, p.here R (.int _)⟩
            obtain ⟨hm2, rfl⟩ := List.getElem?_eq_some_iff.mp hz
            simpa using h2 m hm
          · cases e
        · cases e
      · cases e
    · cases e
  · cases e

/-! ### isinstance -/
def tyName : Ty → String
  | .int => "int" | .bool => "bool" | .str => "str" | .list => "list" | .tuple => "tuple" | .dict => "dict" | .cls _ => ""
theorem kit_all (a : String) (t : Ty) (h : (match t with | .cls _ => False | _ => True)) (ha : a = "NoneType" ∨ a = "bool" ∨ a = "int" ∨ a = "str" ∨ a = "list" ∨ a = "tuple" ∨ a = "dict") :
    kitB a (tyName t) = some (a == tyName t || (a == "bool" && tyName t == "int")) := by
  cases t with
  | cls c => cases h
  | _ => rcases ha with rfl | rfl | rfl | rfl | rfl | rfl | rfl <;> decide +kernel
theorem isi_ok {a : Val} {x : V} {t : Ty} {k : Bool} {Q : VK} (R : Rl X.K kt ca io st H) (ra : RV X.K kt io st.n H a x) (ht : (match t with | .cls _ => False | _ => True)) (e : isT st a t = some k) (q : Q (.bl k) H) :
    cSem X (.builtin "isinstance") [x, .ty (tyName t)] H Q := by
  have go : ∀ (b : String), TyX X.K H x (.type b) → (b = "NoneType" ∨ b = "bool" ∨ b = "int" ∨ b = "str" ∨ b = "list" ∨ b = "tuple" ∨ b = "dict") → (b == tyName t || (b == "bool" && tyName t == "int")) = k → cSem X (.builtin "isinstance") [x, .ty (tyName t)] H Q :=
    fun b ty hb hk => cSem.of call_isi ⟨x, _, _, _, k, rfl, .ty _, ty, kit_ty (by rw [kit_all b t ht hb, hk]), q⟩
  cases ra with
  | non => cases e; exact go "NoneType" (.base .non) (by simp) (by cases t <;> first | exact False.elim ht | decide)
  | bl b => cases e; exact go "bool" (.base (.bl b)) (by simp) (by cases t <;> first | exact False.elim ht | decide)
  | int i => cases e; exact go "int" (.base (.int i)) (by simp) (by cases t <;> first | exact False.elim ht | decide)
  | str z => cases e; exact go "str" (.base (.str z)) (by simp) (by cases t <;> first | exact False.elim ht | decide)
  | tup s r =>
    cases e
    refine go "tuple" ?_ (by simp) (by cases t <;> first | exact False.elim ht | decide)
    rcases s with s | ⟨_, o, its, n, h1, h2, _⟩
    · exact .base (.tup s)
    · exact .kTuple h1 h2
  | @ref i hi =>
    unfold isT at e
    simp only at e
    split at e
    · rename_i xs em
      cases e
      refine go "list" ?_ (by simp) (by cases t <;> first | exact False.elim ht | decide)
      obtain ⟨_, r⟩ := R.at em
      generalize st.ro i = b at r
      cases r with
      | lst h _ => exact .base (.lst h)
      | lstR h _ =>
        rcases h with ⟨o, h⟩ | ⟨o, its, n, h1, h2, _⟩
        · exact .base (.frz h)
        · exact .kList h1 h2
    · rename_i xs em
      cases e
      refine go "dict" ?_ (by simp) (by cases t <;> first | exact False.elim ht | decide)
      obtain ⟨_, r⟩ := R.at em
      generalize st.ro i = b at r
      cases r with
      | dK h _ => exact .base (.dK h)
      | dKR h _ => exact .fDict h
    · rename_i xs em
      split at e
      · cases e
      · rename_i hr
        cases e
        refine go "dict" ?_ (by simp) (by cases t <;> first | exact False.elim ht | decide)
        obtain ⟨kws, _, _, hl⟩ := R.dictT em
        exact .base (.dT (hl (by simpa using hr)))
    · cases e
end
end CL

/-! CL, part y: list(zip(a, b)) of lists and tuples in any mix -/
namespace CL
open PySem PySem.Spec PyProof.Rows L2
section
variable {prog : Program} {w : World} {A : Around} {E : Value → Shared → Prop} {s : Shared} {z TI TO T i1 i2 S : Addr} {fp1 fp2 : List Addr} {n1 n2 i : Nat} {P1 P2 : Nat → Value → Prop} {St1 St2 : Nat → Heap → Prop} {f : Bool} {oT : Obj}
theorem zip_held {Q : Value → Shared → Prop} (D : ZipSep2 z TI TO i1 i2 fp1 fp2) (D1 : Draws prog w A i1 fp1 n1 P1 St1) (D2 : Draws prog w A i2 fp2 n2 P2 St2)
    (hz : IsZipHeld s.heap z TI TO T f) (hT : s.heap.get? T = some oT) (hTI : IsTupOf2 s.heap TI (.ref i1) (.ref i2)) (st1 : St1 i s.heap) (st2 : St2 i s.heap) (hlt1 : i < n1) (hlt2 : i < n2)
    (hQ : ∀ x1 x2 h' tk, P1 i x1 → P2 i x2 → IsZipHeld h' z TI TO T true → St1 (i + 1) h' → St2 (i + 1) h' → IsTupOf2 h' s.heap.objs.size x1 x2 → h'.objs.size = s.heap.objs.size + 1 →
      (∀ c o, c ≠ z → c ≠ i1 → c ≠ i2 → s.heap.get? c = some o → h'.get? c = some o) → Q (.ref s.heap.objs.size) { s with heap := h', toks := tk }) :
    wpAny (model prog w) A (Builtin.«zip.__next__» ⟨[.ref z], []⟩) (fun fin s' => ∃ v, fin = .done (.ret v) ∧ Q v s') E s := by
  obtain ⟨hp, g, d, tk0, os⟩ := s
  show wpAny _ _ (field (.ref z) 2 >>= _) _ _ _
  refine wpAny_bind (wpAny_field hz rfl (x := .bool false) rfl ?_)
  show wpAny _ _ (field (.ref z) 3 >>= _) _ _ _
  refine wpAny_bind (wpAny_field hz rfl (x := .ref TI) rfl ?_)
  refine wpAny_bind (wpAny_seqItems hTI rfl ?_)
  show wpAny _ _ (Builtin.SmallTypes.ownedTupleIsFree (.ref z) >>= _) _ _ _
  refine wpAny_bind (wpAny_tupleHeld_zip hz hT fun h₁ hz₁ hs₁ => ?_)
  replace hs₁ : Heap.SameBut z hp h₁ := hs₁
  simp only [Bool.false_eq_true, if_false]
  refine wpAny_bind ?_
  rw [← Array.forIn_toList]
  simp only [List.forIn_cons, List.forIn_nil]
  refine wpAny_bind (wpAny_bind (wpAny_holding ?_))
  show wpAny _ _ (Builtin.SmallTypes.nextOf (.ref i1) >>= _) _ _ ⟨h₁, g, d, tk0, os⟩
  refine wpAny_bind (D1.item i _ _ _ hlt1 (D1.over st1 hs₁ D.zf1) fun x1 p1 tk1 hx1 sn1 hp1 => wpAny_pure ?_)
  replace hp1 : Heap.SameBut i1 h₁ p1 := hp1
  refine wpAny_pure ?_
  refine wpAny_bind (wpAny_bind (wpAny_holding ?_))
  show wpAny _ _ (Builtin.SmallTypes.nextOf (.ref i2) >>= _) _ _ ⟨p1, g, d, tk1, os⟩
  refine wpAny_bind (D2.item i _ _ _ hlt2 (D2.over (D2.over st2 hs₁ D.zf2) hp1 D.sep1_2) fun x2 p2 tk2 hx2 sn2 hp2 => wpAny_pure ?_)
  replace hp2 : Heap.SameBut i2 p1 p2 := hp2
  refine wpAny_pure (wpAny_pure ?_)
  show wpAny _ _ (newTuple [x1, x2] >>= _) _ _ ⟨p2, g, d, tk2, os⟩
  refine wpAny_bind (wpAny_newTuple ?_)
  have hsz : p2.objs.size = hp.objs.size := by rw [hp2.1, hp1.1, hs₁.1]
  have hz₃ : IsZipHeld p2 z TI TO T true := hp2.extBut _ _ D.zi2 (hp1.extBut _ _ D.zi1 hz₁)
  have hk : ∀ c o, c ≠ z → c ≠ i1 → c ≠ i2 → hp.get? c = some o → p2.get? c = some o := fun c o c1 c2 c3 e => hp2.extBut _ _ c3 (hp1.extBut _ _ c2 (hs₁.extBut _ _ c1 e))
  have hj1 : St1 (i + 1) p2 := D1.over sn1 hp2 D.sep2_1
  refine wpAny_pure ⟨_, rfl, ?_⟩
  show Q (.ref p2.objs.size) _
  have hp' : IsTupOf2 (p2.push { cls := .type "tuple", data := .seq #[x1, x2] }) p2.objs.size x1 x2 := Heap.get?_push_size _ rfl
  have hz4 : (p2.push { cls := .type "tuple", data := .seq #[x1, x2] }).objs.size = p2.objs.size + 1 := Heap.size_push ..
  rw [hsz] at hp' hz4 ⊢
  exact hQ x1 x2 _ tk2 hx1 hx2 (Heap.get?_push_of_some _ hz₃) (D1.frame _ _ _ hj1 fun b hb o e => Heap.get?_push_of_some _ e) (D2.frame _ _ _ sn2 fun b hb o e => Heap.get?_push_of_some _ e) hp' hz4
    fun c o c1 c2 c3 e => Heap.get?_push_of_some _ (hk c o c1 c2 c3 e)
theorem zip_end_held {Q : Fin → Shared → Prop} (D : ZipSep2 z TI TO i1 i2 fp1 fp2) (D1 : Draws prog w A i1 fp1 n1 P1 St1) (D2 : Draws prog w A i2 fp2 n2 P2 St2)
    (hz : IsZipHeld s.heap z TI TO T f) (hT : s.heap.get? T = some oT) (hTI : IsTupOf2 s.heap TI (.ref i1) (.ref i2)) (st1 : St1 i s.heap) (st2 : St2 i s.heap) (hle1 : i ≤ n1) (hle2 : i ≤ n2) (hend : i = n1 ∨ i = n2)
    (hE : ∀ h' tk e, (∀ c o, c ≠ z → c ≠ i1 → c ≠ i2 → s.heap.get? c = some o → h'.get? c = some o) → (∃ o, h'.get? e = some o ∧ o.cls = .type "StopIteration") → E (.ref e) { s with heap := h', toks := tk }) :
    wpAny (model prog w) A (Builtin.«zip.__next__» ⟨[.ref z], []⟩) Q E s := by
  obtain ⟨hp, g, d, tk0, os⟩ := s
  show wpAny _ _ (field (.ref z) 2 >>= _) _ _ _
  refine wpAny_bind (wpAny_field hz rfl (x := .bool false) rfl ?_)
  show wpAny _ _ (field (.ref z) 3 >>= _) _ _ _
  refine wpAny_bind (wpAny_field hz rfl (x := .ref TI) rfl ?_)
  refine wpAny_bind (wpAny_seqItems hTI rfl ?_)
  show wpAny _ _ (Builtin.SmallTypes.ownedTupleIsFree (.ref z) >>= _) _ _ _
  refine wpAny_bind (wpAny_tupleHeld_zip hz hT fun h₁ hz₁ hs₁ => ?_)
  replace hs₁ : Heap.SameBut z hp h₁ := hs₁
  simp only [Bool.false_eq_true, if_false]
  refine wpAny_bind ?_
  rw [← Array.forIn_toList]
  simp only [List.forIn_cons, List.forIn_nil]
  refine wpAny_bind (wpAny_bind (wpAny_holding ?_))
  show wpAny _ _ (Builtin.SmallTypes.nextOf (.ref i1) >>= _) _ _ ⟨h₁, g, d, tk0, os⟩
  by_cases h1 : i = n1
  · subst h1
    refine wpAny_bind (D1.done _ _ _ (D1.over st1 hs₁ D.zf1) fun h₂ e hs₂ he => ?_)
    exact hE h₂ tk0 e (fun c o c1 c2 _ x => hs₂ _ _ c2 (hs₁.extBut _ _ c1 x)) he
  · refine wpAny_bind (D1.item i _ _ _ (by omega) (D1.over st1 hs₁ D.zf1) fun x1 p1 tk1 hx1 sn1 hp1 => wpAny_pure ?_)
    replace hp1 : Heap.SameBut i1 h₁ p1 := hp1
    have h2 : i = n2 := by omega
    subst h2
    refine wpAny_pure ?_
    refine wpAny_bind (wpAny_bind (wpAny_holding ?_))
    show wpAny _ _ (Builtin.SmallTypes.nextOf (.ref i2) >>= _) _ _ ⟨p1, g, d, tk1, os⟩
    refine wpAny_bind (D2.done _ _ _ (D2.over (D2.over st2 hs₁ D.zf2) hp1 D.sep1_2) fun h₃ e hs₃ he => ?_)
    exact hE h₃ tk1 e (fun c o c1 c2 c3 x => hs₃ _ _ c3 (hp1.extBut _ _ c2 (hs₁.extBut _ _ c1 x))) he

/-- a zip that is being listed into S: nothing given yet, or the last tuple still out -/
def ZSt (z TI TO i1 i2 S : Addr) (St1 St2 : Nat → Heap → Prop) (i : Nat) (h : Heap) : Prop := IsTupOf2 h TI (.ref i1) (.ref i2) ∧ St1 i h ∧ St2 i h ∧
  ((IsZip h z TI TO .none ∧ ∃ a b, IsTupOf2 h TO a b) ∨ ∃ T f oT, IsZipHeld h z TI TO T f ∧ h.get? T = some oT ∧ T ≠ z ∧ T ≠ i1 ∧ T ≠ i2 ∧ T ≠ S)
theorem z_item {Q : Option Value → Shared → Prop} (D : ZipSep2 z TI TO i1 i2 fp1 fp2) (D1 : Draws prog w A.in1 i1 fp1 n1 P1 St1) (D2 : Draws prog w A.in1 i2 fp2 n2 P2 St2)
    (hst : ZSt z TI TO i1 i2 S St1 St2 i s.heap) (hS : S < s.heap.objs.size) (hlt1 : i < n1) (hlt2 : i < n2)
    (hQ : ∀ x1 x2 h' tk, P1 i x1 → P2 i x2 → ZSt z TI TO i1 i2 S St1 St2 (i + 1) h' → IsTupOf2 h' s.heap.objs.size x1 x2 → h'.objs.size = s.heap.objs.size + 1 →
      (∀ c o, c ∉ [z, TO, i1, i2] → s.heap.get? c = some o → h'.get? c = some o) → Q (some (.ref s.heap.objs.size)) { s with heap := h', toks := tk }) :
    wpAny (model prog w) A (pyNext (.ref z)) Q E s := by
  obtain ⟨hTI, st1, st2, hz⟩ := hst
  have hn : ∀ {c : Addr} {o : Obj}, s.heap.get? c = some o → s.heap.objs.size ≠ c := fun e => Nat.ne_of_gt (Heap.lt_size e)
  obtain ⟨o1, e1⟩ := D1.live _ _ st1
  obtain ⟨o2, e2⟩ := D2.live _ _ st2
  have hTy : s.TypeIs (.ref z) "zip" := by
    rcases hz with ⟨hz, _⟩ | ⟨T, f, oT, hz, _⟩ <;> exact ⟨_, hz, rfl⟩
  unfold pyNext
  rcases hz with ⟨hz, a, b, hTO⟩ | ⟨T, f, oT, hz, hT, r1, r2, r3, r4⟩
  · exact wpAny_bind (wpAny_attempt (wpAny_callSpecial?_slot (name := Str.ofString "__next__") hTy F.slot_zip_next (wpAny_call_entry F.slot_zip_next hTy F.entry_zip_next
      (zipD2_next_item D D1 D2 hz hTI hTO st1 st2 hlt1 hlt2 fun x1 x2 h' tk p1 p2 a1 a2 a3 a4 a5 a6 hk => wpAny_pure (hQ x1 x2 h' tk p1 p2
        ⟨hk _ _ D.TIz D.TITO D.TIi1 D.TIi2 hTI, a3, a4, .inr ⟨s.heap.objs.size, false, _, a1, a5, hn hz, hn e1, hn e2, Nat.ne_of_gt hS⟩⟩ a5 a6
        fun c o hc e => hk c o (fun x => hc (by simp [x])) (fun x => hc (by simp [x])) (fun x => hc (by simp [x])) (fun x => hc (by simp [x])) e)) (F.args_zip_next_1 _))))
  · exact wpAny_bind (wpAny_attempt (wpAny_callSpecial?_slot (name := Str.ofString "__next__") hTy F.slot_zip_next (wpAny_call_entry F.slot_zip_next hTy F.entry_zip_next
      (zip_held D D1 D2 hz hT hTI st1 st2 hlt1 hlt2 fun x1 x2 h' tk p1 p2 a1 a3 a4 a5 a6 hk => wpAny_pure (hQ x1 x2 h' tk p1 p2
        ⟨hk _ _ D.TIz D.TIi1 D.TIi2 hTI, a3, a4, .inr ⟨T, true, oT, a1, hk _ _ r1 r2 r3 hT, r1, r2, r3, r4⟩⟩ a5 a6
        fun c o hc e => hk c o (fun x => hc (by simp [x])) (fun x => hc (by simp [x])) (fun x => hc (by simp [x])) e)) (F.args_zip_next_1 _))))
theorem z_done {Q : Option Value → Shared → Prop} (D : ZipSep2 z TI TO i1 i2 fp1 fp2) (D1 : Draws prog w A.in1 i1 fp1 n1 P1 St1) (D2 : Draws prog w A.in1 i2 fp2 n2 P2 St2)
    (hst : ZSt z TI TO i1 i2 S St1 St2 i s.heap) (hle1 : i ≤ n1) (hle2 : i ≤ n2) (hend : i = n1 ∨ i = n2)
    (hQ : ∀ h' tk, (∀ c o, c ∉ [z, TO, i1, i2] → s.heap.get? c = some o → h'.get? c = some o) → Q none { s with heap := h', toks := tk }) :
    wpAny (model prog w) A (pyNext (.ref z)) Q E s := by
  obtain ⟨hTI, st1, st2, hz⟩ := hst
  have hTy : s.TypeIs (.ref z) "zip" := by
    rcases hz with ⟨hz, _⟩ | ⟨T, f, oT, hz, _⟩ <;> exact ⟨_, hz, rfl⟩
  unfold pyNext
  rcases hz with ⟨hz, a, b, hTO⟩ | ⟨T, f, oT, hz, hT, r1, r2, r3, r4⟩
  · refine wpAny_bind (wpAny_attempt (wpAny_callSpecial?_slot (name := Str.ofString "__next__") hTy F.slot_zip_next (wpAny_call_entry F.slot_zip_next hTy F.entry_zip_next
      (zipD2_next_end D D1 D2 hz hTI hTO st1 st2 hle1 hle2 hend fun h' tk e hk he => ?_) (F.args_zip_next_1 _))))
    obtain ⟨o, ho, hc⟩ := he
    refine wpAny_bind (wpAny_isInstance (T := "StopIteration") (b := true) ⟨o, ho, hc⟩ isSubtype_stop ?_)
    exact wpAny_pure (hQ h' tk fun c o hc e => hk c o (fun x => hc (by simp [x])) (fun x => hc (by simp [x])) (fun x => hc (by simp [x])) (fun x => hc (by simp [x])) e)
  · refine wpAny_bind (wpAny_attempt (wpAny_callSpecial?_slot (name := Str.ofString "__next__") hTy F.slot_zip_next (wpAny_call_entry F.slot_zip_next hTy F.entry_zip_next
      (zip_end_held D D1 D2 hz hT hTI st1 st2 hle1 hle2 hend fun h' tk e hk he => ?_) (F.args_zip_next_1 _))))
    obtain ⟨o, ho, hc⟩ := he
    refine wpAny_bind (wpAny_isInstance (T := "StopIteration") (b := true) ⟨o, ho, hc⟩ isSubtype_stop ?_)
    exact wpAny_pure (hQ h' tk fun c o hc e => hk c o (fun x => hc (by simp [x])) (fun x => hc (by simp [x])) (fun x => hc (by simp [x])) e)
theorem ZSt.keep (D : ZipSep2 z TI TO i1 i2 fp1 fp2) (D1 : Draws prog w A i1 fp1 n1 P1 St1) (D2 : Draws prog w A i2 fp2 n2 P2 St2) (hz : z ≠ S) (hTI : TI ≠ S) (hTO : TO ≠ S) (h1 : S ∉ fp1) (h2 : S ∉ fp2) {h h' : Heap} (x : ZSt z TI TO i1 i2 S St1 St2 i h)
    (k : ∀ b o, b ≠ S → h.get? b = some o → h'.get? b = some o) : ZSt z TI TO i1 i2 S St1 St2 i h' := by
  obtain ⟨a, st1, st2, q⟩ := x
  refine ⟨k _ _ hTI a, D1.frame _ _ _ st1 fun b hb o e => k b o (fun q => h1 (q ▸ hb)) e, D2.frame _ _ _ st2 fun b hb o e => k b o (fun q => h2 (q ▸ hb)) e, ?_⟩
  rcases q with ⟨q, u, v, t⟩ | ⟨T, f, oT, q, hT, r1, r2, r3, r4⟩
  · exact .inl ⟨k _ _ hz q, u, v, k _ _ hTO t⟩
  · exact .inr ⟨T, f, oT, k _ _ hz q, k _ _ r4 hT, r1, r2, r3, r4⟩
/-- the tuples that were made -/
structure Prs (P1 P2 : Nat → Value → Prop) (lo : Addr) (h : Heap) (as : List Addr) : Prop where
  rise : as.Pairwise (· < ·)
  above : ∀ a ∈ as, lo ≤ a
  pairs : ∀ (j : Nat) (a : Addr), as[j]? = some a → ∃ x1 x2, P1 j x1 ∧ P2 j x2 ∧ IsTupOf2 h a x1 x2
theorem Prs.there {lo : Addr} {h : Heap} {as : List Addr} (g : Prs P1 P2 lo h as) {a : Addr} (ha : a ∈ as) : a < h.objs.size := by
  obtain ⟨j, hj⟩ := List.mem_iff_getElem?.mp ha
  obtain ⟨_, _, _, _, e⟩ := g.pairs j a hj
  exact Heap.lt_size e
theorem z_loop {R : Result → Shared → Prop} (D : ZipSep2 z TI TO i1 i2 fp1 fp2) (D1 : Draws prog w A.in1.in1 i1 fp1 n1 P1 St1) (D2 : Draws prog w A.in1.in1 i2 fp2 n2 P2 St2) (hz : z ≠ S) (hTI : TI ≠ S) (hTO : TO ≠ S) (h1 : S ∉ fp1) (h2 : S ∉ fp2)
    (hi1 : i1 ≠ S) (hi2 : i2 ≠ S) {lo : Addr} (hlo : ∀ b ∈ [z, TO, i1, i2, S], b < lo) (n : Nat) (hn1 : n ≤ n1) (hn2 : n ≤ n2) (hend : n = n1 ∨ n = n2) (hn : n ≤ sizeLine) (res : Value) {h₁ : Heap}
    (hR : ∀ h' tk acc c as, (∀ b o, b ∉ [z, TO, i1, i2, S] → h₁.get? b = some o → h'.get? b = some o) → h'.get? S = some { cls := .type "list", dict := none, data := .seq acc c, slots := #[] } → as.length = n → Prs P1 P2 lo h' as →
      acc.toList = as.map Value.ref → R (.ok (.ret res)) { s with heap := h', toks := tk }) :
    ∀ (k i : Nat) (h : Heap) (tk c : Nat) (acc : Array Value) (as : List Addr), n - i = k → i ≤ n → ZSt z TI TO i1 i2 S St1 St2 i h → (∀ b o, b ∉ [z, TO, i1, i2, S] → h₁.get? b = some o → h.get? b = some o) →
      h.get? S = some { cls := .type "list", dict := none, data := .seq acc c, slots := #[] } → acc.toList = as.map Value.ref → as.length = i → Prs P1 P2 lo h as → lo ≤ h.objs.size →
      codeAny (model prog w) A (.builtin "list.extend.loop" ⟨[.ref S, .ref z, res], []⟩) R { s with heap := h, toks := tk } := by
  have hSw : S ∉ [z, TO, i1, i2] := fun m => by
    simp only [List.mem_cons, List.not_mem_nil, or_false] at m
    rcases m with m | m | m | m
    · exact hz m.symm
    · exact hTO m.symm
    · exact hi1 m.symm
    · exact hi2 m.symm
  have big : ∀ {a : Addr}, lo ≤ a → a ∉ [z, TO, i1, i2] := fun h m => Nat.not_lt.mpr h (hlo _ (by simp only [List.mem_cons, List.not_mem_nil, or_false] at m ⊢; rcases m with m | m | m | m <;> simp [m]))
  have wide : ∀ {b : Addr}, b ∉ [z, TO, i1, i2, S] → b ∉ [z, TO, i1, i2] := fun h m => h (by simp only [List.mem_cons, List.not_mem_nil, or_false] at m ⊢; rcases m with m | m | m | m <;> simp [m])
  intro k
  induction k with
  | zero =>
    intro i h tk c acc as hk hi hst hkeep hS hacc hal hG hls
    have hin : i = n := by omega
    subst hin
    refine codeAny_builtin PySem.F.entry_extend_loop ?_
    rw [Around.under_plainId PySem.F.plain_extend_loop _]
    show wpAny _ A.in1 (pyNext (.ref z) >>= _) _ _ _
    refine wpAny_bind (z_done (s := { s with heap := h, toks := tk }) (A := A.in1) D D1 D2 hst hn1 hn2 hend fun h' tk' he => ?_)
    refine wpAny_pure (hR h' tk' acc c as (fun b o hb e => he b o (wide hb) (hkeep b o hb e)) (he S _ hSw hS) hal ⟨hG.rise, hG.above, fun j a hj => ?_⟩ hacc)
    obtain ⟨x1, x2, p1, p2, e3⟩ := hG.pairs j a hj
    exact ⟨x1, x2, p1, p2, he a _ (big (hG.above a (List.mem_of_getElem? hj))) e3⟩
  | succ k ih =>
    intro i h tk c acc as hk hi hst hkeep hS hacc hal hG hls
    have hlt : i < n := by omega
    have hsz : acc.size = i := by rw [← Array.length_toList, hacc, List.length_map, hal]
    refine codeAny_builtin PySem.F.entry_extend_loop ?_
    rw [Around.under_plainId PySem.F.plain_extend_loop _]
    show wpAny _ A.in1 (pyNext (.ref z) >>= _) _ _ _
    have hSl : S < h.objs.size := Heap.lt_size hS
    refine wpAny_bind (z_item (s := { s with heap := h, toks := tk }) (A := A.in1) D D1 D2 hst hSl (by omega) (by omega) fun x1 x2 h' tk' p1 p2 hst' ht hzz hkp => ?_)
    dsimp only at ht hzz hkp ⊢
    have hS' := hkp S _ hSw hS
    have up : ∀ b o, b ≠ S → h'.get? b = some o → (h'.update S (Obj.mapSeq (·.push (Value.ref h.objs.size)))).get? b = some o := fun b o hb e => (Heap.get?_update_other _ _ (Ne.symm hb)).trans e
    have nS : ∀ {a : Addr}, lo ≤ a → a ≠ S := fun h e => Nat.not_lt.mpr h (hlo _ (by simp [e]))
    show wpAny _ A.in1 (updateSeq S (·.push (Value.ref h.objs.size)) >>= _) _ _ _
    refine wpAny_bind ?_
    refine wpAny_updateSeq hS' rfl (wpAny_pure ⟨plainId_quiet PySem.F.plain_extend_loop _, ih (i + 1) _ tk' _ (acc.push (Value.ref h.objs.size)) (as ++ [h.objs.size]) (by omega) hlt (hst'.keep D D1 D2 hz hTI hTO h1 h2 up)
      (fun b o hb e => up b o (fun q => hb (by simp [q])) (hkp b o (wide hb) (hkeep b o hb e))) (Heap.get?_update_self _ hS' rfl) (by rw [Array.toList_push, hacc, List.map_append]; rfl) (by rw [List.length_append, hal]; rfl) ⟨?_, ?_, ?_⟩ ?_⟩) (by rw [hsz]; omega) (by show (acc.push (Value.ref h.objs.size)).size ≤ sizeLine + 1; rw [Array.size_push, hsz]; omega)
    · refine List.pairwise_append.mpr ⟨hG.rise, List.pairwise_singleton _ _, fun a ha b hb => ?_⟩
      rw [List.mem_singleton.mp hb]
      exact hG.there ha
    · intro a ha
      rcases List.mem_append.mp ha with ha | ha
      · exact hG.above a ha
      · rw [List.mem_singleton.mp ha]; exact hls
    · intro j b hj
      rcases Nat.lt_trichotomy j as.length with h3 | h3 | h3
      · rw [List.getElem?_append_left h3] at hj
        obtain ⟨y1, y2, q1, q2, e3⟩ := hG.pairs j b hj
        have hb := hG.above b (List.mem_of_getElem? hj)
        exact ⟨y1, y2, q1, q2, up b _ (nS hb) (hkp b _ (big hb) e3)⟩
      · subst h3
        have hb : h.objs.size = b := by simpa using hj
        subst hb
        subst hal
        exact ⟨x1, x2, p1, p2, up _ _ (Nat.ne_of_gt hSl) ht⟩
      · have hnone : (as ++ [h.objs.size])[j]? = none := List.getElem?_eq_none (by rw [List.length_append, List.length_singleton]; omega)
        rw [hnone] at hj; cases hj
    · have e : (h'.update S (Obj.mapSeq (·.push (Value.ref h.objs.size)))).get? h.objs.size = _ := up _ _ (Nat.ne_of_gt hSl) ht
      exact Nat.le_of_lt (Nat.lt_of_le_of_lt hls (Heap.lt_size e))
end
theorem zip_no_len : typeLookup (.type "zip") "__len__" = pure none := am_miss_of_fast (by decide +kernel)
theorem zip_no_hint : typeLookup (.type "zip") "__length_hint__" = pure none := am_miss_of_fast (by decide +kernel)
section
variable {prog : Program} {w : World} {A : Around} {E : Value → Shared → Prop} {s : Shared} {z TI TO i1 i2 : Addr} {fp1 fp2 : List Addr} {n1 n2 : Nat} {P1 P2 : Nat → Value → Prop} {St1 St2 : Nat → Heap → Prop}
/-- list(z) of a zip that has given nothing yet -/
theorem call_list_zip {Q : Value → Shared → Prop} (D : ZipSep2 z TI TO i1 i2 fp1 fp2) (D1 : Draws prog w A.in1.in1.in1 i1 fp1 n1 P1 St1) (D2 : Draws prog w A.in1.in1.in1 i2 fp2 n2 P2 St2) (hz : IsZip s.heap z TI TO .none) (hTI : IsTupOf2 s.heap TI (.ref i1) (.ref i2))
    (hTO : ∃ a b, IsTupOf2 s.heap TO a b) (st1 : St1 0 s.heap) (st2 : St2 0 s.heap) (hf1 : ∀ b ∈ fp1, b < s.heap.objs.size) (hf2 : ∀ b ∈ fp2, b < s.heap.objs.size) (n : Nat) (hn1 : n ≤ n1) (hn2 : n ≤ n2) (hend : n = n1 ∨ n = n2) (hn : n ≤ sizeLine)
    (hQ : ∀ h' tk acc c as, (∀ b o, b ∉ [z, TO, i1, i2] → s.heap.get? b = some o → h'.get? b = some o) → h'.get? s.heap.objs.size = some { cls := .type "list", dict := none, data := .seq acc c, slots := #[] } → as.length = n →
      Prs P1 P2 (s.heap.objs.size + 1) h' as → acc.toList = as.map Value.ref → Q (.ref s.heap.objs.size) { s with heap := h', toks := tk }) :
    wpAny (model prog w) A (call (.type "list") [.ref z]) Q E s := by
  have lz : z < s.heap.objs.size := Heap.lt_size hz
  have lTI : TI < s.heap.objs.size := Heap.lt_size hTI
  have lTO : TO < s.heap.objs.size := let ⟨_, _, e⟩ := hTO; Heap.lt_size e
  have li1 : i1 < s.heap.objs.size := hf1 _ D.mem1
  have li2 : i2 < s.heap.objs.size := hf2 _ D.mem2
  refine callType_codes (Q₁ := fun obj s₁ => obj = .ref s.heap.objs.size ∧ s₁ = { s with heap := s.heap.push { cls := .type "list", data := .seq #[] } }) F.called_list (F.typeCall_list_1 _) F.entry_list_init
    (code_list_new _ ⟨rfl, rfl⟩) fun obj s₁ h₁ => ?_
  obtain ⟨rfl, rfl⟩ := h₁
  have hS : (s.heap.push { cls := .type "list", data := .seq #[] }).get? s.heap.objs.size = some { cls := .type "list", data := .seq #[] } := Heap.get?_push_size _ rfl
  refine ⟨⟨_, hS, rfl⟩, F.args_list_init_2 _ _, ?_⟩
  have K0 : ∀ b o, s.heap.get? b = some o → (s.heap.push { cls := .type "list", data := .seq #[] }).get? b = some o := fun b o e => Heap.get?_push_of_some _ e
  show wpAny _ A.in1.in1 (do let old ← Builtin.List.listItems (.ref s.heap.objs.size); Builtin.List.listUpdate (.ref s.heap.objs.size) (fun _ => #[]); letGo old.toList.reverse; Builtin.List.listExtendWith (.ref s.heap.objs.size) (.ref z) .none) _ _ _
  refine wpAny_bind ?_
  unfold Builtin.List.listItems
  refine wpAny_bind (wpAny_seqItems hS rfl (wpAny_pure ?_))
  show wpAny _ A.in1.in1 (updateSeq s.heap.objs.size (fun _ => #[]) >>= fun _ => letGo (#[] : Array Value).toList.reverse >>= fun _ => Builtin.List.listExtendWith (.ref s.heap.objs.size) (.ref z) .none) _ _ _
  refine wpAny_bind (wpAny_updateSeq hS rfl ?_)
  have hS₂ := Heap.get?_update_self (Obj.mapSeq (fun _ => (#[] : Array Value))) hS rfl
  have K1 : ∀ b o, b ≠ s.heap.objs.size → s.heap.get? b = some o → ((s.heap.push { cls := .type "list", data := .seq #[] }).update s.heap.objs.size (Obj.mapSeq (fun _ => (#[] : Array Value)))).get? b = some o :=
    fun b o hb e => (Heap.get?_update_other _ _ (Ne.symm hb)).trans (K0 b o e)
  generalize hH : (s.heap.push { cls := .type "list", data := .seq #[] }).update s.heap.objs.size (Obj.mapSeq (fun _ => (#[] : Array Value))) = H at hS₂ K1
  refine wpAny_bind (wpAny_letGo ?_)
  unfold Builtin.List.listExtendWith
  have hz2 : IsZip H z TI TO .none := K1 _ _ (Nat.ne_of_lt lz) hz
  refine wpAny_bind (wpAny_typeOf (T := "zip") ⟨_, hz2, rfl⟩ ?_)
  have h1 : Builtin.List.listSameRef (.ref s.heap.objs.size) (.ref z) = false := by simp [Builtin.List.listSameRef, Nat.ne_of_gt lz]
  have h2 : (Value.type "zip" == Value.type "list") = false := by decide
  have h3 : (Value.type "zip" == Value.type "tuple") = false := by decide
  simp only [h1, h2, h3, Bool.or_false, Bool.false_eq_true, if_false]
  refine wpAny_bind (wpAny_pyIter_zip hz2 ?_)
  refine wpAny_bind (wpAny_holding ?_)
  unfold Builtin.List.listLengthHint
  refine wpAny_bind (wpAny_specialOf (T := "zip") ⟨_, hz2, rfl⟩ zip_no_len ?_)
  show wpAny _ A.in1.in1 (specialOf (Value.ref z) (Str.ofString "__length_hint__") >>= _) _ _ _
  refine wpAny_bind (wpAny_specialOf (T := "zip") ⟨_, hz2, rfl⟩ zip_no_hint ?_)
  refine wpAny_pure ?_
  show wpAny _ A.in1.in1 (rule "list.extend.makes-room" >>= fun _ => Builtin.List.listTouch (.ref s.heap.objs.size) >>= fun _ =>
    again (.builtin "list.extend.loop" ⟨[.ref s.heap.objs.size, .ref z, .none], []⟩)) _ _ _
  refine wpAny_bind (wpAny_rule ?_)
  refine wpAny_bind ?_
  show wpAny _ A.in1.in1 (updateSeq s.heap.objs.size (·.push .none) >>= fun _ => updateSeq s.heap.objs.size (·.pop)) _ _ _
  refine wpAny_bind (wpAny_updateSeq hS₂ rfl ?_)
  have hS₃ := Heap.get?_update_self (Obj.mapSeq (·.push Value.none)) hS₂ rfl
  refine wpAny_updateSeq (hz := by seq_fits) hS₃ rfl ?_
  have hS₄ := Heap.get?_update_self (Obj.mapSeq (·.pop)) hS₃ rfl
  have K2 : ∀ b o, b ≠ s.heap.objs.size → s.heap.get? b = some o → ((H.update s.heap.objs.size (Obj.mapSeq (·.push Value.none))).update s.heap.objs.size (Obj.mapSeq (·.pop))).get? b = some o :=
    fun b o hb e => (Heap.get?_update_other _ _ (Ne.symm hb)).trans ((Heap.get?_update_other _ _ (Ne.symm hb)).trans (K1 b o hb e))
  generalize hH2 : (H.update s.heap.objs.size (Obj.mapSeq (·.push Value.none))).update s.heap.objs.size (Obj.mapSeq (·.pop)) = H2 at hS₄ K2
  have hf : ∀ b ∈ [z, TO, i1, i2, s.heap.objs.size], b < s.heap.objs.size + 1 := fun b hb => by
    simp only [List.mem_cons, List.not_mem_nil, or_false] at hb
    rcases hb with e | e | e | e | e <;> rw [e]
    · exact Nat.lt_succ_of_lt lz
    · exact Nat.lt_succ_of_lt lTO
    · exact Nat.lt_succ_of_lt li1
    · exact Nat.lt_succ_of_lt li2
    · exact Nat.lt_succ_self _
  have s1 : s.heap.objs.size ∉ fp1 := fun m => Nat.lt_irrefl _ (hf1 _ m)
  have s2 : s.heap.objs.size ∉ fp2 := fun m => Nat.lt_irrefl _ (hf2 _ m)
  refine wpAny_pure ⟨plainId_quiet F.plain_extend_loop _, z_loop (s := s) (A := A.in1) (S := s.heap.objs.size) (lo := s.heap.objs.size + 1) (h₁ := s.heap) D D1 D2 (Nat.ne_of_lt lz) (Nat.ne_of_lt lTI) (Nat.ne_of_lt lTO) s1 s2 (Nat.ne_of_lt li1) (Nat.ne_of_lt li2) hf n hn1 hn2 hend hn .none
    (fun h' tk acc c as hk hS' hl hG hacc => ?_) n 0 H2 _ _ #[] [] (by omega) (Nat.zero_le _) ?_ (fun b o hb e => K2 b o (fun q => hb (by simp [q])) e) hS₄ rfl rfl ⟨List.Pairwise.nil, (fun _ ha => nomatch ha), (fun j a hj => by simp at hj)⟩ (Nat.succ_le_of_lt (Heap.lt_size hS₄))⟩
  · exact ⟨rfl, hQ h' tk acc c as (fun b o hb e => hk b o (fun m => by
      simp only [List.mem_cons, List.not_mem_nil, or_false] at m hb
      have := Heap.lt_size e
      rcases m with m | m | m | m | m
      · exact hb (by simp [m])
      · exact hb (by simp [m])
      · exact hb (by simp [m])
      · exact hb (by simp [m])
      · exact Nat.ne_of_lt this m) e) hS' hl hG hacc⟩
  · obtain ⟨a, b, hTO⟩ := hTO
    exact ⟨K2 _ _ (Nat.ne_of_lt lTI) hTI, D1.frame _ _ _ st1 fun b hb o e => K2 b o (Nat.ne_of_lt (hf1 b hb)) e, D2.frame _ _ _ st2 fun b hb o e => K2 b o (Nat.ne_of_lt (hf2 b hb)) e, .inl ⟨K2 _ _ (Nat.ne_of_lt lz) hz, a, b, K2 _ _ (Nat.ne_of_lt lTO) hTO⟩⟩
end
end CL

/-! CL, part z: list(zip(a, b)): what of it the run says -/
namespace CL
open PySem PySem.Spec PyProof.Rows L2
theorem lay_inv {X : Cx} {pins : List (Addr × Obj)} {σ : L2.St} {H H' : Hp} {s : Shared} {h' : Heap} {t' : Nat} (I : Inv X pins σ H s) (k : ∀ b u, s.heap.get? b = some u → h'.get? b = some u) (old : ∀ b o, H b = some o → H' b = some o)
    (new : ∀ b o, H' b = some o → H b = some o ∨ (s.heap.objs.size ≤ b ∧ ObjOk X.prog X.w H' h' b o)) : Inv X pins σ H' { s with heap := h', toks := t' } := by
  refine I.un ⟨fun b o e _ _ _ => k b o e, fun b o e _ _ _ => ⟨o.slots, k b o e⟩, fun b o e hn _ => ?_, fun b o e _ => ⟨o, k b o e⟩, fun b xs e => old b _ e, fun b o u e => old b _ e, fun b ps e => ⟨#[], by simpa using old b _ e⟩⟩ fun b o e => ?_
  · cases q : H' b with
    | none => rfl
    | some u =>
      rcases new b u q with z | ⟨z, _⟩
      · rw [hn] at z; cases z
      · exact absurd (Heap.lt_size e) (Nat.not_lt.mpr z)
  · rcases new b o e with z | ⟨_, z⟩
    · exact (I.hok b o z).stay (fun c u _ q => k c u q) (fun c q => old c _ q) fun c xs q => old c _ q
    · exact z
/-- tuples of two, laid -/
def layT (H : Hp) : List Addr → List (V × V) → Hp
  | a :: as, p :: ps => upd (layT H as ps) a (.tup [p.1, p.2])
  | _, _ => H
theorem layT_not {H : Hp} {b : Addr} : ∀ {as : List Addr} {ps : List (V × V)}, b ∉ as → layT H as ps b = H b
  | [], _, _ => rfl
  | _ :: _, [], _ => rfl
  | a :: as, p :: ps, h => by
    unfold layT
    rw [upd_ne (fun e => h (by simp [e]))]
    exact layT_not fun m => h (by simp [m])
theorem layT_at {H : Hp} : ∀ {as : List Addr} {ps : List (V × V)} {j : Nat} {a : Addr} {p : V × V}, as.Pairwise (· < ·) → as[j]? = some a → ps[j]? = some p → layT H as ps a = some (.tup [p.1, p.2])
  | [], _, _, _, _, _, e, _ => by simp at e
  | _ :: _, [], _, _, _, _, _, e => by simp at e
  | a :: as, q :: ps, 0, _, _, h, e1, e2 => by
    simp at e1 e2
    subst e1 e2
    exact upd_same
  | a :: as, q :: ps, j + 1, b, p, h, e1, e2 => by
    rw [List.pairwise_cons] at h
    have e1 : as[j]? = some b := by simpa using e1
    have ne : b ≠ a := Nat.ne_of_gt (h.1 b (List.mem_of_getElem? e1))
    unfold layT
    rw [upd_ne ne]
    exact layT_at h.2 e1 (by simpa using e2)
theorem layT_some {H : Hp} {b : Addr} {o : HO} : ∀ {as : List Addr} {ps : List (V × V)}, layT H as ps b = some o → H b = some o ∨ ∃ (j : Nat) (p : V × V), as[j]? = some b ∧ ps[j]? = some p ∧ o = .tup [p.1, p.2]
  | [], _, e => .inl e
  | _ :: _, [], e => .inl e
  | a :: as, p :: ps, e => by
    unfold layT at e
    by_cases hb : b = a
    · subst hb
      rw [upd_same] at e
      exact .inr ⟨0, p, rfl, rfl, (Option.some.inj e).symm⟩
    · rw [upd_ne hb] at e
      rcases layT_some e with h | ⟨j, q, h1, h2, h3⟩
      · exact .inl h
      · exact .inr ⟨j + 1, q, by simpa using h1, by simpa using h2, h3⟩
section
variable {X : Cx} {kt : List (List Val)} {ca io : Nat → Addr} {st : Store} {H : Hp}
theorem Rl.ext {K : PySem.W.Frag} {H' : Hp} (R : Rl K kt ca io st H) (h : ∀ a o, H a = some o → H' a = some o) : Rl K kt ca io st H' := by
  have up : Up io st.n H io st.n H' := ⟨Nat.le_refl _, fun _ _ => rfl, ⟨fun a xs e => h a _ e, fun a o u e => h a _ e⟩⟩
  refine ⟨fun i hi => ?_, R.no, R.inj⟩
  obtain ⟨o, e, r⟩ := R.ob i hi
  refine ⟨o, e, r.up up fun hb => ?_⟩
  rw [hb] at r
  obtain ⟨x, ex, _⟩ := r.mutO
  rw [ex, h _ _ ex]
theorem zipL_rv {K : PySem.W.Frag} {n : Nat} {H' : Hp} : ∀ {xs ys : List Val} {us ws : List V} {as : List Addr}, RVs K kt io n H' xs us → RVs K kt io n H' ys ws → (∀ (j : Nat) (a : Addr) (p : V × V), as[j]? = some a → (us.zip ws)[j]? = some p → H' a = some (.tup [p.1, p.2])) →
    as.length = (us.zip ws).length → RVs K kt io n H' (zipL xs ys) (as.map V.ref)
  | _, _, _, _, as, .nil, _, _, hl => by
    have : as = [] := List.eq_nil_of_length_eq_zero (by simpa using hl)
    subst this; exact .nil
  | _, _, _, _, as, .cons _ _, .nil, _, hl => by
    have : as = [] := List.eq_nil_of_length_eq_zero (by simpa using hl)
    subst this; exact .nil
  | _, _, _, _, [], .cons h1 r1, .cons h2 r2, _, hl => by simp at hl
  | _, _, _, _, a :: as, .cons h1 r1, .cons h2 r2, ht, hl => by
    unfold zipL
    rw [List.map_cons]
    exact .cons (.tup (.inl (ht 0 a _ rfl rfl)) (.cons h1 (.cons h2 .nil))) (zipL_rv r1 r2 (fun j b p e1 e2 => ht (j + 1) b p (by simpa using e1) (by simpa using e2)) (by simpa using hl))
/-- what is walked: a list or a tuple -/
theorem src_of {pins : List (Addr × Obj)} {σ : L2.St} {s : Shared} {x : Val} {xs : List Val} {wx : V} {v : Value} (R : Rl X.K kt ca io st H) (rx : RV X.K kt io st.n H x wx) (ex : itemsOf x st = some xs) (I : Inv X pins σ H s) (rv : RelV wx v) :
    ∃ (a : Addr) (ws : List V) (its : List Value) (o : Obj) (Hs : Heap → Prop) (Si : Addr → Nat → Heap → Prop), v = .ref a ∧ a < s.heap.objs.size ∧ RVs X.K kt io st.n H xs ws ∧ Vals ws its ∧ ws.length ≤ sizeLine ∧ Begins v o Hs ∧ Hs s.heap ∧
      ∀ it, a ≠ it → (∀ A : Around, A.handled = none → Draws X.prog X.w A it [it, a] its.toArray.size (fun i u => its.toArray[i]? = some u) (Si it)) ∧
        ∀ h', h'.get? it = some o → (∀ b u, s.heap.get? b = some u → h'.get? b = some u) → Si it 0 h' := by
  cases x with
  | tup ys =>
    cases ex
    obtain ⟨a, ws, rfl, sq, r⟩ := rx.itup
    obtain rfl : v = .ref a := rv
    obtain ⟨its, rv', ht, hl⟩ := I.tuple sq.sqT
    have ht' : s.heap.IsTuple a its.toArray := by
      obtain ⟨o, e, q⟩ := ht
      exact ⟨o, e, q.1, q.2⟩
    refine ⟨a, ws, its, _, _, fun it i h => h.IsTupleIter it a i ∧ h.IsTuple a its.toArray, rfl, let ⟨_, e, _⟩ := ht; Heap.lt_size e, r, rv', hl, begins_tuple a its.toArray, ht', fun it hne => ⟨fun A hh => Draws.tuple hh it a hne its.toArray, fun h' e k => ⟨⟨_, e, rfl, rfl⟩, ht'.at fun o q => k _ o q⟩⟩⟩
  | ref i =>
    have ex : st.lst i = some xs := ex
    have em : st.m i = some (.lst xs) := by
      unfold Store.lst at ex
      split at ex
      · cases ex; assumption
      · cases ex
    obtain ⟨ws, sl, r, _⟩ := R.list em
    obtain ⟨rfl, _⟩ := rx.iref
    obtain rfl : v = .ref (io i) := rv
    obtain ⟨its, rv', ht, hl⟩ := I.list sl
    have ht' : s.heap.IsList (io i) its.toArray := by
      obtain ⟨o, n, e, c, d, q⟩ := ht
      exact ⟨o, e, c, n, q⟩
    refine ⟨io i, ws, its, _, _, fun it k h => h.IsListIter it (io i) k ∧ h.IsList (io i) its.toArray, rfl, let ⟨_, _, e, _⟩ := ht; Heap.lt_size e, r, rv', hl, begins_list (io i) its.toArray, ht', fun it hne => ⟨fun A hh => Draws.list hh it (io i) hne its.toArray, fun h' e k => ⟨⟨_, e, rfl, rfl⟩, ht'.at fun o q => k _ o q⟩⟩⟩
  | _ => cases ex
/-- list(zip(x, y)) -/
def zSem (X : Cx) : V → V → Hp → VK → Prop := fun x y H Q => ∀ (pins : List (Addr × Obj)) (s : Shared) (σ : L2.St) (v u : Value), Inv X pins σ H s → RelV x v → RelV y u →
  wpAny (model X.prog X.w) X.A (call (.type "zip") [v, u]) (fun z s1 => wpAny (model X.prog X.w) X.A (call (.type "list") [z]) (EP X pins σ Q) X.xe s1) X.xe s
theorem vals_zip {us ws : List V} {is js : List Value} (h1 : Vals us is) (h2 : Vals ws js) {j : Nat} {x1 x2 : Value} {p : V × V} (e1 : is.toArray[j]? = some x1) (e2 : js.toArray[j]? = some x2) (e : (us.zip ws)[j]? = some p) : RelV p.1 x1 ∧ RelV p.2 x2 := by
  obtain ⟨q1, q2⟩ := p
  rw [List.getElem?_zip_eq_some] at e
  obtain ⟨a1, a2, a3⟩ := h1.get e.1
  obtain ⟨b1, b2, b3⟩ := h2.get e.2
  have z1 : is[j]? = some x1 := by simpa using e1
  have z2 : js[j]? = some x2 := by simpa using e2
  rw [z1] at a2; rw [z2] at b2
  cases a2; cases b2
  exact ⟨a3, b3⟩
theorem zip_ok (hc : X.calm = true) {x y : Val} {xs ys : List Val} {wx wy : V} {Q : VK} (R : Rl X.K kt ca io st H) (rx : RV X.K kt io st.n H x wx) (ry : RV X.K kt io st.n H y wy) (ex : itemsOf x st = some xs) (ey : itemsOf y st = some ys)
    (p : Post X.K kt ca io st H (.ref st.n) (st.new (.lst (zipL xs ys))) Q) : zSem X wx wy H Q := by
  intro pins s σ v u I rv ru
  obtain ⟨a, us, is, o1, Hs1, Si1, rfl, la, r1, v1, l1, B1, h1, k1⟩ := src_of R rx ex I rv
  obtain ⟨b, ws, js, o2, Hs2, Si2, rfl, lb, r2, v2, l2, B2, h2, k2⟩ := src_of R ry ey I ru
  refine zip_begins2 B1 B2 h1 h2 fun h' hz hTI hTO g1 g2 hsz hk => ?_
  have hd : X.A.handled = none := I.ok.hd hc
  have la : @LT.lt Nat _ a s.heap.objs.size := la
  have lb : @LT.lt Nat _ b s.heap.objs.size := lb
  have na : a ≠ s.heap.objs.size := Nat.ne_of_lt la
  have nb : b ≠ s.heap.objs.size + 1 := Nat.ne_of_lt (Nat.lt_succ_of_lt lb)
  have D : ZipSep2 (s.heap.objs.size + 4) (s.heap.objs.size + 2) (s.heap.objs.size + 3) s.heap.objs.size (s.heap.objs.size + 1) [s.heap.objs.size, a] [s.heap.objs.size + 1, b] := by
    have ne2 : ∀ {c d e : Nat}, c ≠ d → c ≠ e → c ∉ [d, e] := fun h1 h2 m => by
      simp only [List.mem_cons, List.not_mem_nil, or_false] at m
      rcases m with m | m
      · exact h1 m
      · exact h2 m
    exact ⟨(by show @Ne Nat _ _; omega), (by show @Ne Nat _ _; omega), (by show @Ne Nat _ _; omega), (by show @Ne Nat _ _; omega), by simp, ne2 (by omega) (by show @Ne Nat _ _; omega), ne2 (by omega) (by show @Ne Nat _ _; omega), (by show @Ne Nat _ _; omega), by simp,
      ne2 (by omega) (by show @Ne Nat _ _; omega), ne2 (by omega) (by show @Ne Nat _ _; omega), ne2 (by omega) (by show @Ne Nat _ _; omega), ne2 (by omega) (by show @Ne Nat _ _; omega)⟩
  refine call_list_zip (s := { s with heap := h' }) (n := (us.zip ws).length) D ((k1 _ na).1 _ hd) ((k2 _ nb).1 _ hd) hz hTI ⟨_, _, hTO⟩ ((k1 _ na).2 h' g1 hk) ((k2 _ nb).2 h' g2 hk) ?_ ?_ ?_ ?_ ?_ ?_ fun g tk acc c as hkg hl hal hP hacc => ?_
  · intro c hc; simp only [List.mem_cons, List.not_mem_nil, or_false] at hc; show @LT.lt Nat _ c h'.objs.size; rw [hsz]; rcases hc with e | e <;> rw [e] <;> omega
  · intro c hc; simp only [List.mem_cons, List.not_mem_nil, or_false] at hc; show @LT.lt Nat _ c h'.objs.size; rw [hsz]; rcases hc with e | e <;> rw [e] <;> omega
  · have := v1.length; rw [List.length_zip, List.size_toArray]; omega
  · have := v2.length; rw [List.length_zip, List.size_toArray]; omega
  · have := v1.length; have := v2.length; rw [List.length_zip, List.size_toArray, List.size_toArray]; omega
  · rw [List.length_zip]; omega
  · dsimp only at hkg hl hP ⊢
    have keep : ∀ c o, s.heap.get? c = some o → g.get? c = some o := fun c o e => hkg c o (by
      have q : @LT.lt Nat _ c s.heap.objs.size := Heap.lt_size e
      simp only [List.mem_cons, List.not_mem_nil, or_false]
      intro m
      rcases m with m | m | m | m <;> (have m : @Eq Nat _ _ := m; omega)) (hk c o e)
    have new : ∀ c, c ∈ as → s.heap.objs.size + 5 < c := fun c hc => by
      have q : @LE.le Nat _ (h'.objs.size + 1) c := hP.above c hc
      show @LT.lt Nat _ _ _
      omega
    have fresh : ∀ c, c ∈ as → H c = none := fun c hc => I.hok.fresh (by have q : @LT.lt Nat _ _ c := new c hc; show @LE.le Nat _ _ _; omega)
    have nl : h'.objs.size ∉ as := fun m => by have q : @LT.lt Nat _ _ _ := new _ m; omega
    have fl : layT H as (us.zip ws) h'.objs.size = none := by rw [layT_not nl]; exact I.hok.fresh (by omega)
    have old : ∀ c o, H c = some o → layT H as (us.zip ws) c = some o := fun c o e => by
      rw [layT_not (fun m => by rw [fresh c m] at e; cases e)]; exact e
    have up : Up io st.n H io st.n (layT H as (us.zip ws)) := ⟨Nat.le_refl _, fun _ _ => rfl, ⟨fun c zs e => old c _ e, fun c o q e => old c _ e⟩⟩
    refine ⟨.ref h'.objs.size, upd (layT H as (us.zip ws)) h'.objs.size (.lst (as.map V.ref)), ?_, rfl, ?_⟩
    · refine lay_inv I keep (fun c o e => ?_) fun c o e => ?_
      · rw [upd_ne (ne_of_none (old c o e) fl)]; exact old c o e
      · by_cases hcl : c = h'.objs.size
        · subst hcl
          rw [upd_same] at e; cases e
          refine .inr ⟨by omega, ?_⟩
          refine ⟨by rw [List.length_map, hal, List.length_zip]; omega, acc.toList, c, ?_, ?_⟩
          · rw [hacc]
            clear hP hacc hal nl fl old up new fresh
            induction as with
            | nil => exact .nil
            | cons q t ih => exact .cons rfl ih
          · rw [Array.toArray_toList]; exact hl
        · rw [upd_ne hcl] at e
          rcases layT_some e with e | ⟨j, q, e1, e2, rfl⟩
          · exact .inl e
          · have hm := List.mem_of_getElem? e1
            refine .inr ⟨by have q : @LT.lt Nat _ _ c := new c hm; show @LE.le Nat _ _ _; omega, ?_⟩
            obtain ⟨x1, x2, p1, p2, ht⟩ := hP.pairs j c e1
            obtain ⟨a1, a2⟩ := vals_zip v1 v2 p1 p2 e2
            exact ⟨by rw [sizeLine_eq]; show 2 ≤ _; decide, [x1, x2], .cons a1 (.cons a2 .nil), _, ht, rfl, _, rfl⟩
    · have p2 : Post X.K kt ca io st (layT H as (us.zip ws)) (.ref st.n) (st.new (.lst (zipL xs ys))) Q := fun io' H' w u' R' r' => p io' H' w (up.trans u') R' r'
      exact p2.list (R.ext old)
        (zipL_rv (r1.up up) (r2.up up) (fun j c q e1 e2 => layT_at hP.rise e1 e2) hal) _ fl
theorem pe_lzip {a b : Expr} {ta tb : TE} {p p2 pos pos2 : Pos} (hg : Gl X "list") (hm : X.mg "list" = none) (hg2 : Gl X "zip") (hm2 : X.mg "zip" = none) (ha : PE X a ta) (hb : PE X b tb)
    (n0 : starEach [.Call (.Name "zip" p2) [a, b] [] pos2] X.env = (false, eval (.Call (.Name "zip" p2) [a, b] [] pos2) X.env) :: starEach [] X.env)
    (na : starEach [a, b] X.env = (false, eval a X.env) :: starEach [b] X.env) (nb : starEach [b] X.env = (false, eval b X.env) :: starEach [] X.env) (hp : (backTo pos2 (starEach [b] X.env)).any (·.1) = false) :
    PE X (.Call (.Name "list" p) [.Call (.Name "zip" p2) [a, b] [] pos2] [] pos) (fun σ H Q => ta σ H fun x H1 => tb σ H1 fun y H2 => zSem X x y H2 Q) := by
  refine ⟨fun pins s σ H Q I h => ?_⟩
  refine PyProof.Rows.Call_ (ld_blt I hg hm boot_list (PyProof.Rows.callWith_type1 (args_cons (thn (Q := fun z s1 => wpAny (model X.prog X.w) X.A (call (.type "list") [z]) (EP X pins σ Q) X.xe s1) ?_ fun x s1 hx => args_nil hx) n0) n0))
  refine PyProof.Rows.Call_ (ld_blt I hg2 hm2 boot_zip (PyProof.Rows.callWith_type1 (args_cons (thn (ha.run pins s σ H _ I h) fun v s1 ⟨x, H1, I1, rx, q1⟩ => one_arg hb I1 q1 (fun u s2 y H2 I2 r2 q => ?_) nb) na) na hp))
  exact q pins s2 σ v u I2 rx r2
end
end CL

/-! CL, part x: for a, b in zip(x, y) of a list and a tuple in any mix -/
namespace CL
open PySem PySem.Spec PyProof.Rows L2
/-- a list (true) or a tuple -/
def SqK (k : Bool) (K : PySem.W.Frag) (H : Hp) (a : Addr) (xs : List V) : Prop := match k with
  | true => SqL K H a xs
  | false => SqT K H a xs
def ItK (k : Bool) (h : Heap) (it a : Addr) (i : Nat) : Prop := match k with
  | true => h.IsListIter it a i
  | false => h.IsTupleIter it a i
def ArK (k : Bool) (h : Heap) (a : Addr) (xs : Array Value) : Prop := match k with
  | true => h.IsList a xs
  | false => h.IsTuple a xs
theorem ItK.at {k : Bool} {h h' : Heap} {it a : Addr} {i : Nat} (x : ItK k h it a i) (g : ∀ o, h.get? it = some o → h'.get? it = some o) : ItK k h' it a i := by
  cases k
  · exact Heap.IsTupleIter.at x g
  · exact Heap.IsListIter.at x g
theorem ItK.obj {k : Bool} {h : Heap} {it a : Addr} {i : Nat} (x : ItK k h it a i) : ∃ o, h.get? it = some o ∧ ∀ v, o.data ≠ .cell v := by
  cases k <;> obtain ⟨o1, e1, _, d1⟩ := x <;> exact ⟨o1, e1, fun v q => by rw [d1] at q; cases q⟩
theorem inv_seqK {X : Cx} {pins : List (Addr × Obj)} {σ : L2.St} {H : Hp} {s : Shared} {k : Bool} {a : Addr} {xs : List V} (I : Inv X pins σ H s) (h : SqK k X.K H a xs) : ∃ its : List Value, Vals xs its ∧ ArK k s.heap a its.toArray ∧ a < s.heap.objs.size := by
  cases k
  · obtain ⟨its, rv, ht, hl⟩ := I.tuple h
    obtain ⟨o, e, q⟩ := ht
    exact ⟨its, rv, ⟨o, e, q.1, q.2⟩, Heap.lt_size e⟩
  · obtain ⟨its, rv, ht, hl⟩ := I.list h
    obtain ⟨o, n, e, c, d, q⟩ := ht
    exact ⟨its, rv, ⟨o, e, c, n, q⟩, Heap.lt_size e⟩
theorem inv_injK {X : Cx} {pins : List (Addr × Obj)} {σ : L2.St} {H : Hp} {s : Shared} {k : Bool} {a : Addr} {xs ys : List V} (I : Inv X pins σ H s) (h : SqK k X.K H a xs) (g : SqK k X.K H a ys) : xs = ys := by
  cases k
  · exact I.tuple_inj h g
  · exact I.list_inj h g
theorem drawsK {prog : Program} {w : World} {A : Around} {k : Bool} (hh : A.handled = none) (it a : Addr) (hne : a ≠ it) (its : Array Value) : Draws prog w A it [it, a] its.size (fun i u => its[i]? = some u) (fun i h => ItK k h it a i ∧ ArK k h a its) := by
  cases k
  · exact Draws.tuple hh it a hne its
  · exact Draws.list hh it a hne its
theorem beginsK {k : Bool} {X : Cx} {pins : List (Addr × Obj)} {σ : L2.St} {H : Hp} {s : Shared} {a : Addr} {xs : List V} (I : Inv X pins σ H s) (h : SqK k X.K H a xs) : ∃ (o : Obj) (Hs : Heap → Prop), Begins (.ref a) o Hs ∧ Hs s.heap ∧ ∀ it h', h'.get? it = some o → ItK k h' it a 0 := by
  obtain ⟨its, _, q, _⟩ := inv_seqK I h
  cases k
  · exact ⟨_, _, begins_tuple a its.toArray, q, fun it h' e => ⟨_, e, rfl, rfl⟩⟩
  · exact ⟨_, _, begins_list a its.toArray, q, fun it h' e => ⟨_, e, rfl, rfl⟩⟩
/-- the two as they stand at each turn, the items in new pairs -/
def ItM (k l : Bool) (K : PySem.W.Frag) (a b : Addr) : It :=
  ⟨fun i H => ∃ (xs ys : List V) (x y : V), SqK k K H a xs ∧ SqK l K H b ys ∧ xs[i]? = some x ∧ ys[i]? = some y,
    fun i H v H' => ∃ T x y, v = .ref T ∧ H T = none ∧ H' = upd H T (.tup [x, y]) ∧ (∀ xs, SqK k K H a xs → xs[i]? = some x) ∧ ∀ ys, SqK l K H b ys → ys[i]? = some y,
    fun i H => ∃ xs ys : List V, SqK k K H a xs ∧ SqK l K H b ys ∧ i = min xs.length ys.length⟩
theorem apart2 {z TI TO i1 i2 a b : Addr} (D : ZipApart z TI TO i1 i2 a b) : ZipSep2 z TI TO i1 i2 [i1, a] [i2, b] := by
  have ne2 : ∀ {c d e : Addr}, c ≠ d → c ≠ e → c ∉ [d, e] := fun h1 h2 m => by
    simp only [List.mem_cons, List.not_mem_nil, or_false] at m
    rcases m with m | m
    · exact h1 m
    · exact h2 m
  exact ⟨D.TIz, D.TOz, D.TITO, D.TIi1, by simp, ne2 D.i1z.symm D.l1z.symm, ne2 D.TOi1 D.l1TO.symm, D.TIi2, by simp, ne2 D.i2z.symm D.l2z.symm, ne2 D.TOi2 D.l2TO.symm, ne2 D.i12 D.l2i1.symm, ne2 D.i12.symm D.l1i2.symm⟩
theorem turn_zipM {P : Program} {w : World} {K : PySem.W.Frag} {k l : Bool} {elts : List Expr} {kk : Nat} {tpos : Pos} {a b z TI TO i1 i2 : Addr} (D : ZipApart z TI TO i1 i2 a b) :
    Turn P w K (.Tuple elts kk tpos) (ItM k l K a b) [z, TI, TO, i1, i2] z (fun i h => IsZip h z TI TO .none ∧ IsPair h TI (.ref i1) (.ref i2) ∧ (∃ x y, IsPair h TO x y) ∧ ItK k h i1 a i ∧ ItK l h i2 b i) where
  mem := by simp
  obj := fun i h st c hc => by
    obtain ⟨hz, hTI, ⟨x, y, hTO⟩, h1, h2⟩ := st
    have e' : c = z ∨ c = TI ∨ c = TO ∨ c = i1 ∨ c = i2 := by simpa using hc
    rcases e' with q | q | q | q | q
    · rw [q]; exact ⟨_, hz, fun v q => nomatch q⟩
    · rw [q]; exact ⟨_, hTI, fun v q => nomatch q⟩
    · rw [q]; exact ⟨_, hTO, fun v q => nomatch q⟩
    · rw [q]; exact h1.obj
    · rw [q]; exact h2.obj
  keep := fun i h h' st k => by
    obtain ⟨hz, hTI, ⟨x, y, hTO⟩, h1, h2⟩ := st
    exact ⟨k z (by simp) _ hz, k TI (by simp) _ hTI, ⟨x, y, k TO (by simp) _ hTO⟩, h1.at fun o q => k i1 (by simp) o q, h2.at fun o q => k i2 (by simp) o q⟩
  item := by
    intro X hP hw hK hc i pins s σ H E I hf st hg
    subst hP hw hK
    obtain ⟨hz, hTI, ⟨x0, y0, hTO⟩, h1, h2⟩ := st
    obtain ⟨xs, ys, x, y, hqx, hqy, hx, hy⟩ := hg
    obtain ⟨its, rv, p, _⟩ := inv_seqK I hqx
    obtain ⟨its2, rv2, p2, _⟩ := inv_seqK I hqy
    obtain ⟨u, hu, ru⟩ := rv.get hx
    obtain ⟨u2, hu2, ru2⟩ := rv2.get hy
    have hzl : z < s.heap.objs.size := Heap.lt_size hz
    have hd : X.A.handled = none := I.ok.hd hc
    have l1 : i < its.toArray.size := by
      have := (List.getElem?_eq_some_iff.mp hu).1
      simpa using this
    have l2 : i < its2.toArray.size := by
      have := (List.getElem?_eq_some_iff.mp hu2).1
      simpa using this
    have hTy : s.TypeIs (.ref z) "zip" := ⟨_, hz, rfl⟩
    unfold pyNext
    refine wpAny_bind (wpAny_attempt (wpAny_callSpecial?_slot (name := Str.ofString "__next__") hTy F.slot_zip_next (wpAny_call_entry F.slot_zip_next hTy F.entry_zip_next
      (zipD2_next_item (apart2 D) (drawsK (k := k) (A := X.A.in1) hd i1 a D.l1i1 its.toArray) (drawsK (k := l) (A := X.A.in1) hd i2 b D.l2i2 its2.toArray) hz hTI hTO ⟨h1, p⟩ ⟨h2, p2⟩ l1 l2 fun x1 x2 h' tk q1 q2 z' TO' h1' h2' hT hsz hk => wpAny_pure ?_) (F.args_zip_next_1 _))))
    have q1 : its[i]? = some x1 := by simpa using q1
    have q2 : its2[i]? = some x2 := by simpa using q2
    rw [hu] at q1; rw [hu2] at q2
    cases q1; cases q2
    refine ⟨_, rfl, wpAny_letOwnedTupleGo_zip (s := { s with heap := h', toks := tk }) z' fun h'' z'' sb => ?_⟩
    have hT2 : h''.get? s.heap.objs.size = some { cls := .type "tuple", data := .seq #[u, u2] } := (sb.2 _ (Nat.ne_of_gt hzl)).trans hT
    have new : ObjOk X.prog X.w (upd H s.heap.objs.size (.tup [x, y])) h'' s.heap.objs.size (.tup [x, y]) :=
      ⟨by show 2 ≤ sizeLine; decide, [u, u2], .cons ru (.cons ru2 .nil), ⟨_, hT2, rfl, _, rfl⟩⟩
    have I1 : Inv X pins σ (upd H s.heap.objs.size (.tup [x, y])) { s with heap := h'', toks := tk } :=
      I.turnedNew (t' := tk) (ch := [z, TI, TO, i1, i2]) (fun c o hb q => (sb.2 c (fun q' => hb (by simp [q']))).trans (hk c o (fun q' => hb (by simp [q'])) (fun q' => hb (by simp [q'])) (fun q' => hb (by simp [q'])) (fun q' => hb (by simp [q'])) q)) hf (Nat.le_refl _) new
    refine ⟨.ref s.heap.objs.size, _, I1, rfl, ⟨_, x, y, rfl, I.hok.fresh (Nat.le_refl _), rfl, fun l hl => by rw [inv_injK I hl hqx]; exact hx, fun l hl => by rw [inv_injK I hl hqy]; exact hy⟩, ⟨z'', ?_, ⟨u, u2, ?_⟩, ?_, ?_⟩, fun c hcm => ?_⟩
    · exact (sb.2 _ D.TIz).trans (hk _ _ D.TIz D.TITO D.TIi1 D.TIi2 hTI)
    · exact (sb.2 _ D.TOz).trans TO'
    · exact h1'.1.at fun o q => (sb.2 _ D.i1z).trans q
    · exact h2'.1.at fun o q => (sb.2 _ D.i2z).trans q
    · have hlt : c < s.heap.objs.size := by
        have e' : c = z ∨ c = TI ∨ c = TO ∨ c = i1 ∨ c = i2 := by simpa using hcm
        rcases e' with q | q | q | q | q
        · rw [q]; exact hzl
        · rw [q]; exact Heap.lt_size hTI
        · rw [q]; exact Heap.lt_size hTO
        · rw [q]; obtain ⟨_, e1, _⟩ := h1.obj; exact Heap.lt_size e1
        · rw [q]; obtain ⟨_, e2, _⟩ := h2.obj; exact Heap.lt_size e2
      rw [upd_ne (Nat.ne_of_lt hlt)]
      exact (hf c hcm).1
  done := by
    intro X hP hw hK hc i pins s σ H E I hf st hg
    subst hP hw hK
    obtain ⟨hz, hTI, ⟨x0, y0, hTO⟩, h1, h2⟩ := st
    obtain ⟨xs, ys, hqx, hqy, hend⟩ := hg
    obtain ⟨its, rv, p, _⟩ := inv_seqK I hqx
    obtain ⟨its2, rv2, p2, _⟩ := inv_seqK I hqy
    have l1 := rv.length
    have l2 := rv2.length
    have hd : X.A.handled = none := I.ok.hd hc
    have hTy : s.TypeIs (.ref z) "zip" := ⟨_, hz, rfl⟩
    have n1 : its.toArray.size = xs.length := by rw [List.size_toArray]; omega
    have n2 : its2.toArray.size = ys.length := by rw [List.size_toArray]; omega
    unfold pyNext
    refine wpAny_bind (wpAny_attempt (wpAny_callSpecial?_slot (name := Str.ofString "__next__") hTy F.slot_zip_next (wpAny_call_entry F.slot_zip_next hTy F.entry_zip_next
      (zipD2_next_end (apart2 D) (drawsK (k := k) (A := X.A.in1) hd i1 a D.l1i1 its.toArray) (drawsK (k := l) (A := X.A.in1) hd i2 b D.l2i2 its2.toArray) hz hTI hTO ⟨h1, p⟩ ⟨h2, p2⟩ (by omega) (by omega) (by omega) fun h' tk e hk he => ?_) (F.args_zip_next_1 _))))
    obtain ⟨o, ho, hcl⟩ := he
    refine wpAny_bind (wpAny_isInstance (T := "StopIteration") (b := true) ⟨o, ho, hcl⟩ isSubtype_stop ?_)
    exact wpAny_pure ⟨rfl, I.turnedL (t' := tk) (ch := [z, TI, TO, i1, i2]) (fun c o hb q =>
      hk c o (fun q' => hb (by simp [q'])) (fun q' => hb (by simp [q'])) (fun q' => hb (by simp [q'])) (fun q' => hb (by simp [q'])) q) hf⟩
  self := fun A i s Q E st h => wpAny_pyIter_zip st.1 h
def iZipM (K : PySem.W.Frag) (ta : TA) : TI := fun σ H R => ta σ H fun vs H1 => ∃ k l a b xs ys, vs = [.ref a, .ref b] ∧ SqK k K H1 a xs ∧ SqK l K H1 b ys ∧ R (ItM k l K a b) H1
theorem pi_zipM {X : Cx} {e e2 : Expr} {ta : TA} {p pos tpos : Pos} {elts : List Expr} {kk : Nat} (hg : Gl X "zip") (hm : X.mg "zip" = none) (ha : PA X [e, e2] ta)
    (hs : starEach [e, e2] X.env = (false, eval e X.env) :: starEach [e2] X.env := by rfl) (hpl : (backTo pos (starEach [e2] X.env)).any (·.1) = false := by rfl) :
    PI X (.Tuple elts kk tpos) (.Call (.Name "zip" p) [e, e2] [] pos) (iZipM X.K ta) := by
  refine ⟨fun pins s σ H R I h => ?_⟩
  refine Call_ (ld_blt I hg hm PyProof.Rows.boot_zip (PyProof.Rows.callWith_type1 (thn (ha.run pos pins s σ H _ I h) fun us s1 ⟨vs, H1, I1, r1, q1⟩ => ?_) hs hpl))
  obtain ⟨k, l, a, b, xs, ys, ex, hqx, hqy, q⟩ := q1
  subst ex
  cases r1 with
  | cons r rr =>
    cases rr with
    | cons r' rr =>
      cases rr
      cases r
      cases r'
      have fresh5 : ∀ c, c ∈ [s1.heap.objs.size + 4, s1.heap.objs.size + 2, s1.heap.objs.size + 3, s1.heap.objs.size, s1.heap.objs.size + 1] → FpOk X pins H1 c := fun c hcm => by
        have e' : c = s1.heap.objs.size + 4 ∨ c = s1.heap.objs.size + 2 ∨ c = s1.heap.objs.size + 3 ∨ c = s1.heap.objs.size ∨ c = s1.heap.objs.size + 1 := by simpa using hcm
        have hle : s1.heap.objs.size ≤ c := by
          rcases e' with z | z | z | z | z
          · rw [z]; exact Nat.le_add_right _ _
          · rw [z]; exact Nat.le_add_right _ _
          · rw [z]; exact Nat.le_add_right _ _
          · rw [z]; exact Nat.le_refl _
          · rw [z]; exact Nat.le_add_right _ _
        exact I1.fpOk hle (I1.hok.fresh hle)
      obtain ⟨its, rv, _, la⟩ := inv_seqK I1 hqx
      obtain ⟨its2, rv2, _, lb⟩ := inv_seqK I1 hqy
      obtain ⟨o1, Hs1, B1, g1, k1⟩ := beginsK I1 hqx
      obtain ⟨o2, Hs2, B2, g2, k2⟩ := beginsK I1 hqy
      refine zip_begins2 B1 B2 g1 g2 fun h' hz hTI hTO h1 h2 hsz hk => wpAny_pyIter_zip hz ?_
      have I2 : Inv X pins σ H1 { s1 with heap := h' } := I1.kept (t' := s1.toks) hk
      exact ⟨s1.heap.objs.size + 4, [s1.heap.objs.size + 4, s1.heap.objs.size + 2, s1.heap.objs.size + 3, s1.heap.objs.size, s1.heap.objs.size + 1], _, _, H1, rfl, I2, turn_zipM (PySem.W.ktu_apart s1.heap.objs.size a b la lb), ⟨hz, hTI, ⟨_, _, hTO⟩, k1 _ _ h1, k2 _ _ h2⟩, fresh5, q⟩
end CL

/-! CL, part x2: for i, a in enumerate(x) of a list or a tuple -/
namespace CL
open PySem PySem.Spec PyProof.Rows L2
set_option maxHeartbeats 1000000 in
theorem meets_enumerate_new1 {v : Value} {o : Obj} {H : Heap → Prop} (B : Begins v o H) :
    Meets (Builtin.«enumerate.__new__» ⟨[.type "enumerate", v], []⟩) (fun _ R s => H s.heap ∧
      R (.ok (.ret (.ref (s.heap.push o).objs.size))) { s with heap := (s.heap.push o).push { cls := .type "enumerate", data := .fields #[.none, .bool false, .ref s.heap.objs.size, rawInt 0, .none, .none] } }) :=
  .of_wp fun prog w A R s h => by
    obtain ⟨hp, g, d, tk, os⟩ := s; obtain ⟨h1, h⟩ := h
    have hsub := sub_enumerate
    have q1 : ∀ {A' : Around} {E : Value → Shared → Prop} {Q : Value → Shared → Prop}, Q (.ref hp.objs.size) ⟨hp.push o, g, d, tk, os⟩ → wpAny (model prog w) A' (pyIter v) Q E ⟨hp, g, d, tk, os⟩ :=
      fun q => B.iter prog w _ _ ⟨hp, g, d, tk, os⟩ _ h1 q
    wp_walk using q1
    refine wpAny_stack_any fun st => wpAny_pure ?_
    split
    · rename_i c _ _ _ _ _
      cases (c == Value.type "enumerate")
      · wp_walk using q1
        exact ⟨_, rfl, h⟩
      · wp_walk using q1
        exact ⟨_, rfl, h⟩
    · wp_walk using q1
      exact ⟨_, rfl, h⟩
theorem enum_begins1 {prog : Program} {w : World} {A : Around} {E : Value → Shared → Prop} {s : Shared} {v : Value} {o : Obj} {H : Heap → Prop} {Q : Value → Shared → Prop} (B : Begins v o H) (h1 : H s.heap)
    (h : ∀ h', IsEnum h' (s.heap.objs.size + 1) s.heap.objs.size 0 .none → h'.get? s.heap.objs.size = some o → h'.objs.size = s.heap.objs.size + 2 →
      (∀ b o, s.heap.get? b = some o → h'.get? b = some o) → Q (.ref (s.heap.objs.size + 1)) { s with heap := h' }) :
    wpAny (model prog w) A (call (.type "enumerate") [v]) Q E s := by
  refine callType_new F.called_enumerate (by decide) (F.typeCall_enumerate_1 _) (F.newCall_enumerate_1 _) (fun obj => F.args_object_init_2 obj _) F.entry_enumerate_new
    (meets_enumerate_new1 B) ⟨h1, ?_⟩
  have hz : (s.heap.push o).objs.size = s.heap.objs.size + 1 := Heap.size_push ..
  show _ ∧ _
  rw [hz]
  have he : IsEnum ((s.heap.push o).push { cls := .type "enumerate", data := .fields #[.none, .bool false, .ref s.heap.objs.size, rawInt 0, .none, .none] }) (s.heap.objs.size + 1) s.heap.objs.size 0 .none := by
    have := Heap.get?_push_size (s.heap.push o) (o := { cls := .type "enumerate", data := .fields #[.none, .bool false, .ref s.heap.objs.size, rawInt 0, .none, .none] }) rfl
    rw [hz] at this; exact this
  refine ⟨⟨_, he, rfl⟩, h _ he (Heap.get?_push_of_some _ (Heap.get?_push_size _ B.free)) (by rw [Heap.size_push, hz]) fun b o x => Heap.get?_push_of_some _ (Heap.get?_push_of_some _ x)⟩
def IteM (k : Bool) (K : PySem.W.Frag) (a : Addr) : It :=
  ⟨fun i H => ∃ (xs : List V) (x : V), SqK k K H a xs ∧ xs[i]? = some x, fun i H v H' => ∃ T x, v = .ref T ∧ H T = none ∧ H' = upd H T (.tup [.int (i : Nat), x]) ∧ ∀ xs, SqK k K H a xs → xs[i]? = some x, fun i H => ∃ xs : List V, SqK k K H a xs ∧ xs.length = i⟩
theorem turn_enumM {P : Program} {w : World} {K : PySem.W.Frag} {k : Bool} {elts : List Expr} {kk : Nat} {tpos : Pos} (a e it : Addr) (hai : a ≠ it) (hea : e ≠ a) :
    Turn P w K (.Tuple elts kk tpos) (IteM k K a) [e, it] e (fun i h => (∃ old, IsEnum h e it ((i : Nat) : Int) old) ∧ ItK k h it a i ∧ e ≠ it) where
  mem := by simp
  obj := fun i h st b hb => by
    obtain ⟨⟨old, he⟩, hit, _⟩ := st
    have e' : b = e ∨ b = it := by simpa using hb
    rcases e' with z | z
    · rw [z]; exact ⟨_, he, fun v q => nomatch q⟩
    · rw [z]; exact hit.obj
  keep := fun i h h' st k => let ⟨⟨old, he⟩, hi, hne⟩ := st; ⟨⟨old, k e (by simp) _ he⟩, hi.at fun o q => k it (by simp) o q, hne⟩
  item := by
    intro X hP hw hK hc i pins s σ H E I hf st hg
    subst hP hw hK
    obtain ⟨⟨old, he⟩, hit, hne⟩ := st
    obtain ⟨xs, x, hq, hx⟩ := hg
    obtain ⟨its, rv, p, _⟩ := inv_seqK I hq
    obtain ⟨u, hu, ru⟩ := rv.get hx
    have hd : X.A.handled = none := I.ok.hd hc
    have hel : e < s.heap.objs.size := Heap.lt_size he
    have hil : it < s.heap.objs.size := by obtain ⟨_, q, _⟩ := hit.obj; exact Heap.lt_size q
    have l1 : i < its.toArray.size := by
      have := (List.getElem?_eq_some_iff.mp hu).1
      simpa using this
    refine wpAny_pyNext_enum_itemD (drawsK (k := k) (A := X.A.in1) hd it a hai its.toArray) he ⟨hit, p⟩ l1 hne (by simp [hne, hea]) fun x1 h' tk q1 ho hst' hT hsz hk => ?_
    have q1 : its[i]? = some x1 := by simpa using q1
    rw [hu] at q1
    cases q1
    refine ⟨_, rfl, wpAny_letOwnedTupleGo_enum (s := { s with heap := h', toks := tk + 1 }) ho fun h'' he' sb => ?_⟩
    have hT2 : h''.get? s.heap.objs.size = some { cls := .type "tuple", data := .seq #[.int i tk, u] } := (sb.2 _ (Nat.ne_of_gt hel)).trans hT
    have new : ObjOk X.prog X.w (upd H s.heap.objs.size (.tup [.int (i : Nat), x])) h'' s.heap.objs.size (.tup [.int (i : Nat), x]) :=
      ⟨by show 2 ≤ sizeLine; decide, [.int i tk, u], .cons ⟨_, rfl⟩ (.cons ru .nil), ⟨_, hT2, rfl, _, rfl⟩⟩
    have I1 : Inv X pins σ (upd H s.heap.objs.size (.tup [.int (i : Nat), x])) { s with heap := h'', toks := tk + 1 } :=
      I.turnedNew (ch := [e, it]) (fun b ob hb q => (sb.2 b (fun z => hb (by simp [z]))).trans (hk b ob (fun z => hb (by simp [z])) (fun z => hb (by simp [z])) q)) hf (Nat.le_refl _) new
    refine ⟨.ref s.heap.objs.size, _, I1, rfl, ⟨_, x, rfl, I.hok.fresh (Nat.le_refl _), rfl, fun ys hy => by rw [inv_injK I hy hq]; exact hx⟩, ⟨⟨u, ?_⟩, hst'.1.at fun o q => (sb.2 it (Ne.symm hne)).trans q, hne⟩, fun b hb => ?_⟩
    · have e1 : ((i + 1 : Nat) : Int) = (i : Int) + 1 := by omega
      rw [e1]; exact he'
    · have hb' : b < s.heap.objs.size := by
        have e' : b = e ∨ b = it := by simpa using hb
        rcases e' with z | z
        · rw [z]; exact hel
        · rw [z]; exact hil
      rw [upd_ne (Nat.ne_of_lt hb')]
      exact (hf b hb).1
  done := by
    intro X hP hw hK hc i pins s σ H E I hf st hg
    subst hP hw hK
    obtain ⟨⟨old, he⟩, hit, hne⟩ := st
    obtain ⟨xs, hq, hx⟩ := hg
    obtain ⟨its, rv, p, _⟩ := inv_seqK I hq
    obtain ⟨f0, f1, f2, f3, f4, f5⟩ := hf it (by simp)
    have hl := rv.length
    have hn : its.toArray.size = i := by rw [List.size_toArray]; omega
    subst hn
    exact wpAny_pyNext_enum_endD (drawsK (k := k) (A := X.A.in1) (I.ok.hd hc) it a hai its.toArray) he ⟨hit, p⟩ fun h' eb => ⟨rfl, I.turned (t' := s.toks) (fun b o hb q => eb b o hb q) f0 f1 f3 f4 f5⟩
  self := fun A i s Q E st h => let ⟨⟨_, he⟩, _⟩ := st; wpAny_pyIter_enum he h
def iEnumM (K : PySem.W.Frag) (ta : TA) : TI := fun σ H R => ta σ H fun vs H1 => ∃ k a xs, vs = [.ref a] ∧ SqK k K H1 a xs ∧ R (IteM k K a) H1
theorem pi_enumM {X : Cx} {e : Expr} {ta : TA} {p pos tpos : Pos} {elts : List Expr} {kk : Nat} (hg : Gl X "enumerate") (hm : X.mg "enumerate" = none) (ha : PA X [e] ta) (hs : starEach [e] X.env = [(false, eval e X.env)] := by rfl) :
    PI X (.Tuple elts kk tpos) (.Call (.Name "enumerate" p) [e] [] pos) (iEnumM X.K ta) := by
  refine ⟨fun pins s σ H R I h => ?_⟩
  refine Call_ (ld_blt I hg hm boot_enumerate (PyProof.Rows.callWith_type1 (thn (ha.run pos pins s σ H _ I h) fun us s1 ⟨vs, H1, I1, r1, q1⟩ => ?_) hs rfl))
  obtain ⟨k, a, xs, ex, hq, q⟩ := q1
  subst ex
  cases r1 with
  | cons r rr =>
    cases rr
    cases r
    obtain ⟨its, rv, _, la⟩ := inv_seqK I1 hq
    obtain ⟨o1, Hs1, B1, g1, k1⟩ := beginsK I1 hq
    refine enum_begins1 B1 g1 fun h' he hit hsz hk => wpAny_pyIter_enum he ?_
    have I2 : Inv X pins σ H1 { s1 with heap := h' } := I1.kept (t' := s1.toks) hk
    refine ⟨s1.heap.objs.size + 1, [s1.heap.objs.size + 1, s1.heap.objs.size], _, _, H1, rfl, I2, turn_enumM a (s1.heap.objs.size + 1) s1.heap.objs.size (Nat.ne_of_lt la) (Nat.ne_of_gt (Nat.lt_succ_of_lt la)), ⟨⟨.none, he⟩, k1 _ _ hit, Nat.succ_ne_self _⟩, fun b hb => ?_, q⟩
    have e' : b = s1.heap.objs.size + 1 ∨ b = s1.heap.objs.size := by simpa using hb
    have hle : s1.heap.objs.size ≤ b := by
      rcases e' with z | z
      · rw [z]; exact Nat.le_add_right _ _
      · rw [z]; exact Nat.le_refl _
    exact I1.fpOk hle (I1.hok.fresh hle)
end CL

/-! CL, part e: the text against the row's text; what is known where a def runs -/
namespace CL
open PySem PySem.Spec PyProof.Rows L2

/-! ### forms -/
def nostar : Expr → Bool
  | .Starred _ _ => false
  | _ => true
def noslice : Expr → Bool
  | .Slice _ _ _ _ => false
  | _ => true
def noset : Expr → Bool
  | .Set _ _ _ => false
  | _ => true
def nolc : Expr → Bool
  | .ListComp _ _ _ _ => false
  | .SetComp _ _ _ _ => false
  | .DictComp _ _ _ _ _ => false
  | _ => true
/-- not a call without arguments (super() is one) -/
def nobare : Expr → Bool
  | .Call (.Name _ _) [] [] _ => false
  | _ => true
/-- a test that is its value's truth -/
def plainT : Expr → Bool
  | .UnaryOp .Not _ _ => false
  | .BoolOp _ _ _ => false
  | .IfExp _ _ _ _ => false
  | .Compare _ _ _ _ => false
  | _ => true
theorem star_cons {p : Expr} {ps : List Expr} {env : PySem.Env} (h : nostar p = true) : starEach (p :: ps) env = (false, eval p env) :: starEach ps env := by
  cases p <;> first | rfl | cases h
theorem star_map {pos : Pos} {env : PySem.Env} : ∀ {ps : List Expr}, ps.all nostar = true → backTo pos (starEach ps env) = starEach ps env ∧ (starEach ps env).any (·.1) = false ∧ (starEach ps env).all (fun x => !x.1) = true
  | [], _ => ⟨rfl, rfl, rfl⟩
  | p :: ps, h => by
    rw [List.all_cons, Bool.and_eq_true] at h
    obtain ⟨h1, h2, h3⟩ := star_map (pos := pos) (env := env) h.2
    rw [star_cons h.1]
    refine ⟨?_, ?_, ?_⟩
    · show (false, _) :: backTo pos (starEach ps env) = _
      rw [h1]; rfl
    · rw [List.any_cons, h2]; rfl
    · rw [List.all_cons, h3]; rfl
theorem star_any {pos : Pos} {env : PySem.Env} {ps : List Expr} (h : ps.all nostar = true) : (backTo pos (starEach ps env)).any (·.1) = false := by
  rw [(star_map h).1, (star_map (pos := pos) h).2.1]
theorem plain_ix {p : Expr} (h : noslice p = true) : PlainIx p := fun o i => by
  cases p <;> first | rfl | cases h
theorem folded {p : Expr} {env : PySem.Env} (h : noset p = true) : ∀ x, foldedSetIterable p env x = pure x := fun x => by
  cases p <;> first | rfl | cases h
theorem base_of {o : Expr} {f : Str} {env : PySem.Env} (h : nobare o = true) (whole : Sem Value) : attributeBase o f env whole = whole := by
  unfold attributeBase
  split
  · cases h
  · rfl
theorem swap_none {p : Expr} {t : Option Expr} {l : Nat} {env : PySem.Env} (h : nolc p = true) : swapsWith p t l env = pure false := by
  cases p <;> first | rfl | cases h
theorem swap_sub {p o i : Expr} {pos : Pos} {l : Nat} {env : PySem.Env} : swapsWith p (some (.Subscript o i pos)) l env = pure false := by
  cases p <;> rfl
theorem swap_att {p o : Expr} {f : Str} {pos : Pos} {l : Nat} {env : PySem.Env} : swapsWith p (some (.Attribute o f pos)) l env = pure false := by
  cases p <;> rfl
theorem plain_true {e : Expr} {env : PySem.Env} (h : plainT e = true) : ∀ whole, isTrue e env whole = (do let v ← whole; standAt e.pos; holding [v] (truthy v)) := fun whole => by
  cases e with
  | UnaryOp op x p => cases op <;> first | rfl | cases h
  | _ => first | rfl | cases h
theorem meth_eval {o : Expr} {m : Str} {apos pos : Pos} {es : List Expr} {env : PySem.Env} (hb : nobare o = true) (hs : es.all nostar = true) (hl : (apos.endLine == pos.line) = true) (hn : es.length < 30) :
    eval (.Call (.Attribute o m apos) es [] pos) env = (do
      let ov ← eval o env
      standAt apos.atName
      let (f, first) ← holding [ov] (getMethod ov m (do return (← importBound o env).getD true))
      callWith pos f first (backTo pos (starEach es env)) (backToKw pos (keywordEach [] env))) := by
  show (do let ov ← attributeBase o m env (eval o env); standAt apos.atName; methodCall o m apos pos env ov (es.length + ([] : List Keyword).length) (backTo pos (starEach es env)) (backToKw pos (keywordEach [] env))) = _
  rw [base_of hb]
  have hf : methodCallForm (es.length + ([] : List Keyword).length) (backTo pos (starEach es env)) (backToKw pos (keywordEach [] env)) = true := by
    unfold methodCallForm
    rw [(star_map hs).1, (star_map (pos := pos) hs).2.2]
    show (true && true && decide (es.length + 0 + 0 < 30)) = true
    simp; omega
  unfold methodCall
  rw [hf]
  have e1 : ∀ ov, calleeOf true o env ov m = getMethod ov m (do return (← importBound o env).getD true) := fun ov => rfl
  have e2 : methodCallPos true o env apos pos = pure pos := by
    unfold methodCallPos
    rw [hl]; rfl
  simp only [e1, e2, pure_bind]

/-! ### names -/
structure Nms where
  fn : Nat → Str
  isG : Nat → Bool
  cl : Nat → Str
  gl : Nat → Str
def visB (sc : Scope) (x : Str) : Bool := match sc.names.lookup x with
  | some .local => true
  | some .cell => true
  | some .free => true
  | _ => false
def locB (sc : Scope) (ow : Str → Bool) (x : Str) : Bool := match sc.names.lookup x with
  | some .local => true
  | some .cell => ow x
  | _ => false
def glB (sc : Scope) (x : Str) : Bool := match sc.names.lookup x with
  | some .globalImplicit => true
  | _ => false
def debB (x : Str) : Bool := !(x == ("__debug__" : Str)) && !(x == ("__classdict__" : Str))
theorem visB_ok {sc : Scope} {x : Str} (h : visB sc x = true) : Vis sc x := by
  unfold visB at h
  split at h <;> first | exact .inl (by assumption) | exact .inr (.inl (by assumption)) | exact .inr (.inr (by assumption)) | cases h
theorem locB_ok {sc : Scope} {ow : Str → Bool} {x : Str} (h : locB sc ow x = true) : Loc sc x ∧ (ow x = true ∨ sc.names.lookup x = some .local) := by
  unfold locB at h
  split at h
  · rename_i e; exact ⟨.inl e, .inr e⟩
  · rename_i e; exact ⟨.inr e, .inl h⟩
  · cases h
theorem glB_ok {sc : Scope} {x : Str} (h : glB sc x = true) : sc.names.lookup x = some .globalImplicit := by
  unfold glB at h
  split at h
  · assumption
  · cases h
theorem debB_ok {x : Str} (h : debB x = true) : (x == ("__debug__" : Str)) = false ∧ (x == ("__classdict__" : Str)) = false := by
  unfold debB at h
  simpa using h
/-- a name of slot i that is read, that is stored -/
def rdB (N : List Str) (sc : Scope) (i : Nat) (x : Str) : Bool := decide (N[i]? = some x) && visB sc x && debB x
def stB (N : List Str) (sc : Scope) (ow : Str → Bool) (i : Nat) (x : Str) : Bool := decide (N[i]? = some x) && locB sc ow x
def gB (sc : Scope) (x y : Str) : Bool := decide (x = y) && glB sc x && debB x
def namesB (N : List Str) (sc : Scope) (ow : Str → Bool) : List Nat → List Expr → Bool
  | [], [] => true
  | i :: is, .Name x _ :: r => stB N sc ow i x && namesB N sc ow is r
  | _, _ => false
def tgB (N : List Str) (sc : Scope) (ow : Str → Bool) : Tg → Expr → Bool
  | .one i, .Name x _ => stB N sc ow i x
  | .many is, .Tuple es _ _ => namesB N sc ow is es
  | _, _ => false
def tgOwn (N : List Str) : Tg → List (Str × Nat)
  | .one i => match N[i]? with
    | some x => [(x, i)]
    | none => []
  | .many is => is.filterMap fun i => match N[i]? with
    | some x => some (x, i)
    | none => none
def tupB : Expr → Bool
  | .Tuple _ _ _ => true
  | _ => false
def isCmp : E → Bool
  | .cmp _ _ _ => true
  | .cm2 _ _ _ _ _ => true
  | .isN _ => true
  | .noN _ => true
  | _ => false
def isYes : B → Bool
  | .yes => true
  | _ => false
def ifsB (f : Expr → Bool) (y : Bool) : List Expr → Bool
  | [] => y
  | [q] => f q
  | _ => false
def tyB : Ty → Bool
  | .cls _ => false
  | _ => true
mutual
def chE (T : Nms) (N : List Str) : E → Scope → Expr → Bool
  | .v i, sc, p => match p with
    | .Name x _ => rdB N sc i x
    | _ => false
  | .int i, _, p => match p with
    | .Constant (.int j) _ _ => decide (i = j)
    | _ => false
  | .str x, _, p => match p with
    | .Constant (.str y) _ _ => decide (x = y)
    | _ => false
  | .bl b, _, p => match p with
    | .Constant (.bool d) _ _ => b == d
    | _ => false
  | .non, _, p => match p with
    | .Constant .none _ _ => true
    | _ => false
  | .gl g, sc, p => match p with
    | .Name x _ => gB sc x (T.gl g)
    | _ => false
  | .tup es, sc, p => match p with
    | .Tuple ps _ _ => chEs T N es sc ps
    | _ => false
  | .lst es, sc, p => match p with
    | .List ps _ => chEs T N es sc ps
    | _ => false
  | .dic d, sc, p => match p with
    | .Dict ks vs _ => chPs T N d sc ks vs && decide (ks.length ≤ 15)
    | _ => false
  | .neg a, sc, p => match p with
    | .UnaryOp .USub q _ => chE T N a sc q
    | _ => false
  | .bin o a b, sc, p => match p with
    | .BinOp q o' r _ => decide (o' = opOf o) && chE T N a sc q && chE T N b sc r
    | _ => false
  | .cmp o a b, sc, p => match p with
    | .Compare q [o'] [r] _ => decide (o' = copOf o) && chE T N a sc q && chE T N b sc r && noset r
    | _ => false
  | .cm2 o o2 a b c, sc, p => match p with
    | .Compare q [o', o2'] [r, t] _ => decide (o' = copOf o) && decide (o2' = copOf o2) && chE T N a sc q && chE T N b sc r && chE T N c sc t && noset r && noset t
    | _ => false
  | .isN a, sc, p => match p with
    | .Compare q [.Is] [.Constant .none _ _] _ => chE T N a sc q
    | _ => false
  | .noN a, sc, p => match p with
    | .Compare q [.IsNot] [.Constant .none _ _] _ => chE T N a sc q
    | _ => false
  | .and a b, sc, p => match p with
    | .BoolOp .And [q, r] _ => chE T N a sc q && chE T N b sc r
    | .BoolOp .And (q :: r :: t :: u) pos => chE T N a sc q && chE T N b sc (.BoolOp .And (r :: t :: u) pos)
    | _ => false
  | .or a b, sc, p => match p with
    | .BoolOp .Or [q, r] _ => chE T N a sc q && chE T N b sc r
    | .BoolOp .Or (q :: r :: t :: u) pos => chE T N a sc q && chE T N b sc (.BoolOp .Or (r :: t :: u) pos)
    | _ => false
  | .not a, sc, p => match p with
    | .UnaryOp .Not q _ => chE T N a sc q
    | _ => false
  | .ite c a b, sc, p => match p with
    | .IfExp q r t _ => chB T N c sc q && chE T N a sc r && chE T N b sc t
    | _ => false
  | .sub a i, sc, p => match p with
    | .Subscript q r _ => chE T N a sc q && chE T N i sc r && noslice r
    | _ => false
  | .cut a lo hi, sc, p => match p with
    | .Subscript q (.Slice l h none _) _ => chE T N a sc q && chO T N lo sc l && chO T N hi sc h
    | _ => false
  | .cut3 a lo hi k, sc, p => match p with
    | .Subscript q (.Slice l h (some (.Constant (.int j) _ _)) _) _ => decide (k = j) && decide (k ≠ 0) && chE T N a sc q && chO T N lo sc l && chO T N hi sc h
    | .Subscript q (.Slice l h (some (.UnaryOp .USub (.Constant (.int j) _ _) _)) _) _ => decide (k = -j) && decide (k ≠ 0) && chE T N a sc q && chO T N lo sc l && chO T N hi sc h
    | _ => false
  | .fld a f, sc, p => match p with
    | .Attribute q g _ => decide (f = g) && chE T N a sc q && nobare q
    | _ => false
  | .call f es, sc, p => match p with
    | .Call (.Name x _) ps [] _ => gB sc x (T.fn f) && T.isG f && chEs T N es sc ps
    | _ => false
  | .make c es, sc, p => match p with
    | .Call (.Name x _) ps [] _ => gB sc x (T.cl c) && chEs T N es sc ps
    | _ => false
  | .met a m es, sc, p => match p with
    | .Call (.Attribute q g ap) ps [] pos => decide (m = g) && chE T N a sc q && nobare q && (ap.endLine == pos.line) && decide (ps.length < 29) && chEs T N es sc ps
    | _ => false
  | .bm b a es, sc, p => match p with
    | .Call (.Attribute q g ap) ps [] pos => decide (bmName b = g) && chE T N a sc q && nobare q && (ap.endLine == pos.line) && decide (ps.length < 29) && chEs T N es sc ps
    | _ => false
  | .bf b es, sc, p => match p with
    | .Call (.Name x _) ps [] _ => gB sc x (bfName b) && chEs T N es sc ps
    | _ => false
  | .isi a t, sc, p => match p with
    | .Call (.Name x _) [q, .Name y _] [] _ => gB sc x "isinstance" && gB sc y (Str.ofString (tyName t)) && tyB t && chE T N a sc q && nostar q
    | _ => false
  | .lc t w c e, sc, p => match p with
    | .ListComp pe [⟨tg, it, ifs, 0⟩] scope _ => chI T N w sc tg it && noset it && blkC N sc scope (tgOwn N t) && tgB N (relS scope sc) (fun x => scope.names.lookup x == some .cell) t tg &&
        ifsB (fun q => chB T N c (relS scope sc) q) (isYes c) ifs && chE T N e (relS scope sc) pe
    | _ => false
  | .lzip a b, sc, p => match p with
    | .Call (.Name x _) [.Call (.Name y _) [q, r] [] _] [] _ => gB sc x "list" && gB sc y "zip" && chE T N a sc q && nostar q && chE T N b sc r && nostar r
    | _ => false
  | .lrg1 a, sc, p => match p with
    | .Call (.Name x _) [.Call (.Name y _) [q] [] _] [] _ => gB sc x "list" && gB sc y "range" && chE T N a sc q && nostar q
    | _ => false
  | .lrg2 a b, sc, p => match p with
    | .Call (.Name x _) [.Call (.Name y _) [q, r] [] _] [] _ => gB sc x "list" && gB sc y "range" && chE T N a sc q && nostar q && chE T N b sc r && nostar r
    | _ => false
  | .bad, _, p => nolc p && noset p && nostar p && noslice p
def chEs (T : Nms) (N : List Str) : Es → Scope → List Expr → Bool
  | .nil, _, ps => match ps with
    | [] => true
    | _ => false
  | .cons e es, sc, ps => match ps with
    | p :: r => chE T N e sc p && nostar p && chEs T N es sc r
    | _ => false
def chO (T : Nms) (N : List Str) : Eo → Scope → Option Expr → Bool
  | .no, _, p => match p with
    | none => true
    | _ => false
  | .so e, sc, p => match p with
    | some p => chE T N e sc p
    | none => false
def chPs (T : Nms) (N : List Str) : Ps → Scope → List (Option Expr) → List Expr → Bool
  | .nil, _, ks, vs => match ks, vs with
    | [], [] => true
    | _, _ => false
  | .cons k v r, sc, ks, vs => match ks, vs with
    | some p :: ks, q :: vs => chE T N k sc p && chE T N v sc q && chPs T N r sc ks vs
    | _, _ => false
def chB (T : Nms) (N : List Str) : B → Scope → Expr → Bool
  | .yes, _, _ => false
  | .of e, sc, p => chE T N e sc p && (plainT p || isCmp e)
  | .and a b, sc, p => match p with
    | .BoolOp .And [q, r] _ => chB T N a sc q && chB T N b sc r
    | .BoolOp .And (q :: r :: t :: u) pos => chB T N a sc q && chB T N b sc (.BoolOp .And (r :: t :: u) pos)
    | _ => false
  | .or a b, sc, p => match p with
    | .BoolOp .Or [q, r] _ => chB T N a sc q && chB T N b sc r
    | .BoolOp .Or (q :: r :: t :: u) pos => chB T N a sc q && chB T N b sc (.BoolOp .Or (r :: t :: u) pos)
    | _ => false
  | .not a, sc, p => match p with
    | .UnaryOp .Not q _ => chB T N a sc q
    | _ => false
def chI (T : Nms) (N : List Str) : I → Scope → Expr → Expr → Bool
  | .of e, sc, _, p => chE T N e sc p
  | .rg1 a, sc, _, p => match p with
    | .Call (.Name x _) [q] [] _ => gB sc x "range" && chE T N a sc q && nostar q
    | _ => false
  | .rg2 a b, sc, _, p => match p with
    | .Call (.Name x _) [q, r] [] _ => gB sc x "range" && chE T N a sc q && nostar q && chE T N b sc r && nostar r
    | _ => false
  | .enu e, sc, tg, p => match p with
    | .Call (.Name x _) [q] [] _ => gB sc x "enumerate" && chE T N e sc q && nostar q && tupB tg
    | _ => false
  | .zip a b, sc, tg, p => match p with
    | .Call (.Name x _) [q, r] [] _ => gB sc x "zip" && chE T N a sc q && nostar q && chE T N b sc r && nostar r && tupB tg
    | _ => false
end
def chTs (T : Nms) (N : List Str) (sc : Scope) (ow : Str → Bool) : CL.T → Expr → Bool
  | .one i, p => match p with
    | .Name x _ => stB N sc ow i x
    | _ => false
  | .sub o i, p => match p with
    | .Subscript q r _ => chE T N o sc q && chE T N i sc r && noslice r
    | _ => false
  | .fld o f, p => false
def chTL (T : Nms) (N : List Str) (sc : Scope) (ow : Str → Bool) : List CL.T → List Expr → Bool
  | [], [] => true
  | t :: ts, p :: ps => chTs T N sc ow t p && nostar p && chTL T N sc ow ts ps
  | _, _ => false
/-- a, b = x, y: what the model does of it: none: it is not told; some none: a plain tuple; some names: stored one by one -/
def swMir (sc : Scope) (ts : List Expr) (value : Expr) : Option (Option (List Str)) := match value with
  | .Tuple vs _ _ =>
    if !(ts.length == 2 || ts.length == 3) || vs.length != ts.length then some none
    else if vs.any (fun | .Starred .. => true | _ => false) then some none
    else
      let line := (ts.head?.map (·.pos.line)).getD 0
      let names := ts.filterMap fun
        | .Name id pos => if sc.names.lookup id == some .local && pos.line == line then some id else none
        | _ => none
      if names.length != ts.length || names.eraseDups.length != names.length then some none
      else if vs.all (foldedForSure 8) then some none
      else if vs.all (constantsAlone 8) then none
      else some (some names)
  | _ => some none
def lcSw (sc : Scope) (y : Str) (py : Pos) : Expr → Bool
  | .ListComp _ _ scope pos => sc.names.lookup y == some .local && (py.line == pos.line) && !(scope.names.any fun (n, k) => n == y && (k == .local || k == .cell))
  | _ => false
mutual
def chS (T : Nms) (N : List Str) (sc : Scope) (ow : Str → Bool) : S → Stmt → Bool
  | .asg t e, p => match p with
    | .Assign [tg] v _ => chE T N e sc v && (match t with
      | .one i => (match tg with
        | .Name x _ => stB N sc ow i x
        | _ => false)
      | .sub o i => (match tg with
        | .Subscript q r _ => chE T N o sc q && chE T N i sc r && noslice r
        | _ => false)
      | .fld o f => (match tg with
        | .Attribute q g _ => decide (f = g) && chE T N o sc q
        | _ => false))
    | _ => false
  | .asT ts e, p => match p with
    | .Assign [.Tuple tg _ _] v _ => chE T N e sc v && chTL T N sc ow ts tg && (match swMir sc tg v with
      | some none => true
      | _ => false)
    | _ => false
  | .par is es, p => match p with
    | .Assign [.Tuple tg _ _] (.Tuple vs k2 p2) _ => chEs T N es sc vs && namesB N sc ow is tg && (match swMir sc tg (.Tuple vs k2 p2) with
      | some (some _) => true
      | _ => false)
    | _ => false
  | .aug i o e, p => match p with
    | .AugAssign (.Name x _) o' v _ => decide (o' = opOf o) && stB N sc ow i x && chE T N e sc v
    | _ => false
  | .aus a i o e, p => match p with
    | .AugAssign (.Subscript q r _) o' v _ => decide (o' = opOf o) && chE T N a sc q && chE T N i sc r && noslice r && chE T N e sc v
    | _ => false
  | .auf a f o e, p => match p with
    | .AugAssign (.Attribute q g _) o' v _ => decide (o' = opOf o) && decide (f = g) && chE T N a sc q && chE T N e sc v
    | _ => false
  | .ex e, p => match p with
    | .Expr v _ => chE T N e sc v && nolc v
    | _ => false
  | .ret e, p => match p with
    | .Return (some v) _ => chE T N e sc v
    | _ => false
  | .rtN, p => match p with
    | .Return none _ => true
    | _ => false
  | .cond c a b, p => match p with
    | .If q r t _ => chB T N c sc q && chSs T N sc ow a r && chSs T N sc ow b t
    | _ => false
  | .whl c b, p => match p with
    | .While q r [] _ => chB T N c sc q && chSs T N sc ow b r
    | _ => false
  | .for t w b, p => match p with
    | .For tg it r [] _ => chI T N w sc tg it && noset it && tgB N sc ow t tg && chSs T N sc ow b r
    | _ => false
  | .pass, p => match p with
    | .Pass _ => true
    | _ => false
  | .brk, p => match p with
    | .Break _ => true
    | _ => false
  | .cnt, p => match p with
    | .Continue _ => true
    | _ => false
  | .bad, _ => true
def chSs (T : Nms) (N : List Str) (sc : Scope) (ow : Str → Bool) : Ss → List Stmt → Bool
  | .nil, ps => match ps with
    | [] => true
    | _ => false
  | .cons s r, ps => match ps with
    | p :: ps => chS T N sc ow s p && chSs T N sc ow r ps
    | _ => false
end
end CL

/-! CL, part f: expressions: what the run says holds of the model -/
namespace CL
open PySem PySem.Spec PyProof.Rows L2

structure Tab where
  G : Prog
  fuel : Nat
  nm : Nms
  ca : Nat → Addr
  fa : Nat → Addr
  fdt : Nat → FuncData
  psn : Nat → List Str
def Tab.cx (T : Tab) (d : Nat) : Ctx := cxN T.G T.fuel d
/-- a def's promise: what the run says -/
def spF (K : PySem.W.Frag) (T : Tab) (run : List Val → Store → Res Val) (np : Nat) : Sp := fun vs H Q _ => vs.length = np ∧ ∃ (io : Nat → Addr) (st : Store) (us : List Val) (v : Val) (st' : Store),
  Rl K T.G.kt T.ca io st H ∧ RVs K T.G.kt io st.n H us vs ∧ run us st = .ok v st' ∧ Post K T.G.kt T.ca io st H v st' Q
/-- what the top has left -/
structure Top (T : Tab) (K : PySem.W.Frag) (mg : Str → Option Value) : Prop where
  bf : ∀ b : Bf, mg (bfName b) = none
  isi : mg "isinstance" = none
  ty : ∀ t : Ty, tyB t = true → mg (Str.ofString (tyName t)) = none
  rng : mg "range" = none
  enu : mg "enumerate" = none
  zip : mg "zip" = none
  gl : ∀ g v, T.G.gl g = some v → ∃ u w, mg (T.nm.gl g) = some u ∧ RelV w u ∧ ∀ io n H, RV K T.G.kt io n H v w
  fn : ∀ f fd, T.G.fn f = some fd → Binds K (T.fdt f) (T.psn f) [] ∧ (T.psn f).length = fd.np ∧ (T.nm.isG f = true → mg (T.nm.fn f) = some (.ref (T.fa f)) ∧ PySem.W.keepIn K (.ref (T.fa f)) = true)
  mt : ∀ c m f, T.G.mt c m = some f → Cls K (T.ca c) ∧ Meth K (T.ca c) m (T.fa f) ∧ ∃ fd, T.G.fn f = some fd
  ini : ∀ c f, T.G.ini c = some f → mg (T.nm.cl c) = some (.ref (T.ca c)) ∧ Mk K (T.ca c) (T.fa f) ∧ ∃ fd, T.G.fn f = some fd
  fl : ∀ c f, T.G.fl c f = true → Cls K (T.ca c) ∧ NoAttr K (T.ca c) f
def Fns (T : Tab) (X : Cx) (d : Nat) : Prop := ∀ f fd, T.G.fn f = some fd → FnOk X.prog X.w X.K X.mg X.base CX0 d (T.fa f) (T.fdt f) (T.psn f) (spF X.K T (callN T.G T.fuel d f) (T.psn f).length)
structure At (T : Tab) (d : Nat) (X : Cx) (N : List Str) (sc : Scope) (ow : Str → Bool) : Prop where
  top : Top T X.K X.mg
  fns : ∀ e, e ≤ d → Fns T X e
  hN : X.N = N
  nd : N.Nodup
  hsc : X.env.scope = sc
  kind : sc.kind = .function
  how : ∀ x, ow x = true → X.fn x = true
  calm : X.calm = true
  room : Room d X.A
/-- slots -/
def RS (K : PySem.W.Frag) (kt : List (List Val)) (io : Nat → Addr) (n : Nat) (H : Hp) (s : Env) (t : L2.St) : Prop :=
  s.length = t.length ∧ ∀ (i : Nat) (v : Val), s[i]? = some (some v) → ∃ w, t[i]? = some (some w) ∧ RV K kt io n H v w
theorem RS.up {K : PySem.W.Frag} {kt : List (List Val)} {io io' : Nat → Addr} {n n' : Nat} {H H' : Hp} {s : Env} {t : L2.St} (u : Up io n H io' n' H') (h : RS K kt io n H s t) : RS K kt io' n' H' s t :=
  ⟨h.1, fun i v e => let ⟨w, e', r⟩ := h.2 i v e; ⟨w, e', r.up u⟩⟩
theorem RS.set {K : PySem.W.Frag} {kt : List (List Val)} {io : Nat → Addr} {n : Nat} {H : Hp} {s : Env} {t : L2.St} (h : RS K kt io n H s t) {v : Val} {w : V} (r : RV K kt io n H v w) (i : Nat) : RS K kt io n H (s.set i (some v)) (t.set i (some w)) := by
  refine ⟨by rw [List.length_set, List.length_set]; exact h.1, fun j u e => ?_⟩
  by_cases hj : i = j
  · subst hj
    rw [List.getElem?_set] at e ⊢
    rw [← h.1]
    split at e
    · split at e
      · cases e; rename_i h1 h2; rw [if_pos rfl, if_pos h2]; exact ⟨w, rfl, r⟩
      · cases e
    · rename_i h1; exact absurd rfl h1
  · rw [List.getElem?_set_ne hj] at e ⊢
    exact h.2 j u e
def PostA (K : PySem.W.Frag) (kt : List (List Val)) (ca io : Nat → Addr) (st : Store) (H : Hp) (vs : List Val) (st' : Store) (Q : List V → Hp → Prop) : Prop :=
  ∀ (io' : Nat → Addr) (H' : Hp) (ws : List V), Up io st.n H io' st'.n H' → Rl K kt ca io' st' H' → RVs K kt io' st'.n H' vs ws → Q ws H'
def PostB (K : PySem.W.Frag) (kt : List (List Val)) (ca io : Nat → Addr) (st : Store) (H : Hp) (k : Bool) (st' : Store) (Q : Bool → Hp → Prop) : Prop :=
  ∀ (io' : Nat → Addr) (H' : Hp), Up io st.n H io' st'.n H' → Rl K kt ca io' st' H' → Q k H'
theorem Post.after {K : PySem.W.Frag} {kt : List (List Val)} {ca io io1 : Nat → Addr} {st st1 st' : Store} {H H1 : Hp} {v : Val} {Q : VK} (p : Post K kt ca io st H v st' Q) (u : Up io st.n H io1 st1.n H1) : Post K kt ca io1 st1 H1 v st' Q :=
  fun io' H' w u' R r => p io' H' w (u.trans u') R r
theorem PostA.after {K : PySem.W.Frag} {kt : List (List Val)} {ca io io1 : Nat → Addr} {st st1 st' : Store} {H H1 : Hp} {v : List Val} {Q : List V → Hp → Prop} (p : PostA K kt ca io st H v st' Q) (u : Up io st.n H io1 st1.n H1) : PostA K kt ca io1 st1 H1 v st' Q :=
  fun io' H' w u' R r => p io' H' w (u.trans u') R r
theorem PostB.after {K : PySem.W.Frag} {kt : List (List Val)} {ca io io1 : Nat → Addr} {st st1 st' : Store} {H H1 : Hp} {v : Bool} {Q : Bool → Hp → Prop} (p : PostB K kt ca io st H v st' Q) (u : Up io st.n H io1 st1.n H1) : PostB K kt ca io1 st1 H1 v st' Q :=
  fun io' H' u' R => p io' H' (u.trans u') R
def aSem (X : Cx) (es : List Expr) : TA := fun σ H Q => ∀ (pos : Pos) (pins : List (Addr × Obj)) (s : Shared), Inv X pins σ H s → wpAny (model X.prog X.w) X.A (spliced (backTo pos (starEach es X.env))) (AP X pins σ Q) X.xe s
theorem pa_sem {X : Cx} {es : List Expr} : PA X es (aSem X es) := ⟨fun pos pins s σ H Q I h => h pos pins s I⟩

/-- an expression's run holds of the model -/
def SE (T : Tab) (d : Nat) (N : List Str) (e : E) : Prop := ∀ (X : Cx) (sc : Scope) (ow : Str → Bool) (p : Expr), At T d X N sc ow → chE T.nm N e sc p = true →
  ∀ (s : Env) (st : Store) (v : Val) (st' : Store) (io : Nat → Addr) (H : Hp) (t : L2.St) (Q : VK), RS X.K T.G.kt io st.n H s t → Rl X.K T.G.kt T.ca io st H → ev (T.cx d) e s st = .ok v st' →
    Post X.K T.G.kt T.ca io st H v st' Q → tSem X p t H Q
def SA (T : Tab) (d : Nat) (N : List Str) (es : Es) : Prop := ∀ (X : Cx) (sc : Scope) (ow : Str → Bool) (ps : List Expr), At T d X N sc ow → chEs T.nm N es sc ps = true →
  ∀ (s : Env) (st : Store) (vs : List Val) (st' : Store) (io : Nat → Addr) (H : Hp) (t : L2.St) (Q : List V → Hp → Prop), RS X.K T.G.kt io st.n H s t → Rl X.K T.G.kt T.ca io st H → evs (T.cx d) es s st = .ok vs st' →
    PostA X.K T.G.kt T.ca io st H vs st' Q → aSem X ps t H Q
def SB (T : Tab) (d : Nat) (N : List Str) (b : B) : Prop := ∀ (X : Cx) (sc : Scope) (ow : Str → Bool) (p : Expr), At T d X N sc ow → chB T.nm N b sc p = true →
  ∀ (s : Env) (st : Store) (k : Bool) (st' : Store) (io : Nat → Addr) (H : Hp) (t : L2.St) (Q : Bool → Hp → Prop), RS X.K T.G.kt io st.n H s t → Rl X.K T.G.kt T.ca io st H → ts (T.cx d) b s st = .ok k st' →
    PostB X.K T.G.kt T.ca io st H k st' Q → bSem X p t H Q

section
variable {T : Tab} {d : Nat} {N : List Str}
theorem chEs_star : ∀ {es : Es} {sc : Scope} {ps : List Expr}, chEs T.nm N es sc ps = true → ps.all nostar = true
  | .nil, sc, ps, h => by
    simp only [chEs] at h
    split at h
    · rfl
    · cases h
  | .cons e es, sc, ps, h => by
    simp only [chEs] at h
    split at h
    · rename_i p r
      simp only [Bool.and_eq_true] at h
      rw [List.all_cons, h.1.2, chEs_star h.2]; rfl
    · cases h
theorem sa_nil : SA T d N .nil := by
  intro X sc ow ps A hc s st vs st' io H t Q rs R e p
  simp only [chEs] at hc
  split at hc
  · simp only [evs] at e
    cases e
    intro pos pins sh I
    exact pa_nil.run pos pins sh t H Q I (p io H [] (.refl _ _ _) R .nil)
  · cases hc
theorem sa_cons {a : E} {es : Es} (ha : SE T d N a) (hs : SA T d N es) : SA T d N (.cons a es) := by
  intro X sc ow ps A hc s st vs st' io H t Q rs R e p
  simp only [chEs] at hc
  split at hc
  · rename_i q r
    simp only [Bool.and_eq_true] at hc
    simp only [evs] at e
    obtain ⟨v, st1, e1, e⟩ := bind_eq_ok.mp e
    obtain ⟨ws, st2, e2, e⟩ := bind_eq_ok.mp e
    cases e
    intro pos pins sh I
    refine (pa_cons pe_sem pa_sem (star_cons hc.1.2)).run pos pins sh t H Q I ?_
    refine ha X sc ow q A hc.1.1 s st v st1 io H t _ rs R e1 fun io1 H1 w u1 R1 r1 => ?_
    refine hs X sc ow r A hc.2 s st1 ws _ io1 H1 t _ (rs.up u1) R1 e2 fun io2 H2 w2 u2 R2 r2 => ?_
    exact p io2 H2 _ (u1.trans u2) R2 (.cons (r1.up u2) r2)
  · cases hc
theorem se_v {i : Nat} : SE T d N (.v i) := by
  intro X sc ow q A hc s st v st' io H t Q rs R e p
  simp only [chE] at hc
  split at hc
  · rename_i x pos
    unfold rdB at hc
    simp only [Bool.and_eq_true, decide_eq_true_eq] at hc
    simp only [ev] at e
    split at e
    · rename_i v' e1
      cases e
      obtain ⟨w, e2, r⟩ := rs.2 i v e1
      intro pins sh I
      exact (pe_var (by rw [A.hN]; exact hc.1.1) (by rw [A.hsc]; exact visB_ok hc.1.2) (debB_ok hc.2).1 (debB_ok hc.2).2).run pins sh t H Q I ⟨w, e2, p.here R r⟩
    · cases e
  · cases hc
theorem se_int {i : Int} : SE T d N (.int i) := by
  intro X sc ow q A hc s st v st' io H t Q rs R e p
  simp only [chE] at hc
  split at hc
  · simp only [decide_eq_true_eq] at hc
    subst hc
    simp only [ev] at e
    cases e
    intro pins sh I
    exact pe_int.run pins sh t H Q I (p.here R (.int _))
  · cases hc
theorem se_str {x : Str} : SE T d N (.str x) := by
  intro X sc ow q A hc s st v st' io H t Q rs R e p
  simp only [chE] at hc
  split at hc
  · simp only [decide_eq_true_eq] at hc
    subst hc
    simp only [ev] at e
    cases e
    intro pins sh I
    exact pe_str.run pins sh t H Q I (p.here R (.str _))
  · cases hc
theorem se_bl {b : Bool} : SE T d N (.bl b) := by
  intro X sc ow q A hc s st v st' io H t Q rs R e p
  simp only [chE] at hc
  split at hc
  · simp only [beq_iff_eq] at hc
    subst hc
    simp only [ev] at e
    cases e
    intro pins sh I
    exact pe_bl.run pins sh t H Q I (p.here R (.bl _))
  · cases hc
theorem se_non : SE T d N .non := by
  intro X sc ow q A hc s st v st' io H t Q rs R e p
  simp only [chE] at hc
  split at hc
  · simp only [ev] at e
    cases e
    intro pins sh I
    exact pe_non.run pins sh t H Q I (p.here R .non)
  · cases hc
theorem gB_ok {sc : Scope} {x y : Str} (h : gB sc x y = true) : x = y ∧ sc.names.lookup x = some .globalImplicit ∧ (x == ("__debug__" : Str)) = false := by
  unfold gB at h
  simp only [Bool.and_eq_true, decide_eq_true_eq] at h
  exact ⟨h.1.1, glB_ok h.1.2, (debB_ok h.2).1⟩
theorem At.gl {X : Cx} {sc : Scope} {ow : Str → Bool} (A : At T d X N sc ow) {x y : Str} (h : gB sc x y = true) : Gl X x := by
  show X.env.scope.names.lookup x = _
  rw [A.hsc]; exact (gB_ok h).2.1
theorem se_gl {g : Nat} : SE T d N (.gl g) := by
  intro X sc ow q A hc s st v st' io H t Q rs R e p
  simp only [chE] at hc
  split at hc
  · simp only [ev] at e
    split at e
    · rename_i v' e1
      cases e
      have e1 : T.G.gl g = some v := e1
      obtain ⟨u, w, h1, h2, h3⟩ := A.top.gl g v e1
      obtain ⟨rfl, _, hd⟩ := gB_ok hc
      intro pins sh I
      exact (pe_glob (A.gl hc) h1 h2 hd).run pins sh t H Q I (p.here R (h3 _ _ _))
    · cases e
  · cases hc
theorem se_tup {es : Es} (h : SA T d N es) : SE T d N (.tup es) := by
  intro X sc ow q A hc s st v st' io H t Q rs R e p
  simp only [chE] at hc
  split at hc
  · simp only [ev] at e
    obtain ⟨vs, st1, e1, e⟩ := bind_eq_ok.mp e
    unfold mkT at e
    split at e
    · rename_i hf
      cases e
      intro pins sh I
      refine (pe_tup pa_sem).run pins sh t H Q I ?_
      refine h X sc ow _ A hc s st vs _ io H t _ rs R e1 fun io1 H1 ws u1 R1 r1 => ⟨by rw [← r1.length]; exact fits_le hf, fun a ha => (p.after u1).tup R1 r1 a ha⟩
    · cases e
  · cases hc
theorem se_lst {es : Es} (h : SA T d N es) : SE T d N (.lst es) := by
  intro X sc ow q A hc s st v st' io H t Q rs R e p
  simp only [chE] at hc
  split at hc
  · simp only [ev] at e
    obtain ⟨vs, st1, e1, e⟩ := bind_eq_ok.mp e
    unfold mkL at e
    split at e
    · rename_i hf
      cases e
      intro pins sh I
      refine (pe_lst pa_sem).run pins sh t H Q I ?_
      refine h X sc ow _ A hc s st vs _ io H t _ rs R e1 fun io1 H1 ws u1 R1 r1 => ⟨by rw [← r1.length]; exact fits_le hf, fun a ha => (p.after u1).list R1 r1 a ha⟩
    · cases e
  · cases hc
theorem se_neg {a : E} (h : SE T d N a) : SE T d N (.neg a) := by
  intro X sc ow q A hc s st v st' io H t Q rs R e p
  simp only [chE] at hc
  split at hc
  · simp only [ev] at e
    obtain ⟨x, st1, e1, e⟩ := bind_eq_ok.mp e
    split at e
    · cases e
      intro pins sh I
      refine (pe_un un_neg pe_sem).run pins sh t H Q I ?_
      refine h X sc ow _ A hc s st _ _ io H t _ rs R e1 fun io1 H1 w u1 R1 r1 => ?_
      obtain rfl := r1.iint
      exact ⟨_, rfl, (p.after u1).here R1 (.int _)⟩
    · cases e
  · cases hc
theorem se_bin {o : Bop} {a b : E} (ha : SE T d N a) (hb : SE T d N b) : SE T d N (.bin o a b) := by
  intro X sc ow q A hc s st v st' io H t Q rs R e p
  simp only [chE] at hc
  split at hc
  · simp only [Bool.and_eq_true, decide_eq_true_eq] at hc
    obtain ⟨⟨rfl, c1⟩, c2⟩ := hc
    simp only [ev] at e
    obtain ⟨x, st1, e1, e⟩ := bind_eq_ok.mp e
    obtain ⟨y, st2, e2, e⟩ := bind_eq_ok.mp e
    intro pins sh I
    refine (pe_op op_sem pe_sem pe_sem).run pins sh t H Q I ?_
    refine ha X sc ow _ A c1 s st x st1 io H t _ rs R e1 fun io1 H1 w u1 R1 r1 => ?_
    refine hb X sc ow _ A c2 s st1 y st2 io1 H1 t _ (rs.up u1) R1 e2 fun io2 H2 w2 u2 R2 r2 => ?_
    exact bop_ok R2 (r1.up u2) r2 e (p.after (u1.trans u2))
  · cases hc
theorem At.hu {X : Cx} {sc : Scope} {ow : Str → Bool} (A : At T d X N sc ow) : X.A.units + 65 < cLine := by have := A.room.un; omega
theorem noset_in {p : Expr} (h : noset p = true) (op : CmpOp) : behindInMarks op p = false := by
  cases p <;> first | rfl | cases h
/-- a comparison's reading, as a value and as a test -/
theorem cmp_read {o : Cop} {a b : E} (ha : SE T d N a) (hb : SE T d N b) {X : Cx} {sc : Scope} {ow : Str → Bool} {q r : Expr} (A : At T d X N sc ow) (c1 : chE T.nm N a sc q = true) (c2 : chE T.nm N b sc r = true)
    {s : Env} {st : Store} {v : Val} {st' : Store} {io : Nat → Addr} {H : Hp} {t : L2.St} {Q : VK} (rs : RS X.K T.G.kt io st.n H s t) (R : Rl X.K T.G.kt T.ca io st H) (e : ev (T.cx d) (.cmp o a b) s st = .ok v st')
    (p : Post X.K T.G.kt T.ca io st H v st' Q) : tOp (oSem X (compareOp (copOf o))) (tSem X q) (tSem X r) t H Q := by
  simp only [ev] at e
  obtain ⟨x, st1, e1, e⟩ := bind_eq_ok.mp e
  obtain ⟨y, st2, e2, e⟩ := bind_eq_ok.mp e
  refine ha X sc ow _ A c1 s st x st1 io H t _ rs R e1 fun io1 H1 w u1 R1 r1 => ?_
  refine hb X sc ow _ A c2 s st1 y st2 io1 H1 t _ (rs.up u1) R1 e2 fun io2 H2 w2 u2 R2 r2 => ?_
  exact cop_ok A.hu R2 (r1.up u2) r2 e (p.after (u1.trans u2))
theorem se_cmp {o : Cop} {a b : E} (ha : SE T d N a) (hb : SE T d N b) : SE T d N (.cmp o a b) := by
  intro X sc ow q A hc s st v st' io H t Q rs R e p
  simp only [chE] at hc
  split at hc
  · simp only [Bool.and_eq_true, decide_eq_true_eq] at hc
    obtain ⟨⟨⟨rfl, c1⟩, c2⟩, c3⟩ := hc
    intro pins sh I
    exact (pe_cmpR op_sem pe_sem pe_sem (noset_in c3 _)).run pins sh t H Q I (cmp_read ha hb A c1 c2 rs R e p)
  · cases hc
theorem cop_bl {kt : List (List Val)} {o : Cop} {x y v : Val} {st st' : Store} (e : cop kt o x y st = .ok v st') : ∃ k, v = .bl k ∧ st' = st := by
  unfold cop at e
  split at e
  · split at e
    · cases e; exact ⟨_, rfl, rfl⟩
    · split at e
      · cases e; exact ⟨_, rfl, rfl⟩
      · cases e
  · obtain ⟨k, _, h, h'⟩ := okB_inv e; exact ⟨k, h, h'⟩
  · obtain ⟨k, _, h, h'⟩ := okB_inv e; exact ⟨k, h, h'⟩
  · obtain ⟨k, _, h, h'⟩ := okB_inv e; exact ⟨k, h, h'⟩
  all_goals (split at e <;> cases e; exact ⟨_, rfl, rfl⟩)
theorem cm2_read {o o2 : Cop} {a b c : E} (ha : SE T d N a) (hb : SE T d N b) (hd : SE T d N c) {X : Cx} {sc : Scope} {ow : Str → Bool} {q r z : Expr} (A : At T d X N sc ow) (c1 : chE T.nm N a sc q = true) (c2 : chE T.nm N b sc r = true) (c3 : chE T.nm N c sc z = true)
    {s : Env} {st : Store} {v : Val} {st' : Store} {io : Nat → Addr} {H : Hp} {t : L2.St} {Q : VK} (rs : RS X.K T.G.kt io st.n H s t) (R : Rl X.K T.G.kt T.ca io st H) (e : ev (T.cx d) (.cm2 o o2 a b c) s st = .ok v st')
    (p : Post X.K T.G.kt T.ca io st H v st' Q) : tChain (oSem X (compareOp (copOf o))) (oSem X (compareOp (copOf o2))) (tSem X q) (tSem X r) (tSem X z) t H Q := by
  simp only [ev] at e
  obtain ⟨x, st1, e1, e⟩ := bind_eq_ok.mp e
  obtain ⟨y, st2, e2, e⟩ := bind_eq_ok.mp e
  obtain ⟨m, st3, e3, e⟩ := bind_eq_ok.mp e
  refine ha X sc ow _ A c1 s st x st1 io H t _ rs R e1 fun io1 H1 w u1 R1 r1 => ?_
  refine hb X sc ow _ A c2 s st1 y st2 io1 H1 t _ (rs.up u1) R1 e2 fun io2 H2 w2 u2 R2 r2 => ?_
  refine cop_ok A.hu R2 (r1.up u2) r2 e3 fun io3 H3 w3 u3 R3 r3 => ?_
  have U := (u1.trans u2).trans u3
  split at e
  · obtain rfl := r3.ibl
    refine ⟨true, rfl, ?_⟩
    rw [if_pos rfl]
    obtain ⟨f, st4, e4, e⟩ := bind_eq_ok.mp e
    refine hd X sc ow _ A c3 s st3 f st4 io3 H3 t _ (rs.up U) R3 e4 fun io4 H4 w4 u4 R4 r4 => ?_
    exact cop_ok A.hu R4 (r2.up (u3.trans u4)) r4 e (p.after (U.trans u4))
  · obtain rfl := r3.ibl
    cases e
    refine ⟨false, rfl, ?_⟩
    rw [if_neg (by decide)]
    exact (p.after U).here R3 (.bl _)
  · cases e
theorem last_of {r z : Expr} {o o' : CmpOp} (h : noset z = true) : lastMarks [o, o'] [r, z] = false := noset_in h o'
theorem se_cm2 {o o2 : Cop} {a b c : E} (ha : SE T d N a) (hb : SE T d N b) (hd : SE T d N c) : SE T d N (.cm2 o o2 a b c) := by
  intro X sc ow q A hc s st v st' io H t Q rs R e p
  simp only [chE] at hc
  split at hc
  · simp only [Bool.and_eq_true, decide_eq_true_eq] at hc
    obtain ⟨⟨⟨⟨⟨⟨rfl, rfl⟩, c1⟩, c2⟩, c3⟩, c4⟩, c5⟩ := hc
    intro pins sh I
    exact (pe_chain op_sem op_sem pe_sem pe_sem pe_sem (last_of c5)).run pins sh t H Q I (cm2_read ha hb hd A c1 c2 c3 rs R e p)
  · cases hc
theorem isN_read {a : E} (ha : SE T d N a) {X : Cx} {sc : Scope} {ow : Str → Bool} {q : Expr} (A : At T d X N sc ow) (c1 : chE T.nm N a sc q = true)
    {s : Env} {st : Store} {v : Val} {st' : Store} {io : Nat → Addr} {H : Hp} {t : L2.St} {Q : VK} (rs : RS X.K T.G.kt io st.n H s t) (R : Rl X.K T.G.kt T.ca io st H) (e : ev (T.cx d) (.isN a) s st = .ok v st')
    (p : Post X.K T.G.kt T.ca io st H v st' Q) : tIsN (tSem X q) t H Q := by
  simp only [ev] at e
  obtain ⟨x, st1, e1, e⟩ := bind_eq_ok.mp e
  cases e
  refine ha X sc ow _ A c1 s st x _ io H t _ rs R e1 fun io1 H1 w u1 R1 r1 => ?_
  have q1 := (p.after u1).here R1 (.bl _)
  cases r1 <;> exact q1
theorem noN_read {a : E} (ha : SE T d N a) {X : Cx} {sc : Scope} {ow : Str → Bool} {q : Expr} (A : At T d X N sc ow) (c1 : chE T.nm N a sc q = true)
    {s : Env} {st : Store} {v : Val} {st' : Store} {io : Nat → Addr} {H : Hp} {t : L2.St} {Q : VK} (rs : RS X.K T.G.kt io st.n H s t) (R : Rl X.K T.G.kt T.ca io st H) (e : ev (T.cx d) (.noN a) s st = .ok v st')
    (p : Post X.K T.G.kt T.ca io st H v st' Q) : tNotN (tSem X q) t H Q := by
  simp only [ev] at e
  obtain ⟨x, st1, e1, e⟩ := bind_eq_ok.mp e
  cases e
  refine ha X sc ow _ A c1 s st x _ io H t _ rs R e1 fun io1 H1 w u1 R1 r1 => ?_
  have q1 := (p.after u1).here R1 (.bl _)
  cases r1 <;> exact q1
theorem se_isN {a : E} (ha : SE T d N a) : SE T d N (.isN a) := by
  intro X sc ow q A hc s st v st' io H t Q rs R e p
  simp only [chE] at hc
  split at hc
  · intro pins sh I
    exact (pe_cmp (pc_isN pe_sem)).run pins sh t H Q I (isN_read ha A hc rs R e p)
  · cases hc
theorem se_noN {a : E} (ha : SE T d N a) : SE T d N (.noN a) := by
  intro X sc ow q A hc s st v st' io H t Q rs R e p
  simp only [chE] at hc
  split at hc
  · intro pins sh I
    exact (pe_cmp (pc_notN pe_sem)).run pins sh t H Q I (noN_read ha A hc rs R e p)
  · cases hc
end
end CL

/-! CL, part g: more expressions; tests -/
namespace CL
open PySem PySem.Spec PyProof.Rows L2
section
variable {T : Tab} {d : Nat} {N : List Str}
/-- what and, or ask of the rest, be it one expression or more -/
theorem and_rest {b : E} (hb : SE T d N b) {X : Cx} {sc : Scope} {ow : Str → Bool} {r : Expr} {t : List Expr} {pos : Pos} {op : BoolOp} (A : At T d X N sc ow)
    (c : (match t with | [] => chE T.nm N b sc r = true | _ => chE T.nm N b sc (.BoolOp op (r :: t) pos) = true))
    {s : Env} {st : Store} {v : Val} {st' : Store} {io : Nat → Addr} {H : Hp} {t' : L2.St} {Q : VK} (rs : RS X.K T.G.kt io st.n H s t') (R : Rl X.K T.G.kt T.ca io st H) (e : ev (T.cx d) b s st = .ok v st')
    (p : Post X.K T.G.kt T.ca io st H v st' Q) : tSem X (.BoolOp op (r :: t) pos) t' H Q := by
  cases t with
  | nil =>
    intro pins sh I
    exact (pe_one pe_sem).run pins sh t' H Q I (hb X sc ow r A c s st v st' io H t' Q rs R e p)
  | cons t1 t2 => exact hb X sc ow _ A c s st v st' io H t' Q rs R e p
theorem se_and {a b : E} (ha : SE T d N a) (hb : SE T d N b) : SE T d N (.and a b) := by
  intro X sc ow q A hc s st v st' io H t Q rs R e p
  simp only [ev] at e
  obtain ⟨x, st1, e1, e⟩ := bind_eq_ok.mp e
  have go : ∀ (q1 r : Expr) (u : List Expr) (pos : Pos), chE T.nm N a sc q1 = true → (match u with | [] => chE T.nm N b sc r = true | _ => chE T.nm N b sc (.BoolOp .And (r :: u) pos) = true) → tSem X (.BoolOp .And (q1 :: r :: u) pos) t H Q := by
    intro q1 r u pos c1 c2 pins sh I
    refine (pe_and pe_sem pe_sem).run pins sh t H Q I ?_
    refine ha X sc ow q1 A c1 s st x st1 io H t _ rs R e1 fun io1 H1 w u1 R1 r1 => ?_
    split at e
    · obtain rfl := r1.ibl
      refine ⟨true, rfl, ?_⟩
      rw [if_pos rfl]
      exact and_rest hb A c2 (rs.up u1) R1 e (p.after u1)
    · obtain rfl := r1.ibl
      cases e
      refine ⟨false, rfl, ?_⟩
      rw [if_neg (by decide)]
      exact (p.after u1).here R1 (.bl _)
    · cases e
  simp only [chE] at hc
  split at hc
  · rw [Bool.and_eq_true] at hc; exact go _ _ [] _ hc.1 hc.2
  · rw [Bool.and_eq_true] at hc; exact go _ _ (_ :: _) _ hc.1 hc.2
  · cases hc
theorem se_or {a b : E} (ha : SE T d N a) (hb : SE T d N b) : SE T d N (.or a b) := by
  intro X sc ow q A hc s st v st' io H t Q rs R e p
  simp only [ev] at e
  obtain ⟨x, st1, e1, e⟩ := bind_eq_ok.mp e
  have go : ∀ (q1 r : Expr) (u : List Expr) (pos : Pos), chE T.nm N a sc q1 = true → (match u with | [] => chE T.nm N b sc r = true | _ => chE T.nm N b sc (.BoolOp .Or (r :: u) pos) = true) → tSem X (.BoolOp .Or (q1 :: r :: u) pos) t H Q := by
    intro q1 r u pos c1 c2 pins sh I
    refine (pe_or pe_sem pe_sem).run pins sh t H Q I ?_
    refine ha X sc ow q1 A c1 s st x st1 io H t _ rs R e1 fun io1 H1 w u1 R1 r1 => ?_
    split at e
    · obtain rfl := r1.ibl
      cases e
      refine ⟨true, rfl, ?_⟩
      rw [if_pos rfl]
      exact (p.after u1).here R1 (.bl _)
    · obtain rfl := r1.ibl
      refine ⟨false, rfl, ?_⟩
      rw [if_neg (by decide)]
      exact and_rest hb A c2 (rs.up u1) R1 e (p.after u1)
    · cases e
  simp only [chE] at hc
  split at hc
  · rw [Bool.and_eq_true] at hc; exact go _ _ [] _ hc.1 hc.2
  · rw [Bool.and_eq_true] at hc; exact go _ _ (_ :: _) _ hc.1 hc.2
  · cases hc
theorem se_not {a : E} (ha : SE T d N a) : SE T d N (.not a) := by
  intro X sc ow q A hc s st v st' io H t Q rs R e p
  simp only [chE] at hc
  split at hc
  · simp only [ev] at e
    obtain ⟨x, st1, e1, e⟩ := bind_eq_ok.mp e
    split at e
    · cases e
      intro pins sh I
      refine (pe_not pe_sem).run pins sh t H Q I ?_
      refine ha X sc ow _ A hc s st _ _ io H t _ rs R e1 fun io1 H1 w u1 R1 r1 => ?_
      obtain rfl := r1.ibl
      exact ⟨_, rfl, (p.after u1).here R1 (.bl _)⟩
    · cases e
  · cases hc
theorem se_ite {c : B} {a b : E} (hc' : SB T d N c) (ha : SE T d N a) (hb : SE T d N b) : SE T d N (.ite c a b) := by
  intro X sc ow q A hc s st v st' io H t Q rs R e p
  simp only [chE] at hc
  split at hc
  · simp only [Bool.and_eq_true] at hc
    simp only [ev] at e
    obtain ⟨k, st1, e1, e⟩ := bind_eq_ok.mp e
    intro pins sh I
    refine (pe_ifExp pt_sem pe_sem pe_sem).run pins sh t H Q I ?_
    refine hc' X sc ow _ A hc.1.1 s st k st1 io H t _ rs R e1 fun io1 H1 u1 R1 => ?_
    cases k with
    | true =>
      rw [if_pos rfl]
      exact ha X sc ow _ A hc.1.2 s st1 v st' io1 H1 t Q (rs.up u1) R1 e (p.after u1)
    | false =>
      rw [if_neg (by decide)]
      exact hb X sc ow _ A hc.2 s st1 v st' io1 H1 t Q (rs.up u1) R1 e (p.after u1)
  · cases hc
theorem se_sub {a b : E} (ha : SE T d N a) (hb : SE T d N b) : SE T d N (.sub a b) := by
  intro X sc ow q A hc s st v st' io H t Q rs R e p
  simp only [chE] at hc
  split at hc
  · simp only [Bool.and_eq_true] at hc
    simp only [ev] at e
    obtain ⟨x, st1, e1, e⟩ := bind_eq_ok.mp e
    obtain ⟨y, st2, e2, e⟩ := bind_eq_ok.mp e
    intro pins sh I
    refine (pe_ix ix_sem pe_sem pe_sem (plain_ix hc.2)).run pins sh t H Q I ?_
    refine ha X sc ow _ A hc.1.1 s st x st1 io H t _ rs R e1 fun io1 H1 w u1 R1 r1 => ?_
    refine hb X sc ow _ A hc.1.2 s st1 y st2 io1 H1 t _ (rs.up u1) R1 e2 fun io2 H2 w2 u2 R2 r2 => ?_
    exact sub_ok A.hu R2 (r1.up u2) r2 e (p.after (u1.trans u2))
  · cases hc
/-- a slice's part -/
def pSem (X : Cx) (e : Option Expr) : TO := fun σ H Q => ∀ (pins : List (Addr × Obj)) (s : Shared), Inv X pins σ H s → wpAny (model X.prog X.w) X.A (evalPart e X.env) (fun u s' => ∃ o H', Inv X pins σ H' s' ∧ IsPart u o ∧ Q o H') X.xe s
theorem po_sem {X : Cx} {e : Option Expr} : PO X e (pSem X e) := ⟨fun pins s σ H Q I h => h pins s I⟩
def SO (T : Tab) (d : Nat) (N : List Str) (e : Eo) : Prop := ∀ (X : Cx) (sc : Scope) (ow : Str → Bool) (p : Option Expr), At T d X N sc ow → chO T.nm N e sc p = true →
  ∀ (s : Env) (st : Store) (v : Option Val) (o : Option Int) (st' : Store) (io : Nat → Addr) (H : Hp) (t : L2.St) (Q : Option Int → Hp → Prop), RS X.K T.G.kt io st.n H s t → Rl X.K T.G.kt T.ca io st H → evo (T.cx d) e s st = .ok v st' → part v = some o →
    (∀ (io' : Nat → Addr) (H' : Hp), Up io st.n H io' st'.n H' → Rl X.K T.G.kt T.ca io' st' H' → Q o H') → pSem X p t H Q
theorem so_no : SO T d N .no := by
  intro X sc ow q A hc s st v o st' io H t Q rs R e eo p
  simp only [chO] at hc
  split at hc
  · simp only [evo] at e
    cases e
    cases eo
    intro pins sh I
    exact po_none.run pins sh t H Q I (p io H (.refl _ _ _) R)
  · cases hc
theorem so_so {a : E} (ha : SE T d N a) : SO T d N (.so a) := by
  intro X sc ow q A hc s st v o st' io H t Q rs R e eo p
  simp only [chO] at hc
  split at hc
  · simp only [evo] at e
    obtain ⟨x, st1, e1, e⟩ := bind_eq_ok.mp e
    cases e
    intro pins sh I
    refine (po_some pe_sem).run pins sh t H Q I ?_
    refine ha X sc ow _ A hc s st x _ io H t _ rs R e1 fun io1 H1 w u1 R1 r1 => ?_
    cases r1 with
    | int i => cases eo; exact ⟨i, rfl, p io1 H1 u1 R1⟩
    | _ => cases eo
  · cases hc
theorem se_cut {a : E} {lo hi : Eo} (ha : SE T d N a) (hl : SO T d N lo) (hh : SO T d N hi) : SE T d N (.cut a lo hi) := by
  intro X sc ow q A hc s st v st' io H t Q rs R e p
  simp only [chE] at hc
  split at hc
  · simp only [Bool.and_eq_true] at hc
    simp only [ev] at e
    obtain ⟨x, st1, e1, e⟩ := bind_eq_ok.mp e
    obtain ⟨l, st2, e2, e⟩ := bind_eq_ok.mp e
    obtain ⟨h, st3, e3, e⟩ := bind_eq_ok.mp e
    have hp : ∃ ol oh, part l = some ol ∧ part h = some oh := by
      unfold cutV at e
      split at e
      · rename_i ol oh el eh; exact ⟨ol, oh, el, eh⟩
      · cases e
    obtain ⟨ol, oh, el, eh⟩ := hp
    intro pins sh I
    refine (pe_slice sl_sem pe_sem po_sem po_sem).run pins sh t H Q I ?_
    refine ha X sc ow _ A hc.1.1 s st x st1 io H t _ rs R e1 fun io1 H1 w u1 R1 r1 => ?_
    refine hl X sc ow _ A hc.1.2 s st1 l ol st2 io1 H1 t _ (rs.up u1) R1 e2 el fun io2 H2 u2 R2 => ?_
    refine hh X sc ow _ A hc.2 s st2 h oh st3 io2 H2 t _ (rs.up (u1.trans u2)) R2 e3 eh fun io3 H3 u3 R3 => ?_
    exact cut_ok R3 (r1.up (u2.trans u3)) el eh e (p.after ((u1.trans u2).trans u3))
  · cases hc
/-- a[lo:hi:k] of a list -/
def tStL (K : PySem.W.Frag) (k : Int) (te : TE) (tl th : L2.St → Hp → (Option Int → Hp → Prop) → Prop) : TE := fun σ H Q => te σ H fun x H1 => tl σ H1 fun lo H2 => th σ H2 fun hi H3 => ∃ a xs, x = .ref a ∧ SqL K H3 a xs ∧ (pickL xs lo hi k).length ≤ sizeLine ∧ ∀ p, H3 p = none → Q (.ref p) (upd H3 p (.lst (pickL xs lo hi k)))
theorem pick_toArray (its : List Value) (lo hi : Option Int) (k : Int) : slicePick its.toArray lo hi (some k) = (pickL its lo hi k).toArray := by
  unfold slicePick pickL
  have e : (fun i : Nat => its.toArray[i]?) = fun i => its[i]? := by funext i; simp
  rw [List.size_toArray, e]
theorem vals_pickN : ∀ (ix : List Nat) {xs : List V} {us : List Value}, Vals xs us → Vals (ix.filterMap (xs[·]?)) (ix.filterMap (us[·]?))
  | [], _, _, _ => .nil
  | i :: r, xs, us, h => by
    rw [List.filterMap_cons, List.filterMap_cons]
    cases e : xs[i]? with
    | none =>
      have : us[i]? = none := by
        rw [List.getElem?_eq_none_iff] at e ⊢
        rw [← h.length]; exact e
      rw [this]; exact vals_pickN r h
    | some x =>
      obtain ⟨u, e2, ru⟩ := h.get e
      rw [e2]; exact .cons ru (vals_pickN r h)
theorem vals_pick {xs : List V} {us : List Value} (h : Vals xs us) (lo hi : Option Int) (k : Int) : Vals (pickL xs lo hi k) (pickL us lo hi k) := by
  unfold pickL
  rw [h.length]
  exact vals_pickN _ h
theorem rvs_pickN {K : PySem.W.Frag} {kt : List (List Val)} {io : Nat → Addr} {n : Nat} {H : Hp} : ∀ (ix : List Nat) {xs : List CL.Val} {ys : List V}, RVs K kt io n H xs ys → RVs K kt io n H (ix.filterMap (xs[·]?)) (ix.filterMap (ys[·]?))
  | [], _, _, _ => .nil
  | i :: r, xs, ys, h => by
    rw [List.filterMap_cons, List.filterMap_cons]
    cases e : xs[i]? with
    | none =>
      have : ys[i]? = none := by
        rw [List.getElem?_eq_none_iff] at e ⊢
        rw [← h.length]; exact e
      rw [this]; exact rvs_pickN r h
    | some x =>
      obtain ⟨u, e2, ru⟩ := h.get e
      rw [e2]; exact .cons ru (rvs_pickN r h)
theorem rvs_pick {K : PySem.W.Frag} {kt : List (List Val)} {io : Nat → Addr} {n : Nat} {H : Hp} {xs : List CL.Val} {ys : List V} (h : RVs K kt io n H xs ys) (lo hi : Option Int) (k : Int) : RVs K kt io n H (pickL xs lo hi k) (pickL ys lo hi k) := by
  unfold pickL
  rw [h.length]
  exact rvs_pickN _ h
theorem pe_stepL {X : Cx} {e : Expr} {lo hi : Option Expr} {st : Expr} {k : Int} {te : TE} {tl th : L2.St → Hp → (Option Int → Hp → Prop) → Prop} {p3 pos : Pos} (he : PE X e te) (hl : PO X lo tl) (hh : PO X hi th)
    (hk : k ≠ 0) (hst : ∀ (pins : List (Addr × Obj)) (s : Shared) (σ : L2.St) (H : Hp), Inv X pins σ H s → wpAny (model X.prog X.w) X.A (eval st X.env) (fun v s' => Inv X pins σ H s' ∧ IsPart v (some k)) X.xe s)
    (htl : ∀ (a b : Addr), subscripted (.Slice lo hi (some st) p3) false (.ref a) (.ref b) = operate [.ref a, .ref b] (getItem (.ref a) (.ref b))) :
    PE X (.Subscript e (.Slice lo hi (some st) p3) pos) (tStL X.K k te tl th) := by
  refine ⟨fun pins s σ H Q I h => ?_⟩
  refine Subscript_ (thn (he.run pins s σ H _ I h) fun v s1 ⟨x, H1, I1, r1, q1⟩ => ?_)
  refine wpAny_Slice (thn (hl.run pins s1 σ H1 _ I1 q1) fun vl s2 ⟨l, H2, I2, pl, q2⟩ => ?_)
  refine thn (hh.run pins s2 σ H2 _ I2 q2) fun vu s3 ⟨u, H3, I3, pu, a, xs, ex, hx, hz3, q⟩ => ?_
  subst ex
  cases r1
  refine thn (hst pins s3 σ H3 I3) fun vs s4 ⟨I4, ps⟩ => ?_
  have I5 : Inv X pins σ H3 { s4 with heap := s4.heap.push { cls := .type "slice", data := .fields #[vl, vu, vs] } } := I4.kept (t' := s4.toks) fun b ob q => Heap.get?_push_of_some _ q
  obtain ⟨its, r, ht, hz⟩ := I5.list hx
  have hlen := r.length
  show wpAny (model X.prog X.w) X.A (subscriptTail e (.Slice lo hi (some st) p3) (.ref a) (.ref s4.heap.objs.size)) (EP X pins σ Q) X.xe { s4 with heap := s4.heap.push { cls := .type "slice", data := .fields #[vl, vu, vs] } }
  refine tail_any (ops := [.ref a, .ref s4.heap.objs.size]) ht.isList.typeIs (PySem.slot_list_getitem.lookup) ?_ (htl _ _)
  refine wpAny_getItem_list_slice ht.isList (Heap.IsSliceOf.new _ vl vu vs) pl pu ps (fun z => hk (Option.some.inj z)) ?_ (by rw [List.size_toArray]; omega)
  rw [pick_toArray]
  refine ⟨.ref _, _, I5.laid (t' := s4.toks) (o := .lst (pickL xs l u k)) (fun b ob q => Heap.get?_push_of_some _ q) (Nat.le_refl _) ?_, rfl, q _ (I5.hok.fresh (Nat.le_refl _))⟩
  exact ⟨hz3, _, 0, vals_pick r l u k, Heap.get?_push_size _ rfl⟩
theorem part_int {X : Cx} {j : Int} {m : Nat} {p : Pos} (pins : List (Addr × Obj)) (s : Shared) (σ : L2.St) (H : Hp) (I : Inv X pins σ H s) : wpAny (model X.prog X.w) X.A (eval (.Constant (.int j) m p) X.env) (fun v s' => Inv X pins σ H s' ∧ IsPart v (some j)) X.xe s := by
  have hst : PO X (some (.Constant (.int j) m p)) (tPart (tC (.int j))) := po_some pe_int
  refine thn (hst.run pins s σ H (fun o H4 => o = some j ∧ H4 = H) I ⟨_, rfl, rfl, rfl⟩) fun vs s4 ⟨o, H4, I4, ps, eo, e4⟩ => ?_
  subst eo e4
  exact ⟨I4, ps⟩
theorem part_neg {X : Cx} {j : Int} {m : Nat} {p p2 : Pos} (pins : List (Addr × Obj)) (s : Shared) (σ : L2.St) (H : Hp) (I : Inv X pins σ H s) : wpAny (model X.prog X.w) X.A (eval (.UnaryOp .USub (.Constant (.int j) m p) p2) X.env) (fun v s' => Inv X pins σ H s' ∧ IsPart v (some (-j))) X.xe s := by
  have hst : PO X (some (.UnaryOp .USub (.Constant (.int j) m p) p2)) (tPart (tUn (rU fun i => .int (-i)) (tC (.int j)))) := po_some (pe_un un_neg pe_int)
  refine thn (hst.run pins s σ H (fun o H4 => o = some (-j) ∧ H4 = H) I ⟨j, rfl, -j, rfl, rfl, rfl⟩) fun vs s4 ⟨o, H4, I4, ps, eo, e4⟩ => ?_
  subst eo e4
  exact ⟨I4, ps⟩
theorem se_cut3 {a : E} {lo hi : Eo} {k : Int} (ha : SE T d N a) (hl : SO T d N lo) (hh : SO T d N hi) : SE T d N (.cut3 a lo hi k) := by
  intro X sc ow q A hc s st v st' io H t Q rs R e p
  simp only [chE] at hc
  simp only [ev] at e
  obtain ⟨x, st1, e1, e⟩ := bind_eq_ok.mp e
  obtain ⟨l, st2, e2, e⟩ := bind_eq_ok.mp e
  obtain ⟨h, st3, e3, e⟩ := bind_eq_ok.mp e
  have hp : ∃ ol oh, part l = some ol ∧ part h = some oh := by
    unfold cut3V at e
    split at e
    · rename_i ol oh el eh; exact ⟨ol, oh, el, eh⟩
    · cases e
  obtain ⟨ol, oh, el, eh⟩ := hp
  have fin : ∀ (io3 : Nat → Addr) (H3 : Hp) (w : V), Up io st.n H io3 st3.n H3 → Rl X.K T.G.kt T.ca io3 st3 H3 → RV X.K T.G.kt io3 st3.n H3 x w →
      ∃ a xs, w = .ref a ∧ SqL X.K H3 a xs ∧ (pickL xs ol oh k).length ≤ sizeLine ∧ ∀ p, H3 p = none → Q (.ref p) (upd H3 p (.lst (pickL xs ol oh k))) := by
    intro io3 H3 w u3 R3 r3
    unfold cut3V at e
    rw [el, eh] at e
    simp only at e
    split at e
    · split at e
      · rename_i xs em
        split at e
        · rename_i hf
          cases e
          obtain ⟨rfl, hi'⟩ := r3.iref
          obtain ⟨ys, sl, rs3, _⟩ := R3.list em
          have rp := rvs_pick rs3 ol oh k
          exact ⟨_, ys, rfl, sl, by rw [← rp.length]; exact fits_le hf.2, fun q hq => (p.after u3).list R3 rp q hq⟩
        · cases e
      · cases e
    · cases e
  split at hc
  · simp only [Bool.and_eq_true, decide_eq_true_eq] at hc
    obtain ⟨⟨⟨⟨rfl, hk⟩, c1⟩, c2⟩, c3⟩ := hc
    intro pins sh I
    refine (pe_stepL pe_sem po_sem po_sem hk part_int (fun _ _ => by with_unfolding_all rfl)).run pins sh t H Q I ?_
    refine ha X sc ow _ A c1 s st x st1 io H t _ rs R e1 fun io1 H1 w u1 R1 r1 => ?_
    refine hl X sc ow _ A c2 s st1 l ol st2 io1 H1 t _ (rs.up u1) R1 e2 el fun io2 H2 u2 R2 => ?_
    refine hh X sc ow _ A c3 s st2 h oh st3 io2 H2 t _ (rs.up (u1.trans u2)) R2 e3 eh fun io3 H3 u3 R3 => ?_
    exact fin io3 H3 w ((u1.trans u2).trans u3) R3 (r1.up (u2.trans u3))
  · simp only [Bool.and_eq_true, decide_eq_true_eq] at hc
    obtain ⟨⟨⟨⟨rfl, hk⟩, c1⟩, c2⟩, c3⟩ := hc
    intro pins sh I
    refine (pe_stepL pe_sem po_sem po_sem hk part_neg (fun _ _ => by with_unfolding_all rfl)).run pins sh t H Q I ?_
    refine ha X sc ow _ A c1 s st x st1 io H t _ rs R e1 fun io1 H1 w u1 R1 r1 => ?_
    refine hl X sc ow _ A c2 s st1 l ol st2 io1 H1 t _ (rs.up u1) R1 e2 el fun io2 H2 u2 R2 => ?_
    refine hh X sc ow _ A c3 s st2 h oh st3 io2 H2 t _ (rs.up (u1.trans u2)) R2 e3 eh fun io3 H3 u3 R3 => ?_
    exact fin io3 H3 w ((u1.trans u2).trans u3) R3 (r1.up (u2.trans u3))
  · cases hc
theorem se_fld {a : E} {f : Str} (ha : SE T d N a) : SE T d N (.fld a f) := by
  intro X sc ow q A hc s st v st' io H t Q rs R e p
  simp only [chE] at hc
  split at hc
  · simp only [Bool.and_eq_true, decide_eq_true_eq] at hc
    obtain ⟨⟨rfl, c1⟩, c2⟩ := hc
    simp only [ev] at e
    obtain ⟨x, st1, e1, e⟩ := bind_eq_ok.mp e
    intro pins sh I
    refine (pe_fld pe_sem (base_of c2 _)).run pins sh t H Q I ?_
    refine ha X sc ow _ A c1 s st x st1 io H t _ rs R e1 fun io1 H1 w u1 R1 r1 => ?_
    unfold getF at e
    split at e
    · obtain ⟨rfl, hi⟩ := r1.iref
      split at e
      · rename_i c fs em
        split at e
        · rename_i hf
          split at e
          · rename_i u el
            cases e
            obtain ⟨_, _, dx, gs, h1, rk⟩ := R1.inst em
            obtain ⟨cl, na⟩ := A.top.fl c f hf
            rcases rk.lookup f with ⟨e2, _⟩ | ⟨v', w', e2, e3, rv⟩
            · rw [el] at e2; cases e2
            · rw [el] at e2; cases e2
              exact ⟨_, _, dx, gs, w', rfl, h1, cl, na, e3, (p.after u1).here R1 rv⟩
          · cases e
        · cases e
      · cases e
    · cases e
  · cases hc
/-- a call of a def of the table -/
theorem sp_call {X : Cx} {f : Nat} {io : Nat → Addr} {st st' : Store} {H : Hp} {vs : List Val} {ws : List V} {v : Val} {Q : VK} {E : XK} {d' : Nat} {fd : FDef} (tp : Top T X.K X.mg) (hf : T.G.fn f = some fd)
    (R : Rl X.K T.G.kt T.ca io st H) (r : RVs X.K T.G.kt io st.n H vs ws) (e : callN T.G T.fuel d' f vs st = .ok v st') (p : Post X.K T.G.kt T.ca io st H v st' Q) :
    spF X.K T (callN T.G T.fuel d' f) (T.psn f).length ws H Q E := by
  refine ⟨?_, io, st, vs, v, st', R, r, e, p⟩
  cases d' with
  | zero => cases e
  | succ d' =>
    rw [callN_succ, hf] at e
    simp only at e
    unfold runF at e
    split at e
    · rename_i h; rw [← r.length, h]; exact (tp.fn f fd hf).2.1.symm
    · cases e
theorem call_fn {f : Nat} {vs : List Val} {st st' : Store} {v : Val} {d' : Nat} (e : callN T.G T.fuel d' f vs st = .ok v st') : ∃ fd, T.G.fn f = some fd := by
  cases d' with
  | zero => cases e
  | succ d' =>
    rw [callN_succ] at e
    split at e
    · rename_i fd h; exact ⟨fd, h⟩
    · cases e
theorem se_call {f : Nat} {es : Es} (hs : SA T d N es) : SE T d N (.call f es) := by
  intro X sc ow q A hc s st v st' io H t Q rs R e p
  simp only [chE] at hc
  split at hc
  · rename_i x p1 ps pos
    simp only [Bool.and_eq_true] at hc
    obtain ⟨⟨c1, c2⟩, c3⟩ := hc
    simp only [ev] at e
    obtain ⟨vs, st1, e1, e⟩ := bind_eq_ok.mp e
    have e : callN T.G T.fuel d f vs st1 = .ok v st' := e
    obtain ⟨fd, hf⟩ := call_fn e
    obtain ⟨hb, hl, hg⟩ := A.top.fn f fd hf
    obtain ⟨hm, hk⟩ := hg c2
    obtain ⟨rfl, _, hd⟩ := gB_ok c1
    have F := A.fns d (Nat.le_refl _) f fd hf
    have st_ := chEs_star c3
    intro pins sh I
    have read := hs X sc ow ps A c3 s st vs st1 io H t (fun ws H1 => spF X.K T (callN T.G T.fuel d f) (T.psn f).length (ws ++ []) H1 Q E0) rs R e1 fun io1 H1 ws u1 R1 r1 => by
      simp only [List.append_nil]
      exact sp_call A.top hf R1 r1 e (p.after u1)
    cases ps with
    | nil =>
      have r2 := read pos pins sh I
      refine (pe_call0 F A.room (A.gl c1) hm hk hb .nil pass0 hd).run pins sh t H Q I ?_
      cases es with
      | nil =>
        simp only [evs] at e1
        cases e1
        show spF _ _ _ _ ([] ++ []) H Q E0
        exact sp_call A.top hf R .nil e p
      | cons a b => simp [chEs] at c3
    | cons p2 ps =>
      rw [List.all_cons, Bool.and_eq_true] at st_
      exact (pe_call F A.room (A.gl c1) hm hk hb .nil pass0 pa_sem hd (star_cons st_.1) (star_any st_.2)).run pins sh t H Q I read
  · cases hc
theorem se_make {c : Nat} {es : Es} (hs : SA T d N es) : SE T d N (.make c es) := by
  intro X sc ow q A hc s st v st' io H t Q rs R e p
  simp only [chE] at hc
  split at hc
  · rename_i x p1 ps pos
    simp only [Bool.and_eq_true] at hc
    obtain ⟨c1, c3⟩ := hc
    simp only [ev] at e
    obtain ⟨vs, st1, e1, e⟩ := bind_eq_ok.mp e
    split at e
    · rename_i f hi
      obtain ⟨u, st2, e2, e⟩ := bind_eq_ok.mp e
      split at e
      · cases e
        cases d with
        | zero => cases e2
        | succ d =>
          have e2 : callN T.G T.fuel d f (.ref st1.n :: vs) (st1.new (.ins c [])) = .ok .non st' := e2
          have hi : T.G.ini c = some f := hi
          obtain ⟨hm, M, fd, hf⟩ := A.top.ini c f hi
          obtain ⟨hb, hl, _⟩ := A.top.fn f fd hf
          obtain ⟨rfl, _, hd⟩ := gB_ok c1
          have F := A.fns d (Nat.le_succ _) f fd hf
          have st_ := chEs_star c3
          have made : ∀ (io1 : Nat → Addr) (H1 : Hp) (ws : List V), Up io st.n H io1 st1.n H1 → Rl X.K T.G.kt T.ca io1 st1 H1 → RVs X.K T.G.kt io1 st1.n H1 vs ws → ∀ a dx, H1 a = none → H1 dx = none → dx ≠ a →
              spF X.K T (callN T.G T.fuel d f) (T.psn f).length (.ref a :: (ws ++ [])) (upd (upd H1 dx (.own a)) a (.ins (T.ca c) dx [])) (fun v H2 => v = .non ∧ Q (.ref a) H2) E0 := by
            intro io1 H1 ws u1 R1 r1 a dx ha hdx hne
            rw [List.append_nil]
            -- the dict's own place is laid first: nothing of the store
            have uo : Up io1 st1.n H1 io1 st1.n (upd H1 dx (.own a)) := ⟨Nat.le_refl _, fun _ _ => rfl, .new _ hdx⟩
            have Ro : Rl X.K T.G.kt T.ca io1 st1 (upd H1 dx (.own a)) := ⟨fun i hi => by
              obtain ⟨o, eo, ro⟩ := R1.ob i hi
              refine ⟨o, eo, ro.up uo fun hr => ?_⟩
              rw [hr] at ro
              obtain ⟨y, ey, _⟩ := ro.mutO
              exact upd_ne (ne_of_none ey hdx), R1.no, R1.inj⟩
            have ha' : upd H1 dx (.own a) a = none := by rw [upd_ne (Ne.symm hne)]; exact ha
            have un := Up.new (io := io1) (st := st1) (.ins (T.ca c) dx []) ha'
            have Rn := Ro.new (o := .ins c []) (u := .ins (T.ca c) dx []) ha' (.ins upd_same .nil)
            refine sp_call A.top hf Rn ?_ e2 fun io2 H2 w u2 R2 r2 => ?_
            · refine .cons ?_ (r1.up (uo.trans un))
              have h : RV X.K T.G.kt (ioNew io1 st1.n a) (st1.n + 1) (upd (upd H1 dx (.own a)) a (.ins (T.ca c) dx [])) (.ref st1.n) (.ref (ioNew io1 st1.n a st1.n)) := .ref (Nat.lt_succ_self _)
              rw [ioNew_at] at h; exact h
            · obtain rfl := r2.inon
              refine ⟨rfl, p io2 H2 _ ((u1.trans (uo.trans un)).trans u2) R2 ?_⟩
              have h : RV X.K T.G.kt io2 st'.n H2 (.ref st1.n) (.ref (io2 st1.n)) := .ref (Nat.lt_of_lt_of_le (Nat.lt_succ_self _) u2.le)
              rw [u2.io _ (Nat.lt_succ_self _), ioNew_at] at h; exact h
          intro pins sh I
          have read := hs X sc ow ps A c3 s st vs st1 io H t (fun ws H1 => ∀ a dx, H1 a = none → H1 dx = none → dx ≠ a →
              spF X.K T (callN T.G T.fuel d f) (T.psn f).length (.ref a :: (ws ++ [])) (upd (upd H1 dx (.own a)) a (.ins (T.ca c) dx [])) (fun v H2 => v = .non ∧ Q (.ref a) H2) E0) rs R e1 made
          cases ps with
          | nil =>
            refine (pe_make0 M F A.room (A.gl c1) hm hb .nil pass0 hd).run pins sh t H Q I ?_
            cases es with
            | nil =>
              simp only [evs] at e1
              cases e1
              exact made io H [] (.refl _ _ _) R .nil
            | cons a b => simp [chEs] at c3
          | cons p2 ps =>
            rw [List.all_cons, Bool.and_eq_true] at st_
            exact (pe_make M F A.room (A.gl c1) hm hb .nil pass0 pa_sem hd (star_cons st_.1) (star_any st_.2)).run pins sh t H Q I read
      · cases e
    · cases e
  · cases hc
end
end CL

/-! CL, part h: methods, built-ins, dict displays, tests -/
namespace CL
open PySem PySem.Spec PyProof.Rows L2
section
variable {T : Tab} {d : Nat} {N : List Str}
theorem se_met {a : E} {m : Str} {es : Es} (ha : SE T d N a) (hs : SA T d N es) : SE T d N (.met a m es) := by
  intro X sc ow q A hc s st v st' io H t Q rs R e p
  simp only [chE] at hc
  split at hc
  · rename_i q1 g ap ps pos
    simp only [Bool.and_eq_true, decide_eq_true_eq] at hc
    obtain ⟨⟨⟨⟨⟨rfl, c1⟩, c2⟩, c3⟩, c4⟩, c5⟩ := hc
    simp only [ev] at e
    obtain ⟨x, st1, e1, e⟩ := bind_eq_ok.mp e
    split at e
    · rename_i i
      split at e
      · rename_i k fs em
        split at e
        · rename_i hl
          split at e
          · rename_i f hm
            obtain ⟨vs, st2, e2, e⟩ := bind_eq_ok.mp e
            have e : callN T.G T.fuel d f (.ref i :: vs) st2 = .ok v st' := e
            have hm : T.G.mt k m = some f := hm
            obtain ⟨cl, mm, fd, hf⟩ := A.top.mt k m f hm
            obtain ⟨hb, _, _⟩ := A.top.fn f fd hf
            have F := A.fns d (Nat.le_refl _) f fd hf
            have st_ := chEs_star c5
            have he := meth_eval (o := q1) (m := m) (apos := ap) (pos := pos) (es := ps) (env := X.env) c2 st_ c3 (by omega)
            have fin : ∀ (io1 : Nat → Addr) (H1 : Hp) (w : V), Up io st.n H io1 st1.n H1 → Rl X.K T.G.kt T.ca io1 st1 H1 → RV X.K T.G.kt io1 st1.n H1 (.ref i) w → ∃ b dx gs, w = .ref b ∧ H1 b = some (.ins (T.ca k) dx gs) ∧ gs.lookup m = none ∧
                aSem X ps t H1 fun ws H2 => spF X.K T (callN T.G T.fuel d f) (T.psn f).length (w :: (ws ++ [])) H2 Q E0 := by
              intro io1 H1 w u1 R1 r1
              obtain ⟨rfl, hi⟩ := r1.iref
              obtain ⟨_, _, dx, gs, h1, rk⟩ := R1.inst em
              have hg : gs.lookup m = none := by
                rcases rk.lookup m with ⟨_, z⟩ | ⟨v', w', z, _, _⟩
                · exact z
                · rw [hl] at z; cases z
              refine ⟨_, dx, gs, rfl, h1, hg, ?_⟩
              refine hs X sc ow ps A c5 s st1 vs st2 io1 H1 t _ (rs.up u1) R1 e2 fun io2 H2 ws u2 R2 r2 => ?_
              simp only [List.append_nil]
              exact sp_call A.top hf R2 (.cons (r1.up u2) r2) e (p.after (u1.trans u2))
            intro pins sh I
            cases ps with
            | nil =>
              refine (pe_meth0 (pl := do return (← importBound q1 X.env).getD true) pe_sem cl mm F A.room hb .nil pass0 he).run pins sh t H Q I ?_
              refine ha X sc ow q1 A c1 s st _ st1 io H t _ rs R e1 fun io1 H1 w u1 R1 r1 => ?_
              obtain ⟨b, dx, gs, rfl, h1, h2, h3⟩ := fin io1 H1 w u1 R1 r1
              refine ⟨b, dx, gs, rfl, h1, h2, ?_⟩
              cases es with
              | nil =>
                simp only [evs] at e2
                cases e2
                show spF _ _ _ _ (.ref b :: ([] ++ [])) H1 Q E0
                exact sp_call A.top hf R1 (.cons r1 .nil) e (p.after u1)
              | cons a b => simp [chEs] at c5
            | cons p2 ps =>
              rw [List.all_cons, Bool.and_eq_true] at st_
              refine (pe_meth (pl := do return (← importBound q1 X.env).getD true) pe_sem cl mm F A.room hb .nil pass0 pa_sem (star_cons st_.1) (star_any st_.2) he).run pins sh t H Q I ?_
              exact ha X sc ow q1 A c1 s st _ st1 io H t _ rs R e1 fun io1 H1 w u1 R1 r1 => fin io1 H1 w u1 R1 r1
          · cases e
        · cases e
      · cases e
    · cases e
  · cases hc
theorem bm_slot (b : Bm) : Slot "list" (bmName b) (bmId b) ∧ typeOf (.builtin (bmId b)) = pure (.type "method_descriptor") := by
  cases b
  · exact ⟨PySem.F.slot_list_append, PySem.F.type_list_append⟩
  · exact ⟨PySem.F.slot_list_pop, PySem.F.type_list_pop⟩
  · exact ⟨PySem.F.slot_list_count, PySem.F.type_list_count⟩
  · exact ⟨PySem.F.slot_list_index, PySem.F.type_list_index⟩
theorem se_bm {b : Bm} {a : E} {es : Es} (ha : SE T d N a) (hs : SA T d N es) : SE T d N (.bm b a es) := by
  intro X sc ow q A hc s st v st' io H t Q rs R e p
  simp only [chE] at hc
  split at hc
  · rename_i q1 g ap ps pos
    simp only [Bool.and_eq_true, decide_eq_true_eq] at hc
    obtain ⟨⟨⟨⟨⟨rfl, c1⟩, c2⟩, c3⟩, c4⟩, c5⟩ := hc
    simp only [ev] at e
    obtain ⟨x, st1, e1, e⟩ := bind_eq_ok.mp e
    split at e
    · rename_i i
      split at e
      · rename_i xs em
        obtain ⟨vs, st2, e2, e⟩ := bind_eq_ok.mp e
        obtain ⟨sl, ty⟩ := bm_slot b
        have st_ := chEs_star c5
        intro pins sh I
        have ty1 : ∀ (io1 : Nat → Addr) (H1 : Hp) (w : V), Rl X.K T.G.kt T.ca io1 st1 H1 → RV X.K T.G.kt io1 st1.n H1 (.ref i) w → tyV X.K "list" w H1 := by
          intro io1 H1 w R1 r1
          obtain ⟨rfl, hi⟩ := r1.iref
          obtain ⟨ys, s1, _, _⟩ := R1.list em
          exact .inl ⟨rfl, ys, s1⟩
        cases ps with
        | nil =>
          refine (pe_bm0 PySem.F.plainAttrs_list sl ty mt_sem pe_sem (base_of c2 _) c3).run pins sh t H Q I ?_
          refine ha X sc ow q1 A c1 s st _ st1 io H t _ rs R e1 fun io1 H1 w u1 R1 r1 => ⟨ty1 io1 H1 w R1 r1, ?_⟩
          cases es with
          | nil =>
            simp only [evs] at e2
            cases e2
            exact bm_ok A.hu R1 r1 .nil e (p.after u1)
          | cons a b => simp [chEs] at c5
        | cons p2 ps =>
          have st2_ := st_
          rw [List.all_cons, Bool.and_eq_true] at st2_
          refine (pe_bm PySem.F.plainAttrs_list sl ty mt_sem pe_sem pa_sem (base_of c2 _) ?_ c3 (star_cons st2_.1) (star_any st2_.2)).run pins sh t H Q I ?_
          · rw [(star_map st_).1, (star_map (pos := pos) st_).2.2]
            show (true && true && decide ((p2 :: ps).length + 0 + 0 < 30)) = true
            simp only [Bool.true_and, decide_eq_true_eq]; omega
          · refine ha X sc ow q1 A c1 s st _ st1 io H t _ rs R e1 fun io1 H1 w u1 R1 r1 => ⟨ty1 io1 H1 w R1 r1, ?_⟩
            refine hs X sc ow _ A c5 s st1 vs st2 io1 H1 t _ (rs.up u1) R1 e2 fun io2 H2 ws u2 R2 r2 => ?_
            exact bm_ok A.hu R2 (r1.up u2) r2 e (p.after (u1.trans u2))
      · cases e
    · cases e
  · cases hc
theorem bf_some {b : Bf} {st st' : Store} {v : Val} (e : bfn b [] st = .ok v st') : False := by
  unfold bfn at e
  cases b <;> cases e
theorem bf_boot (b : Bf) : bootBuiltins (bfName b) = some (bfVal b) ∧ bfName b ≠ "__name__" := by
  cases b <;> exact ⟨by decide +kernel, by decide⟩
theorem bf_val (b : Bf) : (∃ id, bfVal b = .builtin id) ∨ ∃ n, bfVal b = .type n := by cases b <;> first | exact .inl ⟨_, rfl⟩ | exact .inr ⟨_, rfl⟩
theorem se_bf {b : Bf} {es : Es} (hs : SA T d N es) : SE T d N (.bf b es) := by
  intro X sc ow q A hc s st v st' io H t Q rs R e p
  simp only [chE] at hc
  split at hc
  · rename_i x p1 ps pos
    rw [Bool.and_eq_true] at hc
    obtain ⟨c1, c2⟩ := hc
    simp only [ev] at e
    obtain ⟨vs, st1, e1, e⟩ := bind_eq_ok.mp e
    obtain ⟨rfl, _, hd⟩ := gB_ok c1
    have st_ := chEs_star c2
    obtain ⟨b1, b2⟩ := bf_boot b
    have read := hs X sc ow ps A c2 s st vs st1 io H t (fun ws H1 => cSem X (bfVal b) ws H1 Q) rs R e1 fun io1 H1 ws u1 R1 r1 => bf_ok A.calm R1 r1 e (p.after u1)
    cases ps with
    | nil =>
      cases es with
      | nil =>
        simp only [evs] at e1
        cases e1
        exact (bf_some e).elim
      | cons a b => simp [chEs] at c2
    | cons p2 ps =>
      rw [List.all_cons, Bool.and_eq_true] at st_
      intro pins sh I
      rcases bf_val b with ⟨id, hv⟩ | ⟨n, hv⟩
      · rw [hv] at b1 read
        exact (pe_callB call_sem (A.gl c1) (A.top.bf b) b1 pa_sem b2 hd (star_cons st_.1) (star_any st_.2)).run pins sh t H Q I read
      · rw [hv] at b1 read
        exact (pe_callTy call_sem (A.gl c1) (A.top.bf b) b1 pa_sem b2 hd (star_cons st_.1) (star_any st_.2)).run pins sh t H Q I read
  · cases hc
theorem ty_boot (t : Ty) (h : tyB t = true) : bootBuiltins (Str.ofString (tyName t)) = some (.type (tyName t)) ∧ (Str.ofString (tyName t)) ≠ "__name__" := by
  cases t <;> first | exact ⟨by decide +kernel, by decide⟩ | cases h
theorem se_isi {a : E} {y : Ty} (ha : SE T d N a) : SE T d N (.isi a y) := by
  intro X sc ow q A hc s st v st' io H t Q rs R e p
  simp only [chE] at hc
  split at hc
  · rename_i x p1 q1 z p2 pos
    simp only [Bool.and_eq_true] at hc
    obtain ⟨⟨⟨⟨c1, c2⟩, c3⟩, c4⟩, c5⟩ := hc
    simp only [ev] at e
    obtain ⟨u, st1, e1, e⟩ := bind_eq_ok.mp e
    obtain ⟨k, e2, rfl, rfl⟩ := okB_inv e
    obtain ⟨rfl, _, hd⟩ := gB_ok c1
    obtain ⟨rfl, _, hd2⟩ := gB_ok c2
    obtain ⟨b1, b2⟩ := ty_boot y c3
    intro pins sh I
    refine (pe_callB (x := "isinstance") (id := "isinstance") call_sem (A.gl c1) A.top.isi (by decide +kernel) (pa_cons pe_sem (pa_cons (pe_bltn (A.gl c2) (A.top.ty y c3) b1 (v := .ty (tyName y)) rfl b2 hd2) pa_nil (by rfl)) (star_cons c5)) (by decide) hd (star_cons c5) (by rfl)).run pins sh t H Q I ?_
    refine ha X sc ow q1 A c4 s st u _ io H t _ rs R e1 fun io1 H1 w u1 R1 r1 => ?_
    refine isi_ok R1 r1 ?_ e2 ((p.after u1).here R1 (.bl _))
    cases y <;> first | exact trivial | cases c3
  · cases hc

/-! ### dict displays -/
def SPp (T : Tab) (d : Nat) (N : List Str) (ps : Ps) : Prop := ∀ (X : Cx) (sc : Scope) (ow : Str → Bool) (ks : List (Option Expr)) (vs : List Expr) (pos : Pos), At T d X N sc ow → chPs T.nm N ps sc ks vs = true →
  ∃ trs, PPs X pos ks vs trs ∧ ks.all (·.isSome) = true ∧ ks.length = vs.length ∧
  ∀ (s : Env) (st : Store) (rs : List (Val × Val)) (st' : Store) (io : Nat → Addr) (H : Hp) (t : L2.St) (Q : List (V × V) → Hp → Prop), RS X.K T.G.kt io st.n H s t → Rl X.K T.G.kt T.ca io st H → evp (T.cx d) ps s st = .ok rs st' →
    (∀ (io' : Nat → Addr) (H' : Hp) (ws : List (V × V)), Up io st.n H io' st'.n H' → Rl X.K T.G.kt T.ca io' st' H' → Paired (fun (p : Val × Val) (q : V × V) => RV X.K T.G.kt io' st'.n H' p.1 q.1 ∧ RV X.K T.G.kt io' st'.n H' p.2 q.2) rs ws → Q ws H') → tPairs trs t H Q
theorem sp_nil : SPp T d N .nil := by
  intro X sc ow ks vs pos A hc
  simp only [chPs] at hc
  split at hc
  · refine ⟨[], pps_nil, rfl, rfl, fun s st rs st' io H t Q r R e p => ?_⟩
    simp only [evp] at e
    cases e
    exact p io H [] (.refl _ _ _) R .nil
  · cases hc
theorem Paired.imp2 {α β : Type} {F G : α → β → Prop} {l1 : List α} {l2 : List β} (h : Paired F l1 l2) (f : ∀ a b, F a b → G a b) : Paired G l1 l2 := L2.Paired.mapP h f
theorem sp_cons {k v : E} {ps : Ps} (hk : SE T d N k) (hv : SE T d N v) (hp : SPp T d N ps) : SPp T d N (.cons k v ps) := by
  intro X sc ow ks vs pos A hc
  simp only [chPs] at hc
  split at hc
  · simp only [Bool.and_eq_true] at hc
    obtain ⟨trs, h1, h2, h3, h4⟩ := hp X sc ow _ _ pos A hc.2
    refine ⟨_, pps_cons pe_sem pe_sem h1, by rw [List.all_cons, h2]; rfl, by rw [List.length_cons, List.length_cons, h3], fun s st rs st' io H t Q r R e p => ?_⟩
    simp only [evp] at e
    obtain ⟨x, st1, e1, e⟩ := bind_eq_ok.mp e
    obtain ⟨y, st2, e2, e⟩ := bind_eq_ok.mp e
    obtain ⟨z, st3, e3, e⟩ := bind_eq_ok.mp e
    cases e
    refine hk X sc ow _ A hc.1.1 s st x st1 io H t _ r R e1 fun io1 H1 w u1 R1 r1 => ?_
    refine hv X sc ow _ A hc.1.2 s st1 y st2 io1 H1 t _ (r.up u1) R1 e2 fun io2 H2 w2 u2 R2 r2 => ?_
    refine h4 s st2 z _ io2 H2 t _ (r.up (u1.trans u2)) R2 e3 fun io3 H3 w3 u3 R3 r3 => ?_
    exact p io3 H3 _ ((u1.trans u2).trans u3) R3 (.cons ⟨r1.up (u2.trans u3), r2.up u3⟩ r3)
  · cases hc
theorem keyed_ok {K : PySem.W.Frag} {kt : List (List Val)} {io : Nat → Addr} {n : Nat} {H : Hp} : ∀ {rs : List (Val × Val)} {ws : List (V × V)} {kvs : List (Key × Val)},
    Paired (fun (p : Val × Val) (q : V × V) => RV K kt io n H p.1 q.1 ∧ RV K kt io n H p.2 q.2) rs ws → keyed rs = some kvs → ∃ kws : List (Key × V), ws = kws.map (fun kv => (kV kv.1, kv.2)) ∧ RKs K kt io n H kvs kws
  | _, _, _, .nil, e => by cases e; exact ⟨[], rfl, .nil⟩
  | (k, v) :: _, _, _, .cons h t, e => by
    unfold keyed at e
    split at e
    · rename_i k' r e1 e2
      cases e
      obtain ⟨kws, rfl, q⟩ := keyed_ok t e2
      have hk := key1_kV h.1 e1
      refine ⟨(k', _) :: kws, ?_, .cons h.2 q⟩
      rw [List.map_cons, ← hk]
    · cases e
theorem se_dic {ps : Ps} (hp : SPp T d N ps) : SE T d N (.dic ps) := by
  intro X sc ow q A hc s st v st' io H t Q rs R e p
  simp only [chE] at hc
  split at hc
  · rename_i ks vs pos
    simp only [Bool.and_eq_true, decide_eq_true_eq] at hc
    obtain ⟨trs, h1, h2, h3, h4⟩ := hp X sc ow ks vs pos A hc.1
    simp only [ev] at e
    obtain ⟨rr, st1, e1, e⟩ := bind_eq_ok.mp e
    split at e
    · rename_i kvs ek
      split at e
      · rename_i hz
        obtain ⟨z, st2, e2, e⟩ := bind_eq_ok.mp e
        obtain ⟨hr, rfl, rfl⟩ := wr_inv e2
        cases e
        intro pins sh I
        by_cases h0 : ks = []
        · subst h0
          cases ps with
          | cons _ _ _ => simp [chPs] at hc
          | nil =>
            have hv : vs = [] := by cases vs with
              | nil => rfl
              | cons _ _ => simp at h3
            subst hv
            simp only [evp] at e1
            cases e1
            cases ek
            refine pe_dnewK.run pins sh t H Q I fun a ha => ?_
            have R2 := R.new (o := .dK []) (u := .dK []) ha (.dK upd_same .nil)
            have hi : st.n < (st.new (.dK [])).n := Nat.lt_succ_self _
            have p2 := p.after (io1 := ioNew io st.n a) (st1 := st.new (.dK [])) (Up.new (.dK []) ha)
            have := p2.wrote (u := .dK []) (w := .ref a) R2 hi hr fun up => ⟨.dK upd_same .nil, by
              have h : RV X.K T.G.kt (ioNew io st.n a) (st.n + 1) (upd (upd H a (.dK [])) (ioNew io st.n a st.n) (.dK [])) (.ref st.n) (.ref (ioNew io st.n a st.n)) := .ref (Nat.lt_succ_self _)
              have h2 := h
              rw [show (V.ref (ioNew io st.n a st.n)) = V.ref a by rw [ioNew_at]] at h2
              exact h2⟩
            rw [ioNew_at, upd_upd] at this
            exact this
        · refine (pe_disp h1 h2 h3 h0 hc.2).run pins sh t H Q I fun a ha => ?_
          have R1 := R.new (o := .dK []) (u := .dK []) ha (.dK upd_same .nil)
          have u1 := Up.new (io := io) (st := st) (.dK []) ha
          refine h4 s (st.new (.dK [])) rr st1 (ioNew io st.n a) _ t _ (rs.up u1) R1 e1 fun io2 H2 ws u2 R2 r2 => ?_
          obtain ⟨kws, rfl, rk⟩ := keyed_ok r2 ek
          have ha2 : io2 st.n = a := by rw [u2.io _ (Nat.lt_succ_self _), ioNew_at]
          obtain ⟨kw0, _, q0, hl0⟩ := R2.dictK hz.1
          have hl1 := hl0 hr
          rw [ha2] at hl1
          cases q0
          refine ⟨hl1, kws, rfl, by rw [← rk.length]; exact hz.2, ?_⟩
          have hi : st.n < st1.n := Nat.lt_of_lt_of_le (Nat.lt_succ_self _) u2.le
          have := (p.after (u1.trans u2)).wrote (u := .dK (mergeK [] kws)) (w := .ref a) R2 hi hr fun up => ⟨.dK upd_same ((rk.merge .nil).up up), by
            have h : RV X.K T.G.kt io2 st1.n (upd H2 (io2 st.n) (.dK (mergeK [] kws))) (.ref st.n) (.ref (io2 st.n)) := .ref hi
            have h2 := h
            rw [show (V.ref (io2 st.n)) = V.ref a by rw [ha2]] at h2
            exact h2⟩
          rw [ha2] at this
          exact this
      · cases e
    · cases e
  · cases hc

/-! ### tests -/
theorem okO_inv {o : Option Bool} {k : Bool} {st st' : Store} (h : okO o st = .ok k st') : o = some k ∧ st' = st := by
  cases o with
  | none => cases h
  | some j => cases h; exact ⟨rfl, rfl⟩
theorem tru_bl {st : Store} {j k : Bool} (h : tru st (.bl j) = some k) : j = k := by cases h; rfl
/-- a test by the reading of its value, which is a truth -/
theorem post_bl {X : Cx} {io : Nat → Addr} {st st1 st' : Store} {H : Hp} {v : Val} {k : Bool} {Q : Bool → Hp → Prop} (e2 : okO (tru st1 v) st1 = .ok k st') (hb : ∃ j, v = .bl j) (p : PostB X.K T.G.kt T.ca io st H k st' Q) :
    Post X.K T.G.kt T.ca io st H v st1 (fun x H' => ∃ c, x = .bl c ∧ Q c H') := by
  intro io1 H1 w u1 R1 r1
  obtain ⟨j, rfl⟩ := hb
  obtain ⟨e3, rfl⟩ := okO_inv e2
  obtain rfl := tru_bl e3
  obtain rfl := r1.ibl
  exact ⟨_, rfl, p io1 H1 u1 R1⟩
theorem ev_cmp_bl {o : Cop} {a b : E} {s : Env} {st st' : Store} {v : Val} (e : ev (T.cx d) (.cmp o a b) s st = .ok v st') : ∃ j, v = .bl j := by
  simp only [ev] at e
  obtain ⟨x, st1, e1, e⟩ := bind_eq_ok.mp e
  obtain ⟨y, st2, e2, e⟩ := bind_eq_ok.mp e
  obtain ⟨k, h, _⟩ := cop_bl e
  exact ⟨k, h⟩
theorem ev_cm2_bl {o o2 : Cop} {a b c : E} {s : Env} {st st' : Store} {v : Val} (e : ev (T.cx d) (.cm2 o o2 a b c) s st = .ok v st') : ∃ j, v = .bl j := by
  simp only [ev] at e
  obtain ⟨x, st1, e1, e⟩ := bind_eq_ok.mp e
  obtain ⟨y, st2, e2, e⟩ := bind_eq_ok.mp e
  obtain ⟨z, st3, e3, e⟩ := bind_eq_ok.mp e
  split at e
  · obtain ⟨u, st4, e4, e⟩ := bind_eq_ok.mp e
    obtain ⟨k, h, _⟩ := cop_bl e
    exact ⟨k, h⟩
  · cases e; exact ⟨_, rfl⟩
  · cases e

theorem sb_cmp {o : Cop} {a b : E} (ha : SE T d N a) (hb : SE T d N b) : SB T d N (.of (.cmp o a b)) := by
  intro X sc ow q A hc s st k st' io H t Q rs R e p
  simp only [chB, Bool.and_eq_true] at hc
  replace hc := hc.1
  simp only [chE] at hc
  split at hc
  · simp only [Bool.and_eq_true, decide_eq_true_eq] at hc
    obtain ⟨⟨⟨rfl, c1⟩, c2⟩, c3⟩ := hc
    simp only [ts] at e
    obtain ⟨v, st1, e1, e2⟩ := bind_eq_ok.mp e
    intro pins sh I
    exact (pt_cmpR op_sem pe_sem pe_sem (noset_in c3 _)).run pins sh t H Q I (cmp_read ha hb A c1 c2 rs R e1 (post_bl e2 (ev_cmp_bl e1) p))
  · cases hc
theorem sb_cm2 {o o2 : Cop} {a b c : E} (ha : SE T d N a) (hb : SE T d N b) (hd : SE T d N c) : SB T d N (.of (.cm2 o o2 a b c)) := by
  intro X sc ow q A hc s st k st' io H t Q rs R e p
  simp only [chB, Bool.and_eq_true] at hc
  replace hc := hc.1
  simp only [chE] at hc
  split at hc
  · simp only [Bool.and_eq_true, decide_eq_true_eq] at hc
    obtain ⟨⟨⟨⟨⟨⟨rfl, rfl⟩, c1⟩, c2⟩, c3⟩, c4⟩, c5⟩ := hc
    simp only [ts] at e
    obtain ⟨v, st1, e1, e2⟩ := bind_eq_ok.mp e
    intro pins sh I
    exact (pt_chain op_sem op_sem pe_sem pe_sem pe_sem (last_of c5)).run pins sh t H Q I (cm2_read ha hb hd A c1 c2 c3 rs R e1 (post_bl e2 (ev_cm2_bl e1) p))
  · cases hc
theorem sb_isN {a : E} (ha : SE T d N a) : SB T d N (.of (.isN a)) := by
  intro X sc ow q A hc s st k st' io H t Q rs R e p
  simp only [chB, Bool.and_eq_true] at hc
  replace hc := hc.1
  simp only [chE] at hc
  split at hc
  · simp only [ts] at e
    obtain ⟨v, st1, e1, e2⟩ := bind_eq_ok.mp e
    have hb : ∃ j, v = .bl j := by
      simp only [ev] at e1
      obtain ⟨x, st2, _, e4⟩ := bind_eq_ok.mp e1
      cases e4; exact ⟨_, rfl⟩
    intro pins sh I
    exact (pt_cmp (pc_isN pe_sem)).run pins sh t H Q I (isN_read ha A hc rs R e1 (post_bl e2 hb p))
  · cases hc
theorem sb_noN {a : E} (ha : SE T d N a) : SB T d N (.of (.noN a)) := by
  intro X sc ow q A hc s st k st' io H t Q rs R e p
  simp only [chB, Bool.and_eq_true] at hc
  replace hc := hc.1
  simp only [chE] at hc
  split at hc
  · simp only [ts] at e
    obtain ⟨v, st1, e1, e2⟩ := bind_eq_ok.mp e
    have hb : ∃ j, v = .bl j := by
      simp only [ev] at e1
      obtain ⟨x, st2, _, e4⟩ := bind_eq_ok.mp e1
      cases e4; exact ⟨_, rfl⟩
    intro pins sh I
    exact (pt_cmp (pc_notN pe_sem)).run pins sh t H Q I (noN_read ha A hc rs R e1 (post_bl e2 hb p))
  · cases hc
theorem sb_plain {a : E} (ha : SE T d N a) (hp : isCmp a = false) : SB T d N (.of a) := by
  intro X sc ow q A hc s st k st' io H t Q rs R e p
  simp only [chB, Bool.and_eq_true] at hc
  obtain ⟨c1, c2⟩ := hc
  have c2 : plainT q = true := by
    rw [Bool.or_eq_true] at c2
    rcases c2 with c2 | c2
    · exact c2
    · rw [hp] at c2; cases c2
  simp only [ts] at e
  obtain ⟨v, st1, e1, e2⟩ := bind_eq_ok.mp e
  obtain ⟨e3, rfl⟩ := okO_inv e2
  intro pins sh I
  refine (pt_truth pe_sem (plain_true c2)).run pins sh t H Q I ?_
  exact ha X sc ow q A c1 s st v _ io H t _ rs R e1 fun io1 H1 w u1 R1 r1 => ⟨k, tru_ok R1 r1 e3, p io1 H1 u1 R1⟩
theorem sb_yes : SB T d N .yes := by
  intro X sc ow q A hc
  simp [chB] at hc
theorem sb_not {a : B} (ha : SB T d N a) : SB T d N (.not a) := by
  intro X sc ow q A hc s st k st' io H t Q rs R e p
  simp only [chB] at hc
  split at hc
  · simp only [ts] at e
    obtain ⟨j, st1, e1, e2⟩ := bind_eq_ok.mp e
    cases e2
    intro pins sh I
    refine (pt_not pt_sem).run pins sh t H Q I ?_
    exact ha X sc ow _ A hc s st j _ io H t _ rs R e1 fun io1 H1 u1 R1 => p io1 H1 u1 R1
  · cases hc
/-- the rest of a chain of tests -/
def wSem (X : Cx) (e : Expr) : TT := fun σ H Q => ∀ (whole : Sem Value) (pins : List (Addr × Obj)) (s : Shared), Inv X pins σ H s → wpAny (model X.prog X.w) X.A (isTrue e X.env whole) (TP X pins σ Q) X.xe s
theorem pw_sem {X : Cx} {e : Expr} : PW X e (wSem X e) := ⟨fun wh pins s σ H Q I h => h wh pins s I⟩
theorem bool_whole {X : Cx} {op : BoolOp} {es : List Expr} {pos : Pos} {σ : L2.St} {H : Hp} {Q : Bool → Hp → Prop} (h : bSem X (.BoolOp op es pos) σ H Q) : wSem X (.BoolOp op es pos) σ H Q := fun _ pins s I => h pins s I
theorem rest_and {b : B} (hb : SB T d N b) {X : Cx} {sc : Scope} {ow : Str → Bool} {r : Expr} {t : List Expr} {pos : Pos} (A : At T d X N sc ow)
    (c : (match t with | [] => chB T.nm N b sc r = true | _ => chB T.nm N b sc (.BoolOp .And (r :: t) pos) = true))
    {s : Env} {st : Store} {k : Bool} {st' : Store} {io : Nat → Addr} {H : Hp} {t' : L2.St} {Q : Bool → Hp → Prop} (rs : RS X.K T.G.kt io st.n H s t') (R : Rl X.K T.G.kt T.ca io st H) (e : ts (T.cx d) b s st = .ok k st')
    (p : PostB X.K T.G.kt T.ca io st H k st' Q) : wSem X (.BoolOp .And (r :: t) pos) t' H Q := by
  cases t with
  | nil =>
    intro wh pins sh I
    exact (pw_and1 pt_sem).run wh pins sh t' H Q I (hb X sc ow r A c s st k st' io H t' Q rs R e p)
  | cons t1 t2 => exact bool_whole (hb X sc ow _ A c s st k st' io H t' Q rs R e p)
theorem rest_or {b : B} (hb : SB T d N b) {X : Cx} {sc : Scope} {ow : Str → Bool} {r : Expr} {t : List Expr} {pos : Pos} (A : At T d X N sc ow)
    (c : (match t with | [] => chB T.nm N b sc r = true | _ => chB T.nm N b sc (.BoolOp .Or (r :: t) pos) = true))
    {s : Env} {st : Store} {k : Bool} {st' : Store} {io : Nat → Addr} {H : Hp} {t' : L2.St} {Q : Bool → Hp → Prop} (rs : RS X.K T.G.kt io st.n H s t') (R : Rl X.K T.G.kt T.ca io st H) (e : ts (T.cx d) b s st = .ok k st')
    (p : PostB X.K T.G.kt T.ca io st H k st' Q) : wSem X (.BoolOp .Or (r :: t) pos) t' H Q := by
  cases t with
  | nil =>
    intro wh pins sh I
    exact (pw_or1 pt_sem).run wh pins sh t' H Q I (hb X sc ow r A c s st k st' io H t' Q rs R e p)
  | cons t1 t2 => exact bool_whole (hb X sc ow _ A c s st k st' io H t' Q rs R e p)
theorem sb_and {a b : B} (ha : SB T d N a) (hb : SB T d N b) : SB T d N (.and a b) := by
  intro X sc ow q A hc s st k st' io H t Q rs R e p
  simp only [ts] at e
  obtain ⟨j, st1, e1, e⟩ := bind_eq_ok.mp e
  have go : ∀ (q1 r : Expr) (u : List Expr) (pos : Pos), chB T.nm N a sc q1 = true → (match u with | [] => chB T.nm N b sc r = true | _ => chB T.nm N b sc (.BoolOp .And (r :: u) pos) = true) → bSem X (.BoolOp .And (q1 :: r :: u) pos) t H Q := by
    intro q1 r u pos c1 c2 pins sh I
    refine (PW.pt (pw_and pt_sem pw_sem)).run pins sh t H Q I ?_
    refine ha X sc ow q1 A c1 s st j st1 io H t _ rs R e1 fun io1 H1 u1 R1 => ?_
    cases j with
    | true =>
      rw [if_pos rfl] at e ⊢
      exact rest_and hb A c2 (rs.up u1) R1 e (p.after u1)
    | false =>
      rw [if_neg (by decide)] at e ⊢
      cases e
      exact p io1 H1 u1 R1
  simp only [chB] at hc
  split at hc
  · rw [Bool.and_eq_true] at hc; exact go _ _ [] _ hc.1 hc.2
  · rw [Bool.and_eq_true] at hc; exact go _ _ (_ :: _) _ hc.1 hc.2
  · cases hc
theorem sb_or {a b : B} (ha : SB T d N a) (hb : SB T d N b) : SB T d N (.or a b) := by
  intro X sc ow q A hc s st k st' io H t Q rs R e p
  simp only [ts] at e
  obtain ⟨j, st1, e1, e⟩ := bind_eq_ok.mp e
  have go : ∀ (q1 r : Expr) (u : List Expr) (pos : Pos), chB T.nm N a sc q1 = true → (match u with | [] => chB T.nm N b sc r = true | _ => chB T.nm N b sc (.BoolOp .Or (r :: u) pos) = true) → bSem X (.BoolOp .Or (q1 :: r :: u) pos) t H Q := by
    intro q1 r u pos c1 c2 pins sh I
    refine (PW.pt (pw_or pt_sem pw_sem)).run pins sh t H Q I ?_
    refine ha X sc ow q1 A c1 s st j st1 io H t _ rs R e1 fun io1 H1 u1 R1 => ?_
    cases j with
    | true =>
      rw [if_pos rfl] at e ⊢
      cases e
      exact p io1 H1 u1 R1
    | false =>
      rw [if_neg (by decide)] at e ⊢
      exact rest_or hb A c2 (rs.up u1) R1 e (p.after u1)
  simp only [chB] at hc
  split at hc
  · rw [Bool.and_eq_true] at hc; exact go _ _ [] _ hc.1 hc.2
  · rw [Bool.and_eq_true] at hc; exact go _ _ (_ :: _) _ hc.1 hc.2
  · cases hc
end
end CL

/-! CL, part i: what is walked; targets; comprehensions -/
namespace CL
open PySem PySem.Spec PyProof.Rows L2

structure Wlk (K : PySem.W.Frag) (kt : List (List Val)) (ca io0 : Nat → Addr) (n0 : Nat) (H0 : Hp) (J : It) (xs : List Val) (w : Watch) : Prop where
  go : ∀ (i : Nat) (io : Nat → Addr) (st : Store) (H : Hp), Up io0 n0 H0 io st.n H → Rl K kt ca io st H → st.sees w = true → i < xs.length → J.go i H
  stop : ∀ (io : Nat → Addr) (st : Store) (H : Hp), Up io0 n0 H0 io st.n H → Rl K kt ca io st H → st.sees w = true → J.stop xs.length H
  yld : ∀ (i : Nat) (v : Val) (io : Nat → Addr) (st : Store) (H : Hp) (x : V) (H' : Hp), Up io0 n0 H0 io st.n H → Rl K kt ca io st H → st.sees w = true → xs[i]? = some v → J.yld i H x H' →
    Up io st.n H io st.n H' ∧ Rl K kt ca io st H' ∧ RV K kt io st.n H' v x
def wkSem (X : Cx) (tg it : Expr) : TI := fun σ H R => ∀ (pins : List (Addr × Obj)) (s : Shared), Inv X pins σ H s → wpAny (model X.prog X.w) X.A (eval it X.env) (fun v s1 => wpAny (model X.prog X.w) X.A (pyIter v) (PIE X pins σ tg R) X.xe s1) X.xe s
theorem pi_sem {X : Cx} {tg it : Expr} : PI X tg it (wkSem X tg it) := ⟨fun pins s σ H R I h => h pins s I⟩
def SI (T : Tab) (d : Nat) (N : List Str) (w : I) : Prop := ∀ (X : Cx) (sc : Scope) (ow : Str → Bool) (tg it : Expr), At T d X N sc ow → chI T.nm N w sc tg it = true →
  ∀ (s : Env) (st : Store) (p : List Val × Watch) (st' : Store) (io : Nat → Addr) (H : Hp) (t : L2.St) (R : It → Hp → Prop), RS X.K T.G.kt io st.n H s t → Rl X.K T.G.kt T.ca io st H → evw (T.cx d) w s st = .ok p st' →
    (∀ (io' : Nat → Addr) (H' : Hp) (J : It), Up io st.n H io' st'.n H' → Rl X.K T.G.kt T.ca io' st' H' → Wlk X.K T.G.kt T.ca io' st'.n H' J p.1 p.2 → R J H') → wkSem X tg it t H R

section
variable {K : PySem.W.Frag} {kt : List (List Val)} {ca io0 : Nat → Addr} {n0 : Nat} {H0 : Hp}
theorem sees1 {st : Store} {i : Nat} {xs : List Val} {w : Watch} (h : st.sees ((i, xs) :: w) = true) : st.m i = some (.lst xs) ∧ st.sees w = true := by
  unfold Store.sees at h
  rw [Bool.and_eq_true, decide_eq_true_eq] at h
  exact h
/-- a tuple laid: the store is as it was -/
theorem Rl.laid {io : Nat → Addr} {st : Store} {H : Hp} (R : Rl K kt ca io st H) {a : Addr} {ys : List V} (ha : H a = none) : Up io st.n H io st.n (upd H a (.tup ys)) ∧ Rl K kt ca io st (upd H a (.tup ys)) := by
  have up : Up io st.n H io st.n (upd H a (.tup ys)) := ⟨Nat.le_refl _, fun _ _ => rfl, .new _ ha⟩
  refine ⟨up, fun i hi => ?_, R.no, R.inj⟩
  obtain ⟨q, e, rq⟩ := R.ob i hi
  refine ⟨q, e, rq.up up fun hr => ?_⟩
  rw [hr] at rq
  obtain ⟨x, ex, _⟩ := rq.mutO
  exact upd_ne (ne_of_none ex ha)
theorem wlk_list {i : Nat} {xs : List Val} (hi : i < n0) : Wlk K kt ca io0 n0 H0 (Itl K (io0 i)) xs [(i, xs)] := by
  refine ⟨fun j io st H u R h hj => ?_, fun io st H u R h => ?_, fun j v io st H x H' u R h e y => ?_⟩
  · obtain ⟨ys, sl, rs, _⟩ := R.list (sees1 h).1
    rw [u.io i hi] at sl
    obtain ⟨w, ew, _⟩ := rs.get (List.getElem?_eq_getElem hj)
    exact ⟨ys, w, sl, ew⟩
  · obtain ⟨ys, sl, rs, _⟩ := R.list (sees1 h).1
    rw [u.io i hi] at sl
    exact ⟨ys, sl, by rw [rs.length]; exact Nat.le_refl _⟩
  · obtain ⟨ys, sl, rs, _⟩ := R.list (sees1 h).1
    rw [u.io i hi] at sl
    obtain ⟨rfl, q⟩ := y
    obtain ⟨w, ew, r⟩ := rs.get e
    have := q ys sl
    rw [ew] at this; cases this
    exact ⟨.refl _ _ _, R, r⟩
theorem wlk_tup {a : Addr} {xs : List Val} {ys : List V} (s : SqT K H0 a ys) (rs : RVs K kt io0 n0 H0 xs ys) : Wlk K kt ca io0 n0 H0 (Itt K a) xs [] := by
  refine ⟨fun j io st H u R h hj => ?_, fun io st H u R h => ?_, fun j v io st H x H' u R h e y => ?_⟩
  · obtain ⟨w, ew, _⟩ := rs.get (List.getElem?_eq_getElem hj)
    exact ⟨ys, w, u.ext.sqT s, ew⟩
  · exact ⟨ys, u.ext.sqT s, by rw [rs.length]; exact Nat.le_refl _⟩
  · obtain ⟨rfl, q⟩ := y
    obtain ⟨w, ew, r⟩ := rs.get e
    have := q ys (u.ext.sqT s)
    rw [ew] at this; cases this
    exact ⟨.refl _ _ _, R, r.up u⟩
theorem rangeL_len : ∀ (n : Nat) (lo : Int), (rangeL lo n).length = n
  | 0, _ => rfl
  | n + 1, lo => by unfold rangeL; rw [List.length_cons, rangeL_len n]
theorem rangeL_get : ∀ (n : Nat) (lo : Int) (i : Nat), i < n → (rangeL lo n)[i]? = some (.int (lo + i))
  | 0, _, _, h => absurd h (Nat.not_lt_zero _)
  | n + 1, lo, 0, _ => by unfold rangeL; simp
  | n + 1, lo, i + 1, h => by
    unfold rangeL
    rw [List.getElem?_cons_succ, rangeL_get n (lo + 1) i (by omega)]
    congr 2; push_cast; omega
theorem wlk_range {lo : Int} {n : Nat} : Wlk K kt ca io0 n0 H0 (Itr lo n) (rangeL lo n) [] := by
  refine ⟨fun j io st H u R h hj => ?_, fun io st H u R h => ?_, fun j v io st H x H' u R h e y => ?_⟩
  · rw [rangeL_len] at hj; exact hj
  · rw [rangeL_len]; exact Nat.le_refl _
  · obtain ⟨rfl, rfl⟩ := y
    have hj : j < n := by
      have := (List.getElem?_eq_some_iff.mp e).1
      rw [rangeL_len] at this; exact this
    rw [rangeL_get n lo j hj] at e
    cases e
    exact ⟨.refl _ _ _, R, .int _⟩
theorem enumL_len : ∀ (xs : List Val) (k : Int), (enumL k xs).length = xs.length
  | [], _ => rfl
  | x :: r, k => by unfold enumL; rw [List.length_cons, List.length_cons, enumL_len r]
theorem enumL_get : ∀ (xs : List Val) (k : Int) (i : Nat), (enumL k xs)[i]? = (xs[i]?).map fun x => .tup [.int (k + i), x]
  | [], _, _ => by unfold enumL; simp
  | x :: r, k, 0 => by unfold enumL; simp
  | x :: r, k, i + 1 => by
    unfold enumL
    rw [List.getElem?_cons_succ, List.getElem?_cons_succ, enumL_get r (k + 1) i]
    congr 2; funext y; congr 3; push_cast; omega
theorem wlk_enum {i : Nat} {xs : List Val} (hi : i < n0) : Wlk K kt ca io0 n0 H0 (Ite K (io0 i)) (enumL 0 xs) [(i, xs)] := by
  refine ⟨fun j io st H u R h hj => ?_, fun io st H u R h => ?_, fun j v io st H x H' u R h e y => ?_⟩
  · obtain ⟨ys, sl, rs, _⟩ := R.list (sees1 h).1
    rw [u.io i hi] at sl
    rw [enumL_len] at hj
    obtain ⟨w, ew, _⟩ := rs.get (List.getElem?_eq_getElem hj)
    exact ⟨ys, w, sl, ew⟩
  · obtain ⟨ys, sl, rs, _⟩ := R.list (sees1 h).1
    rw [u.io i hi] at sl
    rw [enumL_len]
    exact ⟨ys, sl, by rw [rs.length]; exact Nat.le_refl _⟩
  · obtain ⟨ys, sl, rs, _⟩ := R.list (sees1 h).1
    rw [u.io i hi] at sl
    rw [enumL_get] at e
    cases ex : xs[j]? with
    | none => rw [ex] at e; cases e
    | some z =>
      rw [ex] at e; cases e
      obtain ⟨a, x', rfl, ha, rfl, q⟩ := y
      obtain ⟨w, ew, r⟩ := rs.get ex
      have := q ys sl
      rw [ew] at this; cases this
      obtain ⟨u1, R1⟩ := R.laid (ys := [.int (j : Nat), _]) ha
      refine ⟨u1, R1, .tup (.inl upd_same) (.cons ?_ (.cons (r.up u1) .nil))⟩
      rw [Int.zero_add]; exact .int _
theorem wlk_enumT {a : Addr} {xs : List Val} {ys : List V} (sq : SqT K H0 a ys) (rs : RVs K kt io0 n0 H0 xs ys) : Wlk K kt ca io0 n0 H0 (IteM false K a) (enumL 0 xs) [] := by
  refine ⟨fun j io st H u R h hj => ?_, fun io st H u R h => ?_, fun j v io st H x H' u R h e y => ?_⟩
  · rw [enumL_len] at hj
    obtain ⟨w, ew, _⟩ := rs.get (List.getElem?_eq_getElem hj)
    exact ⟨ys, w, u.ext.sqT sq, ew⟩
  · rw [enumL_len]
    exact ⟨ys, u.ext.sqT sq, rs.length.symm⟩
  · rw [enumL_get] at e
    cases ex : xs[j]? with
    | none => rw [ex] at e; cases e
    | some z =>
      rw [ex] at e; cases e
      obtain ⟨a', x', rfl, ha, rfl, q⟩ := y
      obtain ⟨w, ew, r⟩ := rs.get ex
      have := q ys (u.ext.sqT sq)
      rw [ew] at this; cases this
      obtain ⟨u1, R1⟩ := R.laid (ys := [.int (j : Nat), _]) ha
      refine ⟨u1, R1, .tup (.inl upd_same) (.cons ?_ (.cons (r.up (u.trans u1)) .nil))⟩
      rw [Int.zero_add]; exact .int _
theorem zipL_len : ∀ (xs ys : List Val), (zipL xs ys).length = min xs.length ys.length
  | [], ys => by unfold zipL; simp
  | x :: r, [] => by unfold zipL; simp
  | x :: r, y :: t => by unfold zipL; rw [List.length_cons, List.length_cons, List.length_cons, zipL_len r t]; omega
theorem zipL_get : ∀ (xs ys : List Val) (i : Nat) (v : Val), (zipL xs ys)[i]? = some v → ∃ x y, xs[i]? = some x ∧ ys[i]? = some y ∧ v = .tup [x, y]
  | [], ys, i, v, h => by unfold zipL at h; simp at h
  | x :: r, [], i, v, h => by unfold zipL at h; simp at h
  | x :: r, y :: t, 0, v, h => by unfold zipL at h; simp at h; exact ⟨x, y, rfl, rfl, h.symm⟩
  | x :: r, y :: t, i + 1, v, h => by
    unfold zipL at h
    rw [List.getElem?_cons_succ] at h
    obtain ⟨a, b, h1, h2, h3⟩ := zipL_get r t i v h
    exact ⟨a, b, by rw [List.getElem?_cons_succ]; exact h1, by rw [List.getElem?_cons_succ]; exact h2, h3⟩
theorem wlk_zip {i k : Nat} {xs ys : List Val} (hi : i < n0) (hk : k < n0) : Wlk K kt ca io0 n0 H0 (Itz K (io0 i) (io0 k)) (zipL xs ys) [(i, xs), (k, ys)] := by
  refine ⟨fun j io st H u R h hj => ?_, fun io st H u R h => ?_, fun j v io st H x H' u R h e y => ?_⟩
  · obtain ⟨us, sl, rs, _⟩ := R.list (sees1 h).1
    obtain ⟨vs, sl2, rs2, _⟩ := R.list (sees1 (sees1 h).2).1
    rw [u.io i hi] at sl
    rw [u.io k hk] at sl2
    rw [zipL_len] at hj
    obtain ⟨w, ew, _⟩ := rs.get (List.getElem?_eq_getElem (show j < xs.length by omega))
    obtain ⟨w2, ew2, _⟩ := rs2.get (List.getElem?_eq_getElem (show j < ys.length by omega))
    exact ⟨us, vs, w, w2, sl, sl2, ew, ew2⟩
  · obtain ⟨us, sl, rs, _⟩ := R.list (sees1 h).1
    obtain ⟨vs, sl2, rs2, _⟩ := R.list (sees1 (sees1 h).2).1
    rw [u.io i hi] at sl
    rw [u.io k hk] at sl2
    refine ⟨us, vs, sl, sl2, ?_⟩
    rw [zipL_len, rs.length, rs2.length]; omega
  · obtain ⟨us, sl, rs, _⟩ := R.list (sees1 h).1
    obtain ⟨vs, sl2, rs2, _⟩ := R.list (sees1 (sees1 h).2).1
    rw [u.io i hi] at sl
    rw [u.io k hk] at sl2
    obtain ⟨z, z2, h1, h2, rfl⟩ := zipL_get _ _ _ _ e
    obtain ⟨a, x', y', rfl, ha, rfl, q, q2⟩ := y
    obtain ⟨w, ew, r⟩ := rs.get h1
    obtain ⟨w2, ew2, r2⟩ := rs2.get h2
    have := q us sl
    rw [ew] at this; cases this
    have := q2 vs sl2
    rw [ew2] at this; cases this
    obtain ⟨u1, R1⟩ := R.laid (ys := [_, _]) ha
    exact ⟨u1, R1, .tup (.inl upd_same) (.cons (r.up u1) (.cons (r2.up u1) .nil))⟩
theorem wlk_zipT {a b : Addr} {xs ys : List Val} {us vs : List V} (s : SqT K H0 a us) (rs : RVs K kt io0 n0 H0 xs us) (s2 : SqT K H0 b vs) (rs2 : RVs K kt io0 n0 H0 ys vs) : Wlk K kt ca io0 n0 H0 (RZ.ItzT K a b) (zipL xs ys) [] := by
  refine ⟨fun j io st H u R h hj => ?_, fun io st H u R h => ?_, fun j v io st H x H' u R h e y => ?_⟩
  · rw [zipL_len] at hj
    obtain ⟨w, ew, _⟩ := rs.get (List.getElem?_eq_getElem (show j < xs.length by omega))
    obtain ⟨w2, ew2, _⟩ := rs2.get (List.getElem?_eq_getElem (show j < ys.length by omega))
    exact ⟨us, vs, w, w2, u.ext.sqT s, u.ext.sqT s2, ew, ew2⟩
  · refine ⟨us, vs, u.ext.sqT s, u.ext.sqT s2, ?_⟩
    rw [zipL_len, rs.length, rs2.length]; omega
  · obtain ⟨z, z2, h1, h2, rfl⟩ := zipL_get _ _ _ _ e
    obtain ⟨a', x', y', rfl, ha, rfl, q, q2⟩ := y
    obtain ⟨w, ew, r⟩ := rs.get h1
    obtain ⟨w2, ew2, r2⟩ := rs2.get h2
    have := q us (u.ext.sqT s)
    rw [ew] at this; cases this
    have := q2 vs (u.ext.sqT s2)
    rw [ew2] at this; cases this
    obtain ⟨u1, R1⟩ := R.laid (ys := [_, _]) ha
    exact ⟨u1, R1, .tup (.inl upd_same) (.cons (r.up (u.trans u1)) (.cons (r2.up (u.trans u1)) .nil))⟩
theorem wlk_str {z : Str} : Wlk K kt ca io0 n0 H0 (Its z) (z.cps.toList.map fun c => .str ⟨#[c]⟩) [] := by
  refine ⟨fun j io st H u R h hj => ?_, fun io st H u R h => ?_, fun j v io st H x H' u R h e y => ?_⟩
  · rw [List.length_map, Array.length_toList] at hj; exact hj
  · rw [List.length_map, Array.length_toList]; exact Nat.le_refl _
  · obtain ⟨rfl, c, ec, rfl⟩ := y
    rw [List.getElem?_map, Array.getElem?_toList, ec] at e
    cases e
    exact ⟨.refl _ _ _, R, .str _⟩
end

section
variable {T : Tab} {d : Nat} {N : List Str}
theorem si_of {a : E} (ha : SE T d N a) : SI T d N (.of a) := by
  intro X sc ow tg it A hc s st q st' io H t Rr rs R e p
  simp only [chI] at hc
  simp only [evw] at e
  obtain ⟨v, st1, e1, e⟩ := bind_eq_ok.mp e
  have main := ha X sc ow it A hc s st v st1 io H t
  unfold walkOf at e
  intro pins sh I
  split at e
  · cases e
    refine (pi_tup pe_sem).run pins sh t H Rr I ?_
    refine main _ rs R e1 fun io1 H1 w u1 R1 r1 => ?_
    obtain ⟨a1, ys, rfl, sq, r⟩ := r1.itup
    exact ⟨a1, rfl, ⟨ys, sq.sqT⟩, p io1 H1 _ u1 R1 (wlk_tup sq.sqT r)⟩
  · cases e
    refine (pi_str pe_sem).run pins sh t H Rr I ?_
    refine main _ rs R e1 fun io1 H1 w u1 R1 r1 => ?_
    obtain rfl := r1.istr
    exact ⟨_, rfl, p io1 H1 _ u1 R1 wlk_str⟩
  · split at e
    · rename_i i xs em
      cases e
      refine (pi_list pe_sem).run pins sh t H Rr I ?_
      refine main _ rs R e1 fun io1 H1 w u1 R1 r1 => ?_
      obtain ⟨rfl, hi⟩ := r1.iref
      obtain ⟨ys, sl, r, _⟩ := R1.list em
      exact ⟨_, rfl, ⟨ys, sl⟩, p io1 H1 _ u1 R1 (wlk_list hi)⟩
    · cases e
  · cases e
theorem small62_ok {i : Int} (h : small62 i = true) : -(2 ^ 62) ≤ i ∧ i < 2 ^ 62 := by
  unfold small62 at h
  rw [Bool.and_eq_true, decide_eq_true_eq, decide_eq_true_eq] at h
  exact h
theorem small24_ok {i j : Int} (h : small24 i j = true) : RgOk i j := by
  unfold small24 at h
  rw [Bool.and_eq_true, Bool.and_eq_true, decide_eq_true_eq] at h
  exact ⟨(small62_ok h.1.1).1, (small62_ok h.1.1).2, (small62_ok h.1.2).1, (small62_ok h.1.2).2, h.2⟩
theorem rangeL_rv {K : PySem.W.Frag} {kt : List (List Val)} {io : Nat → Addr} {m : Nat} {H : Hp} : ∀ (n : Nat) (lo : Int), RVs K kt io m H (rangeL lo n) ((List.range n).map fun i => V.int (lo + (i : Nat)))
  | 0, _ => .nil
  | n + 1, lo => by
    rw [List.range_succ_eq_map, List.map_cons, List.map_map]
    unfold rangeL
    have h := rangeL_rv (K := K) (kt := kt) (io := io) (m := m) (H := H) n (lo + 1)
    have e : ((fun i : Nat => V.int (lo + 1 + (i : Nat)))) = ((fun i : Nat => V.int (lo + (i : Nat))) ∘ Nat.succ) := by
      funext i
      show V.int _ = V.int _
      congr 1
      have : ((Nat.succ i : Nat) : Int) = (i : Int) + 1 := by push_cast; rfl
      rw [this]; omega
    rw [e] at h
    exact .cons (by rw [show lo + ((0 : Nat) : Int) = lo by simp]; exact .int lo) h
theorem se_lrg1 {a : E} (ha : SE T d N a) : SE T d N (.lrg1 a) := by
  intro X sc ow q A hc s st v st' io H t Q rs R e p
  simp only [chE] at hc
  split at hc
  · rename_i x p1 y p2 q1 pos2 pos
    simp only [Bool.and_eq_true] at hc
    obtain ⟨⟨⟨c1, c2⟩, c3⟩, c4⟩ := hc
    simp only [ev] at e
    obtain ⟨u, st1, e1, e⟩ := bind_eq_ok.mp e
    split at e
    · split at e
      · rename_i hs
        cases e
        have g1 := A.gl c1
        have g2 := A.gl c2
        obtain ⟨rfl, _, _⟩ := gB_ok c1
        obtain ⟨rfl, _, _⟩ := gB_ok c2
        intro pins sh I
        refine (pe_listRg A.calm g1 (A.top.bf .list) (prg_1 g2 A.top.rng pe_sem (star_cons c4)) (star_cons rfl)).run pins sh t H Q I ?_
        refine ha X sc ow _ A c3 s st _ st1 io H t _ rs R e1 fun io1 H1 w u1 R1 r1 => ?_
        obtain rfl := r1.iint
        refine ⟨_, rfl, small24_ok hs, fun l hl => ?_⟩
        refine (p.after u1).list R1 ?_ l hl
        unfold rgV
        rw [Int.sub_zero]
        exact rangeL_rv _ _
      · cases e
    · cases e
  · cases hc
theorem se_lrg2 {a b : E} (ha : SE T d N a) (hb : SE T d N b) : SE T d N (.lrg2 a b) := by
  intro X sc ow q A hc s st v st' io H t Q rs R e p
  simp only [chE] at hc
  split at hc
  · simp only [Bool.and_eq_true] at hc
    obtain ⟨⟨⟨⟨⟨c1, c2⟩, c3⟩, c4⟩, c5⟩, c6⟩ := hc
    simp only [ev] at e
    obtain ⟨u, st1, e1, e⟩ := bind_eq_ok.mp e
    obtain ⟨u2, st2, e2, e⟩ := bind_eq_ok.mp e
    split at e
    · split at e
      · rename_i hs
        cases e
        have g1 := A.gl c1
        have g2 := A.gl c2
        obtain ⟨rfl, _, _⟩ := gB_ok c1
        obtain ⟨rfl, _, _⟩ := gB_ok c2
        intro pins sh I
        refine (pe_listRg A.calm g1 (A.top.bf .list) (prg_2 g2 A.top.rng pe_sem pe_sem (star_cons c4) (star_cons c6) (by rw [star_cons c6]; rfl)) (star_cons rfl)).run pins sh t H Q I ?_
        refine ha X sc ow _ A c3 s st _ st1 io H t _ rs R e1 fun io1 H1 w u1 R1 r1 => ?_
        refine hb X sc ow _ A c5 s st1 _ _ io1 H1 t _ (rs.up u1) R1 e2 fun io2 H2 w2 u2 R2 r2 => ?_
        obtain rfl := r1.iint
        obtain rfl := r2.iint
        refine ⟨_, _, rfl, rfl, small24_ok hs, fun l hl => ?_⟩
        refine (p.after (u1.trans u2)).list R2 ?_ l hl
        exact rangeL_rv _ _
      · cases e
    · cases e
  · cases hc
theorem se_lzip {a b : E} (ha : SE T d N a) (hb : SE T d N b) : SE T d N (.lzip a b) := by
  intro X sc ow q A hc s st v st' io H t Q rs R e p
  simp only [chE] at hc
  split at hc
  · simp only [Bool.and_eq_true] at hc
    obtain ⟨⟨⟨⟨⟨c1, c2⟩, c3⟩, c4⟩, c5⟩, c6⟩ := hc
    simp only [ev] at e
    obtain ⟨u, st1, e1, e⟩ := bind_eq_ok.mp e
    obtain ⟨u2, st2, e2, e⟩ := bind_eq_ok.mp e
    split at e
    · rename_i xs ys ex ey
      cases e
      have g1 := A.gl c1
      have g2 := A.gl c2
      obtain ⟨rfl, _, _⟩ := gB_ok c1
      obtain ⟨rfl, _, _⟩ := gB_ok c2
      intro pins sh I
      refine (pe_lzip g1 (A.top.bf .list) g2 A.top.zip pe_sem pe_sem (star_cons rfl) (star_cons c4) (star_cons c6) (by rw [star_cons c6]; rfl)).run pins sh t H Q I ?_
      refine ha X sc ow _ A c3 s st _ st1 io H t _ rs R e1 fun io1 H1 w u1 R1 r1 => ?_
      refine hb X sc ow _ A c5 s st1 _ _ io1 H1 t _ (rs.up u1) R1 e2 fun io2 H2 w2 u2 R2 r2 => ?_
      exact zip_ok A.calm R2 (r1.up u2) r2 ex ey (p.after (u1.trans u2))
    · cases e
  · cases hc
theorem si_rg1 {a : E} (ha : SE T d N a) : SI T d N (.rg1 a) := by
  intro X sc ow tg it A hc s st q st' io H t Rr rs R e p
  simp only [chI] at hc
  split at hc
  · simp only [Bool.and_eq_true] at hc
    obtain ⟨⟨c1, c2⟩, c3⟩ := hc
    simp only [evw] at e
    obtain ⟨v, st1, e1, e⟩ := bind_eq_ok.mp e
    split at e
    · split at e
      · rename_i hs
        cases e
        have g := A.gl c1
        obtain ⟨rfl, _, _⟩ := gB_ok c1
        intro pins sh I
        refine (pi_range1 g A.top.rng (pa_cons pe_sem pa_nil (star_cons c3)) (star_cons c3)).run pins sh t H Rr I ?_
        refine ha X sc ow _ A c2 s st _ _ io H t _ rs R e1 fun io1 H1 w u1 R1 r1 => ?_
        obtain rfl := r1.iint
        exact ⟨_, rfl, (small62_ok hs).1, (small62_ok hs).2, p io1 H1 _ u1 R1 wlk_range⟩
      · cases e
    · cases e
  · cases hc
theorem si_rg2 {a b : E} (ha : SE T d N a) (hb : SE T d N b) : SI T d N (.rg2 a b) := by
  intro X sc ow tg it A hc s st q st' io H t Rr rs R e p
  simp only [chI] at hc
  split at hc
  · simp only [Bool.and_eq_true] at hc
    obtain ⟨⟨⟨⟨c1, c2⟩, c3⟩, c4⟩, c5⟩ := hc
    simp only [evw] at e
    obtain ⟨v, st1, e1, e⟩ := bind_eq_ok.mp e
    obtain ⟨v2, st2, e2, e⟩ := bind_eq_ok.mp e
    split at e
    · split at e
      · rename_i hs
        cases e
        rw [Bool.and_eq_true] at hs
        have g := A.gl c1
        obtain ⟨rfl, _, _⟩ := gB_ok c1
        intro pins sh I
        refine (pi_range2 g A.top.rng (pa_cons pe_sem (pa_cons pe_sem pa_nil (star_cons c5)) (star_cons c3)) (by rw [star_cons c3, star_cons c5]; rfl) (star_cons c5)).run pins sh t H Rr I ?_
        refine ha X sc ow _ A c2 s st _ st1 io H t _ rs R e1 fun io1 H1 w u1 R1 r1 => ?_
        refine hb X sc ow _ A c4 s st1 _ _ io1 H1 t _ (rs.up u1) R1 e2 fun io2 H2 w2 u2 R2 r2 => ?_
        obtain rfl := r1.iint
        obtain rfl := r2.iint
        exact ⟨_, _, rfl, ⟨(small62_ok hs.1).1, (small62_ok hs.1).2, (small62_ok hs.2).1, (small62_ok hs.2).2⟩, p io2 H2 _ (u1.trans u2) R2 wlk_range⟩
      · cases e
    · cases e
  · cases hc
theorem tup_of {tg : Expr} (h : tupB tg = true) : ∃ es k pos, tg = .Tuple es k pos := by
  cases tg <;> first | exact ⟨_, _, _, rfl⟩ | cases h
theorem si_enu {a : E} (ha : SE T d N a) : SI T d N (.enu a) := by
  intro X sc ow tg it A hc s st q st' io H t Rr rs R e p
  simp only [chI] at hc
  split at hc
  · simp only [Bool.and_eq_true] at hc
    obtain ⟨⟨⟨c1, c2⟩, c3⟩, c4⟩ := hc
    obtain ⟨es, k, tp, rfl⟩ := tup_of c4
    simp only [evw] at e
    obtain ⟨v, st1, e1, e⟩ := bind_eq_ok.mp e
    split at e
    · rename_i xs
      cases e
      have g := A.gl c1
      obtain ⟨rfl, _, _⟩ := gB_ok c1
      intro pins sh I
      refine (pi_enumM g A.top.enu (pa_cons pe_sem pa_nil (star_cons c3)) (star_cons c3)).run pins sh t H Rr I ?_
      refine ha X sc ow _ A c2 s st _ _ io H t _ rs R e1 fun io1 H1 w u1 R1 r1 => ?_
      obtain ⟨a1, ys, rfl, sq, r⟩ := r1.itup
      exact ⟨false, _, ys, rfl, sq.sqT, p io1 H1 _ u1 R1 (wlk_enumT sq.sqT r)⟩
    · split at e
      · rename_i i xs em
        cases e
        have g := A.gl c1
        obtain ⟨rfl, _, _⟩ := gB_ok c1
        intro pins sh I
        refine (pi_enum g A.top.enu (pa_cons pe_sem pa_nil (star_cons c3)) (star_cons c3)).run pins sh t H Rr I ?_
        refine ha X sc ow _ A c2 s st _ _ io H t _ rs R e1 fun io1 H1 w u1 R1 r1 => ?_
        obtain ⟨rfl, hi⟩ := r1.iref
        obtain ⟨ys, sl, r, _⟩ := R1.list em
        exact ⟨_, ys, rfl, sl, p io1 H1 _ u1 R1 (wlk_enum hi)⟩
      · cases e
    · cases e
  · cases hc
section
variable {K : PySem.W.Frag} {kt : List (List Val)} {ca io0 : Nat → Addr} {n0 : Nat} {H0 : Hp}
/-- a value that is walked, as it stands later -/
theorem src_later {io : Nat → Addr} {st : Store} {H : Hp} {x : Val} {xs : List Val} {w : V} (R : Rl K kt ca io st H) (r : RV K kt io st.n H x w) (e : itemsOf x st = some xs) :
    ∃ (k : Bool) (a : Addr), w = .ref a ∧ (∃ us, SqK k K H a us) ∧ ∀ (io' : Nat → Addr) (st' : Store) (H' : Hp), Up io st.n H io' st'.n H' → Rl K kt ca io' st' H' → st'.sees (wOf x xs) = true → ∃ us, SqK k K H' a us ∧ RVs K kt io' st'.n H' xs us := by
  cases x with
  | tup ys =>
    cases e
    obtain ⟨a, us, rfl, sq, rs⟩ := r.itup
    exact ⟨false, a, rfl, ⟨us, sq.sqT⟩, fun io' st' H' u _ _ => ⟨us, u.ext.sqT sq.sqT, rs.up u⟩⟩
  | ref i =>
    obtain ⟨rfl, hi⟩ := r.iref
    have em : st.m i = some (.lst xs) := by
      have e : st.lst i = some xs := e
      unfold Store.lst at e
      split at e
      · cases e; assumption
      · cases e
    obtain ⟨us, sl, _, _⟩ := R.list em
    refine ⟨true, io i, rfl, ⟨us, sl⟩, fun io' st' H' u R' h => ?_⟩
    obtain ⟨us, sl, rs, _⟩ := R'.list (sees1 h).1
    rw [u.io i hi] at sl
    exact ⟨us, sl, rs⟩
  | _ => cases e
theorem sees_app {st : Store} : ∀ {w v : Watch}, st.sees (w ++ v) = true → st.sees w = true ∧ st.sees v = true
  | [], _, h => ⟨rfl, h⟩
  | (i, xs) :: r, v, h => by
    rw [List.cons_append, Store.sees, Bool.and_eq_true] at h
    have := sees_app h.2
    exact ⟨by rw [Store.sees, Bool.and_eq_true]; exact ⟨h.1, this.1⟩, this.2⟩
theorem wlk_zipM {k l : Bool} {a b : Addr} {xs ys : List Val} {w v : Watch}
    (s1 : ∀ (io' : Nat → Addr) (st' : Store) (H' : Hp), Up io0 n0 H0 io' st'.n H' → Rl K kt ca io' st' H' → st'.sees w = true → ∃ us, SqK k K H' a us ∧ RVs K kt io' st'.n H' xs us)
    (s2 : ∀ (io' : Nat → Addr) (st' : Store) (H' : Hp), Up io0 n0 H0 io' st'.n H' → Rl K kt ca io' st' H' → st'.sees v = true → ∃ us, SqK l K H' b us ∧ RVs K kt io' st'.n H' ys us) : Wlk K kt ca io0 n0 H0 (ItM k l K a b) (zipL xs ys) (w ++ v) := by
  refine ⟨fun j io st H u R h hj => ?_, fun io st H u R h => ?_, fun j v io st H x H' u R h e y => ?_⟩
  · obtain ⟨us, sl, rs⟩ := s1 io st H u R (sees_app h).1
    obtain ⟨vs, sl2, rs2⟩ := s2 io st H u R (sees_app h).2
    rw [zipL_len] at hj
    obtain ⟨w, ew, _⟩ := rs.get (List.getElem?_eq_getElem (show j < xs.length by omega))
    obtain ⟨w2, ew2, _⟩ := rs2.get (List.getElem?_eq_getElem (show j < ys.length by omega))
    exact ⟨us, vs, w, w2, sl, sl2, ew, ew2⟩
  · obtain ⟨us, sl, rs⟩ := s1 io st H u R (sees_app h).1
    obtain ⟨vs, sl2, rs2⟩ := s2 io st H u R (sees_app h).2
    refine ⟨us, vs, sl, sl2, ?_⟩
    rw [zipL_len, rs.length, rs2.length]
  · obtain ⟨us, sl, rs⟩ := s1 io st H u R (sees_app h).1
    obtain ⟨vs, sl2, rs2⟩ := s2 io st H u R (sees_app h).2
    obtain ⟨z, z2, h1, h2, rfl⟩ := zipL_get _ _ _ _ e
    obtain ⟨a, x', y', rfl, ha, rfl, q, q2⟩ := y
    obtain ⟨w, ew, r⟩ := rs.get h1
    obtain ⟨w2, ew2, r2⟩ := rs2.get h2
    have := q us sl
    rw [ew] at this; cases this
    have := q2 vs sl2
    rw [ew2] at this; cases this
    obtain ⟨u1, R1⟩ := R.laid (ys := [_, _]) ha
    exact ⟨u1, R1, .tup (.inl upd_same) (.cons (r.up u1) (.cons (r2.up u1) .nil))⟩
end
theorem si_zip {a b : E} (ha : SE T d N a) (hb : SE T d N b) : SI T d N (.zip a b) := by
  intro X sc ow tg it A hc s st q st' io H t Rr rs R e p
  simp only [chI] at hc
  split at hc
  · simp only [Bool.and_eq_true] at hc
    obtain ⟨⟨⟨⟨⟨c1, c2⟩, c3⟩, c4⟩, c5⟩, c6⟩ := hc
    obtain ⟨es, k, tp, rfl⟩ := tup_of c6
    simp only [evw] at e
    obtain ⟨v, st1, e1, e⟩ := bind_eq_ok.mp e
    obtain ⟨v2, st2, e2, e⟩ := bind_eq_ok.mp e
    have g := A.gl c1
    obtain ⟨rfl, _, _⟩ := gB_ok c1
    intro pins sh I
    refine (pi_zipM g A.top.zip (pa_cons pe_sem (pa_cons pe_sem pa_nil (star_cons c5)) (star_cons c3)) (star_cons c3) (star_any (by simp [c5]))).run pins sh t H Rr I ?_
    refine ha X sc ow _ A c2 s st _ st1 io H t _ rs R e1 fun io1 H1 w u1 R1 r1 => ?_
    refine hb X sc ow _ A c4 s st1 _ _ io1 H1 t _ (rs.up u1) R1 e2 fun io2 H2 w2 u2 R2 r2 => ?_
    split at e
    · rename_i em em2
      cases e
      obtain ⟨k1, a1, e3, ⟨us, sl⟩, g1⟩ := src_later R2 (r1.up u2) em
      obtain ⟨k2, a2, e4, ⟨vs, sl2⟩, g2⟩ := src_later R2 r2 em2
      exact ⟨k1, k2, a1, a2, us, vs, by rw [e3, e4], sl, sl2, p io2 H2 _ (u1.trans u2) R2 (wlk_zipM g1 g2)⟩
    · cases e
  · cases hc

/-! ### targets -/
def setAllV : List Nat → List V → L2.St → L2.St
  | i :: is, v :: vs, s => setAllV is vs (s.set i (some v))
  | _, _, s => s
def setTgV (t : Tg) (w : V) (ws : List V) (s : L2.St) : L2.St := match t with
  | .one i => s.set i (some w)
  | .many is => setAllV is ws s
def tgIx : Tg → List Nat
  | .one i => [i]
  | .many is => is
theorem setAll_rs {K : PySem.W.Frag} {kt : List (List Val)} {io : Nat → Addr} {n : Nat} {H : Hp} : ∀ {is : List Nat} {vs : List Val} {ws : List V} {s s' : Env} {t : L2.St}, RS K kt io n H s t → RVs K kt io n H vs ws → setAll is vs s = some s' → RS K kt io n H s' (setAllV is ws t) ∧ is.length = ws.length
  | [], [], _, s, s', t, r, .nil, e => by cases e; exact ⟨r, rfl⟩
  | i :: is, v :: vs, _, s, s', t, r, .cons a b, e => by
    obtain ⟨h1, h2⟩ := setAll_rs (r.set a i) b e
    exact ⟨h1, by rw [List.length_cons, List.length_cons, h2]⟩
  | [], v :: vs, _, s, s', t, r, .cons a b, e => by cases e
  | i :: is, [], _, s, s', t, r, .nil, e => by cases e
/-- names stored one after another -/
theorem names_pgs {X : Cx} {sc : Scope} {ow : Str → Bool} (A : At T d X N sc ow) : ∀ {is : List Nat} {es : List Expr}, namesB N sc ow is es = true → ∃ g, PGs X es g ∧ (assignEach es X.env).length = is.length ∧ (assignEach es X.env).findIdx? (·.1) = none ∧
    ∀ (ws : List V) (t : L2.St) (H : Hp) (Q : L2.St → Hp → Prop), is.length = ws.length → Q (setAllV is ws t) H → g ws t H Q
  | [], [], _ => ⟨_, pgs_nil, rfl, rfl, fun ws t H Q hl q => by
      cases ws with
      | nil => exact ⟨rfl, q⟩
      | cons _ _ => cases hl⟩
  | i :: is, .Name x pos :: es, h => by
    unfold namesB at h
    rw [Bool.and_eq_true] at h
    obtain ⟨g, h1, h2, h3, h4⟩ := names_pgs A h.2
    have hs := h.1
    unfold stB at hs
    rw [Bool.and_eq_true, decide_eq_true_eq] at hs
    obtain ⟨l1, l2⟩ := locB_ok hs.2
    have pn : PG X (.Name x pos) (gName i) := pg_name (by rw [A.hN]; exact A.nd) (by rw [A.hN]; exact hs.1) (by rw [A.hsc]; exact l1) (by rw [A.hsc]; exact l2.imp (A.how x) id)
    refine ⟨_, pgs_cons pn h1 (by rfl), ?_, ?_, fun ws t H Q hl q => ?_⟩
    · show ((false, _) :: assignEach es X.env).length = _
      rw [List.length_cons, List.length_cons, h2]
    · show ((false, assign (.Name x pos) X.env) :: assignEach es X.env).findIdx? (·.1) = none
      rw [List.findIdx?_cons, h3]; rfl
    · cases ws with
      | nil => cases hl
      | cons w ws => exact ⟨w, ws, rfl, h4 ws _ H Q (by simpa using hl) q⟩
  | [], _ :: _, h => by unfold namesB at h; cases h
  | _ :: _, [], h => by unfold namesB at h; cases h
theorem tg_pg {X : Cx} {sc : Scope} {ow : Str → Bool} (A : At T d X N sc ow) {tt : Tg} {tg : Expr} (h : tgB N sc ow tt tg = true) : ∃ g, PG X tg g ∧
    ∀ (v : Val) (s s' : Env) (io : Nat → Addr) (n : Nat) (H : Hp) (w : V) (t : L2.St) (Q : L2.St → Hp → Prop), RS X.K T.G.kt io n H s t → RV X.K T.G.kt io n H v w → setTg tt v s = some s' →
      (∀ ws, RS X.K T.G.kt io n H s' (setTgV tt w ws t) → Q (setTgV tt w ws t) H) → g w t H Q := by
  cases tt with
  | one i =>
    cases tg with
    | Name x pos =>
      unfold tgB at h
      unfold stB at h
      rw [Bool.and_eq_true, decide_eq_true_eq] at h
      obtain ⟨l1, l2⟩ := locB_ok h.2
      refine ⟨_, pg_name (by rw [A.hN]; exact A.nd) (by rw [A.hN]; exact h.1) (by rw [A.hsc]; exact l1) (by rw [A.hsc]; exact l2.imp (A.how x) id), fun v s s' io n H w t Q rs r e q => ?_⟩
      cases e
      exact q [] (rs.set r i)
    | _ => cases h
  | many is =>
    cases tg with
    | Tuple es k pos =>
      unfold tgB at h
      obtain ⟨g, h1, h2, h3, h4⟩ := names_pgs A h
      refine ⟨_, pg_tup A.calm h1 h2 h3, fun v s s' io n H w t Q rs r e q => ?_⟩
      unfold setTg at e
      cases r with
      | tup sq rr =>
        obtain ⟨z, hl⟩ := setAll_rs rs rr e
        exact ⟨_, _, rfl, sq.sqT, hl.symm, h4 _ t H Q hl (q _ z)⟩
      | _ => cases e
    | _ => cases h
end
end CL

/-! CL, part j: comprehensions; statements -/
namespace CL
open PySem PySem.Spec PyProof.Rows L2
section
variable {T : Tab} {d : Nat} {N : List Str}
theorem wipe_get {s : L2.St} {i : Nat} : ∀ {vs : List Nat}, (L2.wipe s vs)[i]? = if i ∈ vs then (if i < s.length then some none else none) else s[i]?
  | [] => by simp [L2.wipe]
  | v :: vs => by
    unfold L2.wipe
    rw [List.getElem?_set, wipe_get (vs := vs), wipe_length]
    by_cases h : v = i
    · subst h; simp
    · have : ¬ i = v := fun z => h z.symm
      simp [h, this]
theorem setAllV_get : ∀ {is : List Nat} {ws : List V} {s : L2.St} {j : Nat}, j ∉ is → (setAllV is ws s)[j]? = s[j]?
  | [], ws, s, j, _ => by cases ws <;> rfl
  | i :: is, [], s, j, _ => rfl
  | i :: is, w :: ws, s, j, h => by
    simp only [List.mem_cons, not_or] at h
    show (setAllV is ws (s.set i (some w)))[j]? = _
    rw [setAllV_get h.2, List.getElem?_set_ne (fun z => h.1 z.symm)]
theorem setAllV_len : ∀ {is : List Nat} {ws : List V} {s : L2.St}, (setAllV is ws s).length = s.length
  | [], ws, s => by cases ws <;> rfl
  | i :: is, [], s => rfl
  | i :: is, w :: ws, s => by
    show (setAllV is ws (s.set i (some w))).length = _
    rw [setAllV_len, List.length_set]
theorem setTgV_get {tt : Tg} {w : V} {ws : List V} {s : L2.St} {j : Nat} (h : j ∉ tgIx tt) : (setTgV tt w ws s)[j]? = s[j]? := by
  cases tt with
  | one i =>
    have : ¬ i = j := fun z => h (by simp [tgIx, z])
    show (s.set i (some w))[j]? = _
    rw [List.getElem?_set_ne this]
  | many is => exact setAllV_get h
theorem setTgV_len {tt : Tg} {w : V} {ws : List V} {s : L2.St} : (setTgV tt w ws s).length = s.length := by
  cases tt with
  | one i => exact List.length_set
  | many is => exact setAllV_len
theorem wipe_set {tt : Tg} {w : V} {ws : List V} {s : L2.St} {vs : List Nat} (h : ∀ i ∈ tgIx tt, i ∈ vs) : L2.wipe (setTgV tt w ws (L2.wipe s vs)) vs = L2.wipe s vs := by
  apply List.ext_getElem?
  intro i
  rw [wipe_get, wipe_get, setTgV_len, wipe_length]
  by_cases hi : i ∈ vs
  · simp [hi]
  · rw [if_neg hi, if_neg hi, setTgV_get (fun z => hi (h i z)), wipe_get, if_neg hi]
theorem names_own {sc : Scope} {ow : Str → Bool} : ∀ {is : List Nat} {es : List Expr}, namesB N sc ow is es = true → ∀ i ∈ is, ∃ x, N[i]? = some x
  | [], _, _, i, h => absurd h (by simp)
  | i :: is, .Name x pos :: es, h, j, hj => by
    unfold namesB at h
    rw [Bool.and_eq_true] at h
    have hs := h.1
    unfold stB at hs
    rw [Bool.and_eq_true, decide_eq_true_eq] at hs
    rcases List.mem_cons.mp hj with rfl | hj
    · exact ⟨x, hs.1⟩
    · exact names_own h.2 j hj
  | i :: is, [], h, _, _ => by unfold namesB at h; cases h
theorem tg_own {sc : Scope} {ow : Str → Bool} {tt : Tg} {tg : Expr} (h : tgB N sc ow tt tg = true) : ∀ i ∈ tgIx tt, i ∈ (tgOwn N tt).map (·.2) := by
  cases tt with
  | one i =>
    cases tg with
    | Name x pos =>
      unfold tgB at h
      unfold stB at h
      rw [Bool.and_eq_true, decide_eq_true_eq] at h
      intro j hj
      have : j = i := by simpa [tgIx] using hj
      subst this
      simp [tgOwn, h.1]
    | _ => cases h
  | many is =>
    cases tg with
    | Tuple es k pos =>
      unfold tgB at h
      intro j hj
      have hj : j ∈ is := hj
      obtain ⟨x, hx⟩ := names_own h j hj
      rw [List.mem_map]
      refine ⟨(x, j), ?_, rfl⟩
      show (x, j) ∈ is.filterMap _
      rw [List.mem_filterMap]
      exact ⟨j, hj, by rw [hx]⟩
    | _ => cases h
/-- the context of a comprehension's block -/
theorem At.blk {X : Cx} {sc scope : Scope} {ow : Str → Bool} {own : List (Str × Nat)} (A : At T d X N sc ow) (hb : blkC N sc scope own = true) (s : Shared) (H : Hp) (C : Addr) (cl : List (Str × Addr)) (fp : List Addr) :
    At T d (X.blk s H scope (compEnvC scope cl C X.env) fp) N (relS scope sc) (fun x => scope.names.lookup x == some .cell) := by
  refine ⟨A.top, A.fns, A.hN, A.nd, ?_, ?_, fun x h => h, A.calm, A.room⟩
  · show relabel scope X.env = relS scope sc
    rw [← A.hsc]; rfl
  · exact (blkOk_by hb).kind
def wipeE (s : Env) : List Nat → Env
  | [] => s
  | v :: vs => (wipeE s vs).set v none
theorem wipeE_len (s : Env) : ∀ vs, (wipeE s vs).length = s.length
  | [] => rfl
  | v :: vs => by unfold wipeE; rw [List.length_set, wipeE_len s vs]
theorem wipeE_get {s : Env} {i : Nat} : ∀ {vs : List Nat}, (wipeE s vs)[i]? = if i ∈ vs then (if i < s.length then some none else none) else s[i]?
  | [] => by simp [wipeE]
  | v :: vs => by
    unfold wipeE
    rw [List.getElem?_set, wipeE_get (vs := vs), wipeE_len]
    by_cases h : v = i
    · subst h; simp
    · have : ¬ i = v := fun z => h z.symm
      simp [h, this]
theorem set_agree {s u : Env} {i : Nat} {is : List Nat} {o : Option Val} (hl : s.length = u.length) (h : ∀ j, j ∉ i :: is → s[j]? = u[j]?) : ∀ j, j ∉ is → (s.set i o)[j]? = (u.set i o)[j]? := by
  intro j hj
  by_cases e : i = j
  · subst e; rw [List.getElem?_set, List.getElem?_set, hl]
    split
    · split
      · rfl
      · rename_i h1 h2; rfl
    · rename_i h1; exact absurd rfl h1
  · rw [List.getElem?_set_ne e, List.getElem?_set_ne e]
    exact h j (by simp only [List.mem_cons, not_or]; exact ⟨fun z => e z.symm, hj⟩)
theorem setAll_agree : ∀ {is : List Nat} {vs : List Val} {s u s' : Env}, setAll is vs s = some s' → s.length = u.length → (∀ j, j ∉ is → s[j]? = u[j]?) → setAll is vs u = some s'
  | [], [], s, u, s', e, hl, h => by
    cases e
    show some u = some s
    congr 1
    exact (List.ext_getElem? fun j => h j (by simp)).symm
  | i :: is, v :: vs, s, u, s', e, hl, h => by
    have e : setAll is vs (s.set i (some v)) = some s' := e
    show setAll is vs (u.set i (some v)) = some s'
    exact setAll_agree e (by rw [List.length_set, List.length_set, hl]) (set_agree hl h)
  | [], _ :: _, _, _, _, e, _, _ => by cases e
  | _ :: _, [], _, _, _, e, _, _ => by cases e
theorem setTg_agree {tt : Tg} {v : Val} {s u s' : Env} (e : setTg tt v s = some s') (hl : s.length = u.length) (h : ∀ j, j ∉ tgIx tt → s[j]? = u[j]?) : setTg tt v u = some s' := by
  cases tt with
  | one i =>
    cases e
    show some (u.set i (some v)) = some (s.set i (some v))
    congr 1
    exact (List.ext_getElem? fun j => set_agree (is := []) hl h j (by simp)).symm
  | many is =>
    unfold setTg at e ⊢
    cases v with
    | tup xs => exact setAll_agree e hl h
    | _ => cases e
theorem rs_wipe {K : PySem.W.Frag} {kt : List (List Val)} {io : Nat → Addr} {n : Nat} {H : Hp} {s : Env} {t : L2.St} {tt : Tg} {v : Val} {s' : Env} {vs : List Nat} (hv : ∀ i ∈ vs, i ∈ tgIx tt) (rs : RS K kt io n H s t) (e : setTg tt v s = some s') :
    RS K kt io n H (wipeE s vs) (L2.wipe t vs) ∧ setTg tt v (wipeE s vs) = some s' := by
  refine ⟨⟨by rw [wipeE_len, wipe_length, rs.1], fun i u h => ?_⟩, setTg_agree e (wipeE_len _ _).symm fun j hj => ?_⟩
  · rw [wipeE_get] at h
    rw [wipe_get]
    by_cases hi : i ∈ vs
    · rw [if_pos hi] at h
      split at h <;> cases h
    · rw [if_neg hi] at h ⊢
      exact rs.2 i u h
  · rw [wipeE_get, if_neg (fun z => hj (hv j z))]
theorem own_ix {N : List Str} {tt : Tg} : ∀ i ∈ (tgOwn N tt).map (·.2), i ∈ tgIx tt := by
  intro i hi
  obtain ⟨⟨x, j⟩, h, rfl⟩ := List.mem_map.mp hi
  cases tt with
  | one k =>
    unfold tgOwn at h
    simp only at h
    split at h
    · simp at h; simp [tgIx, h.2]
    · simp at h
  | many is =>
    have h : (x, j) ∈ is.filterMap _ := h
    rw [List.mem_filterMap] at h
    obtain ⟨k, hk, e⟩ := h
    split at e
    · cases e; exact hk
    · cases e
theorem lcLoop_inv {D : Nat} {w : Watch} {f : Val → Store → Res (Option Val)} {x : Val} {r : List Val} {st st' : Store} {v : Val} (e : lcLoop D w f (x :: r) st = .ok v st') :
    st.sees w = true ∧ ∃ o st1, f x st = .ok o st1 ∧ ((o = none ∧ lcLoop D w f r st1 = .ok v st') ∨ ∃ y st2 z, o = some y ∧ bmt .append (.ref D) [y] st1 = .ok z st2 ∧ lcLoop D w f r st2 = .ok v st') := by
  unfold lcLoop at e
  split at e
  · rename_i h
    refine ⟨h, ?_⟩
    obtain ⟨o, st1, e1, e⟩ := bind_eq_ok.mp e
    refine ⟨o, st1, e1, ?_⟩
    cases o with
    | none => exact .inl ⟨rfl, e⟩
    | some y =>
      obtain ⟨z, st2, e2, e⟩ := bind_eq_ok.mp e
      exact .inr ⟨y, st2, z, rfl, e2, e⟩
  · cases e
theorem append_inv {D : Nat} {y z : Val} {st st' : Store} (e : bmt .append (.ref D) [y] st = .ok z st') : ∃ xs, st.m D = some (.lst xs) ∧ xs.length < sizeLine ∧ st.ro D = false ∧ st' = st.set D (.lst (xs ++ [y])) := by
  unfold bmt at e
  simp only at e
  cases hm : st.m D with
  | none => rw [hm] at e; cases e
  | some o =>
    rw [hm] at e
    cases o with
    | lst xs =>
      simp only at e
      split at e
      · rename_i hz
        obtain ⟨hr, _, rfl⟩ := wr_inv e
        exact ⟨xs, rfl, hz, hr, rfl⟩
      · cases e
    | _ => cases e
def gtSem (X : Cx) (tg : Expr) : TG := fun v σ H Q => ∀ (pins : List (Addr × Obj)) (s : Shared) (u : Value), Inv X pins σ H s → RelV v u → wpAny (model X.prog X.w) X.A (assign tg X.env u) (fun _ s' => ∃ σ' H', Inv X pins σ' H' s' ∧ Q σ' H') X.xe s
theorem pg_sem {X : Cx} {tg : Expr} : PG X tg (gtSem X tg) := ⟨fun pins s σ H v u Q I r h => h pins s u I r⟩
theorem tg_sem {X : Cx} {sc : Scope} {ow : Str → Bool} (A : At T d X N sc ow) {tt : Tg} {tg : Expr} (h : tgB N sc ow tt tg = true)
    {v : Val} {s s' : Env} {io : Nat → Addr} {n : Nat} {H : Hp} {w : V} {t : L2.St} {Q : L2.St → Hp → Prop} (rs : RS X.K T.G.kt io n H s t) (r : RV X.K T.G.kt io n H v w) (e : setTg tt v s = some s')
    (q : ∀ ws, RS X.K T.G.kt io n H s' (setTgV tt w ws t) → Q (setTgV tt w ws t) H) : gtSem X tg w t H Q := by
  obtain ⟨g, h1, h2⟩ := tg_pg A h
  intro pins sh u I ru
  exact h1.run pins sh t H w u Q I ru (h2 v s s' io n H w t Q rs r e q)
def tsSem (X : Cx) (ifs : List Expr) : TT := fun σ H Q => ∀ (pins : List (Addr × Obj)) (s : Shared), Inv X pins σ H s →
    wpAny (model X.prog X.w) X.A (forIn ifs true fun c r => if r = true then do let ok ← isTrue c X.env (eval c X.env); pure (ForInStep.yield ok) else pure (ForInStep.yield r)) (TP X pins σ Q) X.xe s
theorem tests_ok {c : B} (hb : SB T d N c) {X : Cx} {sc : Scope} {ow : Str → Bool} (A : At T d X N sc ow) {ifs : List Expr} (h : ifsB (fun q => chB T.nm N c sc q) (isYes c) ifs = true)
    {s : Env} {st : Store} {k : Bool} {st' : Store} {io : Nat → Addr} {H : Hp} {t : L2.St} {Q : Bool → Hp → Prop} (rs : RS X.K T.G.kt io st.n H s t) (R : Rl X.K T.G.kt T.ca io st H) (e : ts (T.cx d) c s st = .ok k st')
    (p : PostB X.K T.G.kt T.ca io st H k st' Q) : tsSem X ifs t H Q := by
  intro pins sh I
  cases ifs with
  | nil =>
    cases c with
    | yes =>
      simp only [ts] at e
      cases e
      exact pts_nil.run pins sh t H Q I (p io H (.refl _ _ _) R)
    | _ => cases h
  | cons q r =>
    cases r with
    | nil => exact (pts_one pt_sem).run pins sh t H Q I (hb X sc ow q A h s st k st' io H t Q rs R e p)
    | cons _ _ => cases h
/-- a comprehension's reading -/
theorem lc_read {tt : Tg} {w : I} {c : B} {a : E} (hw : SI T d N w) (hb : SB T d N c) (ha : SE T d N a) {X : Cx} {sc : Scope} {ow : Str → Bool} (A : At T d X N sc ow) {pe tg it : Expr} {ifs : List Expr} {scope : Scope}
    (c1 : chI T.nm N w sc tg it = true) (c2 : blkC N sc scope (tgOwn N tt) = true) (c3 : tgB N (relS scope sc) (fun x => scope.names.lookup x == some .cell) tt tg = true)
    (c4 : ifsB (fun q => chB T.nm N c (relS scope sc) q) (isYes c) ifs = true) (c5 : chE T.nm N a (relS scope sc) pe = true) :
    ∃ g tb te, (∀ (s : Shared) (H : Hp) (C : Addr) (cl : List (Str × Addr)) (fp : List Addr), PG (X.blk s H scope (compEnvC scope cl C X.env) fp) tg g) ∧
      (∀ (s : Shared) (H : Hp) (C : Addr) (cl : List (Str × Addr)) (fp : List Addr), PTs (X.blk s H scope (compEnvC scope cl C X.env) fp) ifs tb) ∧
      (∀ (s : Shared) (H : Hp) (C : Addr) (cl : List (Str × Addr)) (fp : List Addr), PE (X.blk s H scope (compEnvC scope cl C X.env) fp) pe te) ∧
      ∀ (s : Env) (st : Store) (v : Val) (st' : Store) (io : Nat → Addr) (H : Hp) (t : L2.St) (Q : VK), RS X.K T.G.kt io st.n H s t → Rl X.K T.G.kt T.ca io st H → ev (T.cx d) (.lc tt w c a) s st = .ok v st' →
        Post X.K T.G.kt T.ca io st H v st' Q → tLc (wkSem X tg it) g tb te ((tgOwn N tt).map (·.2)) t H Q := by
  refine ⟨fun v σ H Q => ∀ (s : Shared) (H0 : Hp) (C : Addr) (cl : List (Str × Addr)) (fp : List Addr), gtSem (X.blk s H0 scope (compEnvC scope cl C X.env) fp) tg v σ H Q,
    fun σ H Q => ∀ (s : Shared) (H0 : Hp) (C : Addr) (cl : List (Str × Addr)) (fp : List Addr), tsSem (X.blk s H0 scope (compEnvC scope cl C X.env) fp) ifs σ H Q,
    fun σ H Q => ∀ (s : Shared) (H0 : Hp) (C : Addr) (cl : List (Str × Addr)) (fp : List Addr), tSem (X.blk s H0 scope (compEnvC scope cl C X.env) fp) pe σ H Q,
    fun s H C cl fp => ⟨fun pins sh σ H v u Q I r h => h s _ C cl fp pins sh u I r⟩, fun s H C cl fp => ⟨fun pins sh σ H Q I h => h s _ C cl fp pins sh I⟩, fun s H C cl fp => ⟨fun pins sh σ H Q I h => h s _ C cl fp pins sh I⟩, ?_⟩
  intro s st v st' io H t Q rs R e p
  simp only [ev] at e
  obtain ⟨q, st1, e1, e⟩ := bind_eq_ok.mp e
  refine hw X sc ow tg it A c1 s st q st1 io H t _ rs R e1 fun io1 H1 J u1 R1 wl D hD => ?_
  have Rn := R1.new (o := .lst []) (u := .lst []) hD (.lst upd_same .nil)
  have un := Up.new (io := io1) (st := st1) (.lst []) hD
  generalize hf : onLc tt (fun s st => ts (T.cx d) c s st) (fun s st => ev (T.cx d) a s st) s = f at e
  refine ⟨fun i m H' => m = q.1.length - i ∧ i ≤ q.1.length ∧ ∃ (io2 : Nat → Addr) (st2 : Store), Up (ioNew io1 st1.n D) (st1.n + 1) (upd H1 D (.lst [])) io2 st2.n H' ∧ Rl X.K T.G.kt T.ca io2 st2 H' ∧ lcLoop st1.n q.2 f (q.1.drop i) st2 = .ok v st',
    ⟨_, rfl, Nat.zero_le _, _, _, .refl _ _ _, Rn, by rw [List.drop_zero]; exact e⟩, ?_⟩
  rintro i m H2 ⟨rfl, hi, io2, st2, u2, R2, e2⟩
  have U2 := un.trans u2
  by_cases hlt : i < q.1.length
  · rw [List.drop_eq_getElem_cons hlt] at e2
    obtain ⟨hse, o, st3, e3, e4⟩ := lcLoop_inv e2
    refine .inr ⟨wl.go i io2 st2 H2 U2 R2 hse hlt, fun H' => ∃ (io3 : Nat → Addr) (st3 : Store), Up (ioNew io1 st1.n D) (st1.n + 1) (upd H1 D (.lst [])) io3 st3.n H' ∧ Rl X.K T.G.kt T.ca io3 st3 H' ∧ lcLoop st1.n q.2 f (q.1.drop (i + 1)) st3 = .ok v st',
      fun H' ⟨io3, st3, a1, a2, a3⟩ => ⟨q.1.length - (i + 1), by omega, rfl, hlt, io3, st3, a1, a2, a3⟩, fun x H3 hy => ?_⟩
    obtain ⟨u3, R3, r3⟩ := wl.yld i _ io2 st2 H2 x H3 U2 R2 hse (List.getElem?_eq_getElem hlt) hy
    rw [← hf] at e3
    unfold onLc at e3
    split at e3
    · cases e3
    · rename_i s' es
      obtain ⟨b, st4, e5, e6⟩ := bind_eq_ok.mp e3
      have U3 := U2.trans u3
      obtain ⟨rw1, rw2⟩ := rs_wipe (vs := (tgOwn N tt).map (·.2)) own_ix (rs.up (u1.trans U3)) es
      intro sh0 H00 C0 cl0 fp0
      refine tg_sem (A.blk c2 sh0 H00 C0 cl0 fp0) c3 rw1 r3 rw2 fun ws rs3 => ⟨wipe_set (tg_own c3), ?_⟩
      intro sh1 H01 C1 cl1 fp1
      refine tests_ok hb (A.blk c2 sh1 H01 C1 cl1 fp1) c4 rs3 R3 e5 fun io4 H4 u4 R4 => ?_
      cases b with
      | false =>
        rw [if_neg (by decide)] at e6 ⊢
        cases e6
        rcases e4 with ⟨_, e4⟩ | ⟨_, _, _, z, _⟩
        · exact ⟨io4, _, u2.trans (u3.trans u4), R4, e4⟩
        · cases z
      | true =>
        rw [if_pos rfl] at e6 ⊢
        obtain ⟨y, st5, e7, e8⟩ := bind_eq_ok.mp e6
        cases e8
        intro sh2 H02 C2 cl2 fp2
        refine ha _ _ _ pe (A.blk c2 sh2 H02 C2 cl2 fp2) c5 s' st4 y _ io4 H4 _ _ (rs3.up u4) R4 e7 fun io5 H5 w5 u5 R5 r5 => ?_
        rcases e4 with ⟨z, _⟩ | ⟨y', st6, z6, z, e8, e9⟩
        · cases z
        · cases z
          obtain ⟨acc, hm, hz, hr, rfl⟩ := append_inv e8
          have hD5 : st1.n < _ := Nat.lt_of_lt_of_le (Nat.lt_succ_self _) (u2.trans (u3.trans (u4.trans u5))).le
          have ioD : io5 st1.n = D := by rw [(u2.trans (u3.trans (u4.trans u5))).io _ (Nat.lt_succ_self _), ioNew_at]
          obtain ⟨ys, _, rl, hl⟩ := R5.list hm
          have hl5 := hl hr
          have up := Up.wr (io := io5) (st := st3) (.lst (ys ++ [w5])) hl5 trivial
          have R6 := R5.wr (u := .lst (ys ++ [w5])) hD5 hr (.lst upd_same ((rl.append (.cons r5 .nil)).up up))
          rw [ioD] at hl5 up R6
          exact ⟨ys, hl5, by rw [← rl.length]; exact hz, io5, st3.set st1.n (.lst (acc ++ [y])), (u2.trans (u3.trans (u4.trans u5))).trans up, R6, e9⟩
  · have hi' : i = q.1.length := by omega
    subst hi'
    rw [List.drop_length] at e2
    unfold lcLoop at e2
    split at e2
    · rename_i hse
      cases e2
      refine .inl ⟨wl.stop io2 _ H2 U2 R2 hse, p io2 H2 _ (u1.trans U2) R2 ?_⟩
      have ioD : io2 st1.n = D := by rw [u2.io _ (Nat.lt_succ_self _), ioNew_at]
      have h : RV X.K T.G.kt io2 st'.n H2 (.ref st1.n) (.ref (io2 st1.n)) := .ref (Nat.lt_of_lt_of_le (Nat.lt_succ_self _) u2.le)
      rw [ioD] at h; exact h
    · cases e2
theorem lc_ch {tt : Tg} {w : I} {c : B} {a : E} {sc : Scope} {p : Expr} (hc : chE T.nm N (.lc tt w c a) sc p = true) : ∃ pe tg it ifs scope pos, p = .ListComp pe [⟨tg, it, ifs, 0⟩] scope pos ∧ chI T.nm N w sc tg it = true ∧ noset it = true ∧ blkC N sc scope (tgOwn N tt) = true ∧
    tgB N (relS scope sc) (fun x => scope.names.lookup x == some .cell) tt tg = true ∧ ifsB (fun q => chB T.nm N c (relS scope sc) q) (isYes c) ifs = true ∧ chE T.nm N a (relS scope sc) pe = true := by
  simp only [chE] at hc
  split at hc
  · rename_i pe tg it ifs scope pos
    simp only [Bool.and_eq_true] at hc
    obtain ⟨⟨⟨⟨⟨c1, c2⟩, c3⟩, c4⟩, c5⟩, c6⟩ := hc
    exact ⟨pe, tg, it, ifs, scope, pos, rfl, c1, c2, c3, c4, c5, c6⟩
  · cases hc
theorem se_lc {tt : Tg} {w : I} {c : B} {a : E} (hw : SI T d N w) (hb : SB T d N c) (ha : SE T d N a) : SE T d N (.lc tt w c a) := by
  intro X sc ow q A hc s st v st' io H t Q rs R e p
  obtain ⟨pe, tg, it, ifs, scope, pos, rfl, c1, c2, c3, c4, c5, c6⟩ := lc_ch hc
  obtain ⟨g, tb, te, h1, h2, h3, h4⟩ := lc_read hw hb ha A c1 c3 c4 c5 c6
  intro pins sh I
  exact (pe_lc A.calm (by rw [A.hN]; exact A.nd) pi_sem (by rw [A.hN, A.hsc]; exact blkOk_by c3) h1 h2 h3 (folded c2)).run pins sh t H Q I (h4 s st v st' io H t Q rs R e p)
end
end CL

/-! CL, part k: statements -/
namespace CL
open PySem PySem.Spec PyProof.Rows L2
def PostF (K : PySem.W.Frag) (kt : List (List Val)) (ca io : Nat → Addr) (st : Store) (H : Hp) (fl : Fl) (st' : Store) (D : Ends) : Prop := match fl with
  | .nx s => ∀ (io' : Nat → Addr) (H' : Hp) (t : L2.St), Up io st.n H io' st'.n H' → Rl K kt ca io' st' H' → RS K kt io' st'.n H' s t → D.nx t H'
  | .rt v => ∀ (io' : Nat → Addr) (H' : Hp) (w : V), Up io st.n H io' st'.n H' → Rl K kt ca io' st' H' → RV K kt io' st'.n H' v w → D.rt w H'
  | .bk s => ∀ (io' : Nat → Addr) (H' : Hp) (t : L2.St), Up io st.n H io' st'.n H' → Rl K kt ca io' st' H' → RS K kt io' st'.n H' s t → D.bk t H'
  | .ct s => ∀ (io' : Nat → Addr) (H' : Hp) (t : L2.St), Up io st.n H io' st'.n H' → Rl K kt ca io' st' H' → RS K kt io' st'.n H' s t → D.ct t H'
theorem PostF.after {K : PySem.W.Frag} {kt : List (List Val)} {ca io io1 : Nat → Addr} {st st1 st' : Store} {H H1 : Hp} {fl : Fl} {D : Ends} (p : PostF K kt ca io st H fl st' D) (u : Up io st.n H io1 st1.n H1) : PostF K kt ca io1 st1 H1 fl st' D := by
  cases fl with
  | nx s => exact fun io' H' t u' R r => p io' H' t (u.trans u') R r
  | rt s => exact fun io' H' t u' R r => p io' H' t (u.trans u') R r
  | bk s => exact fun io' H' t u' R r => p io' H' t (u.trans u') R r
  | ct s => exact fun io' H' t u' R r => p io' H' t (u.trans u') R r
def xSem (X : Cx) (p : Stmt) : TS := fun D σ H => ∀ (pins : List (Addr × Obj)) (s : Shared), Inv X pins σ H s → wpAny (model X.prog X.w) X.A (PySem.exec p X.env) (L2.SP X pins D) X.xe s
theorem ps_sem {X : Cx} {p : Stmt} : PS X p (xSem X p) := ⟨fun pins s σ H D I h => h pins s I⟩
def xsSem (X : Cx) (ps : List Stmt) : TS := fun D σ H => ∀ (pins : List (Addr × Obj)) (s : Shared), Inv X pins σ H s → wpAny (model X.prog X.w) X.A (PySem.execs ps X.env) (L2.SP X pins D) X.xe s
theorem pss_sem {X : Cx} {ps : List Stmt} : PSs X ps (xsSem X ps) := ⟨fun pins s σ H D I h => h pins s I⟩
structure AtS (T : Tab) (d : Nat) (X : Cx) (N : List Str) (sc : Scope) (ow : Str → Bool) : Prop extends At T d X N sc ow where
  own : PassesOwn (model X.prog X.w) X.A X.env X.xe
def SS (T : Tab) (d : Nat) (N : List Str) (x : S) : Prop := ∀ (X : Cx) (sc : Scope) (ow : Str → Bool) (p : Stmt), AtS T d X N sc ow → chS T.nm N sc ow x p = true →
  ∀ (s : Env) (st : Store) (fl : Fl) (st' : Store) (io : Nat → Addr) (H : Hp) (t : L2.St) (D : Ends), RS X.K T.G.kt io st.n H s t → Rl X.K T.G.kt T.ca io st H → exec (T.cx d) x s st = .ok fl st' →
    PostF X.K T.G.kt T.ca io st H fl st' D → xSem X p D t H
def SSs (T : Tab) (d : Nat) (N : List Str) (x : Ss) : Prop := ∀ (X : Cx) (sc : Scope) (ow : Str → Bool) (ps : List Stmt), AtS T d X N sc ow → chSs T.nm N sc ow x ps = true →
  ∀ (s : Env) (st : Store) (fl : Fl) (st' : Store) (io : Nat → Addr) (H : Hp) (t : L2.St) (D : Ends), RS X.K T.G.kt io st.n H s t → Rl X.K T.G.kt T.ca io st H → execs (T.cx d) x s st = .ok fl st' →
    PostF X.K T.G.kt T.ca io st H fl st' D → xsSem X ps D t H
section
variable {T : Tab} {d : Nat} {N : List Str}
theorem nolc_or {e : E} {sc : Scope} {p : Expr} (h : chE T.nm N e sc p = true) : nolc p = true ∨ ∃ tt w c a, e = .lc tt w c a := by
  cases p with
  | ListComp _ _ _ _ => cases e <;> first | (simp [chE, nolc] at h; done) | exact .inr ⟨_, _, _, _, rfl⟩
  | SetComp _ _ _ _ => cases e <;> (simp [chE, nolc] at h)
  | DictComp _ _ _ _ _ => cases e <;> (simp [chE, nolc] at h)
  | _ => exact .inl rfl
/-! ### one target -/
theorem stB_ok {X : Cx} {sc : Scope} {ow : Str → Bool} (A : At T d X N sc ow) {i : Nat} {x : Str} (h : stB N sc ow i x = true) : X.N[i]? = some x ∧ Loc X.env.scope x ∧ (X.fn x = true ∨ X.env.scope.names.lookup x = some .local) := by
  unfold stB at h
  rw [Bool.and_eq_true, decide_eq_true_eq] at h
  obtain ⟨l1, l2⟩ := locB_ok h.2
  rw [A.hN, A.hsc]
  exact ⟨h.1, l1, l2.imp (A.how x) id⟩
theorem At.nodup {X : Cx} {sc : Scope} {ow : Str → Bool} (A : At T d X N sc ow) : X.N.Nodup := by rw [A.hN]; exact A.nd
theorem swap_lc {elt : Expr} {gs : List Comprehension} {scope : Scope} {pos py : Pos} {y : Str} {l : Nat} {env : PySem.Env} (hk : env.scope.kind = .function) :
    swapsWith (.ListComp elt gs scope pos) (some (.Name y py)) l env = pure (lcSw env.scope y py (.ListComp elt gs scope pos)) := by
  have hb : env.blockKind = .function := by unfold PySem.Env.blockKind; rw [hk]; rfl
  unfold swapsWith lcSw
  simp only [hb, Expr.pos, PySem.Env.kindOf]
  rfl
def PostN (K : PySem.W.Frag) (kt : List (List Val)) (ca io : Nat → Addr) (st : Store) (H : Hp) (s' : Env) (st' : Store) (Q : L2.St → Hp → Prop) : Prop :=
  ∀ (io' : Nat → Addr) (H' : Hp) (t : L2.St), Up io st.n H io' st'.n H' → Rl K kt ca io' st' H' → RS K kt io' st'.n H' s' t → Q t H'
theorem sub_asg {X : Cx} {o i : Expr} {pos : Pos} (h : noslice i = true) : ∀ v, assign (.Subscript o i pos) X.env v = (do
      let ov ← holding [v] (eval o X.env)
      let iv ← holding [v, ov] (eval i X.env)
      standAt pos
      holding [v, ov, iv] (setItem ov iv v)
      release [v, ov, iv] []) := fun v => by
  cases i <;> first | rfl | cases h
theorem asg1_sub {a b : E} (ha : SE T d N a) (hb : SE T d N b) {X : Cx} {sc : Scope} {ow : Str → Bool} (A : At T d X N sc ow) {q r : Expr} {pos : Pos} (c1 : chE T.nm N a sc q = true) (c2 : chE T.nm N b sc r = true) (c3 : noslice r = true)
    {v : Val} {s s' : Env} {st st' : Store} {io : Nat → Addr} {H : Hp} {w : V} {t : L2.St} {Q : L2.St → Hp → Prop} (rs : RS X.K T.G.kt io st.n H s t) (R : Rl X.K T.G.kt T.ca io st H) (rv : RV X.K T.G.kt io st.n H v w) (e : asg1 (T.cx d) (.sub a b) v s st = .ok s' st')
    (p : PostN X.K T.G.kt T.ca io st H s' st' Q) : gtSem X (.Subscript q r pos) w t H Q := by
  unfold asg1 at e
  simp only at e
  obtain ⟨x, st1, e1, e⟩ := bind_eq_ok.mp e
  obtain ⟨y, st2, e2, e⟩ := bind_eq_ok.mp e
  obtain ⟨z, st3, e3, e⟩ := bind_eq_ok.mp e
  cases e
  intro pins sh u I ru
  refine (pg_sub pe_sem pe_sem set_sem (sub_asg c3)).run pins sh t H w u Q I ru ?_
  refine ha X sc ow _ A c1 s st x st1 io H t _ rs R e1 fun io1 H1 w1 u1 R1 r1 => ?_
  refine hb X sc ow _ A c2 s st1 y st2 io1 H1 t _ (rs.up u1) R1 e2 fun io2 H2 w2 u2 R2 r2 => ?_
  refine put_ok A.hu R2 (r1.up u2) r2 (rv.up (u1.trans u2)) e3 fun H3 u3 R3 => ?_
  exact p io2 H3 t ((u1.trans u2).trans u3) R3 (rs.up ((u1.trans u2).trans u3))
theorem asg1_one {X : Cx} {sc : Scope} {ow : Str → Bool} (A : At T d X N sc ow) {i : Nat} {x : Str} {pos : Pos} (c1 : stB N sc ow i x = true)
    {v : Val} {s s' : Env} {st st' : Store} {io : Nat → Addr} {H : Hp} {w : V} {t : L2.St} {Q : L2.St → Hp → Prop} (rs : RS X.K T.G.kt io st.n H s t) (R : Rl X.K T.G.kt T.ca io st H) (rv : RV X.K T.G.kt io st.n H v w) (e : asg1 (T.cx d) (.one i) v s st = .ok s' st')
    (p : PostN X.K T.G.kt T.ca io st H s' st' Q) : gtSem X (.Name x pos) w t H Q := by
  cases e
  obtain ⟨h1, h2, h3⟩ := stB_ok A c1
  intro pins sh u I ru
  exact (pg_name A.nodup h1 h2 h3).run pins sh t H w u Q I ru (p io H _ (.refl _ _ _) R (rs.set rv i))
/-! ### x = e -/
theorem ss_asg_one {i : Nat} {a : E} (ha : SE T d N a) (hl : ∀ tt w c b, a = .lc tt w c b → SI T d N w ∧ SB T d N c ∧ SE T d N b) : SS T d N (.asg (.one i) a) := by
  intro X sc ow q A hc s st fl st' io H t D rs R e p
  simp only [chS] at hc
  split at hc
  · rename_i tg v pos
    rw [Bool.and_eq_true] at hc
    obtain ⟨c1, c2⟩ := hc
    split at c2
    · rename_i x px
      simp only [exec] at e
      obtain ⟨u, st1, e1, e⟩ := bind_eq_ok.mp e
      obtain ⟨s1, st2, e2, e⟩ := bind_eq_ok.mp e
      cases e
      cases e2
      obtain ⟨h1, h2, h3⟩ := stB_ok A.toAt c2
      have post : Post X.K T.G.kt T.ca io st H u st' (fun y H1 => gName i y t H1 D.nx) := fun io1 H1 w u1 R1 r1 => p io1 H1 _ u1 R1 ((rs.up u1).set r1 i)
      intro pins sh I
      rcases nolc_or c1 with hn | ⟨tt, w, c, b, rfl⟩
      · exact (ps_set A.nodup h1 h2 pe_sem (swap_none hn) h3).run pins sh t H D I (ha X sc ow v A.toAt c1 s st u st' io H t _ rs R e1 post)
      · obtain ⟨hw, hb, hbe⟩ := hl tt w c b rfl
        obtain ⟨pe, tg, it, ifs, scope, lpos, rfl, d1, d2, d3, d4, d5, d6⟩ := lc_ch c1
        have hsw := swap_lc (elt := pe) (gs := [⟨tg, it, ifs, 0⟩]) (scope := scope) (pos := lpos) (py := px) (y := x) (l := pos.line) (env := X.env) (by rw [A.hsc]; exact A.kind)
        cases hb2 : lcSw X.env.scope x px (.ListComp pe [⟨tg, it, ifs, 0⟩] scope lpos) with
        | false =>
          rw [hb2] at hsw
          exact (ps_set A.nodup h1 h2 pe_sem hsw h3).run pins sh t H D I (ha X sc ow _ A.toAt c1 s st u st' io H t _ rs R e1 post)
        | true =>
          rw [hb2] at hsw
          have hloc : X.env.scope.names.lookup x = some .local := by
            unfold lcSw at hb2
            simp only [Bool.and_eq_true, beq_iff_eq] at hb2
            exact hb2.1.1
          obtain ⟨g, tb, te, k1, k2, k3, k4⟩ := lc_read hw hb hbe A.toAt d1 d3 d4 d5 d6
          exact (ps_setLc A.calm A.nodup h1 hloc hsw pi_sem (by rw [A.hN, A.hsc]; exact blkOk_by d3) k1 k2 k3 (folded d2)).run pins sh t H D I (k4 s st u st' io H t _ rs R e1 post)
    · cases c2
  · cases hc
theorem ss_asg_sub {a b c : E} (ha : SE T d N a) (hb : SE T d N b) (hv : SE T d N c) : SS T d N (.asg (.sub a b) c) := by
  intro X sc ow q A hc s st fl st' io H t D rs R e p
  simp only [chS] at hc
  split at hc
  · rename_i tg v pos
    rw [Bool.and_eq_true] at hc
    obtain ⟨c1, c2⟩ := hc
    split at c2
    · rename_i x y px
      simp only [Bool.and_eq_true] at c2
      simp only [exec] at e
      obtain ⟨u, st1, e1, e⟩ := bind_eq_ok.mp e
      obtain ⟨s1, st2, e2, e⟩ := bind_eq_ok.mp e
      cases e
      intro pins sh I
      refine (ps_asg pe_sem pg_sem (by unfold swapsWithSole; exact swap_sub) (by rfl) (by rfl)).run pins sh t H D I ?_
      refine hv X sc ow v A.toAt c1 s st u st1 io H t _ rs R e1 fun io1 H1 w u1 R1 r1 => ?_
      exact asg1_sub ha hb A.toAt c2.1.1 c2.1.2 c2.2 (rs.up u1) R1 r1 e2 fun io2 H2 t2 u2 R2 r2 => p io2 H2 t2 (u1.trans u2) R2 r2
    · cases c2
  · cases hc
theorem ss_asg_fld {a c : E} {f : Str} (ha : SE T d N a) (hv : SE T d N c) : SS T d N (.asg (.fld a f) c) := by
  intro X sc ow q A hc s st fl st' io H t D rs R e p
  simp only [chS] at hc
  split at hc
  · rename_i tg v pos
    rw [Bool.and_eq_true] at hc
    obtain ⟨c1, c2⟩ := hc
    split at c2
    · rename_i x g px
      simp only [Bool.and_eq_true, decide_eq_true_eq] at c2
      obtain ⟨rfl, c2⟩ := c2
      simp only [exec] at e
      obtain ⟨u, st1, e1, e⟩ := bind_eq_ok.mp e
      obtain ⟨s1, st2, e2, e⟩ := bind_eq_ok.mp e
      cases e
      unfold asg1 at e2
      simp only at e2
      obtain ⟨x', st3, e3, e2⟩ := bind_eq_ok.mp e2
      obtain ⟨z, st4, e4, e2⟩ := bind_eq_ok.mp e2
      cases e2
      intro pins sh I
      refine (ps_fld pe_sem pe_sem swap_att).run pins sh t H D I ?_
      refine hv X sc ow v A.toAt c1 s st u st1 io H t _ rs R e1 fun io1 H1 w u1 R1 r1 => ?_
      refine ha X sc ow _ A.toAt c2 s st1 x' st3 io1 H1 t _ (rs.up u1) R1 e3 fun io2 H2 w2 u2 R2 r2 => ?_
      unfold putF at e4
      split at e4
      · obtain ⟨rfl, hi⟩ := r2.iref
        split at e4
        · rename_i c fs em
          split at e4
          · rename_i hf
            obtain ⟨hr, _, rfl⟩ := wr_inv e4
            obtain ⟨_, _, dx, gs, h1, rk⟩ := R2.inst em
            obtain ⟨cl, na⟩ := A.top.fl c f hf.1
            refine ⟨_, _, dx, gs, rfl, h1, cl, na, by rw [← rk.length]; exact hf.2, ?_⟩
            have up := Up.wr (io := io2) (st := st3) (.ins (T.ca c) dx (L2.putF f w gs)) h1 trivial
            exact p io2 _ t ((u1.trans u2).trans up) (R2.wr hi hr (.ins upd_same ((rk.setF f (r1.up u2)).up up))) (rs.up ((u1.trans u2).trans up))
          · cases e4
        · cases e4
      · cases e4
    · cases c2
  · cases hc
end
end CL

/-! CL, part l: more statements; a def; the whole -/
namespace CL
open PySem PySem.Spec PyProof.Rows L2
section
variable {T : Tab} {d : Nat} {N : List Str}
/-! ### a, b = e -/
def gsSem (X : Cx) (ts : List Expr) : TGs := fun vs σ H Q => ∀ (pins : List (Addr × Obj)) (s : Shared) (us : List Value), Inv X pins σ H s → Vals vs us → wpAny (model X.prog X.w) X.A (assignInOrder ((assignEach ts X.env).map (·.2)) us) (fun _ s' => ∃ σ' H', Inv X pins σ' H' s' ∧ Q σ' H') X.xe s
theorem pgs_sem {X : Cx} {ts : List Expr} : PGs X ts (gsSem X ts) := ⟨fun pins s σ H vs us Q I r h => h pins s us I r⟩
theorem each_cons {p : Expr} {ps : List Expr} {env : PySem.Env} (h : nostar p = true) : assignEach (p :: ps) env = (false, assign p env) :: assignEach ps env := by
  cases p <;> first | rfl | cases h
theorem each_len {env : PySem.Env} : ∀ {ps : List Expr}, ps.all nostar = true → (assignEach ps env).length = ps.length ∧ (assignEach ps env).findIdx? (·.1) = none
  | [], _ => ⟨rfl, rfl⟩
  | p :: ps, h => by
    rw [List.all_cons, Bool.and_eq_true] at h
    obtain ⟨h1, h2⟩ := each_len (env := env) h.2
    rw [each_cons h.1]
    refine ⟨by rw [List.length_cons, List.length_cons, h1], ?_⟩
    rw [List.findIdx?_cons, h2]; rfl
/-- what each target of a list wants -/
inductive ST (T : Tab) (d : Nat) (N : List Str) : List CL.T → Prop
  | nil : ST T d N []
  | one {i : Nat} {ts : List CL.T} : ST T d N ts → ST T d N (.one i :: ts)
  | sub {a b : E} {ts : List CL.T} : SE T d N a → SE T d N b → ST T d N ts → ST T d N (.sub a b :: ts)
  | fld {a : E} {f : Str} {ts : List CL.T} : ST T d N ts → ST T d N (.fld a f :: ts)
theorem chTL_star {sc : Scope} {ow : Str → Bool} : ∀ {ts : List CL.T} {ps : List Expr}, chTL T.nm N sc ow ts ps = true → ps.all nostar = true ∧ ts.length = ps.length
  | [], [], _ => ⟨rfl, rfl⟩
  | t :: ts, p :: ps, h => by
    unfold chTL at h
    simp only [Bool.and_eq_true] at h
    obtain ⟨h1, h2⟩ := chTL_star h.2
    exact ⟨by rw [List.all_cons, h.1.2, h1]; rfl, by rw [List.length_cons, List.length_cons, h2]⟩
  | [], _ :: _, h => by unfold chTL at h; cases h
  | _ :: _, [], h => by unfold chTL at h; cases h
theorem asgs_sem {X : Cx} {sc : Scope} {ow : Str → Bool} (A : At T d X N sc ow) : ∀ {ts : List CL.T} (_ : ST T d N ts) {ps : List Expr}, chTL T.nm N sc ow ts ps = true →
    ∀ {vs : List Val} {s s' : Env} {st st' : Store} {io : Nat → Addr} {H : Hp} {ws : List V} {t : L2.St} {Q : L2.St → Hp → Prop}, RS X.K T.G.kt io st.n H s t → Rl X.K T.G.kt T.ca io st H → RVs X.K T.G.kt io st.n H vs ws → asgs (T.cx d) ts vs s st = .ok s' st' →
      PostN X.K T.G.kt T.ca io st H s' st' Q → gsSem X ps ws t H Q := by
  intro ts hts
  induction hts with
  | nil =>
    intro ps h vs s s' st st' io H ws t Q rs R rv e p
    cases ps with
    | cons _ _ => unfold chTL at h; cases h
    | nil =>
      cases rv with
      | cons _ _ => cases e
      | nil =>
        cases e
        intro pins sh us I ru
        exact pgs_nil.run pins sh t H [] us Q I ru ⟨rfl, p io H t (.refl _ _ _) R rs⟩
  | one hts ih =>
    intro ps h vs s s' st st' io H ws t Q rs R rv e p
    cases ps with
    | nil => unfold chTL at h; cases h
    | cons q ps =>
      unfold chTL at h
      simp only [Bool.and_eq_true] at h
      cases rv with
      | nil => cases e
      | cons r1 r2 =>
        obtain ⟨s1, st1, e1, e⟩ := bind_eq_ok.mp e
        intro pins sh us I ru
        refine (pgs_cons pg_sem pgs_sem (by rw [each_cons h.1.2]; rfl)).run pins sh t H _ us Q I ru ⟨_, _, rfl, ?_⟩
        have hc := h.1.1
        unfold chTs at hc
        simp only at hc
        split at hc
        · exact asg1_one A hc rs R r1 e1 fun io1 H1 t1 u1 R1 rs1 => ih h.2 rs1 R1 (r2.up u1) e fun io2 H2 t2 u2 R2 rs2 => p io2 H2 t2 (u1.trans u2) R2 rs2
        · cases hc
  | sub ha hb hts ih =>
    intro ps h vs s s' st st' io H ws t Q rs R rv e p
    cases ps with
    | nil => unfold chTL at h; cases h
    | cons q ps =>
      unfold chTL at h
      simp only [Bool.and_eq_true] at h
      cases rv with
      | nil => cases e
      | cons r1 r2 =>
        obtain ⟨s1, st1, e1, e⟩ := bind_eq_ok.mp e
        intro pins sh us I ru
        refine (pgs_cons pg_sem pgs_sem (by rw [each_cons h.1.2]; rfl)).run pins sh t H _ us Q I ru ⟨_, _, rfl, ?_⟩
        have hc := h.1.1
        unfold chTs at hc
        simp only at hc
        split at hc
        · simp only [Bool.and_eq_true] at hc
          exact asg1_sub ha hb A hc.1.1 hc.1.2 hc.2 rs R r1 e1 fun io1 H1 t1 u1 R1 rs1 => ih h.2 rs1 R1 (r2.up u1) e fun io2 H2 t2 u2 R2 rs2 => p io2 H2 t2 (u1.trans u2) R2 rs2
        · cases hc
  | fld hts ih =>
    intro ps h
    cases ps with
    | nil => unfold chTL at h; cases h
    | cons q ps =>
      unfold chTL at h
      simp only [Bool.and_eq_true] at h
      have hc := h.1.1
      unfold chTs at hc
      cases hc
theorem sw_eq {ts : List Expr} {k : Nat} {p : Pos} {value : Expr} {env : PySem.Env} (hk : env.scope.kind = .function) {r : Option (List Str)} (h : swMir env.scope ts value = some r) : swappedStores [.Tuple ts k p] value env = pure r := by
  have hb : env.blockKind = .function := by unfold PySem.Env.blockKind; rw [hk]; rfl
  cases value with
  | Tuple vs k2 p2 =>
    unfold swMir at h
    simp only at h
    unfold swappedStores
    simp only [hb, PySem.Env.kindOf, bne_self_eq_false, Bool.or_false]
    split at h
    · rename_i h1; cases h; exact if_pos h1
    · rename_i h1
      refine (if_neg h1).trans ?_
      split at h
      · rename_i h2; cases h; exact if_pos h2
      · rename_i h2
        refine (if_neg h2).trans ?_
        split at h
        · rename_i h3; cases h; exact if_pos h3
        · rename_i h3
          refine (if_neg h3).trans ?_
          split at h
          · rename_i h4; cases h; exact if_pos h4
          · rename_i h4
            refine (if_neg h4).trans ?_
            split at h
            · cases h
            · rename_i h5; cases h; exact if_neg h5
  | _ => cases h; rfl
theorem ss_asT {ts : List CL.T} {a : E} (hts : ST T d N ts) (ha : SE T d N a) : SS T d N (.asT ts a) := by
  intro X sc ow q A hc s st fl st' io H t D rs R e p
  simp only [chS] at hc
  split at hc
  · rename_i tg k tp v pos
    simp only [Bool.and_eq_true] at hc
    obtain ⟨⟨c1, c2⟩, c3⟩ := hc
    have c3 : swMir sc tg v = some none := by
      split at c3
      · assumption
      · cases c3
    have hw := sw_eq (k := k) (p := tp) (env := X.env) (by rw [A.hsc]; exact A.kind) (by rw [A.hsc]; exact c3)
    obtain ⟨s1, s2⟩ := chTL_star c2
    obtain ⟨l1, l2⟩ := each_len (env := X.env) s1
    simp only [exec] at e
    obtain ⟨u, st1, e1, e⟩ := bind_eq_ok.mp e
    split at e
    · rename_i xs ex
      obtain ⟨s', st2, e2, e⟩ := bind_eq_ok.mp e
      cases e
      have hsw : swapsWithSole [.Tuple tg k tp] v pos.line X.env = pure false := by
        unfold swapsWithSole
        cases v <;> rfl
      intro pins sh I
      have fin : ∀ (io1 : Nat → Addr) (H1 : Hp) (ys : List V), Up io st.n H io1 st1.n H1 → Rl X.K T.G.kt T.ca io1 st1 H1 → RVs X.K T.G.kt io1 st1.n H1 xs ys → gsSem X tg ys t H1 D.nx := fun io1 H1 ys u1 R1 ry =>
        asgs_sem A.toAt hts c2 (rs.up u1) R1 ry e2 fun io2 H2 t2 u2 R2 r2 => p io2 H2 t2 (u1.trans u2) R2 r2
      have hlen : xs.length = tg.length := by
        have : ∀ {ts : List CL.T} {xs : List Val} {s s' : Env} {st st' : Store}, asgs (T.cx d) ts xs s st = .ok s' st' → ts.length = xs.length := by
          intro ts
          induction ts with
          | nil => intro xs s s' st st' e; cases xs with
            | nil => rfl
            | cons _ _ => cases e
          | cons t ts ih => intro xs s s' st st' e; cases xs with
            | nil => cases e
            | cons x xs =>
              obtain ⟨_, _, _, e⟩ := bind_eq_ok.mp e
              rw [List.length_cons, List.length_cons, ih e]
        rw [← this e2, s2]
      unfold itemsOf at ex
      split at ex
      · cases ex
        refine (ps_asg pe_sem (pg_tup A.calm pgs_sem l1 l2) hsw hw (by rfl)).run pins sh t H D I ?_
        refine ha X sc ow v A.toAt c1 s st _ st1 io H t _ rs R e1 fun io1 H1 w u1 R1 r1 => ?_
        obtain ⟨a1, ys, rfl, sq, ry⟩ := r1.itup
        exact ⟨a1, ys, rfl, sq.sqT, by rw [← ry.length]; exact hlen, fin io1 H1 ys u1 R1 ry⟩
      · refine (ps_asg pe_sem (pg_lst A.calm pgs_sem l1 l2) hsw hw (by rfl)).run pins sh t H D I ?_
        refine ha X sc ow v A.toAt c1 s st _ st1 io H t _ rs R e1 fun io1 H1 w u1 R1 r1 => ?_
        obtain ⟨rfl, hi⟩ := r1.iref
        unfold Store.lst at ex
        split at ex
        · rename_i zs em
          cases ex
          obtain ⟨ys, sl, ry, _⟩ := R1.list em
          exact ⟨_, ys, rfl, sl, by rw [← ry.length]; exact hlen, fin io1 H1 ys u1 R1 ry⟩
        · cases ex
      · cases ex
    · cases e
  · cases hc
theorem len2 {α : Type} {l : List α} (h : l.length = 2) : ∃ a b, l = [a, b] := by
  match l, h with
  | [a, b], _ => exact ⟨a, b, rfl⟩
theorem len3 {α : Type} {l : List α} (h : l.length = 3) : ∃ a b c, l = [a, b, c] := by
  match l, h with
  | [a, b, c], _ => exact ⟨a, b, c, rfl⟩
theorem dups2 {x y : Str} (h : ([x, y] : List Str).eraseDups.length = 2) : x ≠ y := by
  rintro rfl
  simp [List.eraseDups, List.eraseDupsBy, List.eraseDupsBy.loop] at h
theorem dups3 {x y z : Str} (h : ([x, y, z] : List Str).eraseDups.length = 3) : x ≠ y ∧ x ≠ z ∧ y ≠ z := by
  refine ⟨?_, ?_, ?_⟩ <;> rintro rfl
  · simp [List.eraseDups, List.eraseDupsBy, List.eraseDupsBy.loop] at h
    split at h <;> simp at h
  · simp [List.eraseDups, List.eraseDupsBy, List.eraseDupsBy.loop] at h
    split at h <;> simp at h
  · simp [List.eraseDups, List.eraseDupsBy, List.eraseDupsBy.loop] at h
    split at h <;> simp at h
theorem fm_all {α β : Type} {f : α → Option β} : ∀ {l : List α}, (l.filterMap f).length = l.length → l.map f = (l.filterMap f).map some
  | [], _ => rfl
  | x :: r, h => by
    rw [List.filterMap_cons] at h ⊢
    cases e : f x with
    | none =>
      rw [e] at h
      have := List.length_filterMap_le f r
      simp only [List.length_cons] at h
      omega
    | some y =>
      rw [e] at h
      simp only [List.length_cons, Nat.add_right_cancel_iff] at h
      rw [List.map_cons, e, fm_all h]
      rfl
theorem sw_some {sc : Scope} {ts vs : List Expr} {k : Nat} {p : Pos} {ns : List Str} (h : swMir sc ts (.Tuple vs k p) = some (some ns)) :
    (ts.length = 2 ∨ ts.length = 3) ∧ vs.length = ts.length ∧ ns.eraseDups.length = ts.length ∧ ∃ l : Nat, ts.map (fun t => match t with | .Name id pos => if sc.names.lookup id == some .local && pos.line == l then some id else none | _ => none) = ns.map some := by
  unfold swMir at h
  simp only at h
  split at h
  · cases h
  · rename_i h1
    split at h
    · cases h
    · split at h
      · cases h
      · rename_i h3
        split at h
        · cases h
        · split at h
          · cases h
          · cases h
            simp only [Bool.or_eq_true, Bool.not_eq_true', bne_iff_ne, ne_eq, not_or, Bool.not_eq_false, beq_iff_eq, Decidable.not_not] at h1 h3
            refine ⟨h1.1, h1.2, by rw [h3.2, h3.1], _, fm_all h3.1⟩

theorem name_some {sc : Scope} {x y : Str} {px : Pos} {l : Nat} (h : (match (Expr.Name x px) with | .Name id pos => if sc.names.lookup id == some .local && pos.line == l then some id else none | _ => none) = some y) : sc.names.lookup x = some .local ∧ y = x := by
  simp only at h
  split at h
  · rename_i hc
    cases h
    rw [Bool.and_eq_true, beq_iff_eq] at hc
    exact ⟨hc.1, rfl⟩
  · cases h
theorem ix_ne {N : List Str} {i j : Nat} {x y : Str} (h1 : N[i]? = some x) (h2 : N[j]? = some y) (h : x ≠ y) : i ≠ j := by
  rintro rfl
  rw [h1] at h2
  exact h (Option.some.inj h2)
theorem ss_par {is : List Nat} {es : Es} (hs : SA T d N es) : SS T d N (.par is es) := by
  intro X sc ow q A hc s st fl st' io H t D rs R e p
  simp only [chS] at hc
  split at hc
  · rename_i tg k tp vs k2 p2 pos
    simp only [Bool.and_eq_true] at hc
    obtain ⟨⟨c1, c2⟩, c3⟩ := hc
    have c3 : ∃ ns, swMir sc tg (.Tuple vs k2 p2) = some (some ns) := by
      split at c3
      · rename_i ns h; exact ⟨ns, h⟩
      · cases c3
    obtain ⟨ns, c3⟩ := c3
    have hw := sw_eq (k := k) (p := tp) (env := X.env) (by rw [A.hsc]; exact A.kind) (by rw [A.hsc]; exact c3)
    obtain ⟨hlen, hv, hd, l, hm⟩ := sw_some c3
    simp only [exec] at e
    obtain ⟨us, st1, e1, e⟩ := bind_eq_ok.mp e
    split at e
    · rename_i s1 es1
      cases e
      have hsw : ∀ tg' vs', swapsWithSole [.Tuple tg' k tp] (.Tuple vs' k2 p2) pos.line X.env = pure false := fun _ _ => rfl
      have fin : ∀ (io1 : Nat → Addr) (H1 : Hp) (ws : List V), Up io st.n H io1 st'.n H1 → Rl X.K T.G.kt T.ca io1 st' H1 → RVs X.K T.G.kt io1 st'.n H1 us ws → is.length = ws.length ∧ D.nx (setAllV is ws t) H1 := fun io1 H1 ws u1 R1 r1 => by
        obtain ⟨z, hl⟩ := setAll_rs (rs.up u1) r1 es1
        exact ⟨hl, p io1 H1 _ u1 R1 z⟩
      intro pins sh I
      cases is with
      | nil =>
        cases tg with
        | nil => simp at hlen
        | cons _ _ => unfold namesB at c2; cases c2
      | cons i is =>
        cases tg with
        | nil => simp at hlen
        | cons t1 tg =>
          cases t1 with
          | Name x px =>
            unfold namesB at c2
            rw [Bool.and_eq_true] at c2
            obtain ⟨ci, c2⟩ := c2
            cases is with
            | nil =>
              cases tg with
              | nil => simp at hlen
              | cons _ _ => unfold namesB at c2; cases c2
            | cons j is =>
              cases tg with
              | nil => simp at hlen
              | cons t2 tg =>
                cases t2 with
                | Name y py =>
                  unfold namesB at c2
                  rw [Bool.and_eq_true] at c2
                  obtain ⟨cj, c2⟩ := c2
                  have hi := (stB_ok A.toAt ci).1
                  have hj := (stB_ok A.toAt cj).1
                  cases is with
                  | nil =>
                    cases tg with
                    | cons _ _ => unfold namesB at c2; cases c2
                    | nil =>
                      have h2 : ns.length = 2 := by have := congrArg List.length hm; simpa using this.symm
                      obtain ⟨a, b, rfl⟩ := len2 h2
                      · simp only [List.map_cons, List.map_nil, List.cons.injEq, and_true] at hm
                        obtain ⟨hx, rfl⟩ := name_some hm.1
                        obtain ⟨hy, rfl⟩ := name_some hm.2
                        match vs, hv, c1, hs X sc ow vs A.toAt c1 with
                        | [v1, v2], hv, c1, hs' =>
                          refine (ps_par A.calm A.nodup hi hj (ix_ne hi hj (dups2 hd)) (by rw [A.hsc]; exact hx) (by rw [A.hsc]; exact hy) pa_sem hw (hsw _ _)).run pins sh t H D I ?_
                          refine hs' s st us st' io H t _ rs R e1 fun io1 H1 ws u1 R1 r1 => ?_
                          obtain ⟨hl, z⟩ := fin io1 H1 ws u1 R1 r1
                          match ws, hl, z with
                          | [w1, w2], hl, z => exact ⟨w1, w2, rfl, z⟩
                  | cons k3 is =>
                    cases tg with
                    | nil => unfold namesB at c2; cases c2
                    | cons t3 tg =>
                      cases t3 with
                      | Name z3 pz =>
                        unfold namesB at c2
                        rw [Bool.and_eq_true] at c2
                        obtain ⟨ck, c2⟩ := c2
                        have hk := (stB_ok A.toAt ck).1
                        cases tg with
                        | cons _ _ => simp at hlen
                        | nil =>
                          cases is with
                          | cons _ _ => unfold namesB at c2; cases c2
                          | nil =>
                            have h2 : ns.length = 3 := by have := congrArg List.length hm; simpa using this.symm
                            obtain ⟨a, b, c, rfl⟩ := len3 h2
                            · simp only [List.map_cons, List.map_nil, List.cons.injEq, and_true] at hm
                              obtain ⟨hx, rfl⟩ := name_some hm.1
                              obtain ⟨hy, rfl⟩ := name_some hm.2.1
                              obtain ⟨hz, rfl⟩ := name_some hm.2.2
                              obtain ⟨n1, n2, n3⟩ := dups3 hd
                              match vs, hv, c1, hs X sc ow vs A.toAt c1 with
                              | [v1, v2, v3], hv, c1, hs' =>
                                refine (ps_par3 A.calm A.nodup hi hj hk (ix_ne hi hj n1) (ix_ne hi hk n2) (ix_ne hj hk n3) (by rw [A.hsc]; exact hx) (by rw [A.hsc]; exact hy) (by rw [A.hsc]; exact hz) pa_sem hw (hsw _ _)).run pins sh t H D I ?_
                                refine hs' s st us st' io H t _ rs R e1 fun io1 H1 ws u1 R1 r1 => ?_
                                obtain ⟨hl, z⟩ := fin io1 H1 ws u1 R1 r1
                                match ws, hl, z with
                                | [w1, w2, w3], hl, z => exact ⟨w1, w2, w3, rfl, z⟩
                      | _ => unfold namesB at c2; cases c2
                | _ => unfold namesB at c2; cases c2
          | _ => unfold namesB at c2; cases c2
    · cases e
  · cases hc

/-! ### x op= e -/
theorem iop_ok {X : Cx} {o : Bop} {a b v : Val} {x y : V} {io : Nat → Addr} {st st' : Store} {H : Hp} {Q : VK} (R : Rl X.K T.G.kt T.ca io st H) (ra : RV X.K T.G.kt io st.n H a x) (rb : RV X.K T.G.kt io st.n H b y) (e : iop o a b st = .ok v st') (p : Post X.K T.G.kt T.ca io st H v st' Q) :
    oSem X (inplaceOp (opOf o)) x y H Q ∧ st' = st := by
  unfold iop at e
  split at e
  · cases e
    obtain rfl := ra.iint
    obtain rfl := rb.iint
    exact ⟨oSem.of iop_add ⟨_, _, rfl, rfl, p.here R (.int _)⟩, rfl⟩
  · cases e
    obtain rfl := ra.iint
    obtain rfl := rb.iint
    exact ⟨oSem.of iop_sub ⟨_, _, rfl, rfl, p.here R (.int _)⟩, rfl⟩
  · cases e
theorem ss_aug {i : Nat} {o : Bop} {a : E} (ha : SE T d N a) : SS T d N (.aug i o a) := by
  intro X sc ow q A hc s st fl st' io H t D rs R e p
  simp only [chS] at hc
  split at hc
  · simp only [Bool.and_eq_true, decide_eq_true_eq] at hc
    obtain ⟨⟨rfl, c1⟩, c2⟩ := hc
    obtain ⟨h1, h2, h3⟩ := stB_ok A.toAt c1
    simp only [exec] at e
    split at e
    · rename_i x ex
      obtain ⟨y, st1, e1, e⟩ := bind_eq_ok.mp e
      obtain ⟨z, st2, e2, e⟩ := bind_eq_ok.mp e
      cases e
      obtain ⟨w, ew, rw'⟩ := rs.2 i x ex
      intro pins sh I
      refine (ps_aug (ti := oSem X (inplaceOp (opOf o))) A.nodup h1 h2 pe_sem (fun pins s σ H x y v u Q I r1 r2 h => h pins s σ v u I r1 r2) h3).run pins sh t H D I ⟨w, ew, ?_⟩
      refine ha X sc ow _ A.toAt c2 s st y st1 io H t _ rs R e1 fun io1 H1 w1 u1 R1 r1 => ?_
      exact (iop_ok R1 (rw'.up u1) r1 e2 fun io2 H2 w2 u2 R2 r2 => p io2 H2 _ (u1.trans u2) R2 ((rs.up (u1.trans u2)).set r2 i)).1
    · cases e
  · cases hc
theorem aug_store {i : Expr} (h : noslice i = true) : ∀ ov iv new, augStore i ov iv new = (do holding [new, ov, iv] (setItem ov iv new); release [new, ov, iv] []; pure .next) := fun ov iv new => by
  cases i <;> first | rfl | cases h
theorem ss_aus {a b c : E} {o : Bop} (ha : SE T d N a) (hb : SE T d N b) (hv : SE T d N c) : SS T d N (.aus a b o c) := by
  intro X sc ow q A hc s st fl st' io H t D rs R e p
  simp only [chS] at hc
  split at hc
  · simp only [Bool.and_eq_true, decide_eq_true_eq] at hc
    obtain ⟨⟨⟨⟨rfl, c1⟩, c2⟩, c3⟩, c4⟩ := hc
    simp only [exec] at e
    obtain ⟨x, st1, e1, e⟩ := bind_eq_ok.mp e
    obtain ⟨y, st2, e2, e⟩ := bind_eq_ok.mp e
    obtain ⟨old, st3, e3, e⟩ := bind_eq_ok.mp e
    obtain ⟨v, st4, e4, e⟩ := bind_eq_ok.mp e
    obtain ⟨z, st5, e5, e⟩ := bind_eq_ok.mp e
    obtain ⟨n, st6, e6, e⟩ := bind_eq_ok.mp e
    cases e
    obtain ⟨i, v0, w0, rfl, gg⟩ : ∃ (i : Nat) (v0 : Val) (w0 : Unit), x = .ref i ∧ dget T.G.kt (st2.m i) y = some (some old) ∧ st3 = st2 := by
      unfold getD at e3
      split at e3
      · split at e3
        · rename_i h; cases e3; exact ⟨_, old, (), rfl, h, rfl⟩
        · cases e3
      · cases e3
    obtain ⟨gg, rfl⟩ := gg
    have hu := A.hu
    intro pins sh I
    refine (ps_daug (rd := oSem X (inplaceOp (opOf o))) (by omega) pe_sem pe_sem pe_sem (fun pins s σ H x y u v Q I r1 r2 h => h pins s σ u v I r1 r2) (aug_store c3)).run pins sh t H D I ?_
    refine ha X sc ow _ A.toAt c1 s st _ st1 io H t _ rs R e1 fun io1 H1 w1 u1 R1 r1 => ?_
    refine hb X sc ow _ A.toAt c2 s st1 y _ io1 H1 t _ (rs.up u1) R1 e2 fun io2 H2 w2 u2 R2 r2 => ?_
    have r1' := r1.up u2
    obtain ⟨rfl, hi⟩ := r1'.iref
    obtain ⟨rw', g, rr⟩ := dget_ok R2 rfl r2 gg
    cases rw' with
    | none => cases rr
    | some wz =>
      refine ⟨_, wz, rfl, g, ?_⟩
      refine hv X sc ow _ A.toAt c4 s _ v st4 io2 H2 t _ (rs.up (u1.trans u2)) R2 e4 fun io3 H3 w3 u3 R3 r3 => ?_
      refine (iop_ok R3 (RV.up u3 rr) r3 e5 fun io4 H4 w4 u4 R4 r4 => ?_).1
      have U := (u1.trans u2).trans (u3.trans u4)
      have hio : io4 i = io2 i := (u3.trans u4).io i hi
      have hi4 : i < st5.n := Nat.lt_of_lt_of_le hi (u3.trans u4).le
      have r2' := r2.up (u3.trans u4)
      rw [← hio]
      unfold putD at e6
      simp only at e6
      split at e6
      · rename_i kvs em
        split at e6
        · rename_i k ek
          split at e6
          · rename_i hz
            obtain ⟨hr, _, rfl⟩ := wr_inv e6
            obtain rfl := key1_kV r2' ek
            obtain ⟨kws, _, q, hl⟩ := R4.dictK em
            have up := Up.wr (io := io4) (st := st5) (.dK (putK kws k w4)) (hl hr) trivial
            exact ⟨_, .k (hl hr) (by rw [← q.length]; exact hz), p io4 _ t (U.trans up) (R4.wr hi4 hr (.dK upd_same ((q.put k r4).up up))) (rs.up (U.trans up))⟩
          · cases e6
        · cases e6
      · rename_i kvs em
        split at e6
        · rename_i ks ek
          split at e6
          · rename_i hz
            obtain ⟨hr, _, rfl⟩ := wr_inv e6
            obtain ⟨b1, rfl, hb1⟩ := keyT_ok r2' ek
            obtain ⟨kws, _, q, hl⟩ := R4.dictT em
            have up := Up.wr (io := io4) (st := st5) (.dT (putK kws ks w4)) (hl hr) trivial
            exact ⟨_, .t (hl hr) hb1 (by rw [← q.length]; exact hz), p io4 _ t (U.trans up) (R4.wr hi4 hr (.dT upd_same ((q.put ks r4).up up))) (rs.up (U.trans up))⟩
          · cases e6
        · cases e6
      · cases e6
  · cases hc
theorem ss_auf {a c : E} {f : Str} {o : Bop} (ha : SE T d N a) (hv : SE T d N c) : SS T d N (.auf a f o c) := by
  intro X sc ow q A hc s st fl st' io H t D rs R e p
  simp only [chS] at hc
  split at hc
  · simp only [Bool.and_eq_true, decide_eq_true_eq] at hc
    obtain ⟨⟨⟨rfl, rfl⟩, c1⟩, c2⟩ := hc
    simp only [exec] at e
    obtain ⟨x, st1, e1, e⟩ := bind_eq_ok.mp e
    obtain ⟨old, st2, e2, e⟩ := bind_eq_ok.mp e
    obtain ⟨v, st3, e3, e⟩ := bind_eq_ok.mp e
    obtain ⟨z, st4, e4, e⟩ := bind_eq_ok.mp e
    split at e
    case isFalse => cases e
    rename_i hcl
    obtain ⟨n, st5, e5, e⟩ := bind_eq_ok.mp e
    cases e
    intro pins sh I
    refine (ps_fldaug (rd := oSem X (inplaceOp (opOf o))) pe_sem pe_sem (fun pins s σ H x y u v Q I r1 r2 h => h pins s σ u v I r1 r2)).run pins sh t H D I ?_
    refine ha X sc ow _ A.toAt c1 s st x st1 io H t _ rs R e1 fun io1 H1 w1 u1 R1 r1 => ?_
    obtain ⟨i, rfl⟩ : ∃ i, x = .ref i := by
      unfold getF at e2
      split at e2
      · exact ⟨_, rfl⟩
      · cases e2
    unfold getF at e2
    simp only at e2
    · obtain ⟨rfl, hi⟩ := r1.iref
      split at e2
      · rename_i cc fs em
        split at e2
        · rename_i hf
          split at e2
          · rename_i u el
            cases e2
            obtain ⟨_, _, dx, gs, h1, rk⟩ := R1.inst em
            obtain ⟨cl, na⟩ := A.top.fl cc f hf
            rcases rk.lookup f with ⟨e6, _⟩ | ⟨v', w', e6, e7, rv⟩
            · rw [el] at e6; cases e6
            · rw [el] at e6; cases e6
              refine ⟨_, _, dx, gs, w', rfl, h1, cl, na, e7, ?_⟩
              refine hv X sc ow _ A.toAt c2 s _ v st3 io1 H1 t _ (rs.up u1) R1 e3 fun io2 H2 w2 u2 R2 r2 => ?_
              refine (iop_ok R2 (rv.up u2) r2 e4 fun io3 H3 w3 u3 R3 r3 => ?_).1
              have hio : io3 i = io1 i := (u2.trans u3).io i hi
              have hi3 : i < st4.n := Nat.lt_of_lt_of_le hi (u2.trans u3).le
              unfold putF at e5
              simp only at e5
              split at e5
              · rename_i cc2 fs2 em2
                split at e5
                · rename_i hf2
                  obtain ⟨hr, _, rfl⟩ := wr_inv e5
                  obtain ⟨_, _, dx2, gs2, h2, rk2⟩ := R3.inst em2
                  have up := Up.wr (io := io3) (st := st4) (.ins (T.ca cc2) dx2 (L2.putF f w3 gs2)) h2 trivial
                  have R4 := R3.wr hi3 hr (.ins upd_same ((rk2.setF f r3).up up))
                  have hcc : cc2 = cc := by
                    unfold clsOf at hcl
                    simp only [em, em2] at hcl
                    exact Option.some.inj hcl
                  subst hcc
                  rw [hio] at h2 up R4
                  exact ⟨dx2, gs2, h2, by rw [← rk2.length]; exact hf2.2, p io3 _ t ((u1.trans (u2.trans u3)).trans up) R4 (rs.up ((u1.trans (u2.trans u3)).trans up))⟩
                · cases e5
              · cases e5
          · cases e2
        · cases e2
      · cases e2
  · cases hc

/-! ### small ones -/
theorem ss_ex {a : E} (ha : SE T d N a) : SS T d N (.ex a) := by
  intro X sc ow q A hc s st fl st' io H t D rs R e p
  simp only [chS] at hc
  split at hc
  · rw [Bool.and_eq_true] at hc
    simp only [exec] at e
    obtain ⟨u, st1, e1, e⟩ := bind_eq_ok.mp e
    cases e
    intro pins sh I
    refine (ps_expr pe_sem (swap_none hc.2)).run pins sh t H D I ?_
    exact ha X sc ow _ A.toAt hc.1 s st u _ io H t _ rs R e1 fun io1 H1 w u1 R1 r1 => p io1 H1 t u1 R1 (rs.up u1)
  · cases hc
theorem ss_ret {a : E} (ha : SE T d N a) : SS T d N (.ret a) := by
  intro X sc ow q A hc s st fl st' io H t D rs R e p
  simp only [chS] at hc
  split at hc
  · simp only [exec] at e
    obtain ⟨u, st1, e1, e⟩ := bind_eq_ok.mp e
    cases e
    intro pins sh I
    refine (ps_ret pe_sem).run pins sh t H D I ?_
    exact ha X sc ow _ A.toAt hc s st u _ io H t _ rs R e1 p
  · cases hc
theorem ss_rtN : SS T d N .rtN := by
  intro X sc ow q A hc s st fl st' io H t D rs R e p
  simp only [chS] at hc
  split at hc
  · simp only [exec] at e
    cases e
    intro pins sh I
    exact ps_retN.run pins sh t H D I (p io H .non (.refl _ _ _) R .non)
  · cases hc
theorem ss_pass : SS T d N .pass := by
  intro X sc ow q A hc s st fl st' io H t D rs R e p
  simp only [chS] at hc
  split at hc
  · simp only [exec] at e
    cases e
    intro pins sh I
    exact ps_pass.run pins sh t H D I (p io H t (.refl _ _ _) R rs)
  · cases hc
theorem ss_brk : SS T d N .brk := by
  intro X sc ow q A hc s st fl st' io H t D rs R e p
  simp only [chS] at hc
  split at hc
  · simp only [exec] at e
    cases e
    intro pins sh I
    exact ps_break.run pins sh t H D I (p io H t (.refl _ _ _) R rs)
  · cases hc
theorem ss_cnt : SS T d N .cnt := by
  intro X sc ow q A hc s st fl st' io H t D rs R e p
  simp only [chS] at hc
  split at hc
  · simp only [exec] at e
    cases e
    intro pins sh I
    exact ps_continue.run pins sh t H D I (p io H t (.refl _ _ _) R rs)
  · cases hc
theorem ss_cond {c : B} {a b : Ss} (hb : SB T d N c) (h1 : SSs T d N a) (h2 : SSs T d N b) : SS T d N (.cond c a b) := by
  intro X sc ow q A hc s st fl st' io H t D rs R e p
  simp only [chS] at hc
  split at hc
  · simp only [Bool.and_eq_true] at hc
    simp only [exec] at e
    obtain ⟨k, st1, e1, e⟩ := bind_eq_ok.mp e
    intro pins sh I
    refine (ps_if pt_sem pss_sem pss_sem).run pins sh t H D I ?_
    refine hb X sc ow _ A.toAt hc.1.1 s st k st1 io H t _ rs R e1 fun io1 H1 u1 R1 => ?_
    cases k with
    | true =>
      rw [if_pos rfl] at e ⊢
      exact h1 X sc ow _ A hc.1.2 s st1 fl st' io1 H1 t D (rs.up u1) R1 e (p.after u1)
    | false =>
      rw [if_neg (by decide)] at e ⊢
      exact h2 X sc ow _ A hc.2 s st1 fl st' io1 H1 t D (rs.up u1) R1 e (p.after u1)
  · cases hc
theorem whl_inv {tf : Env → Store → Res Bool} {bf : Env → Store → Res Fl} {n : Nat} {s : Env} {st st' : Store} {fl : Fl} (e : whlLoop tf bf n s st = .ok fl st') : ∃ m k st1, n = m + 1 ∧ tf s st = .ok k st1 ∧
    ((k = false ∧ fl = .nx s ∧ st' = st1) ∨ (k = true ∧ ∃ f2 st2, bf s st1 = .ok f2 st2 ∧ ((∃ s2, (f2 = .nx s2 ∨ f2 = .ct s2) ∧ whlLoop tf bf m s2 st2 = .ok fl st') ∨ (∃ s2, f2 = .bk s2 ∧ fl = .nx s2 ∧ st' = st2) ∨ ∃ v, f2 = .rt v ∧ fl = .rt v ∧ st' = st2))) := by
  cases n with
  | zero => cases e
  | succ m =>
    unfold whlLoop at e
    obtain ⟨k, st1, e1, e⟩ := bind_eq_ok.mp e
    refine ⟨m, k, st1, rfl, e1, ?_⟩
    cases k with
    | false =>
      rw [if_neg (by decide)] at e
      cases e
      exact .inl ⟨rfl, rfl, rfl⟩
    | true =>
      rw [if_pos rfl] at e
      obtain ⟨f2, st2, e2, e⟩ := bind_eq_ok.mp e
      refine .inr ⟨rfl, f2, st2, e2, ?_⟩
      cases f2 with
      | nx s2 => exact .inl ⟨s2, .inl rfl, e⟩
      | ct s2 => exact .inl ⟨s2, .inr rfl, e⟩
      | bk s2 => cases e; exact .inr (.inl ⟨s2, rfl, rfl, rfl⟩)
      | rt v => cases e; exact .inr (.inr ⟨v, rfl, rfl, rfl⟩)
theorem ss_whl {c : B} {b : Ss} (hb : SB T d N c) (h1 : SSs T d N b) : SS T d N (.whl c b) := by
  intro X sc ow q A hc s st fl st' io H t D rs R e p
  simp only [chS] at hc
  split at hc
  · rename_i q1 r pos
    simp only [Bool.and_eq_true] at hc
    simp only [exec] at e
    intro pins sh I
    refine (ps_while A.own pt_sem pss_sem).run pins sh t H D I ?_
    refine ⟨fun m t2 H2 => ∃ (io2 : Nat → Addr) (st2 : Store) (s2 : Env), Up io st.n H io2 st2.n H2 ∧ Rl X.K T.G.kt T.ca io2 st2 H2 ∧ RS X.K T.G.kt io2 st2.n H2 s2 t2 ∧ whlLoop (ts (T.cx d) c) (fun s st => execs (T.cx d) b s st) m s2 st2 = .ok fl st',
      ⟨T.fuel, io, st, s, .refl _ _ _, R, rs, e⟩, ?_⟩
    rintro m t2 H2 ⟨io2, st2, s2, u2, R2, rs2, e2⟩
    obtain ⟨m', k, st3, rfl, e3, e4⟩ := whl_inv e2
    refine hb X sc ow _ A.toAt hc.1 s2 st2 k st3 io2 H2 t2 _ rs2 R2 e3 fun io3 H3 u3 R3 => ?_
    rcases e4 with ⟨rfl, rfl, rfl⟩ | ⟨rfl, f2, st4, e5, e6⟩
    · rw [if_neg (by decide)]
      exact p io3 H3 t2 (u2.trans u3) R3 (rs2.up u3)
    · rw [if_pos rfl]
      refine ⟨fun t4 H4 => ∃ (io4 : Nat → Addr) (st4 : Store) (s4 : Env), Up io st.n H io4 st4.n H4 ∧ Rl X.K T.G.kt T.ca io4 st4 H4 ∧ RS X.K T.G.kt io4 st4.n H4 s4 t4 ∧ whlLoop (ts (T.cx d) c) (fun s st => execs (T.cx d) b s st) m' s4 st4 = .ok fl st',
        fun t4 H4 ⟨io4, st4, s4, a1, a2, a3, a4⟩ => ⟨m', Nat.lt_succ_self _, io4, st4, s4, a1, a2, a3, a4⟩, ?_⟩
      refine h1 X sc ow r A hc.2 s2 st3 f2 st4 io3 H3 t2 _ (rs2.up u3) R3 e5 ?_
      have U := u2.trans u3
      rcases e6 with ⟨s4, rfl | rfl, e7⟩ | ⟨s4, rfl, rfl, rfl⟩ | ⟨v, rfl, rfl, rfl⟩
      · exact fun io4 H4 t4 u4 R4 rs4 => ⟨io4, st4, s4, U.trans u4, R4, rs4, e7⟩
      · exact fun io4 H4 t4 u4 R4 rs4 => ⟨io4, st4, s4, U.trans u4, R4, rs4, e7⟩
      · exact fun io4 H4 t4 u4 R4 rs4 => p io4 H4 t4 (U.trans u4) R4 rs4
      · exact fun io4 H4 w u4 R4 r4 => p io4 H4 w (U.trans u4) R4 r4
  · cases hc
theorem for_inv {w : Watch} {f : Val → Env → Store → Res Fl} {x : Val} {r : List Val} {s : Env} {st st' : Store} {fl : Fl} (e : forLoop w f (x :: r) s st = .ok fl st') : st.sees w = true ∧ ∃ f2 st2, f x s st = .ok f2 st2 ∧
    ((∃ s2, (f2 = .nx s2 ∨ f2 = .ct s2) ∧ forLoop w f r s2 st2 = .ok fl st') ∨ (∃ s2, f2 = .bk s2 ∧ fl = .nx s2 ∧ st' = st2) ∨ ∃ v, f2 = .rt v ∧ fl = .rt v ∧ st' = st2) := by
  unfold forLoop at e
  split at e
  · rename_i h
    obtain ⟨f2, st2, e2, e⟩ := bind_eq_ok.mp e
    refine ⟨h, f2, st2, e2, ?_⟩
    cases f2 with
    | nx s2 => exact .inl ⟨s2, .inl rfl, e⟩
    | ct s2 => exact .inl ⟨s2, .inr rfl, e⟩
    | bk s2 => cases e; exact .inr (.inl ⟨s2, rfl, rfl, rfl⟩)
    | rt v => cases e; exact .inr (.inr ⟨v, rfl, rfl, rfl⟩)
  · cases e
theorem ss_for {tt : Tg} {w : I} {b : Ss} (hw : SI T d N w) (h1 : SSs T d N b) : SS T d N (.for tt w b) := by
  intro X sc ow q A hc s st fl st' io H t D rs R e p
  simp only [chS] at hc
  split at hc
  · rename_i tg it r pos
    simp only [Bool.and_eq_true] at hc
    obtain ⟨⟨⟨c1, c2⟩, c3⟩, c4⟩ := hc
    simp only [exec] at e
    obtain ⟨q1, st1, e1, e⟩ := bind_eq_ok.mp e
    intro pins sh I
    refine (ps_for A.own A.calm pi_sem pg_sem pss_sem (folded c2)).run pins sh t H D I ?_
    refine hw X sc ow tg it A.toAt c1 s st q1 st1 io H t _ rs R e1 fun io1 H1 J u1 R1 wl => ?_
    generalize hf : onTg tt (fun s st => execs (T.cx d) b s st) = f at e
    refine ⟨fun i m t2 H2 => m = q1.1.length - i ∧ i ≤ q1.1.length ∧ ∃ (io2 : Nat → Addr) (st2 : Store) (s2 : Env), Up io1 st1.n H1 io2 st2.n H2 ∧ Rl X.K T.G.kt T.ca io2 st2 H2 ∧ RS X.K T.G.kt io2 st2.n H2 s2 t2 ∧ forLoop q1.2 f (q1.1.drop i) s2 st2 = .ok fl st',
      ⟨_, rfl, Nat.zero_le _, io1, st1, s, .refl _ _ _, R1, rs.up u1, by rw [List.drop_zero]; exact e⟩, ?_⟩
    rintro i m t2 H2 ⟨rfl, hi, io2, st2, s2, u2, R2, rs2, e2⟩
    by_cases hlt : i < q1.1.length
    · rw [List.drop_eq_getElem_cons hlt] at e2
      obtain ⟨hse, f2, st3, e3, e4⟩ := for_inv e2
      refine .inr ⟨wl.go i io2 st2 H2 u2 R2 hse hlt, fun t4 H4 => ∃ (io4 : Nat → Addr) (st4 : Store) (s4 : Env), Up io1 st1.n H1 io4 st4.n H4 ∧ Rl X.K T.G.kt T.ca io4 st4 H4 ∧ RS X.K T.G.kt io4 st4.n H4 s4 t4 ∧ forLoop q1.2 f (q1.1.drop (i + 1)) s4 st4 = .ok fl st',
        fun t4 H4 ⟨io4, st4, s4, a1, a2, a3, a4⟩ => ⟨q1.1.length - (i + 1), by omega, rfl, hlt, io4, st4, s4, a1, a2, a3, a4⟩, fun x H3 hy => ?_⟩
      obtain ⟨u3, R3, r3⟩ := wl.yld i _ io2 st2 H2 x H3 u2 R2 hse (List.getElem?_eq_getElem hlt) hy
      rw [← hf] at e3
      unfold onTg at e3
      split at e3
      · rename_i s' es
        refine tg_sem A.toAt c3 (rs2.up u3) r3 es fun ws rs3 => ?_
        refine h1 X sc ow r A c4 s' st2 f2 st3 io2 H3 _ _ rs3 R3 e3 ?_
        have U := u2.trans u3
        rcases e4 with ⟨s4, rfl | rfl, e7⟩ | ⟨s4, rfl, rfl, rfl⟩ | ⟨v, rfl, rfl, rfl⟩
        · exact fun io4 H4 t4 u4 R4 rs4 => ⟨io4, st3, s4, U.trans u4, R4, rs4, e7⟩
        · exact fun io4 H4 t4 u4 R4 rs4 => ⟨io4, st3, s4, U.trans u4, R4, rs4, e7⟩
        · exact fun io4 H4 t4 u4 R4 rs4 => p io4 H4 t4 (u1.trans (U.trans u4)) R4 rs4
        · exact fun io4 H4 w u4 R4 r4 => p io4 H4 w (u1.trans (U.trans u4)) R4 r4
      · cases e3
    · have hi' : i = q1.1.length := by omega
      subst hi'
      rw [List.drop_length] at e2
      unfold forLoop at e2
      split at e2
      · rename_i hse
        cases e2
        exact .inl ⟨wl.stop io2 _ H2 u2 R2 hse, p io2 H2 t2 (u1.trans u2) R2 rs2⟩
      · cases e2
  · cases hc
theorem sss_nil : SSs T d N .nil := by
  intro X sc ow ps A hc s st fl st' io H t D rs R e p
  simp only [chSs] at hc
  split at hc
  · simp only [execs] at e
    cases e
    intro pins sh I
    exact pss_nil.run pins sh t H D I (p io H t (.refl _ _ _) R rs)
  · cases hc
theorem sss_cons {x : S} {r : Ss} (h1 : SS T d N x) (h2 : SSs T d N r) : SSs T d N (.cons x r) := by
  intro X sc ow ps A hc s st fl st' io H t D rs R e p
  simp only [chSs] at hc
  split at hc
  · rw [Bool.and_eq_true] at hc
    simp only [execs] at e
    obtain ⟨f2, st1, e1, e⟩ := bind_eq_ok.mp e
    intro pins sh I
    refine (pss_cons ps_sem pss_sem).run pins sh t H D I ?_
    refine h1 X sc ow _ A hc.1 s st f2 st1 io H t _ rs R e1 ?_
    cases f2 with
    | nx s1 => exact fun io1 H1 t1 u1 R1 rs1 => h2 X sc ow _ A hc.2 s1 st1 fl st' io1 H1 t1 D rs1 R1 e (p.after u1)
    | rt v => cases e; exact p
    | bk s1 => cases e; exact p
    | ct s1 => cases e; exact p
  · cases hc
end
end CL

/-! CL, part m: the whole: every def of the table keeps its promise; a law from its run -/
namespace CL
open PySem PySem.Spec PyProof.Rows L2
section
variable {T : Tab} {d : Nat} {N : List Str}
/-- what is wanted of an expression's parts -/
def Pt (T : Tab) (d : Nat) (N : List Str) : E → Prop
  | .cmp _ a b => SE T d N a ∧ SE T d N b
  | .cm2 _ _ a b c => SE T d N a ∧ SE T d N b ∧ SE T d N c
  | .isN a => SE T d N a
  | .noN a => SE T d N a
  | .lc _ w c e => SI T d N w ∧ SB T d N c ∧ SE T d N e
  | _ => True
theorem sb_of {e : E} (h : SE T d N e) (p : Pt T d N e) : SB T d N (.of e) := by
  cases e with
  | cmp o a b => exact sb_cmp p.1 p.2
  | cm2 o o2 a b c => exact sb_cm2 p.1 p.2.1 p.2.2
  | isN a => exact sb_isN p
  | noN a => exact sb_noN p
  | _ => exact sb_plain h rfl
variable (T d N)
mutual
theorem all_e : ∀ e : E, SE T d N e ∧ Pt T d N e
  | .v _ => ⟨se_v, trivial⟩
  | .int _ => ⟨se_int, trivial⟩
  | .str _ => ⟨se_str, trivial⟩
  | .bl _ => ⟨se_bl, trivial⟩
  | .non => ⟨se_non, trivial⟩
  | .gl _ => ⟨se_gl, trivial⟩
  | .tup es => ⟨se_tup (all_es es), trivial⟩
  | .lst es => ⟨se_lst (all_es es), trivial⟩
  | .dic ps => ⟨se_dic (all_ps ps), trivial⟩
  | .neg a => ⟨se_neg (all_e a).1, trivial⟩
  | .bin _ a b => ⟨se_bin (all_e a).1 (all_e b).1, trivial⟩
  | .cmp _ a b => ⟨se_cmp (all_e a).1 (all_e b).1, (all_e a).1, (all_e b).1⟩
  | .cm2 _ _ a b c => ⟨se_cm2 (all_e a).1 (all_e b).1 (all_e c).1, (all_e a).1, (all_e b).1, (all_e c).1⟩
  | .isN a => ⟨se_isN (all_e a).1, (all_e a).1⟩
  | .noN a => ⟨se_noN (all_e a).1, (all_e a).1⟩
  | .and a b => ⟨se_and (all_e a).1 (all_e b).1, trivial⟩
  | .or a b => ⟨se_or (all_e a).1 (all_e b).1, trivial⟩
  | .not a => ⟨se_not (all_e a).1, trivial⟩
  | .ite c a b => ⟨se_ite (all_b c) (all_e a).1 (all_e b).1, trivial⟩
  | .sub a i => ⟨se_sub (all_e a).1 (all_e i).1, trivial⟩
  | .cut a lo hi => ⟨se_cut (all_e a).1 (all_o lo) (all_o hi), trivial⟩
  | .cut3 a lo hi _ => ⟨se_cut3 (all_e a).1 (all_o lo) (all_o hi), trivial⟩
  | .fld a _ => ⟨se_fld (all_e a).1, trivial⟩
  | .call _ es => ⟨se_call (all_es es), trivial⟩
  | .make _ es => ⟨se_make (all_es es), trivial⟩
  | .met a _ es => ⟨se_met (all_e a).1 (all_es es), trivial⟩
  | .bm _ a es => ⟨se_bm (all_e a).1 (all_es es), trivial⟩
  | .bf _ es => ⟨se_bf (all_es es), trivial⟩
  | .isi a _ => ⟨se_isi (all_e a).1, trivial⟩
  | .lzip a b => ⟨se_lzip (all_e a).1 (all_e b).1, trivial⟩
  | .lrg1 a => ⟨se_lrg1 (all_e a).1, trivial⟩
  | .lrg2 a b => ⟨se_lrg2 (all_e a).1 (all_e b).1, trivial⟩
  | .lc _ w c e => ⟨se_lc (all_i w) (all_b c) (all_e e).1, all_i w, all_b c, (all_e e).1⟩
  | .bad => ⟨fun _ _ _ _ _ _ _ _ _ _ _ _ _ _ _ _ e => (nomatch e), trivial⟩
theorem all_es : ∀ es : Es, SA T d N es
  | .nil => sa_nil
  | .cons e es => sa_cons (all_e e).1 (all_es es)
theorem all_o : ∀ o : Eo, SO T d N o
  | .no => so_no
  | .so e => so_so (all_e e).1
theorem all_ps : ∀ ps : Ps, SPp T d N ps
  | .nil => sp_nil
  | .cons k v ps => sp_cons (all_e k).1 (all_e v).1 (all_ps ps)
theorem all_b : ∀ b : B, SB T d N b
  | .yes => sb_yes
  | .of e => sb_of (all_e e).1 (all_e e).2
  | .and a b => sb_and (all_b a) (all_b b)
  | .or a b => sb_or (all_b a) (all_b b)
  | .not a => sb_not (all_b a)
theorem all_i : ∀ w : I, SI T d N w
  | .of e => si_of (all_e e).1
  | .rg1 a => si_rg1 (all_e a).1
  | .rg2 a b => si_rg2 (all_e a).1 (all_e b).1
  | .enu e => si_enu (all_e e).1
  | .zip a b => si_zip (all_e a).1 (all_e b).1
end
theorem all_ts : ∀ ts : List CL.T, ST T d N ts
  | [] => .nil
  | .one _ :: ts => .one (all_ts ts)
  | .sub a b :: ts => .sub (all_e T d N a).1 (all_e T d N b).1 (all_ts ts)
  | .fld _ _ :: ts => .fld (all_ts ts)
mutual
theorem all_s : ∀ x : S, SS T d N x
  | .asg (.one i) e => ss_asg_one (all_e T d N e).1 fun tt w c b h => by
      have p := (all_e T d N e).2
      rw [h] at p
      exact p
  | .asg (.sub a b) e => ss_asg_sub (all_e T d N a).1 (all_e T d N b).1 (all_e T d N e).1
  | .asg (.fld a f) e => ss_asg_fld (all_e T d N a).1 (all_e T d N e).1
  | .asT ts e => ss_asT (all_ts T d N ts) (all_e T d N e).1
  | .par is es => ss_par (all_es T d N es)
  | .aug i o e => ss_aug (all_e T d N e).1
  | .aus a i o e => ss_aus (all_e T d N a).1 (all_e T d N i).1 (all_e T d N e).1
  | .auf a f o e => ss_auf (all_e T d N a).1 (all_e T d N e).1
  | .ex e => ss_ex (all_e T d N e).1
  | .ret e => ss_ret (all_e T d N e).1
  | .rtN => ss_rtN
  | .cond c a b => ss_cond (all_b T d N c) (all_ss a) (all_ss b)
  | .whl c b => ss_whl (all_b T d N c) (all_ss b)
  | .for t w b => ss_for (all_i T d N w) (all_ss b)
  | .pass => ss_pass
  | .brk => ss_brk
  | .cnt => ss_cnt
  | .bad => fun _ _ _ _ _ _ _ _ _ _ _ _ _ _ _ _ e => (nomatch e)
theorem all_ss : ∀ x : Ss, SSs T d N x
  | .nil => sss_nil
  | .cons s ss => sss_cons (all_s s) (all_ss ss)
end
end

/-! ### defs -/
/-- a def of the text, as it stands, is the table's f -/
structure DefOk (T : Tab) (K : PySem.W.Frag) (f : Nat) (fd : FDef) : Prop where
  ex : ∃ (x qual : Str) (st : Stmt) (N : List Str), Fun K x qual st (T.fa f) (T.fdt f) ∧ FnScope N (T.psn f) (defScope st) ∧ N.length = fd.nl ∧ chSs T.nm N (defScope st) (fun _ => true) fd.body (defBody st) = true
theorem rs_start {K : PySem.W.Frag} {kt : List (List Val)} {io : Nat → Addr} {n : Nat} {H : Hp} {vs : List Val} {ws : List V} (r : RVs K kt io n H vs ws) (k : Nat) : RS K kt io n H (vs.map some ++ List.replicate k none) (ws.map some ++ List.replicate k none) := by
  refine ⟨by simp [r.length], fun i v e => ?_⟩
  by_cases hi : i < vs.length
  · rw [List.getElem?_append_left (by simpa using hi), List.getElem?_map] at e
    cases q : vs[i]? with
    | none => rw [q] at e; cases e
    | some x =>
      rw [q] at e
      have : x = v := by simpa using e
      subst this
      obtain ⟨w, ew, rw'⟩ := r.get q
      refine ⟨w, ?_, rw'⟩
      rw [List.getElem?_append_left (by rw [List.length_map, ← r.length]; exact hi), List.getElem?_map, ew]; rfl
  · rw [List.getElem?_append_right (by simpa using hi)] at e
    rw [List.getElem?_replicate] at e
    split at e <;> cases e
theorem fns_ok {T : Tab} {P : Program} {w : World} {K : PySem.W.Frag} {mg : Str → Option Value} {base : Heap} (tp : Top T K mg) (dk : ∀ f fd, T.G.fn f = some fd → DefOk T K f fd) :
    ∀ d f fd, T.G.fn f = some fd → FnOk P w K mg base CX0 d (T.fa f) (T.fdt f) (T.psn f) (spF K T (callN T.G T.fuel d f) (T.psn f).length) := by
  intro d
  induction d using Nat.strongRecOn with
  | _ d ih =>
    intro f fd hf
    cases d with
    | zero => exact ⟨fun vs H Q E h => h.1, fun A outer s H args us vs Q E _ _ _ _ h => by
        obtain ⟨_, _, _, _, _, _, _, _, e, _⟩ := h
        cases e⟩
    | succ d =>
      obtain ⟨x, qual, st, N, F, S, hN, hch⟩ := (dk f fd hf).ex
      refine F.ok S (fun vs H Q E h => h.1) fun cdv A outer s H vs Q E hr h => ?_
      obtain ⟨hlen, io, st0, us, v, st', R, rv, e, p⟩ := h
      rw [callN_succ, hf] at e
      simp only at e
      unfold runF at e
      split at e
      · rename_i hnp
        obtain ⟨fl, st1, e1, e⟩ := bind_eq_ok.mp e
        have hps := (tp.fn f fd hf).2.1
        have hst : L2.start N vs = vs.map some ++ List.replicate (fd.nl - fd.np) none := by
          unfold L2.start
          rw [hN, ← rv.length, hnp]
        refine ⟨_, pss_sem, ?_⟩
        have At' : AtS T d (cxOf CX0 P w K mg base N qual (defScope st) (T.fa f) cdv A outer s H E).nox N (defScope st) (fun _ => true) :=
          { top := tp, fns := fun e he f' fd' hf' => ih e (Nat.lt_succ_of_le he) f' fd' hf', hN := rfl, nd := S.nd, hsc := rfl, kind := S.kind, how := fun _ _ => rfl, calm := rfl, room := hr, own := PassesOwn.never }
        rw [hst]
        refine all_ss T d N fd.body _ (defScope st) (fun _ => true) (defBody st) At' hch _ st0 fl st1 io H _ _ (rs_start rv _) R e1 ?_
        cases fl with
        | nx s' => cases e; exact fun io1 H1 t1 u1 R1 _ => p io1 H1 .non u1 R1 .non
        | rt v' => cases e; exact fun io1 H1 w1 u1 R1 r1 => p io1 H1 w1 u1 R1 r1
        | bk s' => cases e
        | ct s' => cases e
      · cases e

/-! ### a law -/
/-- the store at a law's call: the script alone -/
def st0 (ns : List Int) : Store := ⟨1, fun i => if i = 0 then some (.lst (ns.map .int)) else none, fun _ => true⟩
theorem ints_rv {K : PySem.W.Frag} {kt : List (List Val)} {io : Nat → Addr} {n : Nat} {H : Hp} : ∀ ns : List Int, RVs K kt io n H (ns.map .int) (ns.map V.int)
  | [] => .nil
  | x :: r => .cons (.int x) (ints_rv r)
theorem only_sqR {K : PySem.W.Frag} {H : Hp} {a : Addr} {xs : List V} (o : Only H) (h : SqL K H a xs) : SqR K H a xs := by
  rcases h with (h | ⟨q, h⟩) | h
  · rcases o a with z | ⟨q, ys, z⟩
    · rw [h] at z; cases z
    · rw [h] at z; cases z
  · exact .inl ⟨q, h⟩
  · exact .inr h
theorem law_sp {T : Tab} {K : PySem.W.Frag} {H : Hp} {a : Addr} {ns : List Int} {run : List Val → Store → Res Val} {st' : Store} (o : Only H) (h : SqL K H a (ns.map V.int)) (e : run [.ref 0] (st0 ns) = .ok (.bl true) st') :
    spF K T run 1 [.ref a] H (fun v _ => v = .bl true) (fun _ _ _ => False) := by
  refine ⟨rfl, fun _ => a, st0 ns, [.ref 0], .bl true, st', ⟨fun i hi => ?_, fun i hi => ?_, fun i j _ _ hr _ _ => by cases hr⟩, .cons (.ref (show 0 < 1 by omega)) .nil, e, fun io' H' w _ _ r => r.ibl⟩
  · have hi : i < 1 := hi
    have : i = 0 := by omega
    subst this
    exact ⟨.lst (ns.map .int), rfl, .lstR (only_sqR o h) (ints_rv ns)⟩
  · have hi : 1 ≤ i := hi
    exact if_neg (by omega)
end CL
namespace CL
open PySem PySem.Spec PyProof.Rows L2
/-- what a law promises -/
def spL (K : PySem.W.Frag) (n : Nat) : Sp := fun vs H Q _ => ∃ (a : Addr) (ns : List Int), vs = [.ref a] ∧ ns.length ≤ n ∧ Only H ∧ SqL K H a (ns.map V.int) ∧ ∀ H', Q (.bl true) H'
/-- what the top must have left for the table to be the text's -/
structure Laid (G : Prog) (fuel fl : Nat) (x : Str) (K : PySem.W.Frag) (mg : Str → Option Value) (fa : Addr) (T : Tab) : Prop where
  hG : T.G = G
  hf : T.fuel = fuel
  ha : T.fa fl = fa
  hp : T.psn fl = [x]
  top : Top T K mg
  defs : ∀ f fd, T.G.fn f = some fd → DefOk T K f fd
  bind : ∀ (s : Shared) (u : Value), BindsTo s (T.fdt fl) ⟨[u], []⟩ [(x, u)]
theorem law_walk {l : PySem.W.OpenLaw} {n k : Nat} {q : Program} {loose : List Str} {XP : (Str → Option Value) → Heap → Prop} {YP : World → Heap → Prop} {dr : DefRec} {K : Params → PySem.W.Frag} {x : Str} (G : Prog) (fuel fl : Nat) (fd : FDef) (hfd : G.fn fl = some fd)
    (hn : l.most = some n) (hn2 : n ≤ sizeLine) (hdf : dr.params.defaults = []) (hr : Room k callerA) (hY : ∀ (w : World) (h : Heap), YP w h → (K w.params).In h)
    (hrun : ∀ ns : List Int, ns.length ≤ n → ∃ st', callN G fuel k fl [.ref 0] (st0 ns) = .ok (.bl true) st')
    (F : ∀ (w : World) (mg : Str → Option Value) (fa : Addr) (h : Heap), (K w.params).In h → h.Ns mainGlobals mg → mg dr.name = some (.ref fa) → ∃ T : Tab, Laid G fuel fl x (K w.params) mg fa T) :
    PySem.W.WalkO q loose XP YP l.row.toRowW dr [] (fun f vs => PySem.call f vs) := by
  refine walk_of (n := n) (k := k) (x := x) (CX := fun _ => CX0) (sp := fun w => spL (K w.params) n) hn hn2 hdf hr hY (fun w mg fa h kin ns hmg => ?_) (fun w H a ns hl o h => ⟨a, ns, rfl, hl, o, h, fun _ => rfl⟩) fun _ _ _ _ _ z => z
  obtain ⟨T, L⟩ := F w mg fa h kin ns hmg
  refine ⟨T.fdt fl, L.bind, fun base _ _ => ?_⟩
  have hG := L.hG
  have hf := L.hf
  subst hG hf
  have FF := fns_ok (P := l.prog) (w := w) (base := base) L.top L.defs k fl fd hfd
  rw [L.ha, L.hp] at FF
  refine FF.imp fun vs H Q E h => ?_
  obtain ⟨a, ns, rfl, hl, o, hs, hq⟩ := h
  obtain ⟨st', e⟩ := hrun ns hl
  obtain ⟨h1, io, st, us, v, st2, R, rv, e2, p⟩ := law_sp (T := T) o hs e
  exact ⟨h1, io, st, us, v, st2, R, rv, e2, fun io' H' w u R' r => by
    have := p io' H' w u R' r
    rw [this]; exact hq H'⟩
/-- each of a list, by its place -/
def AllI {α : Type} (P : Nat → α → Prop) : Nat → List α → Prop
  | _, [] => True
  | i, x :: r => P i x ∧ AllI P (i + 1) r
theorem allI {α : Type} {P : Nat → α → Prop} : ∀ {l : List α} {k : Nat}, AllI P k l → ∀ (i : Nat) (x : α), l[i]? = some x → P (k + i) x
  | [], _, _, i, x, e => by simp at e
  | a :: r, k, h, 0, x, e => by simp at e; subst e; exact h.1
  | a :: r, k, h, i + 1, x, e => by
    have := allI h.2 i x (by simpa using e)
    rw [show k + (i + 1) = k + 1 + i by omega]; exact this
theorem allI0 {α : Type} {P : Nat → α → Prop} {l : List α} (h : AllI P 0 l) (i : Nat) (x : α) (e : l[i]? = some x) : P i x := by
  have := allI h i x e
  rwa [Nat.zero_add] at this
/-- each method of a table -/
def AllM (P : Nat → Str → Nat → Prop) : List (Nat × Str × Nat) → Prop
  | [] => True
  | x :: r => P x.1 x.2.1 x.2.2 ∧ AllM P r
theorem allM {P : Nat → Str → Nat → Prop} : ∀ {l : List (Nat × Str × Nat)}, AllM P l → ∀ (c : Nat) (m : Str) (f : Nat), (l.find? fun x => decide (x.1 = c) && decide (x.2.1 = m)).map (·.2.2) = some f → P c m f
  | [], _, c, m, f, e => by simp at e
  | x :: r, h, c, m, f, e => by
    rw [List.find?_cons] at e
    split at e
    · rename_i q
      rw [Bool.and_eq_true, decide_eq_true_eq, decide_eq_true_eq] at q
      have e : x.2.2 = f := Option.some.inj e
      rw [← q.1, ← q.2, ← e]; exact h.1
    · exact allM h.2 c m f e
def AllN (m : Str) (P : Nat → Nat → Prop) : List (Nat × Str × Nat) → Prop
  | [] => True
  | x :: r => (x.2.1 = m → P x.1 x.2.2) ∧ AllN m P r
theorem allN {m : Str} {P : Nat → Nat → Prop} : ∀ {l : List (Nat × Str × Nat)}, AllN m P l → ∀ (c : Nat) (f : Nat), (l.find? fun x => decide (x.1 = c) && decide (x.2.1 = m)).map (·.2.2) = some f → P c f
  | [], _, c, f, e => by simp at e
  | x :: r, h, c, f, e => by
    rw [List.find?_cons] at e
    split at e
    · rename_i q
      rw [Bool.and_eq_true, decide_eq_true_eq, decide_eq_true_eq] at q
      have e : x.2.2 = f := Option.some.inj e
      rw [← q.1, ← e]; exact h.1 q.2
    · exact allN h.2 c f e
def AllF (P : Nat → Str → Prop) : List (Nat × Str) → Prop
  | [] => True
  | x :: r => P x.1 x.2 ∧ AllF P r
theorem allF {P : Nat → Str → Prop} : ∀ {l : List (Nat × Str)}, AllF P l → ∀ (c : Nat) (f : Str), l.contains (c, f) = true → P c f
  | [], _, c, f, e => by simp at e
  | x :: r, h, c, f, e => by
    rw [List.contains_cons, Bool.or_eq_true] at e
    rcases e with e | e
    · have e : (c, f) = x := by simpa using e
      rw [← e] at h; exact h.1
    · exact allF h.2 c f e
end CL

/-! CL, part n: rows for reckoning a run -/
namespace CL
theorem cx_call (G : Prog) (fuel d : Nat) : (cxN G fuel d).call = callN G fuel d := rfl
theorem cx_G (G : Prog) (fuel d : Nat) : (cxN G fuel d).G = G := rfl
theorem cx_fuel (G : Prog) (fuel d : Nat) : (cxN G fuel d).fuel = fuel := rfl
theorem cx_init (G : Prog) (fuel d : Nat) : (cxN G fuel (d + 1)).init = callN G fuel d := rfl
theorem then_nx (k : Env → Store → Res Fl) (s : Env) (st : Store) : thenF k (.nx s) st = k s st := rfl
theorem then_rt (k : Env → Store → Res Fl) (v : Val) (st : Store) : thenF k (.rt v) st = .ok (.rt v) st := rfl
theorem then_bk (k : Env → Store → Res Fl) (s : Env) (st : Store) : thenF k (.bk s) st = .ok (.bk s) st := rfl
theorem then_ct (k : Env → Store → Res Fl) (s : Env) (st : Store) : thenF k (.ct s) st = .ok (.ct s) st := rfl
theorem end_nx (s : Env) (st : Store) : endF (.nx s) st = .ok .non st := rfl
theorem end_rt (v : Val) (st : Store) : endF (.rt v) st = .ok v st := rfl
theorem log64 {n : Nat} (h : n < 18446744073709551616) : n.log2 < 9000 := by
  by_cases h0 : n = 0
  · rw [h0]; decide
  · have := (Nat.log2_lt (k := 64) h0).mpr h
    omega
section
variable (st : Store) (i j : Int) (a b : PySem.Str) (xs ys : List Val) (kt : List (List Val))
theorem p_add : bop .add (.int i) (.int j) st = .ok (.int (i + j)) st := rfl
theorem p_sub : bop .sub (.int i) (.int j) st = .ok (.int (i - j)) st := rfl
theorem p_mul (h : mulOk i j = true) : bop .mul (.int i) (.int j) st = .ok (.int (i * j)) st := by simp only [bop, h, if_true]
theorem p_fdiv (h : j ≠ 0 ∧ j.natAbs < 18446744073709551616) : bop .fdiv (.int i) (.int j) st = .ok (.int (i.fdiv j)) st := by simp only [bop]; rw [if_pos ⟨h.1, log64 h.2⟩]
theorem p_mod (h : j ≠ 0) : bop .mod (.int i) (.int j) st = .ok (.int (i.fmod j)) st := by simp only [bop]; rw [if_pos h]
theorem p_adds (h : fits (a.length + b.length) = true) : bop .add (.str a) (.str b) st = .ok (.str (a ++ b)) st := by simp only [bop, h, if_true]
theorem p_addt (h : fits (xs.length + ys.length) = true) : bop .add (.tup xs) (.tup ys) st = .ok (.tup (xs ++ ys)) st := by simp only [bop, h, if_true]
theorem p_eqi : cop kt .eq (.int i) (.int j) st = .ok (.bl (decide (i = j))) st := rfl
theorem p_nei : cop kt .ne (.int i) (.int j) st = .ok (.bl (!decide (i = j))) st := rfl
theorem p_eqs : cop kt .eq (.str a) (.str b) st = .ok (.bl (decide (a = b))) st := rfl
theorem p_nes : cop kt .ne (.str a) (.str b) st = .ok (.bl (!decide (a = b))) st := rfl
theorem p_lt : cop kt .lt (.int i) (.int j) st = .ok (.bl (decide (i < j))) st := rfl
theorem p_le : cop kt .le (.int i) (.int j) st = .ok (.bl (decide (i ≤ j))) st := rfl
theorem p_gt : cop kt .gt (.int i) (.int j) st = .ok (.bl (decide (j < i))) st := rfl
theorem p_ge : cop kt .ge (.int i) (.int j) st = .ok (.bl (decide (j ≤ i))) st := rfl
theorem t_bl (k : Bool) : tru st (.bl k) = some k := rfl
theorem p_eqb (k l : Bool) : cop kt .eq (.bl k) (.bl l) st = .ok (.bl (k == l)) st := rfl
end
/-- a written product -/
theorem mulOk_left {i j : Int} (h : -(2 ^ 64) < i ∧ i < 2 ^ 64) : mulOk i j = true := by
  unfold mulOk
  simp only [Bool.or_eq_true, Bool.and_eq_true, decide_eq_true_eq]
  exact .inl h
theorem mulOk_right {i j : Int} (h : -(2 ^ 64) < j ∧ j < 2 ^ 64) : mulOk i j = true := by
  unfold mulOk
  simp only [Bool.or_eq_true, Bool.and_eq_true, decide_eq_true_eq]
  exact .inr h
/-- a script's cells and its length, as most laws walk them -/
theorem fdiv_pos {i j : Int} (h : 0 < j) : i.fdiv j = i / j := Int.fdiv_eq_ediv_of_nonneg _ (Int.le_of_lt h)
theorem fmod_pos {i j : Int} (h : 0 < j) : i.fmod j = i % j := Int.fmod_eq_emod_of_nonneg _ (Int.le_of_lt h)
/-- a for loop that keeps a word of store and slots: each item brings it on -/
theorem for_keep {w : Watch} {f : Val → Env → Store → Res Fl} (P : Env → Store → Prop) : ∀ (xs : List Val) (s : Env) (st : Store), P s st → (∀ s st, P s st → st.sees w = true) →
    (∀ x ∈ xs, ∀ s st, P s st → ∃ s' st', (f x s st = .ok (.nx s') st' ∨ f x s st = .ok (.ct s') st') ∧ P s' st') → ∃ s' st', forLoop w f xs s st = .ok (.nx s') st' ∧ P s' st'
  | [], s, st, h, hs, _ => ⟨s, st, by unfold forLoop; rw [hs s st h]; rfl, h⟩
  | x :: r, s, st, h, hs, hf => by
    obtain ⟨s1, st1, e, h1⟩ := hf x (by simp) s st h
    obtain ⟨s2, st2, e2, h2⟩ := for_keep P r s1 st1 h1 hs fun y hy => hf y (by simp [hy])
    refine ⟨s2, st2, ?_, h2⟩
    unfold forLoop
    rw [hs s st h, if_pos rfl]
    rcases e with e | e <;> rw [e] <;> exact e2

/-- what stood stays -/
def Keep (st st' : Store) : Prop := st.n ≤ st'.n ∧ ∀ i, i < st.n → st'.m i = st.m i
theorem Keep.refl (st : Store) : Keep st st := ⟨Nat.le_refl _, fun _ _ => rfl⟩
theorem Keep.trans {a b c : Store} (h : Keep a b) (k : Keep b c) : Keep a c := ⟨Nat.le_trans h.1 k.1, fun i hi => (k.2 i (Nat.lt_of_lt_of_le hi h.1)).trans (h.2 i hi)⟩
theorem Keep.new (st : Store) (o : Ob) : Keep st (st.new o) := ⟨Nat.le_succ _, fun i hi => if_neg (Nat.ne_of_lt hi)⟩
theorem enum_mem : ∀ (xs : List Val) (k : Int) (x : Val), x ∈ enumL k xs → ∃ (i : Nat) (y : Val), i < xs.length ∧ y ∈ xs ∧ x = .tup [.int (k + i), y]
  | [], k, x, h => by unfold enumL at h; simp at h
  | y :: r, k, x, h => by
    unfold enumL at h
    rcases List.mem_cons.mp h with rfl | h
    · exact ⟨0, y, by simp, by simp, by simp⟩
    · obtain ⟨i, z, h1, h2, rfl⟩ := enum_mem r (k + 1) x h
      refine ⟨i + 1, z, by simp; omega, by simp [h2], ?_⟩
      congr 3; push_cast; omega
theorem new_old {st : Store} {o : Ob} {i : Nat} (h : i < st.n) : (st.new o).m i = st.m i := if_neg (Nat.ne_of_lt h)
theorem new_at (st : Store) (o : Ob) : (st.new o).m st.n = some o := if_pos rfl
theorem cut63 {xs : List Val} (h : xs.length ≤ 63) : cutL xs none (some 63) = xs := by
  unfold cutL
  have e1 : HT.sIx xs.length 0 none = 0 := rfl
  have e2 : HT.sIx xs.length xs.length (some 63) = xs.length := by
    have := HT.sIx_nat xs.length xs.length 63
    rw [Nat.min_eq_right h] at this
    exact this
  rw [e1, e2]; simp
/-- script[:63] + [len(script)] -/
def stC (ns : List Int) : Store := (((st0 ns).new (.lst (ns.map .int))).new (.lst [.int ns.length])).new (.lst (ns.map .int ++ [.int ns.length]))
def cellE : E := .bin .add (.cut (.v 0) .no (.so (.int 63))) (.lst (.cons (.bf .len (.cons (.v 0) .nil)) .nil))
theorem cells_ev (c : Ctx) (ns : List Int) (h : ns.length ≤ 63) (s : Env) (hs : s[0]? = some (some (.ref 0))) : ev c cellE s (st0 ns) = .ok (.ref 3) (stC ns) := by
  have hm : (st0 ns).m 0 = some (.lst (ns.map .int)) := rfl
  have e1 : cutV (.ref 0) none (some (.int 63)) (st0 ns) = .ok (.ref 1) ((st0 ns).new (.lst (ns.map .int))) := by
    unfold cutV
    simp only [part, hm, mk]
    rw [cut63 (by simpa using h)]; rfl
  unfold cellE
  simp only [ev, evs, evo, hs, bind_ok, e1, bfn]
  have hm2 : ((st0 ns).new (.lst (ns.map .int))).m 0 = some (.lst (ns.map .int)) := rfl
  simp only [hm2, bind_ok, mkL]
  have f1 : fits [Val.int ((ns.map Val.int).length : Int)].length = true := rfl
  simp only [f1, if_true, mk, bind_ok, bop]
  have hm3 : (((st0 ns).new (.lst (ns.map .int))).new (.lst [.int ((ns.map Val.int).length : Int)])).m 1 = some (.lst (ns.map .int)) := rfl
  have hm4 : (((st0 ns).new (.lst (ns.map .int))).new (.lst [.int ((ns.map Val.int).length : Int)])).m ((st0 ns).new (.lst (ns.map .int))).n = some (.lst [.int ((ns.map Val.int).length : Int)]) := rfl
  simp only [hm3, hm4]
  have r1 : ((((st0 ns).new (.lst (ns.map .int))).new (.lst [.int ((ns.map Val.int).length : Int)])).ro 1 || (((st0 ns).new (.lst (ns.map .int))).new (.lst [.int ((ns.map Val.int).length : Int)])).ro ((st0 ns).new (.lst (ns.map .int))).n) = false := rfl
  have f2 : fits ((ns.map Val.int).length + [Val.int ((ns.map Val.int).length : Int)].length) = true := by
    unfold fits
    rw [PySem.sizeLine_eq]
    simp; omega
  simp only [r1, f2, if_true, Bool.false_eq_true, if_false]
  simp only [List.length_map]
  rfl
end CL

/-! CL, part s: runs over a heap that is told thing by thing -/
namespace CL
/-- things told, each with its place -/
abbrev HL := List (Nat × Ob)
/-- a store that holds these: B never changes, H may -/
structure Sep (B : HL) (st : Store) (H : HL) : Prop where
  at' : ∀ a o, (a, o) ∈ H → st.m a = some o
  nd : (H.map (·.1)).Nodup
  lt : ∀ a o, (a, o) ∈ H → a < st.n
  rw' : ∀ a o, (a, o) ∈ H → st.ro a = false
  fix : ∀ a o, (a, o) ∈ B → st.m a = some o ∧ a < st.n ∧ st.ro a = true
theorem Sep.perm {B : HL} {st : Store} {H K : HL} (p : H.Perm K) (h : Sep B st H) : Sep B st K :=
  ⟨fun a o m => h.at' a o (p.mem_iff.mpr m), (p.map _).nodup_iff.mp h.nd, fun a o m => h.lt a o (p.mem_iff.mpr m), fun a o m => h.rw' a o (p.mem_iff.mpr m), h.fix⟩
theorem Sep.sub {B : HL} {st : Store} {H K : HL} (p : K.Sublist H) (h : Sep B st H) : Sep B st K :=
  ⟨fun a o m => h.at' a o (p.mem m), h.nd.sublist (p.map _), fun a o m => h.lt a o (p.mem m), fun a o m => h.rw' a o (p.mem m), h.fix⟩
/-- a run that ends well: with what value, and what is then told of the heap -/
def WP {α : Type} (B : HL) (m : Store → Res α) (H : HL) (Q : α → HL → Prop) : Prop :=
  ∀ st F, Sep B st (H ++ F) → ∃ a K st', m st = .ok a st' ∧ Q a K ∧ Sep B st' (K ++ F)
/-- H is L and R, in some order -/
def Sub (H L R : HL) : Prop := H.Perm (L ++ R)
theorem sub_here {L R : HL} : Sub (L ++ R) L R := .refl _
theorem sub_one {a : Nat} {o : Ob} {R : HL} : Sub ((a, o) :: R) [(a, o)] R := .refl _
theorem sub_all {L : HL} : Sub L L [] := by unfold Sub; simp
theorem sub_nil {L : HL} : Sub L [] L := .refl _
theorem sub_cons {H L R : HL} {x : Nat × Ob} (h : Sub H L R) : Sub (x :: H) L (x :: R) :=
  (h.cons x).trans List.perm_middle.symm
theorem sub_there {H L R M : HL} (h : Sub H L R) : Sub (M ++ H) L (M ++ R) := by
  unfold Sub at *
  refine (h.append_left M).trans ?_
  rw [← List.append_assoc, ← List.append_assoc]
  exact List.perm_append_comm.append_right R
theorem sub_left {H L R M : HL} (h : Sub H L R) : Sub (H ++ M) L (R ++ M) := by
  unfold Sub at *
  refine (h.append_right M).trans ?_
  rw [List.append_assoc]
theorem sub_app {H L M R X : HL} (h : Sub H L R) (k : Sub R M X) : Sub H (L ++ M) X := by
  unfold Sub at *
  refine h.trans ?_
  rw [List.append_assoc]
  exact k.append_left L
theorem sub_add {H M R X : HL} {x : Nat × Ob} (h : Sub H [x] R) (k : Sub R M X) : Sub H (x :: M) X := sub_app h k
section
variable {α β : Type} {B H K L R X : HL}
theorem wp_perm {m : Store → Res α} {Q : α → HL → Prop} (p : H.Perm K) (h : WP B m K Q) : WP B m H Q := fun st F s => h st F (s.perm (p.append_right F))
/-- what is told at the end, in any order, less perhaps -/
def Conv (Q : α → HL → Prop) (a : α) (H : HL) : Prop := ∃ K X, Sub H K X ∧ Q a K
theorem wp_conv {m : Store → Res α} {Q : α → HL → Prop} (h : WP B m H (Conv Q)) : WP B m H Q := fun st F s => by
  obtain ⟨a, K, st', e, ⟨K2, X, p, q⟩, s'⟩ := h st F s
  refine ⟨a, K2, st', e, q, ?_⟩
  have p2 : (K ++ F).Perm (X ++ (K2 ++ F)) := by
    refine (List.Perm.append_right F p).trans ?_
    rw [List.append_assoc, ← List.append_assoc, ← List.append_assoc]
    refine (List.perm_append_comm).append_right F |>.trans ?_
    exact .refl _
  exact (s'.perm p2).sub (List.sublist_append_right _ _)
theorem conv {Q : α → HL → Prop} {a : α} (h : Sub H K X) (q : Q a K) : Conv Q a H := ⟨K, X, h, q⟩
theorem conv_perm {Q : α → HL → Prop} {a : α} (p : H.Perm K) (q : Q a K) : Conv Q a H := ⟨K, [], by unfold Sub; rw [List.append_nil]; exact p, q⟩
theorem conv0 {Q : α → HL → Prop} {a : α} (q : Q a H) : Conv Q a H := ⟨H, [], sub_all, q⟩
theorem wp_eq {m m' : Store → Res α} {Q : α → HL → Prop} (e : ∀ st, m' st = m st) (h : WP B m H Q) : WP B m' H Q := by
  have : m' = m := funext e
  rw [this]; exact h
theorem wp_mono {m : Store → Res α} {P Q : α → HL → Prop} (h : WP B m H P) (k : ∀ a K, P a K → Q a K) : WP B m H Q := fun st F s => by
  obtain ⟨a, K, st', e, p, s'⟩ := h st F s
  exact ⟨a, K, st', e, k a K p, s'⟩
/-- the rest stays -/
theorem wp_frame {m : Store → Res α} {P Q : α → HL → Prop} (x : Sub H L R) (h : WP B m L P) (k : ∀ a K, P a K → Q a (K ++ R)) : WP B m H Q := fun st F s => by
  have s1 : Sep B st (L ++ (R ++ F)) := by
    rw [← List.append_assoc]
    exact s.perm (List.Perm.append_right F x)
  obtain ⟨a, K, st', e, p, s'⟩ := h st _ s1
  exact ⟨a, K ++ R, st', e, k a K p, by rw [List.append_assoc]; exact s'⟩
theorem wp_ok {Q : α → HL → Prop} {a : α} (q : Q a H) : WP B (fun st => .ok a st) H Q := fun st F s => ⟨a, H, st, rfl, q, s⟩
theorem wp_bind {m : Store → Res α} {k : α → Store → Res β} {Q : β → HL → Prop} (h : WP B m H fun a K => WP B (k a) K Q) : WP B (fun st => (m st).bind k) H Q := fun st F s => by
  obtain ⟨a, K, st', e, p, s'⟩ := h st F s
  obtain ⟨b, K2, st2, e2, q, s2⟩ := p st' F s'
  exact ⟨b, K2, st2, by simp only [e, bind_ok, e2], q, s2⟩
theorem wp_of {m : Store → Res α} {a : α} {Q : α → HL → Prop} (e : ∀ st F, Sep B st (H ++ F) → m st = .ok a st) (q : Q a H) : WP B m H Q := fun st F s => ⟨a, H, st, e st F s, q, s⟩
theorem sub_at {st : Store} {F : HL} {a : Nat} {o : Ob} (x : Sub H [(a, o)] R) (s : Sep B st (H ++ F)) : st.m a = some o :=
  s.at' a o (List.mem_append_left _ ((List.Perm.mem_iff x).mpr (by simp)))
theorem sub_rw {st : Store} {F : HL} {a : Nat} {o : Ob} (x : Sub H [(a, o)] R) (s : Sep B st (H ++ F)) : st.ro a = false :=
  s.rw' a o (List.mem_append_left _ ((List.Perm.mem_iff x).mpr (by simp)))
/-- a thing that never changes -/
theorem fix_at {st : Store} {F : HL} {a : Nat} {o : Ob} (x : (a, o) ∈ B) (s : Sep B st F) : st.m a = some o := (s.fix a o x).1
theorem wp_mk {o : Ob} {Q : Val → HL → Prop} (q : ∀ p, Q (.ref p) ((p, o) :: H)) : WP B (mk o) H Q := fun st F s => by
  refine ⟨.ref st.n, (st.n, o) :: H, st.new o, rfl, q _, ⟨fun a o' m => ?_, ?_, fun a o' m => ?_, fun a o' m => ?_, fun a o' m => ?_⟩⟩
  · rcases List.mem_cons.mp m with e | m
    · cases e; exact if_pos rfl
    · have := s.lt a o' m
      exact (if_neg (by omega)).trans (s.at' a o' m)
  · rw [List.cons_append, List.map_cons, List.nodup_cons]
    refine ⟨fun h => ?_, s.nd⟩
    obtain ⟨⟨b, o'⟩, m, e⟩ := List.mem_map.mp h
    have := s.lt b o' m
    simp only at e
    omega
  · rcases List.mem_cons.mp m with e | m
    · cases e; exact Nat.lt_succ_self _
    · exact Nat.lt_succ_of_lt (s.lt a o' m)
  · rcases List.mem_cons.mp m with e | m
    · cases e; exact if_pos rfl
    · have := s.lt a o' m
      exact (if_neg (by omega)).trans (s.rw' a o' m)
  · obtain ⟨h1, h2, h3⟩ := s.fix a o' m
    exact ⟨(if_neg (by omega)).trans h1, Nat.lt_succ_of_lt h2, (if_neg (by omega)).trans h3⟩
theorem Sep.put {st : Store} {a : Nat} {o o' : Ob} (s : Sep B st ((a, o) :: H)) : Sep B (st.set a o') ((a, o') :: H) := by
  have ha : ∀ b p, (b, p) ∈ H → b ≠ a := fun b p m e => by
    have := s.nd
    rw [List.map_cons, List.nodup_cons] at this
    exact this.1 (List.mem_map.mpr ⟨(b, p), m, e⟩)
  refine ⟨fun b p m => ?_, s.nd, fun b p m => ?_, fun b p m => ?_, fun b p m => ?_⟩
  · rcases List.mem_cons.mp m with e | m
    · cases e; exact if_pos rfl
    · exact (if_neg (ha b p m)).trans (s.at' b p (List.mem_cons_of_mem _ m))
  · rcases List.mem_cons.mp m with e | m
    · cases e; exact s.lt a o (by simp)
    · exact s.lt b p (List.mem_cons_of_mem _ m)
  · rcases List.mem_cons.mp m with e | m
    · cases e; exact s.rw' a o (by simp)
    · exact s.rw' b p (List.mem_cons_of_mem _ m)
  · obtain ⟨h1, h2, h3⟩ := s.fix b p m
    refine ⟨(if_neg fun e => ?_).trans h1, h2, h3⟩
    have := s.rw' a o (by simp)
    rw [e] at h3
    rw [h3] at this; cases this
theorem wp_wr {a : Nat} {o o' : Ob} {Q : Val → HL → Prop} (x : Sub H [(a, o)] R) (q : Q .non ((a, o') :: R)) : WP B (wr a o') H Q := fun st F s => by
  have h : (H ++ F).Perm ((a, o) :: (R ++ F)) := List.Perm.append_right F x
  refine ⟨.non, (a, o') :: R, st.set a o', ?_, q, (s.perm h).put⟩
  unfold wr
  rw [sub_rw x s]; rfl
/-- a thing is told anew, in its place -/
inductive Upd : HL → Nat → Ob → Ob → HL → Prop
  | here {a : Nat} {o o' : Ob} {R : HL} : Upd ((a, o) :: R) a o o' ((a, o') :: R)
  | there {H K : HL} {a : Nat} {o o' : Ob} {x : Nat × Ob} (h : Upd H a o o' K) : Upd (x :: H) a o o' (x :: K)
  | left {H K M : HL} {a : Nat} {o o' : Ob} (h : Upd H a o o' K) : Upd (M ++ H) a o o' (M ++ K)
  | right {H K M : HL} {a : Nat} {o o' : Ob} (h : Upd H a o o' K) : Upd (H ++ M) a o o' (K ++ M)
theorem Upd.sub {a : Nat} {o o' : Ob} : ∀ {H K : HL}, Upd H a o o' K → ∃ R, Sub H [(a, o)] R ∧ Sub K [(a, o')] R
  | _, _, .here => ⟨_, sub_one, sub_one⟩
  | _, _, .there h => by
    obtain ⟨R, h1, h2⟩ := h.sub
    exact ⟨_, sub_cons h1, sub_cons h2⟩
  | _, _, .left h => by
    obtain ⟨R, h1, h2⟩ := h.sub
    exact ⟨_, sub_there h1, sub_there h2⟩
  | _, _, .right h => by
    obtain ⟨R, h1, h2⟩ := h.sub
    exact ⟨_, sub_left h1, sub_left h2⟩
theorem wp_reorder {m : Store → Res α} {P Q : α → HL → Prop} (h : WP B m H P) (k : ∀ a K, P a K → ∃ K', K.Perm K' ∧ Q a K') : WP B m H Q := fun st F s => by
  obtain ⟨a, K, st', e, p, s'⟩ := h st F s
  obtain ⟨K', p', q⟩ := k a K p
  exact ⟨a, K', st', e, q, s'.perm (p'.append_right F)⟩
theorem wp_upd {a : Nat} {o o' : Ob} {Q : Val → HL → Prop} (u : Upd H a o o' K) (q : Q .non K) : WP B (wr a o') H Q := by
  obtain ⟨R, h1, h2⟩ := u.sub
  exact wp_reorder (wp_wr (B := B) (Q := fun v K' => v = .non ∧ K' = (a, o') :: R) h1 ⟨rfl, rfl⟩) fun v K' ⟨e1, e2⟩ => by subst e1 e2; exact ⟨K, List.Perm.symm h2, q⟩
end

/-! ### expressions -/
section
variable {B H : HL} {c : Ctx} {s : Env}
/-- a test's two ways -/
def Br (k : Bool) (P Q : Prop) : Prop := (k = true → P) ∧ (k = false → Q)
theorem br_t {k : Bool} {P Q : Prop} (h : k = true) (p : P) : Br k P Q := ⟨fun _ => p, fun e => (by rw [h] at e; cases e)⟩
theorem br_f {k : Bool} {P Q : Prop} (h : k = false) (q : Q) : Br k P Q := ⟨fun e => (by rw [h] at e; cases e), fun _ => q⟩
theorem br_dec {P : Prop} [Decidable P] {X Y : Prop} (x : P → X) (y : ¬ P → Y) : Br (decide P) X Y := ⟨fun e => x (of_decide_eq_true e), fun e => y (of_decide_eq_false e)⟩
theorem br_ndec {P : Prop} [Decidable P] {X Y : Prop} (x : ¬ P → X) (y : P → Y) : Br (!decide P) X Y := ⟨fun e => x (by simpa using e), fun e => y (by simpa using e)⟩
theorem e_v {i : Nat} {v : Val} {Q : Val → HL → Prop} (h : s[i]? = some (some v)) (q : Q v H) : WP B (ev c (.v i) s) H Q :=
  wp_of (fun st F _ => by simp only [ev, h]) q
theorem e_int {i : Int} {Q : Val → HL → Prop} (q : Q (.int i) H) : WP B (ev c (.int i) s) H Q := wp_of (fun st F _ => by simp only [ev]) q
theorem e_str {i : PySem.Str} {Q : Val → HL → Prop} (q : Q (.str i) H) : WP B (ev c (.str i) s) H Q := wp_of (fun st F _ => by simp only [ev]) q
theorem e_bl {i : Bool} {Q : Val → HL → Prop} (q : Q (.bl i) H) : WP B (ev c (.bl i) s) H Q := wp_of (fun st F _ => by simp only [ev]) q
theorem e_non {Q : Val → HL → Prop} (q : Q .non H) : WP B (ev c .non s) H Q := wp_of (fun st F _ => by simp only [ev]) q
theorem e_gl {g : Nat} {v : Val} {Q : Val → HL → Prop} (h : c.G.gl g = some v) (q : Q v H) : WP B (ev c (.gl g) s) H Q := wp_of (fun st F _ => by simp only [ev, h]) q
theorem e_nil {Q : List Val → HL → Prop} (q : Q [] H) : WP B (evs c .nil s) H Q := wp_of (fun st F _ => by simp only [evs]) q
theorem e_cons {e : E} {es : Es} {Q : List Val → HL → Prop} (h : WP B (ev c e s) H fun v H1 => WP B (evs c es s) H1 fun vs H2 => Q (v :: vs) H2) : WP B (evs c (.cons e es) s) H Q := by
  have := wp_bind (k := fun v st => (evs c es s st).bind fun vs st => .ok (v :: vs) st) (Q := Q) (wp_mono h fun v H1 h1 => wp_bind (wp_mono h1 fun vs H2 h2 => wp_ok h2))
  exact wp_eq (fun st => by rw [evs] <;> rfl) this
theorem e_tup {es : Es} {Q : Val → HL → Prop} (h : WP B (evs c es s) H fun vs H1 => fits vs.length = true ∧ Q (.tup vs) H1) : WP B (ev c (.tup es) s) H Q := by
  have := wp_bind (k := mkT) (Q := Q) (wp_mono h fun vs H1 h1 => wp_of (fun st F _ => by simp only [mkT, h1.1, if_true]) h1.2)
  exact wp_eq (fun st => by rw [ev] <;> rfl) this
theorem e_lst {es : Es} {Q : Val → HL → Prop} (h : WP B (evs c es s) H fun vs H1 => fits vs.length = true ∧ ∀ p, Q (.ref p) ((p, .lst vs) :: H1)) : WP B (ev c (.lst es) s) H Q := by
  have := wp_bind (k := mkL) (Q := Q) (wp_mono h fun vs H1 h1 => by
    have := wp_mk (B := B) (o := .lst vs) h1.2
    intro st F s
    obtain ⟨a, K, st', e, q, s'⟩ := this st F s
    exact ⟨a, K, st', by simp only [mkL, h1.1, if_true, e], q, s'⟩)
  exact wp_eq (fun st => by rw [ev] <;> rfl) this
theorem e_neg {a : E} {Q : Val → HL → Prop} (h : WP B (ev c a s) H fun v H1 => ∃ i, v = .int i ∧ Q (.int (-i)) H1) : WP B (ev c (.neg a) s) H Q := by
  have := wp_bind (k := fun x st => match x with | .int i => .ok (.int (-i)) st | _ => .fail) (Q := Q) (wp_mono h fun v H1 ⟨i, e, q⟩ => by subst e; exact wp_ok q)
  exact wp_eq (fun st => by rw [ev] <;> rfl) this
theorem e_bin {o : Bop} {a b : E} {Q : Val → HL → Prop} (h : WP B (ev c a s) H fun x H1 => WP B (ev c b s) H1 fun y H2 => WP B (bop o x y) H2 Q) : WP B (ev c (.bin o a b) s) H Q := by
  have := wp_bind (k := fun x st => (ev c b s st).bind fun y st => bop o x y st) (Q := Q) (wp_mono h fun x H1 h1 => wp_bind h1)
  exact wp_eq (fun st => by rw [ev] <;> rfl) this
theorem e_cmp {o : Cop} {a b : E} {Q : Val → HL → Prop} (h : WP B (ev c a s) H fun x H1 => WP B (ev c b s) H1 fun y H2 => WP B (cop c.G.kt o x y) H2 Q) : WP B (ev c (.cmp o a b) s) H Q := by
  have := wp_bind (k := fun x st => (ev c b s st).bind fun y st => cop c.G.kt o x y st) (Q := Q) (wp_mono h fun x H1 h1 => wp_bind h1)
  exact wp_eq (fun st => by rw [ev] <;> rfl) this
theorem e_cm2 {o p : Cop} {a b d : E} {Q : Val → HL → Prop} (h : WP B (ev c a s) H fun x H1 => WP B (ev c b s) H1 fun y H2 => WP B (cop c.G.kt o x y) H2 fun z H3 =>
    ∃ k, z = .bl k ∧ Br k (WP B (ev c d s) H3 fun u H4 => WP B (cop c.G.kt p y u) H4 Q) (Q (.bl false) H3)) : WP B (ev c (.cm2 o p a b d) s) H Q := by
  have := wp_bind (k := fun x st => (ev c b s st).bind fun y st => (cop c.G.kt o x y st).bind fun z st => match z with
    | .bl true => (ev c d s st).bind fun u st => cop c.G.kt p y u st
    | .bl false => .ok (.bl false) st
    | _ => .fail) (Q := Q) (wp_mono h fun x H1 h1 => wp_bind (wp_mono h1 fun y H2 h2 => wp_bind (wp_mono h2 fun z H3 ⟨k, e, b⟩ => by
      subst e
      cases k
      · exact wp_ok (b.2 rfl)
      · exact wp_bind (b.1 rfl))))
  exact wp_eq (fun st => by rw [ev] <;> rfl) this
theorem e_isN {a : E} {Q : Val → HL → Prop} (h : WP B (ev c a s) H fun x H1 => Q (.bl (match x with | .non => true | _ => false)) H1) : WP B (ev c (.isN a) s) H Q := by
  have := wp_bind (k := fun x st => .ok (.bl (match x with | .non => true | _ => false)) st) (Q := Q) (wp_mono h fun x H1 h1 => wp_ok h1)
  exact wp_eq (fun st => by rw [ev] <;> rfl) this
theorem e_noN {a : E} {Q : Val → HL → Prop} (h : WP B (ev c a s) H fun x H1 => Q (.bl (match x with | .non => false | _ => true)) H1) : WP B (ev c (.noN a) s) H Q := by
  have := wp_bind (k := fun x st => .ok (.bl (match x with | .non => false | _ => true)) st) (Q := Q) (wp_mono h fun x H1 h1 => wp_ok h1)
  exact wp_eq (fun st => by rw [ev] <;> rfl) this
theorem e_and {a b : E} {Q : Val → HL → Prop} (h : WP B (ev c a s) H fun x H1 => ∃ k, x = .bl k ∧ Br k (WP B (ev c b s) H1 Q) (Q (.bl false) H1)) : WP B (ev c (.and a b) s) H Q := by
  have := wp_bind (k := fun x st => match x with | .bl true => ev c b s st | .bl false => .ok (.bl false) st | _ => .fail) (Q := Q) (wp_mono h fun x H1 ⟨k, e, h⟩ => by
    subst e
    cases k
    · exact wp_ok (h.2 rfl)
    · exact h.1 rfl)
  exact wp_eq (fun st => by rw [ev] <;> rfl) this
theorem e_or {a b : E} {Q : Val → HL → Prop} (h : WP B (ev c a s) H fun x H1 => ∃ k, x = .bl k ∧ Br k (Q (.bl true) H1) (WP B (ev c b s) H1 Q)) : WP B (ev c (.or a b) s) H Q := by
  have := wp_bind (k := fun x st => match x with | .bl true => .ok (.bl true) st | .bl false => ev c b s st | _ => .fail) (Q := Q) (wp_mono h fun x H1 ⟨k, e, h⟩ => by
    subst e
    cases k
    · exact h.2 rfl
    · exact wp_ok (h.1 rfl))
  exact wp_eq (fun st => by rw [ev] <;> rfl) this
theorem e_not {a : E} {Q : Val → HL → Prop} (h : WP B (ev c a s) H fun x H1 => ∃ k, x = .bl k ∧ Q (.bl (!k)) H1) : WP B (ev c (.not a) s) H Q := by
  have := wp_bind (k := fun x st => match x with | .bl b => .ok (.bl (!b)) st | _ => .fail) (Q := Q) (wp_mono h fun x H1 ⟨k, e, h⟩ => by
    subst e; exact wp_ok h)
  exact wp_eq (fun st => by rw [ev] <;> rfl) this
theorem e_ite {t : CL.B} {a b : E} {Q : Val → HL → Prop} (h : WP B (ts c t s) H fun k H1 => Br k (WP B (ev c a s) H1 Q) (WP B (ev c b s) H1 Q)) : WP B (ev c (.ite t a b) s) H Q := by
  have := wp_bind (k := fun (k : Bool) st => if k then ev c a s st else ev c b s st) (Q := Q) (wp_mono h fun x H1 h => by
    cases x
    · exact h.2 rfl
    · exact h.1 rfl)
  exact wp_eq (fun st => by rw [ev] <;> rfl) this
theorem e_sub {a i : E} {Q : Val → HL → Prop} (h : WP B (ev c a s) H fun x H1 => WP B (ev c i s) H1 fun y H2 => WP B (subV c.G.kt x y) H2 Q) : WP B (ev c (.sub a i) s) H Q := by
  have := wp_bind (k := fun x st => (ev c i s st).bind fun y st => subV c.G.kt x y st) (Q := Q) (wp_mono h fun x H1 h1 => wp_bind h1)
  exact wp_eq (fun st => by rw [ev] <;> rfl) this
theorem e_no {Q : Option Val → HL → Prop} (q : Q none H) : WP B (evo c .no s) H Q := wp_of (fun st F _ => by simp only [evo]) q
theorem e_so {e : E} {Q : Option Val → HL → Prop} (h : WP B (ev c e s) H fun v H1 => Q (some v) H1) : WP B (evo c (.so e) s) H Q := by
  have := wp_bind (k := fun v st => .ok (some v) st) (Q := Q) (wp_mono h fun x H1 h1 => wp_ok h1)
  exact wp_eq (fun st => by rw [evo] <;> rfl) this
theorem e_cut {a : E} {lo hi : Eo} {Q : Val → HL → Prop} (h : WP B (ev c a s) H fun x H1 => WP B (evo c lo s) H1 fun l H2 => WP B (evo c hi s) H2 fun u H3 => WP B (cutV x l u) H3 Q) : WP B (ev c (.cut a lo hi) s) H Q := by
  have := wp_bind (k := fun x st => (evo c lo s st).bind fun l st => (evo c hi s st).bind fun h st => cutV x l h st) (Q := Q) (wp_mono h fun x H1 h1 => wp_bind (wp_mono h1 fun l H2 h2 => wp_bind h2))
  exact wp_eq (fun st => by rw [ev] <;> rfl) this
theorem e_cut3 {a : E} {lo hi : Eo} {k : Int} {Q : Val → HL → Prop} (h : WP B (ev c a s) H fun x H1 => WP B (evo c lo s) H1 fun l H2 => WP B (evo c hi s) H2 fun u H3 => WP B (cut3V k x l u) H3 Q) : WP B (ev c (.cut3 a lo hi k) s) H Q := by
  have := wp_bind (k := fun x st => (evo c lo s st).bind fun l st => (evo c hi s st).bind fun h st => cut3V k x l h st) (Q := Q) (wp_mono h fun x H1 h1 => wp_bind (wp_mono h1 fun l H2 h2 => wp_bind h2))
  exact wp_eq (fun st => by rw [ev] <;> rfl) this
theorem e_fld {a : E} {f : PySem.Str} {Q : Val → HL → Prop} (h : WP B (ev c a s) H fun x H1 => WP B (getF c.G.fl x f) H1 Q) : WP B (ev c (.fld a f) s) H Q := by
  have := wp_bind (k := fun x st => getF c.G.fl x f st) (Q := Q) h
  exact wp_eq (fun st => by rw [ev] <;> rfl) this
theorem e_call {f : Nat} {es : Es} {Q : Val → HL → Prop} (h : WP B (evs c es s) H fun vs H1 => WP B (c.call f vs) H1 Q) : WP B (ev c (.call f es) s) H Q := by
  have := wp_bind (k := fun vs st => c.call f vs st) (Q := Q) h
  exact wp_eq (fun st => by rw [ev] <;> rfl) this
theorem e_bf {b : Bf} {es : Es} {Q : Val → HL → Prop} (h : WP B (evs c es s) H fun vs H1 => WP B (bfn b vs) H1 Q) : WP B (ev c (.bf b es) s) H Q := by
  have := wp_bind (k := fun vs st => bfn b vs st) (Q := Q) h
  exact wp_eq (fun st => by rw [ev] <;> rfl) this
theorem e_bm {b : Bm} {a : E} {es : Es} {Q : Val → HL → Prop} (h : WP B (ev c a s) H fun x H1 => ∃ i xs R, x = .ref i ∧ Sub H1 [(i, .lst xs)] R ∧ WP B (evs c es s) H1 fun vs H2 => WP B (bmt b (.ref i) vs) H2 Q) : WP B (ev c (.bm b a es) s) H Q := by
  have := wp_bind (k := fun x st => match x with
    | .ref i => match st.m i with
      | some (.lst _) => (evs c es s st).bind fun vs st => bmt b x vs st
      | _ => .fail
    | _ => .fail) (Q := Q) (wp_mono h fun x H1 ⟨i, xs, R, e, u, h⟩ => by
      subst e
      intro st F sp
      obtain ⟨a, K, st', e, q, s'⟩ := wp_bind h st F sp
      exact ⟨a, K, st', by simp only [sub_at u sp, e], q, s'⟩)
  exact wp_eq (fun st => by rw [ev] <;> rfl) this
theorem e_met {a : E} {m : PySem.Str} {es : Es} {Q : Val → HL → Prop} (h : WP B (ev c a s) H fun x H1 => ∃ i k fs R f, x = .ref i ∧ Sub H1 [(i, .ins k fs)] R ∧ fs.lookup m = none ∧ c.G.mt k m = some f ∧ WP B (evs c es s) H1 fun vs H2 => WP B (c.call f (.ref i :: vs)) H2 Q) :
    WP B (ev c (.met a m es) s) H Q := by
  have := wp_bind (k := fun x st => match x with
    | .ref i => match st.m i with
      | some (.ins k fs) => if fs.lookup m = none then match c.G.mt k m with
        | some f => (evs c es s st).bind fun vs st => c.call f (.ref i :: vs) st
        | none => .fail else .fail
      | _ => .fail
    | _ => .fail) (Q := Q) (wp_mono h fun x H1 ⟨i, k, fs, R, f, e, u, e2, e3, h⟩ => by
      subst e
      intro st F sp
      obtain ⟨a, K, st', e, q, s'⟩ := wp_bind h st F sp
      exact ⟨a, K, st', by simp only [sub_at u sp, e2, if_true, e3, e], q, s'⟩)
  exact wp_eq (fun st => by rw [ev] <;> rfl) this
theorem wp_new {α : Type} {o : Ob} {k : Nat → Store → Res α} {Q : α → HL → Prop} (h : ∀ p, WP B (k p) ((p, o) :: H) Q) : WP B (fun st => k st.n (st.new o)) H Q := fun st F s => by
  obtain ⟨a, K, st', e, q, s'⟩ := wp_mk (B := B) (H := H) (o := o) (Q := fun v K => ∃ p, v = .ref p ∧ K = (p, o) :: H) (fun p => ⟨p, rfl, rfl⟩) st F s
  obtain ⟨p, rfl, rfl⟩ := q
  cases e
  obtain ⟨a, K, st', e, q, s'⟩ := h st.n _ F s'
  exact ⟨a, K, st', e, q, s'⟩
theorem e_make {k : Nat} {es : Es} {Q : Val → HL → Prop} (h : WP B (evs c es s) H fun vs H1 => ∃ f, c.G.ini k = some f ∧ ∀ p, WP B (c.init f (.ref p :: vs)) ((p, .ins k []) :: H1) fun v H2 => v = .non ∧ Q (.ref p) H2) : WP B (ev c (.make k es) s) H Q := by
  have := wp_bind (k := fun vs st => match c.G.ini k with
    | some f => (c.init f (.ref st.n :: vs) (st.new (.ins k []))).bind fun v st' => match v with
      | .non => .ok (.ref st.n) st'
      | _ => .fail
    | none => .fail) (Q := Q) (wp_mono h fun vs H1 ⟨f, e, h⟩ => by
      simp only [e]
      exact wp_new (k := fun p st => (c.init f (.ref p :: vs) st).bind fun v st' => match v with
        | Val.non => .ok (Val.ref p) st'
        | _ => .fail) fun p => wp_bind (wp_mono (h p) fun v H2 ⟨e, q⟩ => by subst e; exact wp_ok q))
  exact wp_eq (fun st => by rw [ev] <;> rfl) this
theorem e_isi {a : E} {t : Ty} {Q : Val → HL → Prop} (h : WP B (ev c a s) H fun x H1 => WP B (fun st => okB (isT st x t) st) H1 Q) : WP B (ev c (.isi a t) s) H Q := by
  have := wp_bind (k := fun x st => okB (isT st x t) st) (Q := Q) h
  exact wp_eq (fun st => by rw [ev] <;> rfl) this
/-- what a value's items are, as told -/
def Its (B H : HL) (v : Val) (xs : List Val) : Prop := ∀ st F, Sep B st (H ++ F) → itemsOf v st = some xs
theorem its_tup {xs : List Val} : Its B H (.tup xs) xs := fun _ _ _ => rfl
theorem its_lst {R : HL} {a : Nat} {xs : List Val} (u : Sub H [(a, .lst xs)] R) : Its B H (.ref a) xs := fun st F s => by simp only [itemsOf, Store.lst, sub_at u s]
theorem e_lzip {a b : E} {Q : Val → HL → Prop} (h : WP B (ev c a s) H fun x H1 => WP B (ev c b s) H1 fun y H2 => ∃ xs ys, Its B H2 x xs ∧ Its B H2 y ys ∧ ∀ p, Q (.ref p) ((p, .lst (zipL xs ys)) :: H2)) : WP B (ev c (.lzip a b) s) H Q := by
  have := wp_bind (k := fun x st => (ev c b s st).bind fun y st => match itemsOf x st, itemsOf y st with
    | some xs, some ys => mk (.lst (zipL xs ys)) st
    | _, _ => .fail) (Q := Q) (wp_mono h fun x H1 h1 => wp_bind (wp_mono h1 fun y H2 ⟨xs, ys, e1, e2, q⟩ => by
      intro st F sp
      obtain ⟨a, K, st', e, q, s'⟩ := wp_mk (B := B) (o := .lst (zipL xs ys)) q st F sp
      exact ⟨a, K, st', by simp only [e1 st F sp, e2 st F sp, e], q, s'⟩))
  exact wp_eq (fun st => by rw [ev] <;> rfl) this
theorem e_lrg1 {a : E} {Q : Val → HL → Prop} (h : WP B (ev c a s) H fun x H1 => ∃ j, x = .int j ∧ small24 0 j = true ∧ ∀ p, Q (.ref p) ((p, .lst (rangeL 0 j.toNat)) :: H1)) : WP B (ev c (.lrg1 a) s) H Q := by
  have := wp_bind (k := fun x st => match x with
    | .int j => if small24 0 j then mk (.lst (rangeL 0 j.toNat)) st else .fail
    | _ => .fail) (Q := Q) (wp_mono h fun x H1 ⟨j, e, h, q⟩ => by
      subst e
      simp only [h, if_true]
      exact wp_mk q)
  exact wp_eq (fun st => by rw [ev] <;> rfl) this
theorem e_lrg2 {a b : E} {Q : Val → HL → Prop} (h : WP B (ev c a s) H fun x H1 => WP B (ev c b s) H1 fun y H2 => ∃ i j, x = .int i ∧ y = .int j ∧ small24 i j = true ∧ ∀ p, Q (.ref p) ((p, .lst (rangeL i (j - i).toNat)) :: H2)) : WP B (ev c (.lrg2 a b) s) H Q := by
  have := wp_bind (k := fun x st => (ev c b s st).bind fun y st => match x, y with
    | .int i, .int j => if small24 i j then mk (.lst (rangeL i (j - i).toNat)) st else .fail
    | _, _ => .fail) (Q := Q) (wp_mono h fun x H1 h1 => wp_bind (wp_mono h1 fun y H2 ⟨i, j, e, e2, h, q⟩ => by
      subst e e2
      simp only [h, if_true]
      exact wp_mk q))
  exact wp_eq (fun st => by rw [ev] <;> rfl) this
/-! tests -/
theorem b_yes {Q : Bool → HL → Prop} (q : Q true H) : WP B (ts c .yes s) H Q := wp_of (fun st F _ => by simp only [ts]) q
theorem b_and {a b : CL.B} {Q : Bool → HL → Prop} (h : WP B (ts c a s) H fun k H1 => Br k (WP B (ts c b s) H1 Q) (Q false H1)) : WP B (ts c (.and a b) s) H Q := by
  have := wp_bind (k := fun (k : Bool) st => if k then ts c b s st else .ok false st) (Q := Q) (wp_mono h fun k H1 h => by
    cases k
    · exact wp_ok (h.2 rfl)
    · exact h.1 rfl)
  exact wp_eq (fun st => by rw [ts] <;> rfl) this
theorem b_or {a b : CL.B} {Q : Bool → HL → Prop} (h : WP B (ts c a s) H fun k H1 => Br k (Q true H1) (WP B (ts c b s) H1 Q)) : WP B (ts c (.or a b) s) H Q := by
  have := wp_bind (k := fun (k : Bool) st => if k then .ok true st else ts c b s st) (Q := Q) (wp_mono h fun k H1 h => by
    cases k
    · exact h.2 rfl
    · exact wp_ok (h.1 rfl))
  exact wp_eq (fun st => by rw [ts] <;> rfl) this
theorem b_not {a : CL.B} {Q : Bool → HL → Prop} (h : WP B (ts c a s) H fun k H1 => Q (!k) H1) : WP B (ts c (.not a) s) H Q := by
  have := wp_bind (k := fun (k : Bool) st => .ok (!k) st) (Q := Q) (wp_mono h fun k H1 h => wp_ok h)
  exact wp_eq (fun st => by rw [ts] <;> rfl) this
theorem b_of {e : E} {Q : Bool → HL → Prop} (h : WP B (ev c e s) H fun v H1 => WP B (fun st => okO (tru st v) st) H1 Q) : WP B (ts c (.of e) s) H Q := by
  have := wp_bind (k := fun v st => okO (tru st v) st) (Q := Q) h
  exact wp_eq (fun st => by rw [ts] <;> rfl) this
theorem t_bool {k : Bool} {Q : Bool → HL → Prop} (q : Q k H) : WP B (fun st => okO (tru st (.bl k)) st) H Q := wp_ok q
theorem t_int {i : Int} {Q : Bool → HL → Prop} (q : Q (!decide (i = 0)) H) : WP B (fun st => okO (tru st (.int i)) st) H Q := by
  have : (i != 0) = !decide (i = 0) := by
    by_cases h : i = 0 <;> simp [h]
  exact wp_of (fun st F _ => by simp only [tru, okO, this]) q
/-! what is walked over -/
end
def WQ (B : HL) (m : Store → Res (List Val × Watch)) (H : HL) (Q : List Val → Watch → HL → Prop) : Prop := WP B m H fun p K => Q p.1 p.2 K
section
variable {B H : HL} {c : Ctx} {s : Env}
theorem e_lc {t : Tg} {w : I} {k : CL.B} {e : E} {Q : Val → HL → Prop} (h : WQ B (evw c w s) H fun xs wt H1 => ∀ D, WP B (lcLoop D wt (onLc t (fun s st => ts c k s st) (fun s st => ev c e s st) s) xs) ((D, .lst []) :: H1) Q) : WP B (ev c (.lc t w k e) s) H Q := by
  have := wp_bind (k := fun (p : List Val × Watch) st => lcLoop st.n p.2 (onLc t (fun s st => ts c k s st) (fun s st => ev c e s st) s) p.1 (st.new (.lst []))) (Q := Q) (wp_mono h fun p H1 h => wp_new (k := fun n st => lcLoop n p.2 (onLc t (fun s st => ts c k s st) (fun s st => ev c e s st) s) p.1 st) h)
  exact wp_eq (fun st => by rw [ev] <;> rfl) this
theorem i_of {e : E} {Q : List Val → Watch → HL → Prop} (h : WP B (ev c e s) H fun v H1 => WQ B (walkOf v) H1 Q) : WQ B (evw c (.of e) s) H Q := by
  have := wp_bind (k := fun v st => walkOf v st) (Q := fun p K => Q p.1 p.2 K) h
  exact wp_eq (fun st => by rw [evw] <;> rfl) this
theorem i_tup {xs : List Val} {Q : List Val → Watch → HL → Prop} (q : Q xs [] H) : WQ B (walkOf (.tup xs)) H Q := wp_ok (a := (xs, [])) q
theorem i_lst {i : Nat} {xs : List Val} {R : HL} {Q : List Val → Watch → HL → Prop} (x : Sub H [(i, .lst xs)] R) (q : Q xs [(i, xs)] H) : WQ B (walkOf (.ref i)) H Q :=
  wp_of (a := (xs, [(i, xs)])) (fun st F sp => by simp only [walkOf, sub_at x sp]) q
theorem i_rg1 {a : E} {Q : List Val → Watch → HL → Prop} (h : WP B (ev c a s) H fun x H1 => ∃ j, x = .int j ∧ small62 j = true ∧ Q (rangeL 0 j.toNat) [] H1) : WQ B (evw c (.rg1 a) s) H Q := by
  have := wp_bind (k := fun x st => match x with
    | .int j => if small62 j then .ok (rangeL 0 j.toNat, []) st else .fail
    | _ => .fail) (Q := fun p K => Q p.1 p.2 K) (wp_mono h fun x H1 ⟨j, e, h, q⟩ => by
      subst e
      simp only [h, if_true]
      exact wp_ok (a := (_, _)) q)
  exact wp_eq (fun st => by rw [evw] <;> rfl) this
theorem i_rg2 {a b : E} {Q : List Val → Watch → HL → Prop} (h : WP B (ev c a s) H fun x H1 => WP B (ev c b s) H1 fun y H2 => ∃ i j, x = .int i ∧ y = .int j ∧ (small62 i && small62 j) = true ∧ Q (rangeL i (j - i).toNat) [] H2) : WQ B (evw c (.rg2 a b) s) H Q := by
  have := wp_bind (k := fun x st => (ev c b s st).bind fun y st => match x, y with
    | .int i, .int j => if small62 i && small62 j then .ok (rangeL i (j - i).toNat, []) st else .fail
    | _, _ => .fail) (Q := fun p K => Q p.1 p.2 K) (wp_mono h fun x H1 h1 => wp_bind (wp_mono h1 fun y H2 ⟨i, j, e, e2, h, q⟩ => by
      subst e e2
      simp only [h, if_true]
      exact wp_ok (a := (_, _)) q))
  exact wp_eq (fun st => by rw [evw] <;> rfl) this
theorem enu_at {x : Val} {xs : List Val} {st : Store} (e : itemsOf x st = some xs) : (match x with
    | .tup xs => (.ok (enumL 0 xs, []) st : Res (List Val × Watch))
    | .ref i => match st.m i with
      | some (.lst xs) => .ok (enumL 0 xs, [(i, xs)]) st
      | _ => .fail
    | _ => .fail) = .ok (enumL 0 xs, wOf x xs) st := by
  cases x with
  | tup ys => cases e; rfl
  | ref i =>
    have e : st.lst i = some xs := e
    unfold Store.lst at e
    simp only
    split at e
    · rename_i ys em; cases e; first | rfl | (rw [em]; rfl)
    · cases e
  | _ => cases e
theorem i_enu {a : E} {Q : List Val → Watch → HL → Prop} (h : WP B (ev c a s) H fun x H1 => ∃ xs, Its B H1 x xs ∧ Q (enumL 0 xs) (wOf x xs) H1) : WQ B (evw c (.enu a) s) H Q := by
  have := wp_bind (k := fun v st => match v with
    | .tup xs => .ok (enumL 0 xs, []) st
    | .ref i => match st.m i with
      | some (.lst xs) => .ok (enumL 0 xs, [(i, xs)]) st
      | _ => .fail
    | _ => .fail) (Q := fun p K => Q p.1 p.2 K) (wp_mono h fun x H1 ⟨xs, hi, q⟩ => wp_of (a := (_, _)) (fun st F sp => enu_at (hi st F sp)) q)
  exact wp_eq (fun st => by rw [evw] <;> rfl) this
theorem i_zip {a b : E} {Q : List Val → Watch → HL → Prop} (h : WP B (ev c a s) H fun x H1 => WP B (ev c b s) H1 fun y H2 => ∃ xs ys, Its B H2 x xs ∧ Its B H2 y ys ∧ Q (zipL xs ys) (wOf x xs ++ wOf y ys) H2) : WQ B (evw c (.zip a b) s) H Q := by
  have := wp_bind (k := fun x st => (ev c b s st).bind fun y st => match itemsOf x st, itemsOf y st with
    | some xs, some ys => .ok (zipL xs ys, wOf x xs ++ wOf y ys) st
    | _, _ => .fail) (Q := fun p K => Q p.1 p.2 K) (wp_mono h fun x H1 h1 => wp_bind (wp_mono h1 fun y H2 ⟨xs, ys, e1, e2, q⟩ => wp_of (a := (_, _)) (fun st F sp => by simp only [e1 st F sp, e2 st F sp]) q))
  exact wp_eq (fun st => by rw [evw] <;> rfl) this
end
end CL

/-! CL, part t: what operators, built-ins and statements do over a told heap -/
namespace CL
theorem fits_small {n : Nat} (h : n ≤ 1000000) : fits n = true := by
  unfold fits
  rw [PySem.sizeLine_eq]
  exact decide_eq_true (by omega)
theorem small62_of {i : Int} (h : -1000000000000 ≤ i ∧ i ≤ 1000000000000) : small62 i = true := by
  unfold small62
  rw [Bool.and_eq_true]
  exact ⟨decide_eq_true (by omega), decide_eq_true (by omega)⟩
theorem small24_of {i j : Int} (h : -1000000000000 ≤ i ∧ i ≤ 1000000000000) (h2 : -1000000000000 ≤ j ∧ j ≤ 1000000000000) (h3 : (j - i).toNat ≤ 1000000) : small24 i j = true := by
  unfold small24
  rw [small62_of h, small62_of h2]
  exact decide_eq_true (by omega)
section
variable {B H R : HL} {kt : List (List Val)}
/-! ### operators -/
theorem p_add' {i j : Int} {Q : Val → HL → Prop} (q : Q (.int (i + j)) H) : WP B (bop .add (.int i) (.int j)) H Q := wp_ok q
theorem p_sub' {i j : Int} {Q : Val → HL → Prop} (q : Q (.int (i - j)) H) : WP B (bop .sub (.int i) (.int j)) H Q := wp_ok q
theorem p_mul' {i j : Int} {Q : Val → HL → Prop} (h : mulOk i j = true) (q : Q (.int (i * j)) H) : WP B (bop .mul (.int i) (.int j)) H Q := wp_of (fun st F _ => p_mul st i j h) q
theorem p_fdiv' {i j : Int} {Q : Val → HL → Prop} (h : j ≠ 0 ∧ j.natAbs < 18446744073709551616) (q : Q (.int (i.fdiv j)) H) : WP B (bop .fdiv (.int i) (.int j)) H Q := wp_of (fun st F _ => p_fdiv st i j h) q
theorem p_mod' {i j : Int} {Q : Val → HL → Prop} (h : j ≠ 0) (q : Q (.int (i.fmod j)) H) : WP B (bop .mod (.int i) (.int j)) H Q := wp_of (fun st F _ => p_mod st i j h) q
theorem p_pow' {i j : Int} {Q : Val → HL → Prop} (h : 0 ≤ j ∧ j ≤ 1000000 ∧ i.natAbs < 2 ^ 64) (q : Q (.int (i ^ j.toNat)) H) : WP B (bop .pow (.int i) (.int j)) H Q := wp_of (fun st F _ => by simp only [bop]; rw [if_pos h]) q
theorem p_addt' {xs ys : List Val} {Q : Val → HL → Prop} (h : fits (xs.length + ys.length) = true) (q : Q (.tup (xs ++ ys)) H) : WP B (bop .add (.tup xs) (.tup ys)) H Q := wp_of (fun st F _ => p_addt st xs ys h) q
theorem p_adds' {a b : PySem.Str} {Q : Val → HL → Prop} (h : fits (a.length + b.length) = true) (q : Q (.str (a ++ b)) H) : WP B (bop .add (.str a) (.str b)) H Q := wp_of (fun st F _ => p_adds st a b h) q
theorem p_addl' {a b : Nat} {xs ys : List Val} {R' : HL} {Q : Val → HL → Prop} (x : Sub H [(a, .lst xs)] R) (y : Sub H [(b, .lst ys)] R') (h : fits (xs.length + ys.length) = true) (q : ∀ p, Q (.ref p) ((p, .lst (xs ++ ys)) :: H)) : WP B (bop .add (.ref a) (.ref b)) H Q := fun st F s => by
  obtain ⟨v, K, st', e, q, s'⟩ := wp_mk (B := B) (o := .lst (xs ++ ys)) q st F s
  refine ⟨v, K, st', ?_, q, s'⟩
  simp only [bop, sub_at x s, sub_at y s, sub_rw x s, sub_rw y s, Bool.or_self, Bool.false_eq_true, if_false, h, if_true, e]
theorem p_mull' {a : Nat} {k : Int} {xs : List Val} {Q : Val → HL → Prop} (x : Sub H [(a, .lst xs)] R) (h : repOk xs k = true) (q : ∀ p, Q (.ref p) ((p, .lst (rep xs k)) :: H)) : WP B (bop .mul (.ref a) (.int k)) H Q := fun st F s => by
  obtain ⟨v, K, st', e, q, s'⟩ := wp_mk (B := B) (o := .lst (rep xs k)) q st F s
  refine ⟨v, K, st', ?_, q, s'⟩
  simp only [bop, sub_at x s, sub_rw x s, Bool.not_false, Bool.true_and, h, if_true, e]
theorem p_mult' {k : Int} {xs : List Val} {Q : Val → HL → Prop} (h : xs ≠ [] ∧ 0 ≤ k ∧ k ≤ 1000 ∧ xs.length ≤ 1000) (q : Q (.tup (rep xs k)) H) : WP B (bop .mul (.tup xs) (.int k)) H Q := wp_of (fun st F _ => by
  simp only [bop]
  by_cases h1 : k = 1
  · subst h1
    rw [if_pos rfl]
    simp [rep]
  · rw [if_neg h1]
    by_cases h0 : k = 0
    · subst h0
      rw [if_pos (And.intro rfl h.1)]
      simp [rep]
    · rw [if_neg (fun z => h0 z.1), if_pos ⟨h.1, by omega, h.2.2.1, h.2.2.2⟩]) q
theorem c_eqi {i j : Int} {Q : Val → HL → Prop} (q : Q (.bl (decide (i = j))) H) : WP B (cop kt .eq (.int i) (.int j)) H Q := wp_ok q
theorem c_nei {i j : Int} {Q : Val → HL → Prop} (q : Q (.bl (!decide (i = j))) H) : WP B (cop kt .ne (.int i) (.int j)) H Q := wp_ok q
theorem c_eqs {i j : PySem.Str} {Q : Val → HL → Prop} (q : Q (.bl (decide (i = j))) H) : WP B (cop kt .eq (.str i) (.str j)) H Q := wp_ok q
theorem c_nes {i j : PySem.Str} {Q : Val → HL → Prop} (q : Q (.bl (!decide (i = j))) H) : WP B (cop kt .ne (.str i) (.str j)) H Q := wp_ok q
theorem c_eqb {i j : Bool} {Q : Val → HL → Prop} (q : Q (.bl (i == j)) H) : WP B (cop kt .eq (.bl i) (.bl j)) H Q := wp_ok q
theorem c_neb {i j : Bool} {Q : Val → HL → Prop} (q : Q (.bl (!(i == j))) H) : WP B (cop kt .ne (.bl i) (.bl j)) H Q := wp_ok q
theorem c_lt {i j : Int} {Q : Val → HL → Prop} (q : Q (.bl (decide (i < j))) H) : WP B (cop kt .lt (.int i) (.int j)) H Q := wp_ok q
theorem c_le {i j : Int} {Q : Val → HL → Prop} (q : Q (.bl (decide (i ≤ j))) H) : WP B (cop kt .le (.int i) (.int j)) H Q := wp_ok q
theorem c_gt {i j : Int} {Q : Val → HL → Prop} (q : Q (.bl (decide (j < i))) H) : WP B (cop kt .gt (.int i) (.int j)) H Q := wp_ok q
theorem c_ge {i j : Int} {Q : Val → HL → Prop} (q : Q (.bl (decide (j ≤ i))) H) : WP B (cop kt .ge (.int i) (.int j)) H Q := wp_ok q
/-- == by data -/
theorem allO_len {α : Type} : ∀ {xs : List (Option α)} {ys : List α}, allO xs = some ys → ys.length = xs.length
  | [], _, e => by cases e; rfl
  | some x :: r, ys, e => by
    unfold allO at e
    split at e
    · rename_i zs e1; cases e; rw [List.length_cons, List.length_cons, allO_len e1]
    · cases e
  | none :: _, _, e => by cases e
theorem eqvAll_len : ∀ {xs ys : List PySem.PyData}, xs.length ≠ ys.length → PySem.PyData.eqvAll xs ys = false
  | [], [], h => absurd rfl h
  | [], _ :: _, _ => by simp [PySem.PyData.eqvAll]
  | _ :: _, [], _ => by simp [PySem.PyData.eqvAll]
  | x :: r, y :: t, h => by
    rw [PySem.PyData.eqvAll, eqvAll_len (xs := r) (ys := t) (by simpa using h)]; simp
theorem c_eqd {x y : Val} {k : Bool} {Q : Val → HL → Prop} (h : ∀ st F, Sep B st (H ++ F) → eqV st x y = some k) (q : Q (.bl k) H) : WP B (cop kt .eq x y) H Q := wp_of (fun st F s => by simp only [cop, h st F s, okB]) q
theorem c_eqlen {a b : Nat} {xs ys : List Val} {R2 : HL} {Q : Val → HL → Prop} (u1 : Sub H [(a, .lst xs)] R) (u2 : Sub H [(b, .lst ys)] R2) (hn : xs.length ≠ ys.length) (q : Q (.bl false) H) : WP B (cop kt .eq (.ref a) (.ref b)) H Q := wp_of (fun st F s => by
  simp only [cop]
  split
  · rename_i k e
    have e : eqV st (.ref a) (.ref b) = some k := e
    unfold eqV at e
    simp only [eq0] at e
    split at e
    · rename_i d1 d2 e1 e2
      split at e
      · cases e
        have f1 : dat st deep (.ref a) = (allO (xs.map (dat st 69))).map PySem.PyData.list := by
          show (match st.m a with | some (.lst xs) => (allO (xs.map (dat st 69))).map PySem.PyData.list | _ => none) = _
          rw [sub_at u1 s]
        have f2 : dat st deep (.ref b) = (allO (ys.map (dat st 69))).map PySem.PyData.list := by
          show (match st.m b with | some (.lst xs) => (allO (xs.map (dat st 69))).map PySem.PyData.list | _ => none) = _
          rw [sub_at u2 s]
        rw [f1] at e1
        rw [f2] at e2
        obtain ⟨l1, g1, rfl⟩ := Option.map_eq_some_iff.mp e1
        obtain ⟨l2, g2, rfl⟩ := Option.map_eq_some_iff.mp e2
        have k1 := allO_len g1
        have k2 := allO_len g2
        rw [List.length_map] at k1 k2
        congr 2
        rw [PySem.PyData.eqv]
        exact eqvAll_len (by omega)
      · cases e
    · cases e
  · have : lenNe st (.ref a) (.ref b) = true := by
      unfold lenNe
      simp only [sub_at u1 s, sub_at u2 s]
      exact decide_eq_true hn
    rw [if_pos this]) q
theorem c_ned {x y : Val} {k : Bool} {Q : Val → HL → Prop} (h : ∀ st F, Sep B st (H ++ F) → eqV st x y = some k) (q : Q (.bl (!k)) H) : WP B (cop kt .ne x y) H Q := wp_of (fun st F s => by simp only [cop, h st F s, okB, notO]) q
theorem c_int {x : Val} {ys : List Val} {k : Bool} {Q : Val → HL → Prop} (h : inFlat x ys = some k) (q : Q (.bl k) H) : WP B (cop kt .has x (.tup ys)) H Q := wp_of (fun st F s => by simp only [cop, inV, h, okB]) q
theorem c_nint {x : Val} {ys : List Val} {k : Bool} {Q : Val → HL → Prop} (h : inFlat x ys = some k) (q : Q (.bl (!k)) H) : WP B (cop kt .hasnt x (.tup ys)) H Q := wp_of (fun st F s => by simp only [cop, inV, h, okB, notO]) q
theorem c_inl {x : Val} {a : Nat} {ys : List Val} {k : Bool} {Q : Val → HL → Prop} (u : Sub H [(a, .lst ys)] R) (h : inFlat x ys = some k) (q : Q (.bl k) H) : WP B (cop kt .has x (.ref a)) H Q := wp_of (fun st F s => by simp only [cop, inV, sub_at u s, h, okB]) q
theorem c_ninl {x : Val} {a : Nat} {ys : List Val} {k : Bool} {Q : Val → HL → Prop} (u : Sub H [(a, .lst ys)] R) (h : inFlat x ys = some k) (q : Q (.bl (!k)) H) : WP B (cop kt .hasnt x (.ref a)) H Q := wp_of (fun st F s => by simp only [cop, inV, sub_at u s, h, okB, notO]) q
theorem c_ind {x : Val} {a : Nat} {kvs : List (L2.Key × Val)} {k : L2.Key} {Q : Val → HL → Prop} (u : Sub H [(a, .dK kvs)] R) (h : key1 x = some k) (q : Q (.bl (look kvs k).isSome) H) : WP B (cop kt .has x (.ref a)) H Q := wp_of (fun st F s => by simp only [cop, inV, sub_at u s, dget, h, Option.map, okB]) q
theorem c_nind {x : Val} {a : Nat} {kvs : List (L2.Key × Val)} {k : L2.Key} {Q : Val → HL → Prop} (u : Sub H [(a, .dK kvs)] R) (h : key1 x = some k) (q : Q (.bl (!(look kvs k).isSome)) H) : WP B (cop kt .hasnt x (.ref a)) H Q := wp_of (fun st F s => by simp only [cop, inV, sub_at u s, dget, h, Option.map, okB, notO]) q
/-! ### items, slices, fields -/
theorem x_tup {xs : List Val} {i : Int} {v : Val} {Q : Val → HL → Prop} (h : L2.atI xs i = some v) (q : Q v H) : WP B (subV kt (.tup xs) (.int i)) H Q := wp_of (fun st F s => by simp only [subV, h]) q
theorem x_lst {a : Nat} {xs : List Val} {i : Int} {v : Val} {Q : Val → HL → Prop} (u : Sub H [(a, .lst xs)] R) (h : L2.atI xs i = some v) (q : Q v H) : WP B (subV kt (.ref a) (.int i)) H Q := wp_of (fun st F s => by simp only [subV, sub_at u s, h]) q
theorem x_dK {a : Nat} {kvs : List (L2.Key × Val)} {y v : Val} {k : L2.Key} {Q : Val → HL → Prop} (u : Sub H [(a, .dK kvs)] R) (hk : key1 y = some k) (h : look kvs k = some v) (q : Q v H) : WP B (subV kt (.ref a) y) H Q := wp_of (fun st F s => by simp only [subV, sub_at u s, dget, hk, h]) q
theorem x_cutt {xs : List Val} {l h : Option Val} {l' h' : Option Int} {Q : Val → HL → Prop} (e1 : part l = some l') (e2 : part h = some h') (q : Q (.tup (cutL xs l' h')) H) : WP B (cutV (.tup xs) l h) H Q := wp_of (fun st F s => by simp only [cutV, e1, e2]) q
theorem x_cutl {a : Nat} {xs : List Val} {l h : Option Val} {l' h' : Option Int} {Q : Val → HL → Prop} (u : Sub H [(a, .lst xs)] R) (e1 : part l = some l') (e2 : part h = some h') (q : ∀ p, Q (.ref p) ((p, .lst (cutL xs l' h')) :: H)) : WP B (cutV (.ref a) l h) H Q := fun st F s => by
  obtain ⟨v, K, st', e, q, s'⟩ := wp_mk (B := B) q st F s
  exact ⟨v, K, st', by simp only [cutV, e1, e2, sub_at u s, e], q, s'⟩
theorem x_fld {fl : Nat → PySem.Str → Bool} {a k : Nat} {fs : List (PySem.Str × Val)} {f : PySem.Str} {v : Val} {Q : Val → HL → Prop} (u : Sub H [(a, .ins k fs)] R) (h1 : fl k f = true) (h : fs.lookup f = some v) (q : Q v H) : WP B (getF fl (.ref a) f) H Q := wp_of (fun st F s => by simp only [getF, sub_at u s, h1, if_true, h]) q
theorem y_lst {a : Nat} {xs : List Val} {i : Int} {j : Nat} {v : Val} {K : HL} {Q : Val → HL → Prop} (u : Upd H a (.lst xs) (.lst (xs.set j v)) K) (h : L2.ixN xs.length i = some j) (q : Q .non K) : WP B (putV kt (.ref a) (.int i) v) H Q := fun st F s => by
  obtain ⟨R0, u0, _⟩ := u.sub
  obtain ⟨v, K, st', e, q, s'⟩ := wp_upd (B := B) u q st F s
  exact ⟨v, K, st', by simp only [putV, sub_at u0 s, h, e], q, s'⟩
theorem y_dK {a : Nat} {kvs : List (L2.Key × Val)} {y v : Val} {k : L2.Key} {K : HL} {Q : Val → HL → Prop} (u : Upd H a (.dK kvs) (.dK (put kvs k v)) K) (hk : key1 y = some k) (h : kvs.length < 1000000) (q : Q .non K) : WP B (putV kt (.ref a) y v) H Q := fun st F s => by
  obtain ⟨R0, u0, _⟩ := u.sub
  obtain ⟨v, K, st', e, q, s'⟩ := wp_upd (B := B) u q st F s
  have hs : kvs.length < PySem.sizeLine := by rw [PySem.sizeLine_eq]; omega
  exact ⟨v, K, st', by simp only [putV, sub_at u0 s, hk, hs, if_true, e], q, s'⟩
theorem y_fld {fl : Nat → PySem.Str → Bool} {a k : Nat} {fs : List (PySem.Str × Val)} {f : PySem.Str} {v : Val} {K : HL} {Q : Val → HL → Prop} (u : Upd H a (.ins k fs) (.ins k (setF f v fs)) K) (h1 : fl k f = true) (h : fs.length < 1000) (q : Q .non K) : WP B (putF fl (.ref a) f v) H Q := fun st F s => by
  obtain ⟨R0, u0, _⟩ := u.sub
  obtain ⟨v, K, st', e, q, s'⟩ := wp_upd (B := B) u q st F s
  exact ⟨v, K, st', by simp only [putF, sub_at u0 s]; rw [if_pos ⟨h1, h⟩]; exact e, q, s'⟩
theorem d_get {a : Nat} {kvs : List (L2.Key × Val)} {y v : Val} {k : L2.Key} {Q : Val → HL → Prop} (u : Sub H [(a, .dK kvs)] R) (hk : key1 y = some k) (h : look kvs k = some v) (q : Q v H) : WP B (getD kt (.ref a) y) H Q := wp_of (fun st F s => by simp only [getD, sub_at u s, dget, hk, h]) q
theorem d_put {a : Nat} {kvs : List (L2.Key × Val)} {y v : Val} {k : L2.Key} {K : HL} {Q : Val → HL → Prop} (u : Upd H a (.dK kvs) (.dK (put kvs k v)) K) (hk : key1 y = some k) (h : kvs.length < 1000000) (q : Q .non K) : WP B (putD kt (.ref a) y v) H Q := fun st F s => by
  obtain ⟨R0, u0, _⟩ := u.sub
  obtain ⟨v, K, st', e, q, s'⟩ := wp_upd (B := B) u q st F s
  have hs : kvs.length < PySem.sizeLine := by rw [PySem.sizeLine_eq]; omega
  exact ⟨v, K, st', by simp only [putD, sub_at u0 s, hk, hs, if_true, e], q, s'⟩
/-! ### built-in functions -/
theorem f_lent {xs : List Val} {Q : Val → HL → Prop} (q : Q (.int xs.length) H) : WP B (bfn .len [.tup xs]) H Q := wp_ok q
theorem f_lenl {a : Nat} {xs : List Val} {Q : Val → HL → Prop} (u : Sub H [(a, .lst xs)] R) (q : Q (.int xs.length) H) : WP B (bfn .len [.ref a]) H Q := wp_of (fun st F s => by simp only [bfn, sub_at u s]) q
theorem f_lend {a : Nat} {xs : List (L2.Key × Val)} {Q : Val → HL → Prop} (u : Sub H [(a, .dK xs)] R) (q : Q (.int xs.length) H) : WP B (bfn .len [.ref a]) H Q := wp_of (fun st F s => by simp only [bfn, sub_at u s, sub_rw u s, Bool.false_eq_true, if_false]) q
theorem f_abs {i : Int} {Q : Val → HL → Prop} (q : Q (.int (if i < 0 then -i else i)) H) : WP B (bfn .abs [.int i]) H Q := wp_ok q
theorem f_listt {xs : List Val} {Q : Val → HL → Prop} (q : ∀ p, Q (.ref p) ((p, .lst xs) :: H)) : WP B (bfn .list [.tup xs]) H Q := wp_mk q
theorem f_listl {a : Nat} {xs : List Val} {Q : Val → HL → Prop} (u : Sub H [(a, .lst xs)] R) (q : ∀ p, Q (.ref p) ((p, .lst xs) :: H)) : WP B (bfn .list [.ref a]) H Q := fun st F s => by
  obtain ⟨v, K, st', e, q, s'⟩ := wp_mk (B := B) q st F s
  exact ⟨v, K, st', by simp only [bfn, sub_at u s, e], q, s'⟩
theorem f_tupt {xs : List Val} {Q : Val → HL → Prop} (q : Q (.tup xs) H) : WP B (bfn .tuple [.tup xs]) H Q := wp_ok q
theorem f_tupl {a : Nat} {xs : List Val} {Q : Val → HL → Prop} (u : Sub H [(a, .lst xs)] R) (q : Q (.tup xs) H) : WP B (bfn .tuple [.ref a]) H Q := wp_of (fun st F s => by simp only [bfn, sub_at u s]) q
theorem f_inti {i : Int} {Q : Val → HL → Prop} (q : Q (.int i) H) : WP B (bfn .int [.int i]) H Q := wp_ok q
theorem f_intb {k : Bool} {Q : Val → HL → Prop} (q : Q (.int (if k then 1 else 0)) H) : WP B (bfn .int [.bl k]) H Q := wp_ok q
theorem f_any {a : Nat} {xs : List Val} {bs : List Bool} {Q : Val → HL → Prop} (u : Sub H [(a, .lst xs)] R) (h : bools xs = some bs) (q : Q (.bl (bs.any id)) H) : WP B (bfn .any [.ref a]) H Q := wp_of (fun st F s => by simp only [bfn, sub_at u s, h]) q
theorem x_cut3 {a : Nat} {xs : List Val} {l h : Option Val} {l' h' : Option Int} {k : Int} {Q : Val → HL → Prop} (u : Sub H [(a, .lst xs)] R) (e1 : part l = some l') (e2 : part h = some h') (hk : k ≠ 0) (hf : fits (pickL xs l' h' k).length = true) (q : ∀ p, Q (.ref p) ((p, .lst (pickL xs l' h' k)) :: H)) : WP B (cut3V k (.ref a) l h) H Q := fun st F s => by
  obtain ⟨v, K, st', e, q, s'⟩ := wp_mk (B := B) q st F s
  exact ⟨v, K, st', by simp only [cut3V, e1, e2, sub_at u s]; rw [if_pos ⟨hk, hf⟩]; exact e, q, s'⟩
theorem f_str {i : Int} {Q : Val → HL → Prop} (h : i.natAbs.log2 < 1920) (q : Q (.str (toString i)) H) : WP B (bfn .str [.int i]) H Q := wp_of (fun st F s => by simp only [bfn]; rw [if_pos h]) q
theorem f_sorted {a : Nat} {xs : List Val} {is : List Int} {Q : Val → HL → Prop} (u : Sub H [(a, .lst xs)] R) (h : intsO xs = some is) (q : ∀ p, Q (.ref p) ((p, .lst ((is.mergeSort (fun i j => decide (i ≤ j))).map .int)) :: H)) : WP B (bfn .sorted [.ref a]) H Q := fun st F s => by
  obtain ⟨v, K, st', e, q, s'⟩ := wp_mk (B := B) q st F s
  exact ⟨v, K, st', by simp only [bfn, sub_at u s, h]; exact e, q, s'⟩
theorem f_dict {a : Nat} {xs : List Val} {kvs : List (L2.Key × Val)} {Q : Val → HL → Prop} (u : Sub H [(a, .lst xs)] R) (h : pairsO xs = some kvs) (q : ∀ p, Q (.ref p) ((p, .dK (merge [] kvs)) :: H)) : WP B (bfn .dict [.ref a]) H Q := fun st F s => by
  obtain ⟨v, K, st', e, q, s'⟩ := wp_mk (B := B) q st F s
  exact ⟨v, K, st', by simp only [bfn, sub_at u s, h]; exact e, q, s'⟩
theorem f_all {a : Nat} {xs : List Val} {bs : List Bool} {Q : Val → HL → Prop} (u : Sub H [(a, .lst xs)] R) (h : bools xs = some bs) (q : Q (.bl (bs.all id)) H) : WP B (bfn .all [.ref a]) H Q := wp_of (fun st F s => by simp only [bfn, sub_at u s, h]) q
theorem f_min {i j : Int} {Q : Val → HL → Prop} (q : Q (.int (if j < i then j else i)) H) : WP B (bfn .min2 [.int i, .int j]) H Q := wp_ok q
theorem f_max {i j : Int} {Q : Val → HL → Prop} (q : Q (.int (if j > i then j else i)) H) : WP B (bfn .max2 [.int i, .int j]) H Q := wp_ok q
theorem m_app {a : Nat} {xs : List Val} {v : Val} {K : HL} {Q : Val → HL → Prop} (u : Upd H a (.lst xs) (.lst (xs ++ [v])) K) (h : xs.length < 1000000) (q : Q .non K) : WP B (bmt .append (.ref a) [v]) H Q := fun st F s => by
  obtain ⟨R0, u0, _⟩ := u.sub
  obtain ⟨v, K, st', e, q, s'⟩ := wp_upd (B := B) u q st F s
  have hs : xs.length < PySem.sizeLine := by rw [PySem.sizeLine_eq]; omega
  exact ⟨v, K, st', by simp only [bmt, sub_at u0 s, hs, if_true, e], q, s'⟩
theorem m_pop {a : Nat} {xs : List Val} {v : Val} {K : HL} {Q : Val → HL → Prop} (u : Upd H a (.lst xs) (.lst xs.dropLast) K) (h : xs.getLast? = some v) (q : Q v K) : WP B (bmt .pop (.ref a) []) H Q := fun st F s => by
  obtain ⟨R0, u0, _⟩ := u.sub
  obtain ⟨v', K, st', e, q, s'⟩ := wp_bind (k := fun _ st => .ok v st) (wp_upd (B := B) (Q := fun _ K => WP B (fun st => .ok v st) K Q) u (wp_ok q)) st F s
  exact ⟨v', K, st', by simp only [bmt, sub_at u0 s, h, e], q, s'⟩
/-! ### isinstance -/
theorem t_non {t : Ty} {Q : Val → HL → Prop} (q : Q (.bl false) H) : WP B (fun st => okB (isT st .non t) st) H Q := wp_ok q
theorem t_bl' {k : Bool} {t : Ty} {Q : Val → HL → Prop} (q : Q (.bl (t = .int || t = .bool)) H) : WP B (fun st => okB (isT st (.bl k) t) st) H Q := wp_ok q
theorem t_int' {i : Int} {t : Ty} {Q : Val → HL → Prop} (q : Q (.bl (t = .int)) H) : WP B (fun st => okB (isT st (.int i) t) st) H Q := wp_ok q
theorem t_str' {i : PySem.Str} {t : Ty} {Q : Val → HL → Prop} (q : Q (.bl (t = .str)) H) : WP B (fun st => okB (isT st (.str i) t) st) H Q := wp_ok q
theorem t_tup' {i : List Val} {t : Ty} {Q : Val → HL → Prop} (q : Q (.bl (t = .tuple)) H) : WP B (fun st => okB (isT st (.tup i) t) st) H Q := wp_ok q
theorem t_lst' {a : Nat} {xs : List Val} {t : Ty} {Q : Val → HL → Prop} (u : Sub H [(a, .lst xs)] R) (q : Q (.bl (t = .list)) H) : WP B (fun st => okB (isT st (.ref a) t) st) H Q := wp_of (fun st F s => by simp only [isT, sub_at u s, okB]) q
theorem t_dK' {a : Nat} {xs : List (L2.Key × Val)} {t : Ty} {Q : Val → HL → Prop} (u : Sub H [(a, .dK xs)] R) (q : Q (.bl (t = .dict)) H) : WP B (fun st => okB (isT st (.ref a) t) st) H Q := wp_of (fun st F s => by simp only [isT, sub_at u s, okB]) q
end
/-! ### dict displays -/
section
variable {B H R : HL} {c : Ctx} {s : Env}
theorem ep_nil {Q : List (Val × Val) → HL → Prop} (q : Q [] H) : WP B (evp c .nil s) H Q := wp_of (fun st F _ => by simp only [evp]) q
theorem ep_cons {k v : E} {ps : Ps} {Q : List (Val × Val) → HL → Prop} (h : WP B (ev c k s) H fun x H1 => WP B (ev c v s) H1 fun y H2 => WP B (evp c ps s) H2 fun r H3 => Q ((x, y) :: r) H3) : WP B (evp c (.cons k v ps) s) H Q := by
  have := wp_bind (k := fun x st => (ev c v s st).bind fun y st => (evp c ps s st).bind fun r st => .ok ((x, y) :: r) st) (Q := Q) (wp_mono h fun x H1 h1 => wp_bind (wp_mono h1 fun y H2 h2 => wp_bind (wp_mono h2 fun r H3 h3 => wp_ok h3)))
  exact wp_eq (fun st => by rw [evp] <;> rfl) this
theorem e_dic {ps : Ps} {Q : Val → HL → Prop} (h : ∀ p, WP B (evp c ps s) ((p, .dK []) :: H) fun r K => ∃ kvs K', keyed r = some kvs ∧ kvs.length ≤ 15 ∧ Upd K p (.dK []) (.dK (merge [] kvs)) K' ∧ Q (.ref p) K') : WP B (ev c (.dic ps) s) H Q := by
  have := wp_new (B := B) (H := H) (o := .dK []) (Q := Q) (k := fun p st => (evp c ps s st).bind fun ps st' => match keyed ps with
    | some kvs => if st'.m p = some (.dK []) ∧ kvs.length ≤ 15 then (wr p (.dK (merge [] kvs)) st').bind fun _ st2 => .ok (.ref p) st2 else .fail
    | none => .fail) fun p => wp_bind (wp_mono (h p) fun r K ⟨kvs, R, e1, e2, u, q⟩ => by
      intro st F sp
      obtain ⟨R0, u0, _⟩ := u.sub
      obtain ⟨v', K, st', e, q, s'⟩ := wp_bind (k := fun _ st => .ok (Val.ref p) st) (wp_upd (B := B) (Q := fun _ K => WP B (fun st => .ok (Val.ref p) st) K Q) u (wp_ok q)) st F sp
      refine ⟨v', K, st', ?_, q, s'⟩
      simp only [e1]
      rw [if_pos ⟨sub_at u0 sp, e2⟩]
      exact e)
  exact wp_eq (fun st => by rw [ev] <;> rfl) this
end

/-! ### statements -/
/-- how a statement ends -/
def post (N : Env → HL → Prop) (T : Val → HL → Prop) (K C : Env → HL → Prop) (fl : Fl) (H : HL) : Prop := match fl with
  | .nx s => N s H
  | .rt v => T v H
  | .bk s => K s H
  | .ct s => C s H
def WS (B : HL) (c : Ctx) (x : S) (s : Env) (H : HL) (N : Env → HL → Prop) (T : Val → HL → Prop) (K C : Env → HL → Prop) : Prop := WP B (exec c x s) H (post N T K C)
def WSs (B : HL) (c : Ctx) (x : Ss) (s : Env) (H : HL) (N : Env → HL → Prop) (T : Val → HL → Prop) (K C : Env → HL → Prop) : Prop := WP B (execs c x s) H (post N T K C)
section
variable {B H R : HL} {c : Ctx} {s : Env} {N K C : Env → HL → Prop} {T : Val → HL → Prop}
theorem wss_mono {N' K' C' : Env → HL → Prop} {T' : Val → HL → Prop} {x : Ss} (h : WSs B c x s H N' T' K' C') (n : ∀ s H, N' s H → N s H) (t : ∀ v H, T' v H → T v H) (k : ∀ s H, K' s H → K s H) (cc : ∀ s H, C' s H → C s H) : WSs B c x s H N T K C :=
  wp_mono h fun fl H p => by
    cases fl
    · exact n _ _ p
    · exact t _ _ p
    · exact k _ _ p
    · exact cc _ _ p
theorem ss_nil (n : N s H) : WSs B c .nil s H N T K C := wp_of (a := Fl.nx s) (fun st F _ => by simp only [execs]) n
theorem ss_cons {x : S} {r : Ss} (h : WS B c x s H (fun s1 H1 => WSs B c r s1 H1 N T K C) T K C) : WSs B c (.cons x r) s H N T K C := by
  have := wp_bind (k := thenF fun s st => execs c r s st) (Q := post N T K C) (wp_mono h fun fl H1 p => by
    cases fl
    · exact p
    · exact wp_ok p
    · exact wp_ok p
    · exact wp_ok p)
  exact wp_eq (fun st => by rw [execs] <;> rfl) this
/-- with what holds between the two told -/
theorem ss_mid {x : S} {r : Ss} (M : Env → HL → Prop) (h : WS B c x s H M T K C) (k : ∀ s1 H1, M s1 H1 → WSs B c r s1 H1 N T K C) : WSs B c (.cons x r) s H N T K C :=
  ss_cons (wp_mono h fun fl H1 p => by
    cases fl
    · exact k _ _ p
    · exact p
    · exact p
    · exact p)
theorem ws_of {m : Store → Res Fl} {x : S} (h : WP B m H (post N T K C)) (e : ∀ st, exec c x s st = m st) : WS B c x s H N T K C := wp_eq e h
theorem s_asg1 {i : Nat} {e : E} (h : WP B (ev c e s) H fun v H1 => N (s.set i (some v)) H1) : WS B c (.asg (.one i) e) s H N T K C := by
  have := wp_bind (k := fun v st => (asg1 c (.one i) v s st).bind fun s st => .ok (Fl.nx s) st) (Q := post N T K C) (wp_mono h fun v H1 q => wp_of (a := Fl.nx (s.set i (some v))) (fun st F _ => by simp only [asg1, bind_ok]) q)
  exact wp_eq (fun st => by rw [exec] <;> rfl) this
theorem s_asgs {o i : E} {e : E} (h : WP B (ev c e s) H fun v H1 => WP B (ev c o s) H1 fun x H2 => WP B (ev c i s) H2 fun y H3 => WP B (putV c.G.kt x y v) H3 fun _ H4 => N s H4) : WS B c (.asg (.sub o i) e) s H N T K C := by
  have := wp_bind (k := fun v st => (asg1 c (.sub o i) v s st).bind fun s st => .ok (Fl.nx s) st) (Q := post N T K C) (wp_mono h fun v H1 q => wp_bind (m := asg1 c (.sub o i) v s) (by
    have := wp_bind (k := fun x st => (ev c i s st).bind fun y st => (putV c.G.kt x y v st).bind fun _ st => .ok s st) (Q := fun s1 K1 => WP B (fun st => .ok (Fl.nx s1) st) K1 (post N T K C)) (wp_mono q fun x H2 q => wp_bind (wp_mono q fun y H3 q => wp_bind (wp_mono q fun _ H4 q => wp_ok (wp_ok q))))
    exact wp_eq (fun st => by rw [asg1] <;> rfl) this))
  exact wp_eq (fun st => by rw [exec] <;> rfl) this
theorem s_asgf {o : E} {f : PySem.Str} {e : E} (h : WP B (ev c e s) H fun v H1 => WP B (ev c o s) H1 fun x H2 => WP B (putF c.G.fl x f v) H2 fun _ H4 => N s H4) : WS B c (.asg (.fld o f) e) s H N T K C := by
  have := wp_bind (k := fun v st => (asg1 c (.fld o f) v s st).bind fun s st => .ok (Fl.nx s) st) (Q := post N T K C) (wp_mono h fun v H1 q => wp_bind (m := asg1 c (.fld o f) v s) (by
    have := wp_bind (k := fun x st => (putF c.G.fl x f v st).bind fun _ st => .ok s st) (Q := fun s1 K1 => WP B (fun st => .ok (Fl.nx s1) st) K1 (post N T K C)) (wp_mono q fun x H2 q => wp_bind (wp_mono q fun _ H4 q => wp_ok (wp_ok q)))
    exact wp_eq (fun st => by rw [asg1] <;> rfl) this))
  exact wp_eq (fun st => by rw [exec] <;> rfl) this
/-- targets one by one -/
def WT (B : HL) (c : Ctx) (ts : List CL.T) (vs : List Val) (s : Env) (H : HL) (N : Env → HL → Prop) : Prop := WP B (asgs c ts vs s) H N
theorem a_nil (n : N s H) : WT B c [] [] s H N := wp_of (fun st F _ => by simp only [asgs]) n
theorem a_one {i : Nat} {ts : List CL.T} {v : Val} {vs : List Val} (h : WT B c ts vs (s.set i (some v)) H N) : WT B c (.one i :: ts) (v :: vs) s H N :=
  wp_eq (fun st => by rw [asgs] <;> rfl) (wp_bind (m := asg1 c (.one i) v s) (k := fun s st => asgs c ts vs s st) (wp_of (a := s.set i (some v)) (fun st F _ => by simp only [asg1]) h))
theorem a_sub {o i : E} {ts : List CL.T} {v : Val} {vs : List Val} (h : WP B (ev c o s) H fun x H2 => WP B (ev c i s) H2 fun y H3 => WP B (putV c.G.kt x y v) H3 fun _ H4 => WT B c ts vs s H4 N) : WT B c (.sub o i :: ts) (v :: vs) s H N :=
  wp_eq (fun st => by rw [asgs] <;> rfl) (wp_bind (m := asg1 c (.sub o i) v s) (k := fun s st => asgs c ts vs s st) (by
    have := wp_bind (k := fun x st => (ev c i s st).bind fun y st => (putV c.G.kt x y v st).bind fun _ st => .ok s st) (Q := fun s1 K1 => WP B (fun st => asgs c ts vs s1 st) K1 N) (wp_mono h fun x H2 q => wp_bind (wp_mono q fun y H3 q => wp_bind (wp_mono q fun _ H4 q => wp_ok q)))
    exact wp_eq (fun st => by rw [asg1] <;> rfl) this))
theorem a_fld {o : E} {f : PySem.Str} {ts : List CL.T} {v : Val} {vs : List Val} (h : WP B (ev c o s) H fun x H2 => WP B (putF c.G.fl x f v) H2 fun _ H4 => WT B c ts vs s H4 N) : WT B c (.fld o f :: ts) (v :: vs) s H N :=
  wp_eq (fun st => by rw [asgs] <;> rfl) (wp_bind (m := asg1 c (.fld o f) v s) (k := fun s st => asgs c ts vs s st) (by
    have := wp_bind (k := fun x st => (putF c.G.fl x f v st).bind fun _ st => .ok s st) (Q := fun s1 K1 => WP B (fun st => asgs c ts vs s1 st) K1 N) (wp_mono h fun x H2 q => wp_bind (wp_mono q fun _ H4 q => wp_ok q))
    exact wp_eq (fun st => by rw [asg1] <;> rfl) this))
theorem s_asT {ts : List CL.T} {e : E} (h : WP B (ev c e s) H fun v H1 => ∃ xs, Its B H1 v xs ∧ WT B c ts xs s H1 N) : WS B c (.asT ts e) s H N T K C := by
  have := wp_bind (k := fun v st => match itemsOf v st with
    | some xs => (asgs c ts xs s st).bind fun s st => .ok (Fl.nx s) st
    | none => .fail) (Q := post N T K C) (wp_mono h fun v H1 ⟨xs, e, q⟩ => fun st F sp => by
      obtain ⟨a, K', st', e', q, s'⟩ := wp_bind (k := fun s st => .ok (Fl.nx s) st) (Q := post N T K C) (wp_mono q fun s1 H1 q => wp_ok q) st F sp
      exact ⟨a, K', st', by simp only [e st F sp]; exact e', q, s'⟩)
  exact wp_eq (fun st => by rw [exec] <;> rfl) this
theorem s_par {is : List Nat} {es : Es} (h : WP B (evs c es s) H fun vs H1 => ∃ s1, setAll is vs s = some s1 ∧ N s1 H1) : WS B c (.par is es) s H N T K C := by
  have := wp_bind (k := fun vs st => match setAll is vs s with
    | some s => .ok (Fl.nx s) st
    | none => .fail) (Q := post N T K C) (wp_mono h fun v H1 ⟨s1, e, q⟩ => wp_of (a := Fl.nx s1) (fun st F _ => by simp only [e]) q)
  exact wp_eq (fun st => by rw [exec] <;> rfl) this
theorem s_aug {i : Nat} {o : Bop} {e : E} {x : Val} (hx : s[i]? = some (some x)) (h : WP B (ev c e s) H fun y H1 => WP B (iop o x y) H1 fun z H2 => N (s.set i (some z)) H2) : WS B c (.aug i o e) s H N T K C := by
  have := wp_bind (k := fun y st => (iop o x y st).bind fun z st => .ok (Fl.nx (s.set i (some z))) st) (Q := post N T K C) (wp_mono h fun y H1 q => wp_bind (wp_mono q fun z H2 q => wp_ok q))
  exact wp_eq (fun st => by rw [exec]; simp only [hx]) this
theorem o_add {i j : Int} {Q : Val → HL → Prop} (q : Q (.int (i + j)) H) : WP B (iop .add (.int i) (.int j)) H Q := wp_ok q
theorem o_sub {i j : Int} {Q : Val → HL → Prop} (q : Q (.int (i - j)) H) : WP B (iop .sub (.int i) (.int j)) H Q := wp_ok q
theorem s_aus {a i : E} {o : Bop} {e : E} (h : WP B (ev c a s) H fun x H1 => WP B (ev c i s) H1 fun y H2 => WP B (getD c.G.kt x y) H2 fun old H3 => WP B (ev c e s) H3 fun v H4 => WP B (iop o old v) H4 fun z H5 => WP B (putD c.G.kt x y z) H5 fun _ H6 => N s H6) : WS B c (.aus a i o e) s H N T K C := by
  have := wp_bind (k := fun x st => (ev c i s st).bind fun y st => (getD c.G.kt x y st).bind fun old st => (ev c e s st).bind fun v st => (iop o old v st).bind fun z st => (putD c.G.kt x y z st).bind fun _ st => .ok (Fl.nx s) st) (Q := post N T K C)
    (wp_mono h fun x H1 q => wp_bind (wp_mono q fun y H2 q => wp_bind (wp_mono q fun old H3 q => wp_bind (wp_mono q fun v H4 q => wp_bind (wp_mono q fun z H5 q => wp_bind (wp_mono q fun _ H6 q => wp_ok q))))))
  exact wp_eq (fun st => by rw [exec] <;> rfl) this
/-- x.f op= e, where e leaves the heap as it is -/
theorem s_auf {a : E} {f : PySem.Str} {o : Bop} {e : E} (h : WP B (ev c a s) H fun x H1 => ∃ i k fs R old, x = .ref i ∧ Sub H1 [(i, .ins k fs)] R ∧ c.G.fl k f = true ∧ fs.lookup f = some old ∧ fs.length < 1000 ∧
    WP B (ev c e s) H1 fun v H2 => WP B (iop o old v) H2 fun z H3 => H3 = H1 ∧ ∃ K', Upd H1 i (.ins k fs) (.ins k (setF f z fs)) K' ∧ N s K') : WS B c (.auf a f o e) s H N T K C := by
  have := wp_bind (k := fun x st1 => (getF c.G.fl x f st1).bind fun old st => (ev c e s st).bind fun v st =>
      (iop o old v st).bind fun z st => if clsOf x st = clsOf x st1 then (putF c.G.fl x f z st).bind fun _ st => .ok (Fl.nx s) st else .fail) (Q := post N T K C) (wp_mono h fun x H1 ⟨i, k, fs, R, old, e1, u, e2, e3, e4, q⟩ => fun st F sp => by
    subst e1
    have hg : getF c.G.fl (.ref i) f st = .ok old st := by simp only [getF, sub_at u sp, e2, if_true, e3]
    have hc : clsOf (.ref i) st = some k := by simp only [clsOf, sub_at u sp]
    obtain ⟨v, K2, st2, e5, q, s2⟩ := q st F sp
    obtain ⟨z, K3, st3, e6, ⟨e8, K9, u9, q9⟩, s3⟩ := q st2 F s2
    subst e8
    have hc2 : clsOf (.ref i) st3 = some k := by simp only [clsOf, sub_at u s3]
    obtain ⟨a, K', st', e7, q, s'⟩ := wp_bind (k := fun _ st => .ok (Fl.nx s) st) (Q := post N T K C) (y_fld (B := B) (fl := c.G.fl) (v := z) (Q := fun _ K1 => WP B (fun st => .ok (Fl.nx s) st) K1 (post N T K C)) u9 e2 e4 (wp_ok q9)) st3 F s3
    refine ⟨a, K', st', ?_, q, s'⟩
    simp only [hg, bind_ok, e5, e6, hc, hc2, if_true]
    exact e7)
  exact wp_eq (fun st => by rw [exec] <;> rfl) this
theorem s_ex {e : E} (h : WP B (ev c e s) H fun _ H1 => N s H1) : WS B c (.ex e) s H N T K C := by
  have := wp_bind (k := fun _ st => .ok (Fl.nx s) st) (Q := post N T K C) (wp_mono h fun v H1 q => wp_ok q)
  exact wp_eq (fun st => by rw [exec] <;> rfl) this
theorem s_ret {e : E} (h : WP B (ev c e s) H T) : WS B c (.ret e) s H N T K C := by
  have := wp_bind (k := fun v st => .ok (Fl.rt v) st) (Q := post N T K C) (wp_mono h fun v H1 q => wp_ok q)
  exact wp_eq (fun st => by rw [exec] <;> rfl) this
theorem s_rtN (t : T .non H) : WS B c .rtN s H N T K C := wp_of (a := Fl.rt .non) (fun st F _ => by rw [exec]) t
theorem s_cond {t : CL.B} {a b : Ss} (h : WP B (ts c t s) H fun k H1 => Br k (WSs B c a s H1 N T K C) (WSs B c b s H1 N T K C)) : WS B c (.cond t a b) s H N T K C := by
  have := wp_bind (k := fun (k : Bool) st => if k then execs c a s st else execs c b s st) (Q := post N T K C) (wp_mono h fun k H1 q => by
    cases k
    · exact q.2 rfl
    · exact q.1 rfl)
  exact wp_eq (fun st => by rw [exec] <;> rfl) this
theorem s_pass (n : N s H) : WS B c .pass s H N T K C := wp_of (a := Fl.nx s) (fun st F _ => by rw [exec]) n
theorem s_brk (n : K s H) : WS B c .brk s H N T K C := wp_of (a := Fl.bk s) (fun st F _ => by rw [exec]) n
theorem s_cnt (n : C s H) : WS B c .cnt s H N T K C := wp_of (a := Fl.ct s) (fun st F _ => by rw [exec]) n
/-- what is watched is there -/
def Sees (B H : HL) (w : Watch) : Prop := ∀ i xs, (i, xs) ∈ w → (i, Ob.lst xs) ∈ H ∨ (i, Ob.lst xs) ∈ B
theorem sees_nil : Sees B H [] := fun _ _ h => by cases h
theorem sees_sub {i : Nat} {xs : List Val} {w : Watch} (u : Sub H [(i, .lst xs)] R) (h : Sees B H w) : Sees B H ((i, xs) :: w) := fun j ys m => by
  rcases List.mem_cons.mp m with e | m
  · cases e; exact .inl ((List.Perm.mem_iff u).mpr (by simp))
  · exact h j ys m
theorem sees_ok {st : Store} {F : HL} : ∀ {w : Watch}, Sees B H w → Sep B st (H ++ F) → st.sees w = true
  | [], _, _ => rfl
  | (i, xs) :: r, h, sp => by
    unfold Store.sees
    rw [sees_ok (fun j ys m => h j ys (List.mem_cons_of_mem _ m)) sp, Bool.and_true]
    refine decide_eq_true ?_
    rcases h i xs (by simp) with m | m
    · exact sp.at' _ _ (List.mem_append_left _ m)
    · exact fix_at m sp
def postF (N : Env → HL → Prop) (T : Val → HL → Prop) : Fl → HL → Prop := post N T (fun _ _ => False) (fun _ _ => False)
/-- a for loop's rest -/
def WF (B : HL) (c : Ctx) (t : Tg) (b : Ss) (w : Watch) (xs : List Val) (s : Env) (H : HL) (N : Env → HL → Prop) (T : Val → HL → Prop) : Prop := WP B (forLoop w (onTg t fun s st => execs c b s st) xs s) H (postF N T)
theorem for_nil {t : Tg} {b : Ss} {w : Watch} (h : Sees B H w) (n : N s H) : WF B c t b w [] s H N T := wp_of (a := Fl.nx s) (fun st F sp => by rw [forLoop, sees_ok h sp]; rfl) n
theorem for_cons {t : Tg} {b : Ss} {w : Watch} {x : Val} {xs : List Val} {s1 : Env} (h : Sees B H w) (e : setTg t x s = some s1) (k : WSs B c b s1 H (fun s2 H2 => WF B c t b w xs s2 H2 N T) T N (fun s2 H2 => WF B c t b w xs s2 H2 N T)) : WF B c t b w (x :: xs) s H N T := fun st F sp => by
  have := wp_bind (m := fun st => execs c b s1 st) (k := fun fl st => match fl with
      | .nx s => forLoop w (onTg t fun s st => execs c b s st) xs s st
      | .ct s => forLoop w (onTg t fun s st => execs c b s st) xs s st
      | .bk s => .ok (Fl.nx s) st
      | .rt v => .ok (Fl.rt v) st) (Q := postF N T) (wp_mono k fun fl H1 p => by
        cases fl
        · exact p
        · exact wp_ok p
        · exact wp_ok p
        · exact p)
  obtain ⟨a, K', st', e', q, s'⟩ := this st F sp
  refine ⟨a, K', st', ?_, q, s'⟩
  rw [forLoop, sees_ok h sp, if_pos rfl, onTg, e]
  exact e'
theorem s_for {t : Tg} {w : I} {b : Ss} (h : WQ B (evw c w s) H fun xs wt H1 => WF B c t b wt xs s H1 N T) : WS B c (.for t w b) s H N T K C := by
  have := wp_bind (k := fun (p : List Val × Watch) st => forLoop p.2 (onTg t fun s st => execs c b s st) p.1 s st) (Q := post N T K C) (wp_mono h fun p H1 q => wp_mono q fun fl K1 r => by
    cases fl
    · exact r
    · exact r
    · exact r.elim
    · exact r.elim)
  exact wp_eq (fun st => by rw [exec] <;> rfl) this
/-- a for loop by a word: what holds ahead of the rest -/
theorem for_by {t : Tg} {b : Ss} {w : Watch} (Iv : List Val → Env → HL → Prop) (hs : ∀ xs s H, Iv xs s H → Sees B H w)
    (step : ∀ x xs s H, Iv (x :: xs) s H → ∃ s1, setTg t x s = some s1 ∧ WSs B c b s1 H (Iv xs) T N (Iv xs)) (done : ∀ s H, Iv [] s H → N s H) : ∀ xs s H, Iv xs s H → WF B c t b w xs s H N T
  | [], s, H, h => for_nil (hs _ _ _ h) (done _ _ h)
  | x :: xs, s, H, h => by
    obtain ⟨s1, e, k⟩ := step _ _ _ _ h
    exact for_cons (hs _ _ _ h) e (wss_mono k (fun s H h => for_by Iv hs step done xs s H h) (fun _ _ h => h) (fun _ _ h => h) (fun s H h => for_by Iv hs step done xs s H h))
/-- a while loop -/
def WW (B : HL) (c : Ctx) (t : CL.B) (b : Ss) (n : Nat) (s : Env) (H : HL) (N : Env → HL → Prop) (T : Val → HL → Prop) : Prop := WP B (whlLoop (ts c t) (fun s st => execs c b s st) n s) H (postF N T)
theorem whl_step {t : CL.B} {b : Ss} {n : Nat} (h : WP B (ts c t s) H fun k H1 => Br k (WSs B c b s H1 (fun s2 H2 => WW B c t b n s2 H2 N T) T N (fun s2 H2 => WW B c t b n s2 H2 N T)) (N s H1)) : WW B c t b (n + 1) s H N T := by
  have := wp_bind (k := fun (k : Bool) st => if k then (execs c b s st).bind fun fl st => match fl with
      | .nx s => whlLoop (ts c t) (fun s st => execs c b s st) n s st
      | .ct s => whlLoop (ts c t) (fun s st => execs c b s st) n s st
      | .bk s => .ok (Fl.nx s) st
      | .rt v => .ok (Fl.rt v) st
    else .ok (Fl.nx s) st) (Q := postF N T) (wp_mono h fun k H1 q => by
      cases k
      · exact wp_ok (q.2 rfl)
      · exact wp_bind (wp_mono (q.1 rfl) fun fl H1 p => by
          cases fl
          · exact p
          · exact wp_ok p
          · exact wp_ok p
          · exact p))
  exact wp_eq (fun st => by rw [whlLoop] <;> rfl) this
theorem s_whl {t : CL.B} {b : Ss} (h : WW B c t b c.fuel s H N T) : WS B c (.whl t b) s H N T K C :=
  wp_eq (fun st => by rw [exec]) (wp_mono h fun fl K1 r => by
    cases fl
    · exact r
    · exact r
    · exact r.elim
    · exact r.elim)
/-- a while loop by a word and a number that falls -/
theorem whl_by {t : CL.B} {b : Ss} (Iv : Nat → Env → HL → Prop) (step : ∀ n s H, Iv n s H → WP B (ts c t s) H fun k H1 => Br k (WSs B c b s H1 (fun s2 H2 => ∃ m, m < n ∧ Iv m s2 H2) T N (fun s2 H2 => ∃ m, m < n ∧ Iv m s2 H2)) (N s H1)) : ∀ f n s H, n < f → Iv n s H → WW B c t b f s H N T
  | 0, n, s, H, hf, h => by omega
  | f + 1, n, s, H, hf, h => whl_step (wp_mono (step n s H h) fun k H1 q => ⟨fun e => wss_mono (q.1 e) (fun s2 H2 ⟨m, hm, h⟩ => whl_by Iv step f m s2 H2 (by omega) h) (fun _ _ h => h) (fun _ _ h => h) (fun s2 H2 ⟨m, hm, h⟩ => whl_by Iv step f m s2 H2 (by omega) h), q.2⟩)
/-! ### calls -/
theorem w_run {d : FDef} {vs : List Val} {Q : Val → HL → Prop} (hn : vs.length = d.np) (h : WSs B c d.body (vs.map some ++ List.replicate (d.nl - d.np) none) H (fun _ K => Q .non K) Q (fun _ _ => False) (fun _ _ => False)) : WP B (runF c d vs) H Q := by
  have := wp_bind (k := endF) (Q := Q) (wp_mono h fun fl H1 p => by
    cases fl
    · exact wp_ok p
    · exact wp_ok p
    · exact p.elim
    · exact p.elim)
  exact wp_eq (fun st => by rw [runF, if_pos hn]) this
theorem w_call {G : Prog} {fuel d f : Nat} {fd : FDef} {vs : List Val} {Q : Val → HL → Prop} (e : G.fn f = some fd) (hn : vs.length = fd.np) (h : WSs B (cxN G fuel d) fd.body (vs.map some ++ List.replicate (fd.nl - fd.np) none) H (fun _ K => Conv Q .non K) (Conv Q) (fun _ _ => False) (fun _ _ => False)) : WP B (callN G fuel (d + 1) f vs) H Q :=
  wp_conv (wp_eq (fun st => by rw [callN_succ, e]) (w_run hn h))
end
/-! ### comprehensions -/
section
variable {B H R : HL} {c : Ctx} {s : Env} {Q : Val → HL → Prop}
def WL (B : HL) (c : Ctx) (t : Tg) (k : CL.B) (e : E) (s : Env) (D : Nat) (w : Watch) (xs : List Val) (H : HL) (Q : Val → HL → Prop) : Prop := WP B (lcLoop D w (onLc t (fun s st => ts c k s st) (fun s st => ev c e s st) s) xs) H Q
theorem e_lc' {t : Tg} {w : I} {k : CL.B} {e : E} (h : WQ B (evw c w s) H fun xs wt H1 => ∀ D, WL B c t k e s D wt xs ((D, .lst []) :: H1) Q) : WP B (ev c (.lc t w k e) s) H Q := e_lc h
theorem lc_nil {t : Tg} {k : CL.B} {e : E} {D : Nat} {w : Watch} (h : Sees B H w) (q : Q (.ref D) H) : WL B c t k e s D w [] H Q := wp_of (a := Val.ref D) (fun st F sp => by rw [lcLoop, sees_ok h sp]; rfl) q
theorem lc_cons {t : Tg} {k : CL.B} {e : E} {D : Nat} {w : Watch} {x : Val} {xs : List Val} {s1 : Env} (h : Sees B H w) (es : setTg t x s = some s1) (q : WP B (ts c k s1) H fun b H1 => Br b (WP B (ev c e s1) H1 fun v H2 => ∃ ys K', Upd H2 D (.lst ys) (.lst (ys ++ [v])) K' ∧ ys.length < 1000000 ∧ WL B c t k e s D w xs K' Q) (WL B c t k e s D w xs H1 Q)) : WL B c t k e s D w (x :: xs) H Q := fun st F sp => by
  have := wp_bind (m := fun st => (ts c k s1 st).bind fun k st => if k then (ev c e s1 st).bind fun v st => .ok (some v) st else .ok none st) (k := fun o st => match o with
      | none => lcLoop D w (onLc t (fun s st => ts c k s st) (fun s st => ev c e s st) s) xs st
      | some v => (bmt .append (.ref D) [v] st).bind fun _ st => lcLoop D w (onLc t (fun s st => ts c k s st) (fun s st => ev c e s st) s) xs st) (Q := Q) (H := H) (B := B)
    (wp_bind (wp_mono q fun b H1 r => by
      cases b
      · exact wp_ok (r.2 rfl)
      · exact wp_bind (wp_mono (r.1 rfl) fun v H2 ⟨ys, R, u, hl, z⟩ => wp_ok (wp_bind (m_app u hl z)))))
  obtain ⟨a, K', st', e', q, s'⟩ := this st F sp
  refine ⟨a, K', st', ?_, q, s'⟩
  rw [lcLoop, sees_ok h sp, if_pos rfl]
  simp only [onLc, es]
  exact e'
/-- a comprehension whose turns leave the heap as it is: what each item gives -/
theorem lc_pure {t : Tg} {k : CL.B} {e : E} {D : Nat} {w : Watch} (g : Val → Option Val) (R : HL) : ∀ (xs ys : List Val), (∀ x ∈ xs, ∃ s1, setTg t x s = some s1 ∧ ∀ zs, WP B (ts c k s1) ((D, .lst zs) :: R) fun b K => K = (D, .lst zs) :: R ∧ Br b (WP B (ev c e s1) ((D, .lst zs) :: R) fun v K => K = (D, .lst zs) :: R ∧ g x = some v) (g x = none)) →
    Sees B R w → ys.length + xs.length < 1000000 → Q (.ref D) ((D, .lst (ys ++ xs.filterMap g)) :: R) → WL B c t k e s D w xs ((D, .lst ys) :: R) Q
  | [], ys, _, hs, _, q => lc_nil (fun i xs m => (hs i xs m).imp_left (List.mem_cons_of_mem _)) (by simpa using q)
  | x :: xs, ys, h, hs, hl, q => by
    obtain ⟨s1, es, h1⟩ := h x (by simp)
    refine lc_cons (fun i xs m => (hs i xs m).imp_left (List.mem_cons_of_mem _)) es (wp_mono (h1 ys) fun b K ⟨e1, br⟩ => ?_)
    subst e1
    simp only [List.length_cons] at hl
    refine ⟨fun hb => wp_mono (br.1 hb) fun v K ⟨e2, e3⟩ => ?_, fun hb => ?_⟩
    · subst e2
      refine ⟨ys, _, .here, by omega, lc_pure g R xs (ys ++ [v]) (fun y hy => h y (by simp [hy])) hs (by simp; omega) ?_⟩
      rw [List.filterMap_cons, e3] at q
      simpa using q
    · have e3 := br.2 hb
      refine lc_pure g R xs ys (fun y hy => h y (by simp [hy])) hs (by omega) ?_
      rw [List.filterMap_cons, e3] at q
      exact q
end
end CL
namespace CL
section
variable {B H R : HL} {s : Env} {G : Prog} {fuel d : Nat}
theorem e_callN {f : Nat} {es : Es} {Q : Val → HL → Prop} (h : WP B (evs (cxN G fuel d) es s) H fun vs H1 => WP B (callN G fuel d f vs) H1 Q) : WP B (ev (cxN G fuel d) (.call f es) s) H Q := e_call h
theorem e_metN {a : E} {m : PySem.Str} {es : Es} {Q : Val → HL → Prop} (h : WP B (ev (cxN G fuel d) a s) H fun x H1 => ∃ i k fs R f, x = .ref i ∧ Sub H1 [(i, .ins k fs)] R ∧ fs.lookup m = none ∧ G.mt k m = some f ∧ WP B (evs (cxN G fuel d) es s) H1 fun vs H2 => WP B (callN G fuel d f (.ref i :: vs)) H2 Q) :
    WP B (ev (cxN G fuel d) (.met a m es) s) H Q := e_met h
theorem e_makeN {k : Nat} {es : Es} {Q : Val → HL → Prop} (h : WP B (evs (cxN G fuel (d + 1)) es s) H fun vs H1 => ∃ f, G.ini k = some f ∧ ∀ p, WP B (callN G fuel d f (.ref p :: vs)) ((p, .ins k []) :: H1) fun v H2 => v = .non ∧ Q (.ref p) H2) : WP B (ev (cxN G fuel (d + 1)) (.make k es) s) H Q := e_make h
theorem w_callB {f np nl : Nat} {body : Ss} {vs : List Val} {Q : Val → HL → Prop} (e : G.fn f = some ⟨np, nl, body⟩) (hn : vs.length = np) (h : WSs B (cxN G fuel d) body (vs.map some ++ List.replicate (nl - np) none) H (fun _ K => Conv Q .non K) (Conv Q) (fun _ _ => False) (fun _ _ => False)) : WP B (callN G fuel (d + 1) f vs) H Q := w_call e hn h
/-- a call by what it is told to do -/
theorem wp_callee {m : Store → Res Val} {P Q : Val → HL → Prop} (h : WP B m H P) (k : ∀ v K, P v K → Q v K) : WP B m H Q := wp_mono h k
/-- what holds of an init's end -/
theorem non_and {P : Prop} (p : P) : Val.non = .non ∧ P := ⟨rfl, p⟩
end
end CL

/-! CL, part u: middles as plain data, and what a run of one does -/
namespace Md
open CL
inductive Kd where
  | num | tru | rc (r : PySem.Str) | row (k : Kd) | fn (ps : List Kd) (k : Kd)
mutual
def Kd.v : Kd → Val
  | .num => .tup [.str "number"]
  | .tru => .tup [.str "truth"]
  | .rc r => .tup [.str "record", .str r]
  | .row k => .tup [.str "row", k.v]
  | .fn ps k => .tup [.str "fun", .tup (Kd.vs ps), k.v]
def Kd.vs : List Kd → List Val
  | [] => []
  | k :: r => k.v :: Kd.vs r
end
inductive Op where
  | number | truth | add | sub | mul | lt | eq | and | or | not | long | close | div | rem | cell | get | store | set | make | fill | call | ask | tell | tick
  deriving DecidableEq
def Op.s : Op → PySem.Str
  | .number => "number" | .truth => "truth" | .add => "+" | .sub => "-" | .mul => "*" | .lt => "<" | .eq => "=" | .and => "and" | .or => "or" | .not => "not" | .long => "long" | .close => "close"
  | .div => "div" | .rem => "rem" | .cell => "cell" | .get => "get" | .store => "store" | .set => "set" | .make => "make" | .fill => "fill" | .call => "call" | .ask => "ask" | .tell => "tell" | .tick => "tick"
inductive More where
  | no | num (n : Int) | tru (b : Bool) | nm (f : PySem.Str)
@[reducible] def More.v : More → Val
  | .no => .tup []
  | .num n => .tup [.int n]
  | .tru b => .tup [.bl b]
  | .nm f => .tup [.str f]
@[reducible] def oI : Option Int → Val
  | none => .non
  | some x => .int x
@[reducible] def oK : Option Kd → Val
  | none => .non
  | some k => k.v
structure Row where
  x : Option Int
  kd : Option Kd
  op : Op
  args : List Int
  more : More
  line : Int
abbrev intsV (xs : List Int) : Val := .tup (xs.map .int)
abbrev Row.v (r : Row) : Val := .tup [oI r.x, oK r.kd, .str r.op.s, intsV r.args, r.more.v, .int r.line]
inductive End where
  | jump (b : Nat) (args : List Int) | branch (x : Int) (b c : Nat) | give (x : Int) | fail (w : PySem.Str) (l : Int)
@[reducible] def End.v : End → Val
  | .jump b args => .tup [.str "jump", .int b, intsV args]
  | .branch x b c => .tup [.str "branch", .int x, .int b, .int c]
  | .give x => .tup [.str "give", .int x]
  | .fail w l => .tup [.str "fail", .str w, .int l]
abbrev parV (p : Int × Kd) : Val := .tup [.int p.1, p.2.v]
structure Block where
  params : List (Int × Kd)
  rows : List Row
  en : End
abbrev Block.v (b : Block) : Val := .tup [.tup (b.params.map parV), .tup (b.rows.map Row.v), b.en.v]
structure Fun where
  name : PySem.Str
  kd : Kd
  blocks : List Block
abbrev Fun.v (f : Fun) : Val := .tup [.str f.name, f.kd.v, .tup (f.blocks.map Block.v)]
structure Mid where
  recs : List (PySem.Str × List Kd)
  funs : List Fun
abbrev recV (r : PySem.Str × List Kd) : Val := .tup [.str r.1, .tup (Kd.vs r.2)]
abbrev Mid.v (m : Mid) : Val := .tup [.tup (m.recs.map recV), .tup (m.funs.map Fun.v)]

/-! ### the run -/
/-- a value: a number, a truth, a thing by its number -/
inductive MV where
  | int (i : Int) | bl (b : Bool) | ref (n : Nat)
  deriving DecidableEq
inductive Thing where
  | cells (vs : List MV) | clo (f : PySem.Str) (vs : List MV)
  deriving DecidableEq
/-- what a row does -/
inductive Act where
  | give (v : MV) | new (t : Thing) | fault (w : PySem.Str) | tick | tell (v : MV) | upd (n : Nat) (t : Thing) | call (f : PySem.Str) (vs : List MV)
def br (n : Int) : Int := (n + 2147483648).fmod 4294967296 - 2147483648
def two (op : Op) (a b : Int) : Option Act := match op with
  | .add => some (.give (.int (br (a + b))))
  | .sub => some (.give (.int (br (a - b))))
  | .mul => if mulOk a b then some (.give (.int (br (a * b)))) else none
  | .lt => some (.give (.bl (decide (a < b))))
  | .eq => some (.give (.bl (decide (a = b))))
  | .div => if b = 0 then some (.fault "nought") else if b.natAbs < 18446744073709551616 then some (.give (.int (br (a.fdiv b)))) else none
  | .rem => if b = 0 then some (.fault "nought") else some (.give (.int (a.fmod b)))
  | _ => none
def act2 (op : Op) (more : More) (vs : List MV) : Option Act := match more, vs with
  | .no, [.int a, .int b] => two op a b
  | _, _ => none
def onCells (ts : List Thing) (n : Nat) (f : List MV → Option Act) : Option Act := match ts[n]? with
  | some (.cells ws) => f ws
  | _ => none
def actO (ts : List Thing) (op : Op) (more : More) (vs : List MV) : Option Act := match op with
  | .number => match more, vs with
    | .num n, [] => some (.give (.int n))
    | _, _ => none
  | .truth => match more, vs with
    | .tru b, [] => some (.give (.bl b))
    | _, _ => none
  | .not => match more, vs with
    | .no, [.bl a] => some (.give (.bl (!a)))
    | _, _ => none
  | .and => match more, vs with
    | .no, [.bl a, .bl b] => some (.give (.bl (a && b)))
    | _, _ => none
  | .or => match more, vs with
    | .no, [.bl a, .bl b] => some (.give (.bl (a || b)))
    | _, _ => none
  | .long => match more, vs with
    | .no, [.ref n] => onCells ts n fun ws => some (.give (.int ws.length))
    | _, _ => none
  | .close => match more, vs with
    | .nm f, vs => some (.new (.clo f vs))
    | _, _ => none
  | .cell => match more, vs with
    | .num k, [.ref n] => onCells ts n fun ws => if 0 ≤ k then (ws[k.toNat]?).map .give else none
    | _, _ => none
  | .get => match more, vs with
    | .no, [.ref n, .int i] => onCells ts n fun ws => if 0 ≤ i ∧ i < ws.length then (ws[i.toNat]?).map .give else some (.fault "place")
    | _, _ => none
  | .set => match more, vs with
    | .no, [.ref n, .int i, v] => onCells ts n fun ws => some (if 0 ≤ i ∧ i < ws.length then .upd n (.cells (ws.set i.toNat v)) else .fault "place")
    | _, _ => none
  | .store => match more, vs with
    | .num k, [.ref n, v] => onCells ts n fun ws => if 0 ≤ k ∧ k < ws.length then some (.upd n (.cells (ws.set k.toNat v))) else none
    | _, _ => none
  | .make => match more, vs with
    | .nm _, vs => some (.new (.cells vs))
    | _, _ => none
  | .fill => match more, vs with
    | .no, [.int k, v] => some (if 0 ≤ k ∧ k ≤ 60 then .new (.cells (List.replicate k.toNat v)) else .fault "great")
    | _, _ => none
  | .call => match more, vs with
    | .nm f, vs => some (.call f vs)
    | _, _ => none
  | .ask => match more, vs with
    | .no, .ref n :: vs => match ts[n]? with
      | some (.clo f ws) => some (.call f (ws ++ vs))
      | _ => none
    | _, _ => none
  | .tell => match more, vs with
    | .no, [v] => some (.tell v)
    | _, _ => none
  | .tick => match more, vs with
    | .no, [] => some .tick
    | _, _ => none
  | op => act2 op more vs
abbrev Ev := List (Int × MV)
def lookE (e : Ev) (x : Int) : Option MV := (e.find? fun kv => decide (kv.1 = x)).map (·.2)
def putE (e : Ev) (x : Int) (v : MV) : Ev := if e.any (fun kv => decide (kv.1 = x)) then e.map fun kv => if kv.1 = x then (kv.1, v) else kv else e ++ [(x, v)]
def looks (e : Ev) : List Int → Option (List MV)
  | [] => some []
  | x :: r => match lookE e x, looks e r with
    | some v, some vs => some (v :: vs)
    | _, _ => none
def binds (e : Ev) : List (Int × Kd) → List MV → Ev
  | p :: ps, v :: vs => binds (putE e p.1 v) ps vs
  | _, _ => e
structure Fr where
  blocks : List Block
  env : Ev
  tgt : Option Int
  block : Block
  at' : Nat
structure MS where
  things : List Thing
  told : List MV
  ticks : Int
  frames : List Fr
inductive Out where
  | done (v : MV) | fault (w : PySem.Str) (l : Int) | tired
def Fr.enter (f : Fr) (b : Nat) (vs : List MV) : Option Fr := match f.blocks[b]? with
  | some k => some { f with env := binds f.env k.params vs, block := k, at' := 0 }
  | none => none
def begin_ (m : Mid) (f : PySem.Str) (vs : List MV) (t : Option Int) : Option Fr := match m.funs.find? fun g => decide (g.name = f) with
  | some g => match g.blocks[0]? with
    | some k => some ⟨g.blocks, binds [] k.params vs, t, k, 0⟩
    | none => none
  | none => none
/-- a row's act is done; fr is the frame whose row it was -/
def actDo (m : Mid) (s : MS) (fr : Fr) (rest : List Fr) (x : Option Int) (line : Int) (a : Act) : Option (MS × Option Out) := match a, x with
  | .give v, some x => some ({ s with frames := { fr with env := putE fr.env x v } :: rest }, none)
  | .new t, some x => some ({ s with things := s.things ++ [t], frames := { fr with env := putE fr.env x (.ref s.things.length) } :: rest }, none)
  | .fault w, _ => some ({ s with frames := fr :: rest }, some (.fault w line))
  | .tick, _ => if s.ticks = 0 then some ({ s with frames := fr :: rest }, some .tired) else some ({ s with ticks := s.ticks - 1, frames := fr :: rest }, none)
  | .tell v, _ => some ({ s with told := s.told ++ [v], frames := fr :: rest }, none)
  | .upd n t, _ => some ({ s with things := s.things.set n t, frames := fr :: rest }, none)
  | .call f vs, x => (begin_ m f vs x).map fun g => ({ s with frames := g :: fr :: rest }, none)
  | _, _ => none
def endDo (s : MS) (fr : Fr) (rest : List Fr) (e : End) : Option (MS × Option Out) := match e with
  | .give x => match lookE fr.env x with
    | some v => match rest with
      | [] => some ({ s with frames := [] }, some (.done v))
      | g :: gs => match fr.tgt with
        | some t => some ({ s with frames := { g with env := putE g.env t v } :: gs }, none)
        | none => none
    | none => none
  | .fail w l => some ({ s with frames := fr :: rest }, some (.fault w l))
  | .jump b args => match looks fr.env args with
    | some vs => (fr.enter b vs).map fun f => ({ s with frames := f :: rest }, none)
    | none => none
  | .branch x b c => match lookE fr.env x with
    | some (.bl k) => (fr.enter (if k then b else c) []).map fun f => ({ s with frames := f :: rest }, none)
    | _ => none
def step (m : Mid) (s : MS) : Option (MS × Option Out) := match s.frames with
  | [] => none
  | fr :: rest => match fr.block.rows[fr.at']? with
    | some r => match looks fr.env r.args with
      | some vs => match actO s.things r.op r.more vs with
        | some a => actDo m s { fr with at' := fr.at' + 1 } rest r.x r.line a
        | none => none
      | none => none
    | none => endDo s fr rest fr.block.en
/-- so many steps, to the end -/
inductive Runs (m : Mid) : Nat → MS → MS → Out → Prop
  | last {s s' : MS} {o : Out} : step m s = some (s', some o) → Runs m 1 s s' o
  | more {n : Nat} {s s1 s' : MS} {o : Out} : step m s = some (s1, none) → Runs m n s1 s' o → Runs m (n + 1) s s' o
end Md

/-! CL, part v: a run's values against those of the store -/
namespace Md
open CL
inductive Rel (φ : List Nat) : MV → Val → Prop
  | int (i : Int) : Rel φ (.int i) (.int i)
  | bl (b : Bool) : Rel φ (.bl b) (.bl b)
  | ref {n a : Nat} (h : φ[n]? = some a) : Rel φ (.ref n) (.ref a)
inductive Rels (φ : List Nat) : List MV → List Val → Prop
  | nil : Rels φ [] []
  | cons {v : MV} {w : Val} {vs : List MV} {ws : List Val} (h : Rel φ v w) (r : Rels φ vs ws) : Rels φ (v :: vs) (w :: ws)
inductive EnvR (φ : List Nat) : Ev → List (L2.Key × Val) → Prop
  | nil : EnvR φ [] []
  | cons {x : Int} {v : MV} {w : Val} {e : Ev} {k : List (L2.Key × Val)} (h : Rel φ v w) (r : EnvR φ e k) : EnvR φ ((x, v) :: e) ((.inl x, w) :: k)
section
variable {φ ψ : List Nat}
theorem Rel.up {v : MV} {w : Val} (h : Rel φ v w) : Rel (φ ++ ψ) v w := by
  cases h with
  | int => exact .int _
  | bl => exact .bl _
  | ref h =>
    refine .ref ?_
    rw [List.getElem?_append_left (List.getElem?_eq_some_iff.mp h).1]; exact h
theorem Rels.up : ∀ {vs : List MV} {ws : List Val}, Rels φ vs ws → Rels (φ ++ ψ) vs ws
  | _, _, .nil => .nil
  | _, _, .cons h r => .cons h.up r.up
theorem EnvR.up : ∀ {e : Ev} {k : List (L2.Key × Val)}, EnvR φ e k → EnvR (φ ++ ψ) e k
  | _, _, .nil => .nil
  | _, _, .cons h r => .cons h.up r.up
theorem Rels.length : ∀ {vs : List MV} {ws : List Val}, Rels φ vs ws → ws.length = vs.length
  | _, _, .nil => rfl
  | _, _, .cons h r => by rw [List.length_cons, List.length_cons, r.length]
theorem Rels.get : ∀ {vs : List MV} {ws : List Val} {i : Nat} {v : MV}, Rels φ vs ws → vs[i]? = some v → ∃ w, ws[i]? = some w ∧ Rel φ v w
  | _, _, _, _, .nil, e => by simp at e
  | _, _, 0, _, .cons h r, e => by simp at e; subst e; exact ⟨_, rfl, h⟩
  | _, _, i + 1, _, .cons h r, e => by
    obtain ⟨w, e1, e2⟩ := r.get (i := i) (by simpa using e)
    exact ⟨w, by simpa using e1, e2⟩
theorem Rels.append : ∀ {vs vs' : List MV} {ws ws' : List Val}, Rels φ vs ws → Rels φ vs' ws' → Rels φ (vs ++ vs') (ws ++ ws')
  | _, _, _, _, .nil, h => h
  | _, _, _, _, .cons h r, k => .cons h (r.append k)
theorem Rels.set : ∀ {vs : List MV} {ws : List Val} (i : Nat) {v : MV} {w : Val}, Rels φ vs ws → Rel φ v w → Rels φ (vs.set i v) (ws.set i w)
  | _, _, _, _, _, .nil, _ => .nil
  | _, _, 0, _, _, .cons h r, k => .cons k r
  | _, _, i + 1, _, _, .cons h r, k => .cons h (r.set i k)
theorem Rels.rep (n : Nat) {v : MV} {w : Val} (h : Rel φ v w) : Rels φ (List.replicate n v) (List.replicate n w) := by
  induction n with
  | zero => exact .nil
  | succ n ih => exact .cons h ih
theorem EnvR.length : ∀ {e : Ev} {k : List (L2.Key × Val)}, EnvR φ e k → k.length = e.length
  | _, _, .nil => rfl
  | _, _, .cons h r => by rw [List.length_cons, List.length_cons, r.length]
theorem inl_dec (x y : Int) : decide ((Sum.inl x : L2.Key) = Sum.inl y) = decide (x = y) := by
  by_cases h : x = y
  · subst h; rw [decide_eq_true rfl, decide_eq_true rfl]
  · rw [decide_eq_false h, decide_eq_false (fun e => h (Sum.inl.inj e))]
theorem EnvR.look : ∀ {e : Ev} {k : List (L2.Key × Val)} {x : Int} {v : MV}, EnvR φ e k → lookE e x = some v → ∃ w, CL.look k (.inl x) = some w ∧ Rel φ v w
  | _, _, _, _, .nil, e => by simp [lookE] at e
  | _, _, x, _, .cons (x := y) h r, e => by
    unfold lookE at e
    unfold CL.look
    rw [List.find?_cons] at e ⊢
    simp only [inl_dec] at e ⊢
    cases hd : decide (y = x) with
    | true =>
      rw [hd] at e; simp at e; subst e
      exact ⟨_, rfl, h⟩
    | false =>
      rw [hd] at e
      exact r.look e
theorem EnvR.any : ∀ {e : Ev} {k : List (L2.Key × Val)} (x : Int), EnvR φ e k → k.any (fun kv => decide (kv.1 = .inl x)) = e.any (fun kv => decide (kv.1 = x))
  | _, _, x, .nil => rfl
  | _, _, x, .cons h r => by rw [List.any_cons, List.any_cons, inl_dec, r.any x]
theorem EnvR.map : ∀ {e : Ev} {k : List (L2.Key × Val)} (x : Int) {v : MV} {w : Val}, EnvR φ e k → Rel φ v w → EnvR φ (e.map fun kv => if kv.1 = x then (kv.1, v) else kv) (k.map fun kv => if kv.1 = .inl x then (kv.1, w) else kv)
  | _, _, x, _, _, .nil, _ => .nil
  | _, _, x, _, _, .cons (x := y) h r, q => by
    rw [List.map_cons, List.map_cons]
    by_cases hd : y = x
    · subst hd
      rw [if_pos rfl, if_pos rfl]
      exact .cons q (r.map y q)
    · rw [if_neg hd, if_neg (fun e => hd (Sum.inl.inj e))]
      exact .cons h (r.map x q)
theorem EnvR.snoc : ∀ {e : Ev} {k : List (L2.Key × Val)} {x : Int} {v : MV} {w : Val}, EnvR φ e k → Rel φ v w → EnvR φ (e ++ [(x, v)]) (k ++ [(.inl x, w)])
  | _, _, _, _, _, .nil, q => .cons q .nil
  | _, _, _, _, _, .cons h r, q => .cons h (r.snoc q)
theorem EnvR.put {e : Ev} {k : List (L2.Key × Val)} (x : Int) {v : MV} {w : Val} (h : EnvR φ e k) (q : Rel φ v w) : EnvR φ (putE e x v) (CL.put k (.inl x) w) := by
  unfold putE CL.put
  rw [h.any x]
  split
  · exact h.map x q
  · exact h.snoc q
/-- values of names, as told -/
def looksV (k : List (L2.Key × Val)) : List Int → Option (List Val)
  | [] => some []
  | x :: r => match CL.look k (.inl x), looksV k r with
    | some v, some vs => some (v :: vs)
    | _, _ => none
theorem EnvR.looks {e : Ev} {k : List (L2.Key × Val)} (h : EnvR φ e k) : ∀ {xs : List Int} {vs : List MV}, looks e xs = some vs → ∃ ws, looksV k xs = some ws ∧ Rels φ vs ws
  | [], vs, q => by cases q; exact ⟨[], rfl, .nil⟩
  | x :: r, vs, q => by
    unfold Md.looks at q
    cases e1 : lookE e x with
    | none => rw [e1] at q; cases q
    | some v =>
      cases e2 : Md.looks e r with
      | none => rw [e1, e2] at q; cases q
      | some us =>
        rw [e1, e2] at q; cases q
        obtain ⟨w, h1, h2⟩ := h.look e1
        obtain ⟨ws, h3, h4⟩ := h.looks e2
        exact ⟨w :: ws, by unfold looksV; rw [h1, h3], .cons h2 h4⟩
def lkV (k : List (L2.Key × Val)) : Val → Option Val
  | .int x => CL.look k (.inl x)
  | _ => none
theorem looksV_map {k : List (L2.Key × Val)} : ∀ {xs : List Int} {ws : List Val}, looksV k xs = some ws → (xs.map Val.int).filterMap (lkV k) = ws
  | [], ws, q => by cases q; rfl
  | x :: r, ws, q => by
    unfold looksV at q
    cases e1 : CL.look k (.inl x) with
    | none => rw [e1] at q; cases q
    | some v =>
      cases e2 : looksV k r with
      | none => rw [e1, e2] at q; cases q
      | some us =>
        rw [e1, e2] at q; cases q
        rw [List.map_cons, List.filterMap_cons]
        simp only [lkV, e1, looksV_map e2]
theorem looksV_some {k : List (L2.Key × Val)} : ∀ {xs : List Int} {ws : List Val} {x : Int}, looksV k xs = some ws → x ∈ xs → ∃ v, CL.look k (.inl x) = some v
  | [], _, _, _, h => by cases h
  | y :: r, ws, x, q, h => by
    unfold looksV at q
    cases e1 : CL.look k (.inl y) with
    | none => rw [e1] at q; cases q
    | some v =>
      cases e2 : looksV k r with
      | none => rw [e1, e2] at q; cases q
      | some us =>
        rcases List.mem_cons.mp h with rfl | h
        · exact ⟨v, e1⟩
        · exact looksV_some e2 h
theorem looksV_cut {k : List (L2.Key × Val)} : ∀ {xs : List Int} {ws : List Val} (n : Nat), looksV k xs = some ws → looksV k (xs.take n) = some (ws.take n) ∧ looksV k (xs.drop n) = some (ws.drop n)
  | [], _, n, q => by cases q; simp [looksV]
  | y :: r, ws, 0, q => by simp [looksV, q]
  | y :: r, ws, n + 1, q => by
    unfold looksV at q
    cases e1 : CL.look k (.inl y) with
    | none => rw [e1] at q; cases q
    | some v =>
      cases e2 : looksV k r with
      | none => rw [e1, e2] at q; cases q
      | some us =>
        rw [e1, e2] at q; cases q
        obtain ⟨h1, h2⟩ := looksV_cut n e2
        simp only [List.take_succ_cons, List.drop_succ_cons, looksV, e1, h1, h2, and_self]
end
end Md
namespace CL
theorem put_len {κ : Type} [DecidableEq κ] (kvs : List (κ × Val)) (k : κ) (v : Val) : (put kvs k v).length ≤ kvs.length + 1 := by
  unfold put
  split
  · rw [List.length_map]; omega
  · rw [List.length_append]; simp
end CL
namespace CL
theorem ixN_nat {n i : Nat} (h : i < n) : L2.ixN n (i : Int) = some i := by
  unfold L2.ixN
  rw [if_pos (by omega), if_pos (by omega), Int.toNat_natCast]
theorem ixN_int {n : Nat} {i : Int} (h : 0 ≤ i ∧ i < n) : L2.ixN n i = some i.toNat := by
  unfold L2.ixN
  rw [if_pos h.1, if_pos h.2]
theorem atI_nat {α : Type} {xs : List α} {i : Nat} {x : α} (h : xs[i]? = some x) : L2.atI xs (i : Int) = some x := by
  unfold L2.atI
  rw [ixN_nat (List.getElem?_eq_some_iff.mp h).1]; exact h
theorem atI_int {α : Type} {xs : List α} {i : Int} {x : α} (h0 : 0 ≤ i) (h : xs[i.toNat]? = some x) : L2.atI xs i = some x := by
  have := atI_nat h
  rwa [Int.toNat_of_nonneg h0] at this
theorem atI_last {α : Type} {xs : List α} {x : α} : L2.atI (xs ++ [x]) (-1) = some x := by
  unfold L2.atI L2.ixN
  have hl : (xs ++ [x]).length = xs.length + 1 := by simp
  rw [if_neg (by omega), if_pos (by omega), hl]
  have : (-1 + ((xs.length + 1 : Nat) : Int)).toNat = xs.length := by omega
  simp only [Option.bind, this]
  simp
end CL
namespace CL
theorem cut_from {α : Type} (xs : List α) (n : Nat) : cutL xs (some (n : Int)) none = xs.drop n := by
  unfold cutL
  rw [HT.sIx_nat, HT.sIx_none]
  by_cases h : n ≤ xs.length
  · rw [Nat.min_eq_left h]
    exact List.take_of_length_le (by simp)
  · rw [Nat.min_eq_right (by omega), List.drop_of_length_le (Nat.le_refl _), List.drop_of_length_le (by omega)]
    simp
theorem cut_to {α : Type} (xs : List α) (n : Nat) : cutL xs none (some (n : Int)) = xs.take n := by
  unfold cutL
  rw [HT.sIx_nat, HT.sIx_none, List.drop_zero, Nat.sub_zero]
  by_cases h : n ≤ xs.length
  · rw [Nat.min_eq_left h]
  · rw [Nat.min_eq_right (by omega), List.take_of_length_le (Nat.le_refl _), List.take_of_length_le (by omega)]
end CL
namespace Md
theorem act2_inv {op : Op} {more : More} {vs : List MV} {a : Act} (h : act2 op more vs = some a) : more = .no ∧ ∃ x y, vs = [.int x, .int y] ∧ two op x y = some a := by
  unfold act2 at h
  split at h
  · exact ⟨rfl, _, _, rfl, h⟩
  · cases h
theorem onCells_inv {ts : List Thing} {n : Nat} {f : List MV → Option Act} {a : Act} (h : onCells ts n f = some a) : ∃ ws, ts[n]? = some (.cells ws) ∧ f ws = some a := by
  unfold onCells at h
  split at h
  · rename_i ws e; exact ⟨ws, e, h⟩
  · cases h
end Md
namespace Md
theorem two_new {op : Op} {x y : Int} {t : Thing} (h : two op x y = some (.new t)) : False := by
  cases op <;> simp only [two] at h <;> try cases h
  · split at h <;> cases h
  · split at h
    · cases h
    · split at h <;> cases h
  · split at h <;> cases h
end Md
namespace Md
theorem two_give {op : Op} {x y : Int} {a : Act} (h : two op x y = some a) (hop : (op == .div || op == .rem) = false) : (∃ v, a = .give v) ∨ ∃ t, a = .new t := by
  cases op <;> simp only [two] at h <;> try cases h
  · exact .inl ⟨_, rfl⟩
  · exact .inl ⟨_, rfl⟩
  · split at h <;> cases h; exact .inl ⟨_, rfl⟩
  · exact .inl ⟨_, rfl⟩
  · exact .inl ⟨_, rfl⟩
  · cases hop
  · cases hop
end Md
namespace CL
theorem atI_zero {α : Type} {x : α} {xs : List α} : L2.atI (x :: xs) 0 = some x := atI_nat (i := 0) rfl
end CL

/-! CL, part w: what of a run stays within bounds -/
namespace Md
theorem putE_len (e : Ev) (x : Int) (v : MV) : (putE e x v).length ≤ e.length + 1 := by
  unfold putE
  split
  · rw [List.length_map]; omega
  · rw [List.length_append]; simp
theorem binds_len : ∀ (ps : List (Int × Kd)) (vs : List MV) (e : Ev), (binds e ps vs).length ≤ e.length + ps.length
  | [], _, e => by unfold binds; simp
  | p :: ps, [], e => by unfold binds; simp
  | p :: ps, v :: vs, e => by
    unfold binds
    have := binds_len ps vs (putE e p.1 v)
    have := putE_len e p.1 v
    simp only [List.length_cons]; omega
theorem looks_len {e : Ev} : ∀ {xs : List Int} {vs : List MV}, looks e xs = some vs → vs.length = xs.length
  | [], vs, h => by cases h; rfl
  | x :: r, vs, h => by
    unfold looks at h
    cases e1 : lookE e x with
    | none => rw [e1] at h; cases h
    | some v =>
      cases e2 : looks e r with
      | none => rw [e1, e2] at h; cases h
      | some us =>
        rw [e1, e2] at h; cases h
        rw [List.length_cons, List.length_cons, looks_len e2]
structure Small (m : Mid) (P : Nat) : Prop where
  P1 : 1 ≤ P
  ne : ∀ g ∈ m.funs, g.blocks ≠ []
  par : ∀ g ∈ m.funs, ∀ k ∈ g.blocks, k.params.length ≤ P
  row : ∀ g ∈ m.funs, ∀ k ∈ g.blocks, ∀ r ∈ k.rows, r.args.length ≤ 1000
  jmp : ∀ g ∈ m.funs, ∀ k ∈ g.blocks, ∀ b args, k.en = .jump b args → args.length ≤ 1000
def FrOk (m : Mid) (P n : Nat) (f : Fr) : Prop := f.env.length + n * P + P ≤ 800000 ∧ ∃ g ∈ m.funs, f.blocks = g.blocks ∧ f.block ∈ g.blocks
structure Fits (m : Mid) (P n : Nat) (s : MS) : Prop where
  told : s.told.length + n ≤ 900000
  frames : s.frames.length + n ≤ 900000
  frs : ∀ f ∈ s.frames, FrOk m P n f
  clo : ∀ (i : Nat) f us, s.things[i]? = some (.clo f us) → us.length ≤ 1000
theorem FrOk.less {m : Mid} {P n : Nat} {f : Fr} (h : FrOk m P (n + 1) f) : FrOk m P n f := by
  obtain ⟨h1, h2⟩ := h
  refine ⟨?_, h2⟩
  rw [Nat.succ_mul] at h1
  omega
theorem FrOk.put {m : Mid} {P n : Nat} {f : Fr} (h : FrOk m P (n + 1) f) (hP : 1 ≤ P) (x : Int) (v : MV) : FrOk m P n { f with env := putE f.env x v } := by
  obtain ⟨h1, h2⟩ := h
  refine ⟨?_, h2⟩
  have := putE_len f.env x v
  rw [Nat.succ_mul] at h1
  show (putE f.env x v).length + n * P + P ≤ 800000
  omega
theorem clo_set {ts : List Thing} {n : Nat} {vs : List MV} (h : ∀ (i : Nat) f us, ts[i]? = some (.clo f us) → us.length ≤ 1000) : ∀ (i : Nat) f us, (ts.set n (.cells vs))[i]? = some (.clo f us) → us.length ≤ 1000 := fun i f us e => by
  rw [List.getElem?_set] at e
  split at e
  · split at e <;> cases e
  · exact h i f us e
theorem clo_new {ts : List Thing} {t : Thing} (h : ∀ (i : Nat) f us, ts[i]? = some (.clo f us) → us.length ≤ 1000) (ht : ∀ f us, t = .clo f us → us.length ≤ 1000) : ∀ (i : Nat) f us, (ts ++ [t])[i]? = some (.clo f us) → us.length ≤ 1000 := fun i f us e => by
  rw [List.getElem?_append] at e
  split at e
  · exact h i f us e
  · cases hk : i - ts.length with
    | zero => rw [hk] at e; simp at e; exact ht f us e
    | succ k => rw [hk] at e; simp at e
/-- acts that make or change things: what of closes is told -/
theorem act_new {ts : List Thing} {op : Op} {more : More} {vs : List MV} {t : Thing} (h : actO ts op more vs = some (.new t)) : ∀ f us, t = .clo f us → us = vs := by
  intro f us e
  subst e
  cases op <;> simp only [actO] at h
  case close => split at h <;> cases h; rfl
  case make => split at h <;> cases h
  case fill =>
    split at h
    · split at h <;> cases h
    · cases h
  case get =>
    split at h
    · obtain ⟨us, e, h⟩ := onCells_inv h
      split at h
      · obtain ⟨v, _, h⟩ := Option.map_eq_some_iff.mp h; cases h
      · cases h
    · cases h
  case cell =>
    split at h
    · obtain ⟨us, e, h⟩ := onCells_inv h
      split at h
      · obtain ⟨v, _, h⟩ := Option.map_eq_some_iff.mp h; cases h
      · cases h
    · cases h
  case set =>
    split at h
    · obtain ⟨us, e, h⟩ := onCells_inv h
      split at h <;> cases h
    · cases h
  case store =>
    split at h
    · obtain ⟨us, e, h⟩ := onCells_inv h
      split at h <;> cases h
    · cases h
  case long =>
    split at h
    · obtain ⟨us, e, h⟩ := onCells_inv h; cases h
    · cases h
  case ask =>
    split at h
    · split at h <;> cases h
    · cases h
  all_goals first
    | (split at h <;> cases h; done)
    | (obtain ⟨_, x, y, _, h2⟩ := act2_inv h; exact (two_new h2).elim)
theorem act_upd {ts : List Thing} {op : Op} {more : More} {vs : List MV} {n : Nat} {t : Thing} (h : actO ts op more vs = some (.upd n t)) : ∃ us, t = .cells us := by
  cases op <;> simp only [actO] at h
  case set =>
    split at h
    · obtain ⟨us, e, h⟩ := onCells_inv h
      split at h <;> cases h; exact ⟨_, rfl⟩
    · cases h
  case store =>
    split at h
    · obtain ⟨us, e, h⟩ := onCells_inv h
      split at h <;> cases h; exact ⟨_, rfl⟩
    · cases h
  case fill =>
    split at h
    · split at h <;> cases h
    · cases h
  case get =>
    split at h
    · obtain ⟨us, e, h⟩ := onCells_inv h
      split at h
      · obtain ⟨v, _, h⟩ := Option.map_eq_some_iff.mp h; cases h
      · cases h
    · cases h
  case cell =>
    split at h
    · obtain ⟨us, e, h⟩ := onCells_inv h
      split at h
      · obtain ⟨v, _, h⟩ := Option.map_eq_some_iff.mp h; cases h
      · cases h
    · cases h
  case long =>
    split at h
    · obtain ⟨us, e, h⟩ := onCells_inv h; cases h
    · cases h
  case ask =>
    split at h
    · split at h <;> cases h
    · cases h
  all_goals first
    | (split at h <;> cases h; done)
    | (obtain ⟨_, x, y, _, h2⟩ := act2_inv h
       simp only [two] at h2
       first
         | (cases h2; done)
         | (split at h2 <;> first | (cases h2; done) | (split at h2 <;> cases h2)))
theorem Fits.step {m : Mid} {P n : Nat} {s s1 : MS} (S : Small m P) (F : Fits m P (n + 1) s) (h : step m s = some (s1, none)) : Fits m P n s1 := by
  have hP := S.P1
  unfold Md.step at h
  split at h
  · cases h
  · rename_i fr rest efr
    have Ff : ∀ f ∈ fr :: rest, FrOk m P (n + 1) f := by rw [← efr]; exact F.frs
    have Fl : (fr :: rest).length + (n + 1) ≤ 900000 := by rw [← efr]; exact F.frames
    have F0 := Ff fr (by simp)
    have Fr0 : ∀ f ∈ rest, FrOk m P n f := fun f hf => (Ff f (by simp [hf])).less
    have Ft := F.told
    simp only [List.length_cons] at Fl
    split at h
    · rename_i row erow
      split at h
      · rename_i vs evs
        split at h
        · rename_i a ea
          have hfr' : FrOk m P (n + 1) { fr with at' := fr.at' + 1 } := F0
          have hm : row ∈ fr.block.rows := List.mem_of_getElem? erow
          obtain ⟨_, g, hg, hgb, hgk⟩ := F0
          have hal := S.row g hg _ hgk _ hm
          have hvl := looks_len evs
          unfold actDo at h
          split at h
          · cases h
            exact ⟨by show s.told.length + n ≤ 900000; omega, by show rest.length + 1 + n ≤ 900000; omega, fun f hf => (by
              rcases List.mem_cons.mp hf with rfl | hf
              · exact hfr'.put hP _ _
              · exact Fr0 f hf), F.clo⟩
          · cases h
            exact ⟨by show s.told.length + n ≤ 900000; omega, by show rest.length + 1 + n ≤ 900000; omega, fun f hf => (by
              rcases List.mem_cons.mp hf with rfl | hf
              · exact hfr'.put hP _ _
              · exact Fr0 f hf), clo_new F.clo (fun f us e => by rw [act_new ea f us e]; omega)⟩
          · cases h
          · split at h
            · cases h
            · cases h
              exact ⟨by show s.told.length + n ≤ 900000; omega, by show rest.length + 1 + n ≤ 900000; omega, fun f hf => (by
                rcases List.mem_cons.mp hf with rfl | hf
                · exact hfr'.less
                · exact Fr0 f hf), F.clo⟩
          · cases h
            exact ⟨by show (s.told ++ [_]).length + n ≤ 900000; rw [List.length_append]; simp only [List.length_singleton]; omega, by show rest.length + 1 + n ≤ 900000; omega, fun f hf => (by
              rcases List.mem_cons.mp hf with rfl | hf
              · exact hfr'.less
              · exact Fr0 f hf), F.clo⟩
          · cases h
            obtain ⟨us, rfl⟩ := act_upd ea
            exact ⟨by show s.told.length + n ≤ 900000; omega, by show rest.length + 1 + n ≤ 900000; omega, fun f hf => (by
              rcases List.mem_cons.mp hf with rfl | hf
              · exact hfr'.less
              · exact Fr0 f hf), clo_set F.clo⟩
          · obtain ⟨g', hg', he⟩ := Option.map_eq_some_iff.mp h
            cases he
            unfold begin_ at hg'
            split at hg'
            · rename_i g0 eg
              split at hg'
              · rename_i k0 ek
                cases hg'
                have hgm := List.mem_of_find?_eq_some eg
                have hkm := List.mem_of_getElem? ek
                refine ⟨by show s.told.length + n ≤ 900000; omega, by show rest.length + 1 + 1 + n ≤ 900000; omega, fun f hf => ?_, F.clo⟩
                rcases List.mem_cons.mp hf with rfl | hf
                · refine ⟨?_, g0, hgm, rfl, hkm⟩
                  have h1 := binds_len k0.params (by assumption) []
                  have h2 := S.par g0 hgm k0 hkm
                  have h3 := hfr'.1
                  rw [Nat.succ_mul] at h3
                  show (binds [] k0.params _).length + n * P + P ≤ 800000
                  simp only [List.length_nil] at h1
                  omega
                · rcases List.mem_cons.mp hf with rfl | hf
                  · exact hfr'.less
                  · exact Fr0 f hf
              · cases hg'
            · cases hg'
          · cases h
        · cases h
      · cases h
    · unfold endDo at h
      split at h
      · split at h
        · split at h
          · cases h
          · rename_i g gs
            split at h
            · cases h
              simp only [List.length_cons] at Fl
              exact ⟨by show s.told.length + n ≤ 900000; omega, by show gs.length + 1 + n ≤ 900000; omega, fun f hf => (by
                rcases List.mem_cons.mp hf with rfl | hf
                · exact (Ff g (by simp)).put hP _ _
                · exact Fr0 f (by simp [hf])), F.clo⟩
            · cases h
        · cases h
      · cases h
      · split at h
        · rename_i vs evs
          obtain ⟨g', hg', he⟩ := Option.map_eq_some_iff.mp h
          cases he
          unfold Fr.enter at hg'
          split at hg'
          · rename_i k ek
            cases hg'
            refine ⟨by show s.told.length + n ≤ 900000; omega, by show rest.length + 1 + n ≤ 900000; omega, fun f hf => ?_, F.clo⟩
            rcases List.mem_cons.mp hf with rfl | hf
            · obtain ⟨h3, g, hg, hgb, hgk⟩ := F0
              have hkm := List.mem_of_getElem? ek
              rw [hgb] at hkm
              refine ⟨?_, g, hg, hgb, hkm⟩
              have h1 := binds_len k.params vs fr.env
              have h2 := S.par g hg k hkm
              rw [Nat.succ_mul] at h3
              show (binds fr.env k.params _).length + n * P + P ≤ 800000
              omega
            · exact Fr0 f hf
          · cases hg'
        · cases h
      · split at h
        · obtain ⟨g', hg', he⟩ := Option.map_eq_some_iff.mp h
          cases he
          unfold Fr.enter at hg'
          split at hg'
          · rename_i k ek
            cases hg'
            refine ⟨by show s.told.length + n ≤ 900000; omega, by show rest.length + 1 + n ≤ 900000; omega, fun f hf => ?_, F.clo⟩
            rcases List.mem_cons.mp hf with rfl | hf
            · obtain ⟨h3, g, hg, hgb, hgk⟩ := F0
              have hkm := List.mem_of_getElem? ek
              rw [hgb] at hkm
              refine ⟨?_, g, hg, hgb, hkm⟩
              have h1 := binds_len k.params [] fr.env
              have h2 := S.par g hg k hkm
              rw [Nat.succ_mul] at h3
              show (binds fr.env k.params _).length + n * P + P ≤ 800000
              omega
            · exact Fr0 f hf
          · cases hg'
        · cases h
end Md

/-! CL, part w2: dicts with written keys -/
namespace CL
inductive LookD : List (L2.Key × Val) → L2.Key → Val → Prop
  | here {k : L2.Key} {v : Val} {r : List (L2.Key × Val)} : LookD ((k, v) :: r) k v
  | there {k j : L2.Key} {v w : Val} {r : List (L2.Key × Val)} (h : decide (j = k) = false) (l : LookD r k v) : LookD ((j, w) :: r) k v
theorem LookD.eq : ∀ {kvs : List (L2.Key × Val)} {k : L2.Key} {v : Val}, LookD kvs k v → look kvs k = some v
  | _, _, _, .here => by unfold look; rw [List.find?_cons, decide_eq_true rfl]; rfl
  | _, _, _, .there h l => by
    have := l.eq
    unfold look at *
    rw [List.find?_cons]
    simp only [h, this]
inductive PutD : List (L2.Key × Val) → L2.Key → Val → List (L2.Key × Val) → Prop
  | nil {k : L2.Key} {v : Val} : PutD [] k v [(k, v)]
  | here {k : L2.Key} {v w : Val} {r : List (L2.Key × Val)} (h : r.any (fun kv => decide (kv.1 = k)) = false) : PutD ((k, w) :: r) k v ((k, v) :: r)
  | there {k j : L2.Key} {v w : Val} {r r' : List (L2.Key × Val)} (h : decide (j = k) = false) (l : PutD r k v r') : PutD ((j, w) :: r) k v ((j, w) :: r')
theorem map_none {k : L2.Key} {v : Val} : ∀ {r : List (L2.Key × Val)}, r.any (fun kv => decide (kv.1 = k)) = false → r.map (fun kv => if kv.1 = k then (kv.1, v) else kv) = r
  | [], _ => rfl
  | a :: r, h => by
    rw [List.any_cons, Bool.or_eq_false_iff] at h
    rw [List.map_cons, map_none h.2, if_neg (of_decide_eq_false h.1)]
theorem PutD.eq : ∀ {kvs : List (L2.Key × Val)} {k : L2.Key} {v : Val} {kvs' : List (L2.Key × Val)}, PutD kvs k v kvs' → put kvs k v = kvs'
  | _, _, _, _, .nil => rfl
  | _, _, _, _, .here h => by
    unfold put
    rw [List.any_cons, decide_eq_true rfl, Bool.true_or, if_pos rfl, List.map_cons, if_pos rfl, map_none h]
  | _, _, _, _, .there h l => by
    have := l.eq
    unfold put at *
    rw [List.any_cons, h, Bool.false_or, List.map_cons, if_neg (of_decide_eq_false h), List.cons_append, ← this]
    split <;> rfl
section
variable {B H R : HL} {kt : List (List Val)}
theorem x_dS {a : Nat} {kvs : List (L2.Key × Val)} {y v : Val} {k : L2.Key} {Q : Val → HL → Prop} (u : Sub H [(a, .dK kvs)] R) (hk : key1 y = some k) (h : LookD kvs k v) (q : Q v H) : WP B (subV kt (.ref a) y) H Q := x_dK u hk h.eq q
theorem d_gS {a : Nat} {kvs : List (L2.Key × Val)} {y v : Val} {k : L2.Key} {Q : Val → HL → Prop} (u : Sub H [(a, .dK kvs)] R) (hk : key1 y = some k) (h : LookD kvs k v) (q : Q v H) : WP B (getD kt (.ref a) y) H Q := d_get u hk h.eq q
theorem y_dS {a : Nat} {kvs kvs' : List (L2.Key × Val)} {y v : Val} {k : L2.Key} {K : HL} {Q : Val → HL → Prop} (u0 : Sub H [(a, .dK kvs)] R) (hk : key1 y = some k) (h : PutD kvs k v kvs') (hl : kvs.length < 1000000) (u : Upd H a (.dK kvs) (.dK kvs') K) (q : Q .non K) : WP B (putV kt (.ref a) y v) H Q :=
  y_dK (by rw [h.eq]; exact u) hk hl q
theorem d_pS {a : Nat} {kvs kvs' : List (L2.Key × Val)} {y v : Val} {k : L2.Key} {K : HL} {Q : Val → HL → Prop} (u0 : Sub H [(a, .dK kvs)] R) (hk : key1 y = some k) (h : PutD kvs k v kvs') (hl : kvs.length < 1000000) (u : Upd H a (.dK kvs) (.dK kvs') K) (q : Q .non K) : WP B (putD kt (.ref a) y v) H Q :=
  d_put (by rw [h.eq]; exact u) hk hl q
end
end CL

/-! CL, part w3: outcomes compared -/
namespace Md
open CL PySem
theorem dat_ints (st : Store) (k : Nat) : ∀ ns : List Int, allO ((ns.map Val.int).map (dat st (k + 1))) = some (ns.map PyData.int)
  | [] => rfl
  | n :: r => by
    have ih := dat_ints st k r
    show allO (some (PyData.int n) :: (r.map Val.int).map (dat st (k + 1))) = _
    rw [allO, ih]; rfl
theorem eqv_ints : ∀ ns : List Int, PyData.eqvAll (ns.map PyData.int) (ns.map PyData.int) = true
  | [] => by simp [PyData.eqvAll]
  | n :: r => by rw [List.map_cons, PyData.eqvAll, eqv_ints r]; simp [PyData.eqv]
theorem lay_ints : ∀ ns : List Int, PyData.canLayAll0 (ns.map PyData.int) = true
  | [] => by simp [PyData.canLayAll0]
  | n :: r => by rw [List.map_cons, PyData.canLayAll0, lay_ints r]; simp [PyData.canLay0]
theorem deep_ints : ∀ ns : List Int, PyData.depthAll (ns.map PyData.int) = 0
  | [] => by simp [PyData.depthAll]
  | n :: r => by rw [List.map_cons, PyData.depthAll, deep_ints r]; simp [PyData.depth]
def endV : Out → Val
  | .done (.int v) => .tup [.str "done", .int v]
  | .done _ => .non
  | .fault w l => .tup [.str "fault", .str w, .int l]
  | .tired => .tup [.str "tired"]
def endD : Out → PyData
  | .done (.int v) => .tuple [.str "done", .int v]
  | .done _ => .none
  | .fault w l => .tuple [.str "fault", .str w, .int l]
  | .tired => .tuple [.str "tired"]
/-- an end that laws speak of -/
def OutOk : Out → Prop
  | .done (.int _) => True
  | .done _ => False
  | .fault w _ => w = "nought" ∨ w = "place" ∨ w = "great" ∨ w = "fail" ∨ w = "lack"
  | .tired => True
theorem dat_end (st : Store) (o : Out) (h : OutOk o) (k : Nat) : dat st (k + 2) (endV o) = some (endD o) := by
  cases o with
  | done v => cases v <;> first | rfl | exact h.elim
  | fault w l => rfl
  | tired => rfl
theorem eqv_end (o : Out) (h : OutOk o) : PyData.eqv (endD o) (endD o) = true := by
  cases o with
  | done v => cases v <;> first | (simp [endD, PyData.eqv, PyData.eqvAll]; done) | exact h.elim
  | fault w l => simp [endD, PyData.eqv, PyData.eqvAll]
  | tired => simp [endD, PyData.eqv, PyData.eqvAll]
theorem lay_end (o : Out) (h : OutOk o) : PyData.canLay0 (endD o) = true := by
  cases o with
  | done v => cases v <;> first | (simp only [endD, PyData.canLay0, PyData.canLayAll0]; decide +kernel) | exact h.elim
  | fault w l => rcases h with rfl | rfl | rfl | rfl | rfl <;> (simp only [endD, PyData.canLay0, PyData.canLayAll0]; decide +kernel)
  | tired => simp only [endD, PyData.canLay0, PyData.canLayAll0]; decide +kernel
theorem deep_end (o : Out) : PyData.depth (endD o) ≤ 1 := by
  cases o with
  | done v => cases v <;> simp [endD, PyData.depth, PyData.depthAll]
  | fault w l => simp [endD, PyData.depth, PyData.depthAll]
  | tired => simp [endD, PyData.depth, PyData.depthAll]
theorem eq_told {st : Store} {a b : Nat} {ns : List Int} {o : Out} (ho : OutOk o) (ha : st.m a = some (.lst (ns.map .int))) (hb : st.m b = some (.lst (ns.map .int))) : eqV st (.tup [.ref a, endV o]) (.tup [.ref b, endV o]) = some true := by
  have h1 : ∀ c, st.m c = some (.lst (ns.map .int)) → dat st deep (.tup [.ref c, endV o]) = some (.tuple [.list (ns.map PyData.int), endD o]) := fun c hc => by
    show (allO [dat st 69 (.ref c), dat st 69 (endV o)]).map PyData.tuple = _
    have e1 : dat st 69 (.ref c) = some (.list (ns.map PyData.int)) := by
      show (match st.m c with | some (.lst xs) => (allO (xs.map (dat st 68))).map PyData.list | _ => none) = _
      rw [hc]
      show (allO ((ns.map Val.int).map (dat st 68))).map PyData.list = _
      rw [dat_ints st 67 ns]; rfl
    rw [e1, dat_end st o ho 67]; rfl
  unfold eqV
  have e0 : eq0 (.tup [.ref a, endV o]) (.tup [.ref b, endV o]) = none := rfl
  rw [e0]
  simp only [h1 a ha, h1 b hb]
  have s1 : SeqAt.shaped (.tuple [.list (ns.map PyData.int), endD o]) = true := by
    unfold SeqAt.shaped
    rw [Bool.and_eq_true]
    refine ⟨?_, decide_eq_true ?_⟩
    · simp only [PyData.canLay0, PyData.canLayAll0, lay_ints, lay_end o ho, Bool.and_self]
    · have := deep_end o
      simp only [PyData.depth, PyData.depthAll, deep_ints]
      omega
  rw [s1]
  simp only [Bool.and_self, if_true, PyData.eqv, PyData.eqvAll, eqv_ints, eqv_end o ho]
theorem eq_lists {st : Store} {a b : Nat} {ns : List Int} (ha : st.m a = some (.lst (ns.map .int))) (hb : st.m b = some (.lst (ns.map .int))) : eqV st (.ref a) (.ref b) = some true := by
  have h1 : ∀ c, st.m c = some (.lst (ns.map .int)) → dat st deep (.ref c) = some (.list (ns.map PyData.int)) := fun c hc => by
    show (match st.m c with | some (.lst xs) => (allO (xs.map (dat st 69))).map PyData.list | _ => none) = _
    rw [hc]
    show (allO ((ns.map Val.int).map (dat st 69))).map PyData.list = _
    rw [dat_ints st 68 ns]; rfl
  unfold eqV
  have e0 : eq0 (.ref a) (.ref b) = none := rfl
  rw [e0]
  simp only [h1 a ha, h1 b hb]
  have s1 : SeqAt.shaped (.list (ns.map PyData.int)) = true := by
    unfold SeqAt.shaped
    rw [Bool.and_eq_true]
    refine ⟨?_, decide_eq_true ?_⟩
    · simp only [PyData.canLay0, lay_ints]
    · simp only [PyData.depth, deep_ints]; omega
  rw [s1]
  simp only [Bool.and_self, if_true, PyData.eqv, eqv_ints]
end Md
namespace CL
section
variable {B H K : HL} {c : Ctx} {s : Env} {Q : Val → HL → Prop}
theorem wl_perm {t : Tg} {k : CL.B} {e : E} {D : Nat} {w : Watch} {xs : List Val} (p : H.Perm K) (h : WL B c t k e s D w xs K Q) : WL B c t k e s D w xs H Q := wp_perm p h
theorem x_cutB {a : Nat} {xs : List Val} {l h : Option Val} {l' h' : Option Int} (u : (a, .lst xs) ∈ B) (e1 : part l = some l') (e2 : part h = some h') (q : ∀ p, Q (.ref p) ((p, .lst (cutL xs l' h')) :: H)) : WP B (cutV (.ref a) l h) H Q := fun st F s => by
  obtain ⟨v, K, st', e, q, s'⟩ := wp_mk (B := B) q st F s
  exact ⟨v, K, st', by simp only [cutV, e1, e2, fix_at u s, e], q, s'⟩
theorem f_lenB {a : Nat} {xs : List Val} (u : (a, .lst xs) ∈ B) (q : Q (.int xs.length) H) : WP B (bfn .len [.ref a]) H Q := wp_of (fun st F s => by simp only [bfn, fix_at u s]) q
end
end CL
namespace Md
theorem lookE_here {x : Int} {v : MV} {e : Ev} : lookE ((x, v) :: e) x = some v := by
  unfold lookE
  rw [List.find?_cons, decide_eq_true rfl]; rfl
theorem lookE_there {x y : Int} {v : MV} {e : Ev} (h : y ≠ x) : lookE ((y, v) :: e) x = lookE e x := by
  unfold lookE
  rw [List.find?_cons, decide_eq_false (show ¬ (y, v).1 = x from h)]
theorem putE_nil {x : Int} {v : MV} : putE [] x v = [(x, v)] := rfl
theorem putE_cons_ne {x y : Int} {v w : MV} {e : Ev} (h : y ≠ x) : putE ((y, w) :: e) x v = (y, w) :: putE e x v := by
  unfold putE
  rw [List.any_cons, decide_eq_false (show ¬ (y, w).1 = x from h), Bool.false_or, List.map_cons, if_neg (show ¬ (y, w).1 = x from h), List.cons_append]
  split <;> rfl
theorem Runs.row {m : Mid} {n : Nat} {ts : List Thing} {told : List MV} {ti : Int} {bs : List Block} {e : Ev} {tg : Option Int} {k : Block} {i : Nat} {rest : List Fr} {s1 s' : MS} {o : Out} {row : Row} {vs : List MV} {a : Act}
    (hr : k.rows[i]? = some row) (hl : looks e row.args = some vs) (ha : actO ts row.op row.more vs = some a) (hd : actDo m ⟨ts, told, ti, ⟨bs, e, tg, k, i⟩ :: rest⟩ ⟨bs, e, tg, k, i + 1⟩ rest row.x row.line a = some (s1, none)) (h : Runs m n s1 s' o) : Runs m (n + 1) ⟨ts, told, ti, ⟨bs, e, tg, k, i⟩ :: rest⟩ s' o := by
  refine .more ?_ h
  unfold step
  simp only [hr, hl, ha]
  exact hd
theorem Runs.rowEnd {m : Mid} {ts : List Thing} {told : List MV} {ti : Int} {bs : List Block} {e : Ev} {tg : Option Int} {k : Block} {i : Nat} {rest : List Fr} {s' : MS} {o : Out} {row : Row} {vs : List MV} {a : Act}
    (hr : k.rows[i]? = some row) (hl : looks e row.args = some vs) (ha : actO ts row.op row.more vs = some a) (hd : actDo m ⟨ts, told, ti, ⟨bs, e, tg, k, i⟩ :: rest⟩ ⟨bs, e, tg, k, i + 1⟩ rest row.x row.line a = some (s', some o)) : Runs m 1 ⟨ts, told, ti, ⟨bs, e, tg, k, i⟩ :: rest⟩ s' o := by
  refine .last ?_
  unfold step
  simp only [hr, hl, ha]
  exact hd
theorem Runs.jmp {m : Mid} {n : Nat} {ts : List Thing} {told : List MV} {ti : Int} {bs : List Block} {e : Ev} {tg : Option Int} {k : Block} {i : Nat} {rest : List Fr} {s1 s' : MS} {o : Out}
    (hr : k.rows[i]? = none) (hd : endDo ⟨ts, told, ti, ⟨bs, e, tg, k, i⟩ :: rest⟩ ⟨bs, e, tg, k, i⟩ rest k.en = some (s1, none)) (h : Runs m n s1 s' o) : Runs m (n + 1) ⟨ts, told, ti, ⟨bs, e, tg, k, i⟩ :: rest⟩ s' o := by
  refine .more ?_ h
  unfold step
  simp only [hr]
  exact hd
theorem Runs.stop {m : Mid} {ts : List Thing} {told : List MV} {ti : Int} {bs : List Block} {e : Ev} {tg : Option Int} {k : Block} {i : Nat} {rest : List Fr} {s' : MS} {o : Out}
    (hr : k.rows[i]? = none) (hd : endDo ⟨ts, told, ti, ⟨bs, e, tg, k, i⟩ :: rest⟩ ⟨bs, e, tg, k, i⟩ rest k.en = some (s', some o)) : Runs m 1 ⟨ts, told, ti, ⟨bs, e, tg, k, i⟩ :: rest⟩ s' o := by
  refine .last ?_
  unfold step
  simp only [hr]
  exact hd
/-- a row that gives a new name -/
theorem Runs.gives {m : Mid} {n : Nat} {ts : List Thing} {told : List MV} {ti : Int} {bs : List Block} {e e' : Ev} {tg : Option Int} {k : Block} {i : Nat} {rest : List Fr} {s' : MS} {o : Out} {row : Row} {vs : List MV} {v : MV} {x : Int}
    (hr : k.rows[i]? = some row) (hx : row.x = some x) (hl : looks e row.args = some vs) (ha : actO ts row.op row.more vs = some (.give v)) (hp : putE e x v = e') (h : Runs m n ⟨ts, told, ti, ⟨bs, e', tg, k, i + 1⟩ :: rest⟩ s' o) : Runs m (n + 1) ⟨ts, told, ti, ⟨bs, e, tg, k, i⟩ :: rest⟩ s' o :=
  .row hr hl ha (by rw [hx]; simp only [actDo, hp]) h
theorem Runs.makes {m : Mid} {n : Nat} {ts : List Thing} {told : List MV} {ti : Int} {bs : List Block} {e e' : Ev} {tg : Option Int} {k : Block} {i : Nat} {rest : List Fr} {s' : MS} {o : Out} {row : Row} {vs : List MV} {t : Thing} {x : Int}
    (hr : k.rows[i]? = some row) (hx : row.x = some x) (hl : looks e row.args = some vs) (ha : actO ts row.op row.more vs = some (.new t)) (hp : putE e x (.ref ts.length) = e') (h : Runs m n ⟨ts ++ [t], told, ti, ⟨bs, e', tg, k, i + 1⟩ :: rest⟩ s' o) : Runs m (n + 1) ⟨ts, told, ti, ⟨bs, e, tg, k, i⟩ :: rest⟩ s' o :=
  .row hr hl ha (by rw [hx]; simp only [actDo, hp]) h
theorem Runs.tells {m : Mid} {n : Nat} {ts : List Thing} {told : List MV} {ti : Int} {bs : List Block} {e : Ev} {tg : Option Int} {k : Block} {i : Nat} {rest : List Fr} {s' : MS} {o : Out} {row : Row} {vs : List MV} {v : MV}
    (hr : k.rows[i]? = some row) (hl : looks e row.args = some vs) (ha : actO ts row.op row.more vs = some (.tell v)) (h : Runs m n ⟨ts, told ++ [v], ti, ⟨bs, e, tg, k, i + 1⟩ :: rest⟩ s' o) : Runs m (n + 1) ⟨ts, told, ti, ⟨bs, e, tg, k, i⟩ :: rest⟩ s' o :=
  .row hr hl ha (by cases row.x <;> rfl) h
theorem Runs.ticks {m : Mid} {n : Nat} {ts : List Thing} {told : List MV} {ti : Int} {bs : List Block} {e : Ev} {tg : Option Int} {k : Block} {i : Nat} {rest : List Fr} {s' : MS} {o : Out} {row : Row}
    (hr : k.rows[i]? = some row) (hl : looks e row.args = some []) (ha : actO ts row.op row.more [] = some .tick) (ht : ti ≠ 0) (h : Runs m n ⟨ts, told, ti - 1, ⟨bs, e, tg, k, i + 1⟩ :: rest⟩ s' o) : Runs m (n + 1) ⟨ts, told, ti, ⟨bs, e, tg, k, i⟩ :: rest⟩ s' o :=
  .row hr hl ha (by cases row.x <;> (simp only [actDo]; rw [if_neg ht])) h
theorem Runs.upds {m : Mid} {n : Nat} {ts : List Thing} {told : List MV} {ti : Int} {bs : List Block} {e : Ev} {tg : Option Int} {k : Block} {i : Nat} {rest : List Fr} {s' : MS} {o : Out} {row : Row} {vs : List MV} {j : Nat} {t : Thing}
    (hr : k.rows[i]? = some row) (hl : looks e row.args = some vs) (ha : actO ts row.op row.more vs = some (.upd j t)) (h : Runs m n ⟨ts.set j t, told, ti, ⟨bs, e, tg, k, i + 1⟩ :: rest⟩ s' o) : Runs m (n + 1) ⟨ts, told, ti, ⟨bs, e, tg, k, i⟩ :: rest⟩ s' o :=
  .row hr hl ha (by cases row.x <;> rfl) h
theorem Runs.faults {m : Mid} {ts : List Thing} {told : List MV} {ti : Int} {bs : List Block} {e : Ev} {tg : Option Int} {k : Block} {i : Nat} {rest : List Fr} {row : Row} {vs : List MV} {w : PySem.Str} {l : Int}
    (hr : k.rows[i]? = some row) (hl : looks e row.args = some vs) (ha : actO ts row.op row.more vs = some (.fault w)) (hi : row.line = l) : Runs m 1 ⟨ts, told, ti, ⟨bs, e, tg, k, i⟩ :: rest⟩ ⟨ts, told, ti, ⟨bs, e, tg, k, i + 1⟩ :: rest⟩ (.fault w l) :=
  .rowEnd hr hl ha (by subst hi; cases row.x <;> rfl)
/-- a give in the last frame -/
theorem Runs.done {m : Mid} {ts : List Thing} {told : List MV} {ti : Int} {bs : List Block} {e : Ev} {tg : Option Int} {k : Block} {i : Nat} {x : Int} {v : MV} (hr : k.rows[i]? = none) (he : k.en = .give x) (hv : lookE e x = some v) : Runs m 1 ⟨ts, told, ti, [⟨bs, e, tg, k, i⟩]⟩ ⟨ts, told, ti, []⟩ (.done v) :=
  .stop hr (by rw [he]; simp only [endDo, hv])
theorem Runs.branch {m : Mid} {n : Nat} {ts : List Thing} {told : List MV} {ti : Int} {bs : List Block} {e : Ev} {tg : Option Int} {k k' : Block} {i b c : Nat} {x : Int} {t : Bool} {rest : List Fr} {s' : MS} {o : Out} (hr : k.rows[i]? = none) (he : k.en = .branch x b c) (hv : lookE e x = some (.bl t)) (hb : bs[if t then b else c]? = some k') (hp : k'.params = [])
    (h : Runs m n ⟨ts, told, ti, ⟨bs, e, tg, k', 0⟩ :: rest⟩ s' o) : Runs m (n + 1) ⟨ts, told, ti, ⟨bs, e, tg, k, i⟩ :: rest⟩ s' o :=
  .jmp hr (by rw [he]; simp only [endDo, hv, Fr.enter, hb, hp, Option.map, binds]) h
end Md

/-! CL, part w4: rows that tell cells one by one -/
namespace Md
/-- all names of an env are less -/
def Under (e : Ev) (n : Int) : Prop := ∀ kv ∈ e, kv.1 < n
theorem put_new {e : Ev} {n : Int} {v : MV} (h : Under e n) : putE e n v = e ++ [(n, v)] := by
  unfold putE
  rw [if_neg]
  rw [Bool.not_eq_true, List.any_eq_false]
  intro kv hk
  have := h kv hk
  rw [decide_eq_true_eq]; omega
theorem look_old {e : Ev} {n x : Int} {v : MV} (h : x ≠ n) : lookE (e ++ [(n, v)]) x = lookE e x := by
  induction e with
  | nil => exact lookE_there (e := []) (fun h' => h h'.symm)
  | cons a r ih =>
    rw [List.cons_append]
    by_cases ha : a.1 = x
    · obtain ⟨a1, a2⟩ := a
      subst ha
      rw [lookE_here, lookE_here]
    · obtain ⟨a1, a2⟩ := a
      rw [lookE_there ha, lookE_there ha]; exact ih
theorem look_new {e : Ev} {n : Int} {v : MV} (h : Under e n) : lookE (e ++ [(n, v)]) n = some v := by
  induction e with
  | nil => exact lookE_here
  | cons a r ih =>
    obtain ⟨a1, a2⟩ := a
    have := h (a1, a2) (by simp)
    rw [List.cons_append, lookE_there (by show a1 ≠ n; have : a1 < n := this; omega)]
    exact ih fun kv hk => h kv (by simp [hk])
theorem Under.snoc {e : Ev} {n m : Int} {v : MV} (h : Under e n) (hm : n < m) : Under (e ++ [(n, v)]) m := fun kv hk => by
  rcases List.mem_append.mp hk with hk | hk
  · have := h kv hk; omega
  · cases List.mem_singleton.mp hk; exact hm
/-- a run's end and what was told -/
def Ends (m : Mid) (n : Nat) (s : MS) (told : List MV) (o : Out) : Prop := ∃ s', Runs m n s s' o ∧ s'.told = told
/-- cell rows, each told -/
def tellRows (x nx ln : Int) (k : Nat) : Nat → List Row
  | 0 => []
  | n + 1 => ⟨some nx, some .num, .cell, [x], .num k, ln + 1⟩ :: ⟨none, none, .tell, [nx], .no, ln + 1 + 1⟩ :: tellRows x (nx + 1) (ln + 1 + 1) (k + 1) n
theorem run_tells {m : Mid} {ts : List Thing} {ti : Int} {bs : List Block} {tg : Option Int} {blk : Block} {rest : List Fr} {x : Int} {j : Nat} {ws : List MV} {o : Out} {T : List MV} (hj : ts[j]? = some (.cells ws)) : ∀ (n k : Nat) (nx ln : Int) (e : Ev) (told : List MV) (pre post : List Row) (n' : Nat),
    blk.rows = pre ++ (tellRows x nx ln k n ++ post) → lookE e x = some (.ref j) → Under e nx → x < nx → k + n ≤ ws.length →
    (∀ e', (∀ y, y < nx → lookE e' y = lookE e y) → Under e' (nx + n) → Ends m n' ⟨ts, told ++ (ws.drop k).take n, ti, ⟨bs, e', tg, blk, pre.length + 2 * n⟩ :: rest⟩ T o) →
    Ends m (2 * n + n') ⟨ts, told, ti, ⟨bs, e, tg, blk, pre.length⟩ :: rest⟩ T o
  | 0, k, nx, ln, e, told, pre, post, n', hr, hx, hu, hlt, hk, c => by
    have := c e (fun _ _ => rfl) (by simpa using hu)
    simpa using this
  | n + 1, k, nx, ln, e, told, pre, post, n', hr, hx, hu, hlt, hk, c => by
    have hw : ws[k]? = some ws[k] := List.getElem?_eq_getElem (by omega)
    have e1 : (ws.drop k).take (n + 1) = ws[k] :: (ws.drop (k + 1)).take n := by
      rw [List.drop_eq_getElem_cons (by omega), List.take_succ_cons]
    rw [tellRows] at hr
    have r1 : blk.rows[pre.length]? = some ⟨some nx, some .num, .cell, [x], .num k, ln + 1⟩ := by rw [hr, List.getElem?_append_right (Nat.le_refl _)]; simp
    have r2 : blk.rows[pre.length + 1]? = some ⟨none, none, .tell, [nx], .no, ln + 1 + 1⟩ := by rw [hr, List.getElem?_append_right (by omega)]; simp
    have a1 : actO ts .cell (.num k) [.ref j] = some (.give ws[k]) := by
      show (match ts[j]? with | some (.cells us) => (if (0 : Int) ≤ (k : Int) then (us[(k : Int).toNat]?).map Act.give else none) | _ => none) = _
      rw [hj]
      show (if (0 : Int) ≤ (k : Int) then (ws[(k : Int).toNat]?).map Act.give else none) = _
      rw [if_pos (by omega), Int.toNat_natCast, hw]; rfl
    have ih := run_tells (m := m) (x := x) (blk := blk) (o := o) (T := T) (bs := bs) (tg := tg) (rest := rest) (ti := ti) hj n (k + 1) (nx + 1) (ln + 1 + 1) (e ++ [(nx, ws[k])]) (told ++ [ws[k]]) (pre ++ [⟨some nx, some .num, .cell, [x], .num k, ln + 1⟩, ⟨none, none, .tell, [nx], .no, ln + 1 + 1⟩]) post n' (by rw [hr]; simp) (by rw [look_old (by omega)]; exact hx) (hu.snoc (by omega)) (by omega) (by omega) fun e' h1 h2 => by
        have := c e' (fun y hy => by rw [h1 y (by omega), look_old (by omega)]) (by rw [show nx + ((n + 1 : Nat) : Int) = nx + 1 + n by omega]; exact h2)
        rw [e1] at this
        rw [List.append_assoc, List.length_append]
        simpa [show pre.length + 2 * (n + 1) = pre.length + 2 + 2 * n by omega] using this
    obtain ⟨s', h1, h2⟩ := ih
    refine ⟨s', ?_, h2⟩
    rw [show 2 * (n + 1) + n' = 2 * n + n' + 1 + 1 by omega]
    refine .gives r1 rfl (show looks e [x] = some [.ref j] by unfold looks; rw [hx]; rfl) a1 (put_new hu) (.tells r2 (show looks _ [nx] = some [ws[k]] by unfold looks; rw [look_new hu]; rfl) rfl ?_)
    rw [List.length_append] at h1
    exact h1
theorem tellRows_snoc (x : Int) : ∀ (n k : Nat) (nx ln : Int), tellRows x nx ln k (n + 1) = tellRows x nx ln k n ++ [⟨some (nx + n), some .num, .cell, [x], .num (k + n : Nat), ln + 2 * n + 1⟩, ⟨none, none, .tell, [nx + n], .no, ln + 2 * n + 1 + 1⟩]
  | 0, k, nx, ln => by simp [tellRows]
  | n + 1, k, nx, ln => by
    rw [tellRows, tellRows_snoc x n (k + 1) (nx + 1) (ln + 1 + 1), tellRows]
    rw [show nx + 1 + (n : Int) = nx + (n + 1 : Nat) by omega, show k + 1 + n = k + (n + 1) by omega, show ln + 1 + 1 + 2 * (n : Int) = ln + 2 * ((n + 1 : Nat) : Int) by omega]
    rfl
end Md
namespace Md
theorem tellRows_len (x : Int) : ∀ (n k : Nat) (nx ln : Int), (tellRows x nx ln k n).length = 2 * n
  | 0, _, _, _ => rfl
  | n + 1, k, nx, ln => by rw [tellRows, List.length_cons, List.length_cons, tellRows_len x n]; omega
end Md

/-! CL, part w5: kinds of middles, and that a run of one that keeps them comes to an end -/
namespace Md
open CL
def Num (a : Int) : Prop := -2147483648 ≤ a ∧ a ≤ 2147483647
theorem br_num (n : Int) : Num (br n) := by
  unfold Num br
  rw [fmod_pos (by decide)]
  omega
/-- what functions take and give, what records hold -/
structure Sg where
  fn : List (PySem.Str × List Kd × Kd)
  rc : List (PySem.Str × List Kd)
abbrev Ga := List (Int × Kd)
inductive OpT (T : Sg) : Op → More → List Kd → Option Kd → Prop
  | number {n : Int} : Num n → OpT T .number (.num n) [] (some .num)
  | truth {b : Bool} : OpT T .truth (.tru b) [] (some .tru)
  | nums {op : Op} (h : op = .add ∨ op = .sub ∨ op = .mul ∨ op = .div ∨ op = .rem) : OpT T op .no [.num, .num] (some .num)
  | cmps {op : Op} (h : op = .lt ∨ op = .eq) : OpT T op .no [.num, .num] (some .tru)
  | trus {op : Op} (h : op = .and ∨ op = .or) : OpT T op .no [.tru, .tru] (some .tru)
  | not : OpT T .not .no [.tru] (some .tru)
  | long {k : Kd} : OpT T .long .no [.row k] (some .num)
  | close {f : PySem.Str} {ks ps : List Kd} {k : Kd} : (f, ks ++ ps, k) ∈ T.fn → ks.length ≤ 1000 → OpT T .close (.nm f) ks (some (.fn ps k))
  | cell {r : PySem.Str} {ks : List Kd} {i : Nat} {k : Kd} : (r, ks) ∈ T.rc → ks[i]? = some k → OpT T .cell (.num i) [.rc r] (some k)
  | store {r : PySem.Str} {ks : List Kd} {i : Nat} {k : Kd} : (r, ks) ∈ T.rc → ks[i]? = some k → OpT T .store (.num i) [.rc r, k] none
  | get {k : Kd} : OpT T .get .no [.row k, .num] (some k)
  | set {k : Kd} : OpT T .set .no [.row k, .num, k] none
  | make {r : PySem.Str} {ks : List Kd} : (r, ks) ∈ T.rc → OpT T .make (.nm r) ks (some (.rc r))
  | fill {k : Kd} : OpT T .fill .no [.num, k] (some (.row k))
  | call {f : PySem.Str} {ps : List Kd} {k : Kd} : (f, ps, k) ∈ T.fn → OpT T .call (.nm f) ps (some k)
  | ask {ps : List Kd} {k : Kd} : OpT T .ask .no (.fn ps k :: ps) (some k)
  | tell : OpT T .tell .no [.num] none
  | tick : OpT T .tick .no [] none
/-- names of these kinds -/
inductive ArgsT (Γ : Ga) : List Int → List Kd → Prop
  | nil : ArgsT Γ [] []
  | cons {x : Int} {k : Kd} {xs : List Int} {ks : List Kd} (h : (x, k) ∈ Γ) (r : ArgsT Γ xs ks) : ArgsT Γ (x :: xs) (k :: ks)
def Fresh (Γ : Ga) (x : Int) : Prop := ∀ p ∈ Γ, p.1 ≠ x
/-- what is known behind a row -/
def rowG (Γ : Ga) (x : Option Int) (kd : Option Kd) : Ga := match x, kd with
  | some x, some k => Γ ++ [(x, k)]
  | _, _ => Γ
inductive RowT (T : Sg) (Γ : Ga) : Row → Prop
  | mk {r : Row} {ks : List Kd} (a : ArgsT Γ r.args ks) (o : OpT T r.op r.more ks r.kd) (n : r.x.isSome = r.kd.isSome) (f : ∀ x, r.x = some x → Fresh Γ x) : RowT T Γ r
inductive RowsT (T : Sg) : Ga → List Row → Ga → Prop
  | nil {Γ : Ga} : RowsT T Γ [] Γ
  | cons {Γ Γ' : Ga} {r : Row} {rs : List Row} (h : RowT T Γ r) (t : RowsT T (rowG Γ r.x r.kd) rs Γ') : RowsT T Γ (r :: rs) Γ'
/-- what is known of a block ahead of its params, their kinds, its rank, whether its first row is a tick -/
structure Pl where
  env : Ga
  ks : List Kd
  rank : Nat
  tk : Bool
abbrev Plan := Nat → Option Pl
def Goes (pl : Plan) (rk : Nat) (Γ : Ga) (b : Nat) (ks : List Kd) : Prop := ∃ p, pl b = some p ∧ p.ks = ks ∧ (∀ q ∈ p.env, q ∈ Γ) ∧ (p.tk = true ∨ p.rank < rk)
inductive EndT (pl : Plan) (rk : Nat) (kd : Kd) (Γ : Ga) : End → Prop
  | jump {b : Nat} {args : List Int} {ks : List Kd} (a : ArgsT Γ args ks) (g : Goes pl rk Γ b ks) : EndT pl rk kd Γ (.jump b args)
  | branch {x : Int} {b c : Nat} (h : (x, Kd.tru) ∈ Γ) (g : Goes pl rk Γ b []) (g' : Goes pl rk Γ c []) : EndT pl rk kd Γ (.branch x b c)
  | give {x : Int} (h : (x, kd) ∈ Γ) : EndT pl rk kd Γ (.give x)
  | fail {w : PySem.Str} {l : Int} (h : w = "fail" ∨ w = "lack") : EndT pl rk kd Γ (.fail w l)
/-- params: fresh, each name once -/
inductive ParT : Ga → List (Int × Kd) → Prop
  | nil {Γ : Ga} : ParT Γ []
  | cons {Γ : Ga} {p : Int × Kd} {ps : List (Int × Kd)} (h : Fresh Γ p.1) (t : ParT (Γ ++ [p]) ps) : ParT Γ (p :: ps)
def tkRow : List Row → Bool
  | r :: _ => decide (r.op = .tick)
  | [] => false
structure BlockT (T : Sg) (pl : Plan) (kd : Kd) (p : Pl) (b : Block) : Prop where
  par : b.params.map (·.2) = p.ks
  pt : ParT p.env b.params
  body : ∃ Γ', RowsT T (p.env ++ b.params) b.rows Γ' ∧ EndT pl p.rank kd Γ' b.en
  tk : p.tk = true → tkRow b.rows = true
/-- blocks as planned -/
def BlocksT (T : Sg) (pl : Plan) (kd : Kd) (bs : List Block) : Prop := ∀ i p, pl i = some p → ∃ b, bs[i]? = some b ∧ BlockT T pl kd p b
/-- the steps of all blocks of less rank -/
def potF (rk : Nat) (pl : Plan) : Nat → List Block → Nat
  | k, b :: bs => (match pl k with | some p => if p.rank < rk then b.rows.length + 1 else 0 | none => 0) + potF rk pl (k + 1) bs
  | _, [] => 0
abbrev pot (rk : Nat) (pl : Plan) (bs : List Block) : Nat := potF rk pl 0 bs
def total : List Block → Nat
  | [] => 0
  | b :: bs => b.rows.length + 1 + total bs
theorem pot_mono {r r' : Nat} {pl : Plan} (h : r ≤ r') : ∀ (bs : List Block) (k : Nat), potF r pl k bs ≤ potF r' pl k bs
  | [], _ => by unfold potF; simp
  | b :: bs, k => by
    unfold potF
    have := pot_mono (pl := pl) h bs (k + 1)
    cases pl k with
    | none => simpa using this
    | some p => simp only; split <;> split <;> omega
theorem pot_atF {r : Nat} {pl : Plan} : ∀ {bs : List Block} {k i : Nat} {p : Pl} {b : Block}, pl (k + i) = some p → bs[i]? = some b → p.rank < r → potF p.rank pl k bs + b.rows.length + 1 ≤ potF r pl k bs
  | [], _, _, _, _, _, h, _ => by simp at h
  | c :: bs, k, 0, p, b, h1, h2, h => by
    simp at h1 h2
    subst h2
    unfold potF
    have := pot_mono (pl := pl) (Nat.le_of_lt h) bs (k + 1)
    rw [h1]
    simp only
    rw [if_neg (Nat.lt_irrefl _), if_pos h]; omega
  | c :: bs, k, i + 1, p, b, h1, h2, h => by
    unfold potF
    have := pot_atF (bs := bs) (k := k + 1) (i := i) (p := p) (b := b) (by rw [show k + 1 + i = k + (i + 1) by omega]; exact h1) (by simpa using h2) h
    cases pl k with
    | none => simp only; omega
    | some q => simp only; split <;> split <;> omega
theorem pot_at {r : Nat} {pl : Plan} {bs : List Block} {i : Nat} {p : Pl} {b : Block} (h1 : pl i = some p) (h2 : bs[i]? = some b) (h : p.rank < r) : pot p.rank pl bs + b.rows.length + 1 ≤ pot r pl bs :=
  pot_atF (k := 0) (i := i) (by rw [Nat.zero_add]; exact h1) h2 h
theorem pot_total (r : Nat) (pl : Plan) : ∀ (bs : List Block) (k : Nat), potF r pl k bs ≤ total bs
  | [], _ => by unfold potF; simp
  | b :: bs, k => by
    unfold potF total
    have := pot_total r pl bs (k + 1)
    cases pl k with
    | none => simp only; omega
    | some p => simp only; split <;> omega
theorem pot_at_total {pl : Plan} {bs : List Block} {i : Nat} {p : Pl} {b : Block} (h1 : pl i = some p) (h2 : bs[i]? = some b) : pot p.rank pl bs + b.rows.length + 1 ≤ total bs :=
  Nat.le_trans (pot_at h1 h2 (Nat.lt_succ_self _)) (pot_total _ pl bs 0)
structure FunT (T : Sg) (g : Fun) (ks : List Kd) : Prop where
  ex : ∃ pl, BlocksT T pl g.kd g.blocks ∧ ∃ rk, pl 0 = some ⟨[], ks, rk, true⟩
structure MidT (T : Sg) (m : Mid) (C : Nat) : Prop where
  sg : ∀ f ps k, (f, ps, k) ∈ T.fn → ∃ g, (m.funs.find? fun g => decide (g.name = f)) = some g ∧ g.kd = k ∧ FunT T g ps
  size : ∀ g ∈ m.funs, total g.blocks + 1 ≤ C

/-! ### values -/
inductive VT (S : List Kd) : MV → Kd → Prop
  | int {i : Int} (h : Num i) : VT S (.int i) .num
  | bl {b : Bool} : VT S (.bl b) .tru
  | ref {n : Nat} {k : Kd} (h : S[n]? = some k) : VT S (.ref n) k
inductive VTs (S : List Kd) : List MV → List Kd → Prop
  | nil : VTs S [] []
  | cons {v : MV} {k : Kd} {vs : List MV} {ks : List Kd} (h : VT S v k) (r : VTs S vs ks) : VTs S (v :: vs) (k :: ks)
inductive TT (T : Sg) (S : List Kd) : Thing → Kd → Prop
  | rc {r : PySem.Str} {ks : List Kd} {vs : List MV} (h : (r, ks) ∈ T.rc) (t : VTs S vs ks) : TT T S (.cells vs) (.rc r)
  | row {k : Kd} {vs : List MV} (h : ∀ v ∈ vs, VT S v k) (l : vs.length ≤ 60) : TT T S (.cells vs) (.row k)
  | clo {f : PySem.Str} {ks ps : List Kd} {k : Kd} {vs : List MV} (h : (f, ks ++ ps, k) ∈ T.fn) (t : VTs S vs ks) : TT T S (.clo f vs) (.fn ps k)
theorem VT.up {S S' : List Kd} {v : MV} {k : Kd} (h : VT S v k) : VT (S ++ S') v k := by
  cases h with
  | int h => exact .int h
  | bl => exact .bl
  | ref h => exact .ref (by rw [List.getElem?_append_left (List.getElem?_eq_some_iff.mp h).1]; exact h)
theorem VTs.up {S S' : List Kd} : ∀ {vs : List MV} {ks : List Kd}, VTs S vs ks → VTs (S ++ S') vs ks
  | _, _, .nil => .nil
  | _, _, .cons h r => .cons h.up r.up
theorem TT.up {T : Sg} {S S' : List Kd} {t : Thing} {k : Kd} (h : TT T S t k) : TT T (S ++ S') t k := by
  cases h with
  | rc h t => exact .rc h t.up
  | row h l => exact .row (fun v hv => (h v hv).up) l
  | clo h t => exact .clo h t.up
theorem VTs.append {S : List Kd} : ∀ {vs vs' : List MV} {ks ks' : List Kd}, VTs S vs ks → VTs S vs' ks' → VTs S (vs ++ vs') (ks ++ ks')
  | _, _, _, _, .nil, h => h
  | _, _, _, _, .cons h r, k => .cons h (r.append k)
theorem VTs.get {S : List Kd} : ∀ {vs : List MV} {ks : List Kd} {i : Nat} {k : Kd}, VTs S vs ks → ks[i]? = some k → ∃ v, vs[i]? = some v ∧ VT S v k
  | _, _, _, _, .nil, h => by simp at h
  | _, _, 0, _, .cons h r, e => by simp at e; subst e; exact ⟨_, rfl, h⟩
  | _, _, i + 1, _, .cons h r, e => by
    obtain ⟨v, h1, h2⟩ := r.get (i := i) (by simpa using e)
    exact ⟨v, by simpa using h1, h2⟩
theorem VTs.set {S : List Kd} : ∀ {vs : List MV} {ks : List Kd} {i : Nat} {k : Kd} {v : MV}, VTs S vs ks → ks[i]? = some k → VT S v k → VTs S (vs.set i v) ks
  | _, _, _, _, _, .nil, h, _ => by simp at h
  | _, _, 0, _, _, .cons h r, e, hv => by simp at e; subst e; exact .cons hv r
  | _, _, i + 1, _, _, .cons h r, e, hv => .cons h (r.set (by simpa using e) hv)
theorem VTs.length {S : List Kd} : ∀ {vs : List MV} {ks : List Kd}, VTs S vs ks → vs.length = ks.length
  | _, _, .nil => rfl
  | _, _, .cons h r => by rw [List.length_cons, List.length_cons, r.length]
/-- the env holds what is known -/
def EnvT (S : List Kd) (e : Ev) (Γ : Ga) : Prop := ∀ x k, (x, k) ∈ Γ → ∃ v, lookE e x = some v ∧ VT S v k
theorem EnvT.up {S S' : List Kd} {e : Ev} {Γ : Ga} (h : EnvT S e Γ) : EnvT (S ++ S') e Γ := fun x k hm => by
  obtain ⟨v, h1, h2⟩ := h x k hm
  exact ⟨v, h1, h2.up⟩
theorem EnvT.args {S : List Kd} {e : Ev} {Γ : Ga} (h : EnvT S e Γ) : ∀ {xs : List Int} {ks : List Kd}, ArgsT Γ xs ks → ∃ vs, looks e xs = some vs ∧ VTs S vs ks
  | _, _, .nil => ⟨[], rfl, .nil⟩
  | _, _, .cons hm r => by
    obtain ⟨v, h1, h2⟩ := h _ _ hm
    obtain ⟨vs, h3, h4⟩ := h.args r
    exact ⟨v :: vs, by unfold looks; rw [h1, h3], .cons h2 h4⟩
theorem lookE_put_same (e : Ev) (x : Int) (v : MV) : lookE (putE e x v) x = some v := by
  induction e with
  | nil => exact lookE_here
  | cons a r ih =>
    obtain ⟨a1, a2⟩ := a
    by_cases h : a1 = x
    · subst h
      unfold putE
      rw [List.any_cons, decide_eq_true rfl, Bool.true_or, if_pos rfl, List.map_cons, if_pos rfl]
      exact lookE_here
    · rw [putE_cons_ne h, lookE_there h]; exact ih
theorem lookE_put_ne {e : Ev} {x y : Int} {v : MV} (h : y ≠ x) : lookE (putE e x v) y = lookE e y := by
  induction e with
  | nil => exact lookE_there (e := []) (fun z => h z.symm)
  | cons a r ih =>
    obtain ⟨a1, a2⟩ := a
    by_cases h1 : a1 = x
    · subst h1
      unfold putE
      rw [List.any_cons, decide_eq_true rfl, Bool.true_or, if_pos rfl, List.map_cons, if_pos rfl]
      rw [lookE_there (fun z => h z.symm), lookE_there (fun z => h z.symm)]
      clear ih
      induction r with
      | nil => rfl
      | cons b s ih =>
        obtain ⟨b1, b2⟩ := b
        rw [List.map_cons]
        by_cases h2 : b1 = a1
        · subst h2
          rw [if_pos rfl, lookE_there (fun z => h z.symm), lookE_there (fun z => h z.symm)]; exact ih
        · rw [if_neg (show ¬ (b1, b2).1 = a1 from h2)]
          by_cases h3 : b1 = y
          · subst h3; rw [lookE_here, lookE_here]
          · rw [lookE_there h3, lookE_there h3]; exact ih
    · rw [putE_cons_ne h1]
      by_cases h2 : a1 = y
      · subst h2; rw [lookE_here, lookE_here]
      · rw [lookE_there h2, lookE_there h2]; exact ih
theorem EnvT.put {S : List Kd} {e : Ev} {Γ : Ga} {x : Int} {k : Kd} {v : MV} (h : EnvT S e Γ) (hf : Fresh Γ x) (hv : VT S v k) : EnvT S (putE e x v) (Γ ++ [(x, k)]) := fun y k' hm => by
  rcases List.mem_append.mp hm with hm | hm
  · obtain ⟨u, h1, h2⟩ := h y k' hm
    exact ⟨u, by rw [lookE_put_ne (hf _ hm)]; exact h1, h2⟩
  · cases List.mem_singleton.mp hm
    exact ⟨v, lookE_put_same _ _ _, hv⟩
theorem EnvT.binds {S : List Kd} : ∀ {ps : List (Int × Kd)} {vs : List MV} {e : Ev} {Γ : Ga}, EnvT S e Γ → ParT Γ ps → VTs S vs (ps.map (·.2)) → EnvT S (binds e ps vs) (Γ ++ ps)
  | [], _, e, Γ, h, _, hv => by cases hv; rw [List.append_nil]; exact h
  | p :: ps, _, e, Γ, h, .cons hf ht, .cons hv r => by
    rw [show Γ ++ p :: ps = (Γ ++ [p]) ++ ps by simp]
    exact EnvT.binds (h.put hf hv) ht r
theorem EnvT.sub {S : List Kd} {e : Ev} {Γ Γ' : Ga} (h : EnvT S e Γ) (hs : ∀ q ∈ Γ', q ∈ Γ) : EnvT S e Γ' := fun x k hm => h x k (hs _ hm)
end Md

/-! CL, part w6: a step of a run that keeps kinds -/
namespace Md
open CL
def ThT (T : Sg) (S : List Kd) (ts : List Thing) : Prop := ts.length = S.length ∧ ∀ (n : Nat) (k : Kd), S[n]? = some k → ∃ t, ts[n]? = some t ∧ TT T S t k
section
variable {T : Sg} {S : List Kd} {ts : List Thing} {v : MV}
theorem vt_num (h : ThT T S ts) (hv : VT S v .num) : ∃ i, v = .int i ∧ Num i := by
  cases hv with
  | int hi => exact ⟨_, rfl, hi⟩
  | ref hn => obtain ⟨t, _, ht⟩ := h.2 _ _ hn; cases ht
theorem vt_tru (h : ThT T S ts) (hv : VT S v .tru) : ∃ b, v = .bl b := by
  cases hv with
  | bl => exact ⟨_, rfl⟩
  | ref hn => obtain ⟨t, _, ht⟩ := h.2 _ _ hn; cases ht
theorem vt_rc {r : PySem.Str} (h : ThT T S ts) (hv : VT S v (.rc r)) : ∃ n ws ks, v = .ref n ∧ S[n]? = some (.rc r) ∧ ts[n]? = some (.cells ws) ∧ (r, ks) ∈ T.rc ∧ VTs S ws ks := by
  cases hv with
  | ref hn =>
    obtain ⟨t, h1, ht⟩ := h.2 _ _ hn
    cases ht with
    | rc h2 h3 => exact ⟨_, _, _, rfl, hn, h1, h2, h3⟩
theorem vt_row {k : Kd} (h : ThT T S ts) (hv : VT S v (.row k)) : ∃ n ws, v = .ref n ∧ S[n]? = some (.row k) ∧ ts[n]? = some (.cells ws) ∧ (∀ u ∈ ws, VT S u k) ∧ ws.length ≤ 60 := by
  cases hv with
  | ref hn =>
    obtain ⟨t, h1, ht⟩ := h.2 _ _ hn
    cases ht with
    | row h2 h3 => exact ⟨_, _, rfl, hn, h1, h2, h3⟩
theorem vt_fn {ps : List Kd} {k : Kd} (h : ThT T S ts) (hv : VT S v (.fn ps k)) : ∃ n f ws ks, v = .ref n ∧ ts[n]? = some (.clo f ws) ∧ (f, ks ++ ps, k) ∈ T.fn ∧ VTs S ws ks := by
  cases hv with
  | ref hn =>
    obtain ⟨t, h1, ht⟩ := h.2 _ _ hn
    cases ht with
    | clo h2 h3 => exact ⟨_, _, _, _, rfl, h1, h2, h3⟩
end
def FaultW (w : PySem.Str) : Prop := w = "nought" ∨ w = "place" ∨ w = "great" ∨ w = "fail" ∨ w = "lack"
inductive ActT (T : Sg) (S : List Kd) (kd : Option Kd) : Act → Prop
  | give {v : MV} {k : Kd} (e : kd = some k) (h : VT S v k) : ActT T S kd (.give v)
  | new {t : Thing} {k : Kd} (e : kd = some k) (h : TT T S t k) : ActT T S kd (.new t)
  | fault {w : PySem.Str} (h : FaultW w) : ActT T S kd (.fault w)
  | tick (e : kd = none) : ActT T S kd .tick
  | tell {i : Int} (e : kd = none) (h : Num i) : ActT T S kd (.tell (.int i))
  | upd {n : Nat} {t : Thing} {k : Kd} (e : kd = none) (hn : S[n]? = some k) (h : TT T S t k) : ActT T S kd (.upd n t)
  | call {f : PySem.Str} {vs : List MV} {ps : List Kd} {k : Kd} (e : kd = some k) (h : (f, ps, k) ∈ T.fn) (t : VTs S vs ps) : ActT T S kd (.call f vs)
theorem mul_ok {a b : Int} (ha : Num a) : mulOk a b = true := mulOk_left (by unfold Num at ha; omega)
theorem fmod_num {a b : Int} (ha : Num a) (hb : Num b) (h0 : b ≠ 0) : Num (a.fmod b) := by
  unfold Num at *
  rcases Int.lt_trichotomy b 0 with h | h | h
  · have h2 : a.fmod b = a - b * a.fdiv b := Int.fmod_def a b
    have h3 : a.fmod b ≤ 0 := by
      have := Int.fmod_nonneg_of_pos (-a) (b := -b) (by omega)
      rw [Int.neg_fmod_neg] at this; omega
    have h4 : b < a.fmod b := by
      have := Int.fmod_lt_of_pos (-a) (b := -b) (by omega)
      rw [Int.neg_fmod_neg] at this; omega
    omega
  · exact absurd h h0
  · have h3 := Int.fmod_nonneg_of_pos a h
    have h4 := Int.fmod_lt_of_pos a h
    omega
theorem act_ok {T : Sg} {S : List Kd} {ts : List Thing} (th : ThT T S ts) (rcF : ∀ r ks ks', (r, ks) ∈ T.rc → (r, ks') ∈ T.rc → ks = ks') {op : Op} {more : More} {ks : List Kd} {kd : Option Kd} {vs : List MV} (ho : OpT T op more ks kd) (hv : VTs S vs ks) :
    ∃ a, actO ts op more vs = some a ∧ ActT T S kd a ∧ (op = .tick → a = .tick) := by
  cases ho with
  | number h => cases hv; exact ⟨_, rfl, .give rfl (.int h), nofun⟩
  | truth => cases hv; exact ⟨_, rfl, .give rfl .bl, nofun⟩
  | nums h =>
    obtain _ | ⟨h1, _ | ⟨h2, _ | _⟩⟩ := hv
    obtain ⟨a, rfl, ha⟩ := vt_num th h1
    obtain ⟨b, rfl, hb⟩ := vt_num th h2
    rcases h with rfl | rfl | rfl | rfl | rfl
    · exact ⟨_, rfl, .give rfl (.int (br_num _)), nofun⟩
    · exact ⟨_, rfl, .give rfl (.int (br_num _)), nofun⟩
    · exact ⟨_, by show (if mulOk a b = true then _ else _) = _; rw [if_pos (mul_ok ha)], .give rfl (.int (br_num _)), nofun⟩
    · by_cases h0 : b = 0
      · exact ⟨_, by show (if b = 0 then _ else _) = _; rw [if_pos h0], .fault (.inl rfl), nofun⟩
      · exact ⟨_, by show (if b = 0 then _ else if b.natAbs < 18446744073709551616 then _ else _) = _; rw [if_neg h0, if_pos (by unfold Num at hb; omega)], .give rfl (.int (br_num _)), nofun⟩
    · by_cases h0 : b = 0
      · exact ⟨_, by show (if b = 0 then _ else _) = _; rw [if_pos h0], .fault (.inl rfl), nofun⟩
      · exact ⟨_, by show (if b = 0 then _ else _) = _; rw [if_neg h0], .give rfl (.int (fmod_num ha hb h0)), nofun⟩
  | cmps h =>
    obtain _ | ⟨h1, _ | ⟨h2, _ | _⟩⟩ := hv
    obtain ⟨a, rfl, ha⟩ := vt_num th h1
    obtain ⟨b, rfl, hb⟩ := vt_num th h2
    rcases h with rfl | rfl <;> exact ⟨_, rfl, .give rfl .bl, nofun⟩
  | trus h =>
    obtain _ | ⟨h1, _ | ⟨h2, _ | _⟩⟩ := hv
    obtain ⟨a, rfl⟩ := vt_tru th h1
    obtain ⟨b, rfl⟩ := vt_tru th h2
    rcases h with rfl | rfl <;> exact ⟨_, rfl, .give rfl .bl, nofun⟩
  | not =>
    obtain _ | ⟨h1, _ | _⟩ := hv
    obtain ⟨a, rfl⟩ := vt_tru th h1
    exact ⟨_, rfl, .give rfl .bl, nofun⟩
  | long =>
    obtain _ | ⟨h1, _ | _⟩ := hv
    obtain ⟨n, ws, rfl, hS, ht, hw, hl⟩ := vt_row th h1
    refine ⟨.give (.int ws.length), ?_, .give rfl (.int (by unfold Num; omega)), nofun⟩
    simp only [actO, onCells, ht]
  | close h hl => exact ⟨_, rfl, .new rfl (.clo h hv), nofun⟩
  | cell h hi =>
    obtain _ | ⟨h1, _ | _⟩ := hv
    obtain ⟨n, ws, ks', rfl, hS, ht, hr, hw⟩ := vt_rc th h1
    obtain rfl := rcF _ _ _ h hr
    obtain ⟨u, h3, h4⟩ := hw.get hi
    refine ⟨.give u, ?_, .give rfl h4, nofun⟩
    simp only [actO, onCells, ht]
    rw [if_pos (by omega), Int.toNat_natCast, h3]; rfl
  | store h hi =>
    obtain _ | ⟨h1, _ | ⟨h2, _ | _⟩⟩ := hv
    obtain ⟨n, ws, ks', rfl, hS, ht, hr, hw⟩ := vt_rc th h1
    obtain rfl := rcF _ _ _ h hr
    obtain ⟨u, h3, h4⟩ := hw.get hi
    refine ⟨.upd n (.cells (ws.set _ _)), ?_, .upd rfl hS (.rc h (hw.set hi h2)), nofun⟩
    simp only [actO, onCells, ht]
    have := (List.getElem?_eq_some_iff.mp h3).1
    rw [if_pos (by omega), Int.toNat_natCast]
  | get =>
    obtain _ | ⟨h1, _ | ⟨h2, _ | _⟩⟩ := hv
    obtain ⟨n, ws, rfl, hS, ht, hw, hl⟩ := vt_row th h1
    obtain ⟨i, rfl, hi⟩ := vt_num th h2
    by_cases h : 0 ≤ i ∧ i < ws.length
    · have hlt : i.toNat < ws.length := by omega
      refine ⟨.give ws[i.toNat], ?_, .give rfl (hw _ (List.getElem_mem hlt)), nofun⟩
      simp only [actO, onCells, ht]
      rw [if_pos h, List.getElem?_eq_getElem hlt]; rfl
    · refine ⟨.fault "place", ?_, .fault (.inr (.inl rfl)), nofun⟩
      simp only [actO, onCells, ht]
      rw [if_neg h]
  | set =>
    obtain _ | ⟨h1, _ | ⟨h2, _ | ⟨h3, _ | _⟩⟩⟩ := hv
    obtain ⟨n, ws, rfl, hS, ht, hw, hl⟩ := vt_row th h1
    obtain ⟨i, rfl, hi⟩ := vt_num th h2
    rename_i u
    by_cases h : 0 ≤ i ∧ i < ws.length
    · refine ⟨.upd n (.cells (ws.set i.toNat u)), ?_, .upd rfl hS (.row (fun y hy => ?_) (by rw [List.length_set]; exact hl)), nofun⟩
      · simp only [actO, onCells, ht]
        rw [if_pos h]
      · rcases List.mem_or_eq_of_mem_set hy with hy | rfl
        · exact hw y hy
        · exact h3
    · refine ⟨.fault "place", ?_, .fault (.inr (.inl rfl)), nofun⟩
      simp only [actO, onCells, ht]
      rw [if_neg h]
  | make h => exact ⟨_, rfl, .new rfl (.rc h hv), nofun⟩
  | fill =>
    obtain _ | ⟨h1, _ | ⟨h2, _ | _⟩⟩ := hv
    obtain ⟨i, rfl, hi⟩ := vt_num th h1
    rename_i u
    by_cases h : 0 ≤ i ∧ i ≤ 60
    · refine ⟨.new (.cells (List.replicate i.toNat u)), ?_, .new rfl (.row (fun y hy => ?_) (by rw [List.length_replicate]; omega)), nofun⟩
      · simp only [actO]
        rw [if_pos h]
      · rw [List.eq_of_mem_replicate hy]; exact h2
    · refine ⟨.fault "great", ?_, .fault (.inr (.inr (.inl rfl))), nofun⟩
      simp only [actO]
      rw [if_neg h]
  | call h => exact ⟨_, rfl, .call rfl h hv, nofun⟩
  | ask =>
    obtain _ | ⟨h1, h2⟩ := hv
    obtain ⟨n, f, ws, ks', rfl, ht, hf, hw⟩ := vt_fn th h1
    refine ⟨.call f (ws ++ _), ?_, .call rfl hf (hw.append h2), nofun⟩
    simp only [actO, ht]
  | tell =>
    obtain _ | ⟨h1, _ | _⟩ := hv
    obtain ⟨i, rfl, hi⟩ := vt_num th h1
    exact ⟨_, rfl, .tell rfl hi, nofun⟩
  | tick => cases hv; exact ⟨_, rfl, .tick rfl, fun _ => rfl⟩
end Md

/-! CL, part w7: a run that keeps kinds comes to an end -/
namespace Md
open CL
/-- a frame's place: what is known there, and how many steps are left at most until a tick, a give or a fault -/
structure PosT (T : Sg) (C : Nat) (kd : Kd) (u : Nat) (f : Fr) (Γ : Ga) : Prop where
  ex : ∃ pl rk Γ', BlocksT T pl kd f.blocks ∧ RowsT T Γ (f.block.rows.drop f.at') Γ' ∧ EndT pl rk kd Γ' f.block.en ∧
    ((f.at' = 0 ∧ tkRow f.block.rows = true ∧ u = 0) ∨ u = pot rk pl f.blocks + (f.block.rows.length - f.at') + 1) ∧ pot rk pl f.blocks + f.block.rows.length + 1 ≤ total f.blocks
  sz : total f.blocks + 1 ≤ C
inductive RestT (T : Sg) (S : List Kd) (C : Nat) : Kd → Option Int → List Fr → Nat → Prop
  | nil {t : Option Int} : RestT T S C .num t [] 0
  | cons {kd kd' : Kd} {x : Int} {g : Fr} {gs : List Fr} {u v : Nat} {Γ : Ga} (f : Fresh Γ x) (e : EnvT S g.env Γ) (p : PosT T C kd' u g (Γ ++ [(x, kd)])) (r : RestT T S C kd' g.tgt gs v) : RestT T S C kd (some x) (g :: gs) (u + v)
theorem RestT.up {T : Sg} {S S' : List Kd} {C : Nat} : ∀ {kd : Kd} {t : Option Int} {fs : List Fr} {v : Nat}, RestT T S C kd t fs v → RestT T (S ++ S') C kd t fs v
  | _, _, _, _, .nil => .nil
  | _, _, _, _, .cons f e p r => .cons f e.up p r.up
structure StT (T : Sg) (C : Nat) (S : List Kd) (s : MS) (P : Nat) : Prop where
  th : ThT T S s.things
  told : ∀ v ∈ s.told, ∃ i, v = .int i ∧ Num i
  tk : 0 ≤ s.ticks
  fr : ∃ f rest kd u v Γ, s.frames = f :: rest ∧ PosT T C kd u f Γ ∧ EnvT S f.env Γ ∧ RestT T S C kd f.tgt rest v ∧ P = s.ticks.toNat * C + u + v
theorem th_new {T : Sg} {S : List Kd} {ts : List Thing} {t : Thing} {k : Kd} (h : ThT T S ts) (ht : TT T S t k) : ThT T (S ++ [k]) (ts ++ [t]) := by
  refine ⟨by simp [h.1], fun n k' e => ?_⟩
  by_cases hn : n < S.length
  · rw [List.getElem?_append_left hn] at e
    obtain ⟨u, h1, h2⟩ := h.2 n k' e
    exact ⟨u, by rw [List.getElem?_append_left (by rw [h.1]; exact hn)]; exact h1, h2.up⟩
  · rw [List.getElem?_append_right (by omega)] at e
    have : n - S.length = 0 := by
      have := (List.getElem?_eq_some_iff.mp e).1
      simpa using this
    rw [this] at e
    simp at e
    subst e
    exact ⟨t, by rw [List.getElem?_append_right (by rw [h.1]; omega), h.1, this]; rfl, ht.up⟩
theorem th_set {T : Sg} {S : List Kd} {ts : List Thing} {t : Thing} {k : Kd} {n : Nat} (h : ThT T S ts) (hn : S[n]? = some k) (ht : TT T S t k) : ThT T S (ts.set n t) := by
  refine ⟨by simp [h.1], fun j k' e => ?_⟩
  by_cases hj : n = j
  · subst hj
    rw [hn] at e; cases e
    refine ⟨t, ?_, ht⟩
    rw [List.getElem?_set_self (by rw [h.1]; exact (List.getElem?_eq_some_iff.mp hn).1)]
  · obtain ⟨u, h1, h2⟩ := h.2 j k' e
    exact ⟨u, by rw [List.getElem?_set_ne hj]; exact h1, h2⟩
theorem mul_pred {t : Int} {C : Nat} (h0 : 0 ≤ t) (h : t ≠ 0) : (t - 1).toNat * C + C = t.toNat * C := by
  have : t.toNat = (t - 1).toNat + 1 := by omega
  rw [this, Nat.succ_mul]
/-- a block is gone to -/
theorem goes_ok {T : Sg} {pl : Plan} {kd : Kd} {C rk : Nat} {Γ : Ga} {S : List Kd} {fr : Fr} {b : Nat} {ks : List Kd} {vs : List MV} (hb : BlocksT T pl kd fr.blocks) (hsz : total fr.blocks + 1 ≤ C) (he : EnvT S fr.env Γ) (hg : Goes pl rk Γ b ks) (hv : VTs S vs ks) :
    ∃ f u Γ2, fr.enter b vs = some f ∧ f.tgt = fr.tgt ∧ PosT T C kd u f Γ2 ∧ EnvT S f.env Γ2 ∧ u ≤ pot rk pl fr.blocks := by
  obtain ⟨p, hp, hks, hsub, hr⟩ := hg
  obtain ⟨k, hk, hB⟩ := hb _ _ hp
  obtain ⟨Γ', hrows, hend⟩ := hB.body
  have hpar := hB.par
  have hen : EnvT S (binds fr.env k.params vs) (p.env ++ k.params) := EnvT.binds (he.sub hsub) hB.pt (by rw [hpar, hks]; exact hv)
  have htot := pot_at_total hp hk
  cases htk : p.tk with
  | true =>
    refine ⟨{ fr with env := binds fr.env k.params vs, block := k, at' := 0 }, 0, _, by unfold Fr.enter; rw [hk], rfl, ⟨⟨pl, p.rank, Γ', hb, hrows, hend, .inl ⟨rfl, hB.tk htk, rfl⟩, htot⟩, hsz⟩, hen, Nat.zero_le _⟩
  | false =>
    have hlt : p.rank < rk := by
      rcases hr with hr | hr
      · rw [htk] at hr; cases hr
      · exact hr
    refine ⟨{ fr with env := binds fr.env k.params vs, block := k, at' := 0 }, _, _, by unfold Fr.enter; rw [hk], rfl, ⟨⟨pl, p.rank, Γ', hb, hrows, hend, .inr rfl, htot⟩, hsz⟩, hen, ?_⟩
    exact pot_at hp hk hlt
theorem step_ok {T : Sg} {m : Mid} {C : Nat} (M : MidT T m C) (rcF : ∀ r ks ks', (r, ks) ∈ T.rc → (r, ks') ∈ T.rc → ks = ks') {S : List Kd} {s : MS} {P : Nat} (h : StT T C S s P) :
    (∃ s' o, step m s = some (s', some o) ∧ OutOk o ∧ ∀ v ∈ s'.told, ∃ i, v = .int i ∧ Num i) ∨ ∃ s1 S' P', step m s = some (s1, none) ∧ StT T C S' s1 P' ∧ P' < P := by
  obtain ⟨th, told, tk, fr, rest, kd, u, v, Γ, efr, hp, he, hr, rfl⟩ := h
  obtain ⟨pl, rk, Γ', hbs, hrows, hend, hu, htot⟩ := hp.ex
  have hsz := hp.sz
  unfold step
  rw [efr]
  simp only
  cases erow : fr.block.rows[fr.at']? with
  | some row =>
    simp only
    have hlt := (List.getElem?_eq_some_iff.mp erow).1
    have hdrop : fr.block.rows.drop fr.at' = row :: fr.block.rows.drop (fr.at' + 1) := by
      rw [List.drop_eq_getElem_cons hlt, (List.getElem?_eq_some_iff.mp erow).2]
    rw [hdrop] at hrows
    obtain _ | ⟨hrow, hrows⟩ := hrows
    obtain ⟨ha, ho, hx, hf⟩ := hrow
    obtain ⟨vs, hl, hvs⟩ := he.args ha
    obtain ⟨a, hact, hat, htick⟩ := act_ok th rcF ho hvs
    rw [hl]; simp only
    rw [hact]; simp only
    -- the frame behind the row
    have pos : ∀ e', PosT T C kd (pot rk pl fr.blocks + (fr.block.rows.length - (fr.at' + 1)) + 1) { fr with env := e', at' := fr.at' + 1 } (rowG Γ row.x row.kd) := fun e' => ⟨⟨pl, rk, Γ', hbs, hrows, hend, .inr rfl, htot⟩, hsz⟩
    have uu : row.op ≠ .tick → pot rk pl fr.blocks + (fr.block.rows.length - (fr.at' + 1)) + 1 < u := fun hop => by
      rcases hu with ⟨h0, ht, _⟩ | hu
      · exfalso
        rw [h0] at erow
        cases hrs : fr.block.rows with
        | nil => rw [hrs] at erow; cases erow
        | cons r0 rs =>
          rw [hrs] at erow ht
          simp at erow
          subst erow
          exact hop (of_decide_eq_true ht)
      · omega
    cases hat with
    | give e hv =>
      rename_i w k
      have nt : row.op ≠ .tick := fun z => by cases htick z
      rw [e] at hx
      cases ex : row.x with
      | none => rw [ex] at hx; cases hx
      | some x =>
        have hp' := pos (putE fr.env x w)
        rw [ex, e] at hp'
        refine .inr ⟨{ s with frames := { fr with env := putE fr.env x w, at' := fr.at' + 1 } :: rest }, S, _, by simp only [actDo], ⟨th, told, tk, _, rest, kd, _, v, _, rfl, hp', he.put (hf x ex) hv, hr, rfl⟩, ?_⟩
        have := uu nt
        show s.ticks.toNat * C + _ + v < s.ticks.toNat * C + u + v
        omega
    | new e ht =>
      rename_i t k
      have nt : row.op ≠ .tick := fun z => by cases htick z
      rw [e] at hx
      cases ex : row.x with
      | none => rw [ex] at hx; cases hx
      | some x =>
        have hp' := pos (putE fr.env x (.ref s.things.length))
        rw [ex, e] at hp'
        refine .inr ⟨{ s with things := s.things ++ [t], frames := { fr with env := putE fr.env x (.ref s.things.length), at' := fr.at' + 1 } :: rest }, S ++ [k], _, by simp only [actDo], ⟨th_new th ht, told, tk, _, rest, kd, _, v, _, rfl, hp', he.up.put (hf x ex) (.ref ?_), hr.up, rfl⟩, ?_⟩
        · rw [th.1, List.getElem?_append_right (Nat.le_refl _), Nat.sub_self]; rfl
        · have := uu nt
          show s.ticks.toNat * C + _ + v < s.ticks.toNat * C + u + v
          omega
    | fault hw =>
      refine .inl ⟨{ s with frames := { fr with at' := fr.at' + 1 } :: rest }, .fault _ row.line, by cases row.x <;> simp only [actDo], hw, told⟩
    | tick e =>
      by_cases h0 : s.ticks = 0
      · exact .inl ⟨{ s with frames := { fr with at' := fr.at' + 1 } :: rest }, .tired, by cases row.x <;> (simp only [actDo]; rw [if_pos h0]), trivial, told⟩
      · have hp' := pos fr.env
        rw [e] at hp'
        have eg : rowG Γ row.x none = Γ := by cases row.x <;> rfl
        rw [eg] at hp'
        refine .inr ⟨{ s with ticks := s.ticks - 1, frames := { fr with at' := fr.at' + 1 } :: rest }, S, _, by cases row.x <;> (simp only [actDo]; rw [if_neg h0]), ⟨th, told, by show 0 ≤ s.ticks - 1; omega, _, rest, kd, _, v, _, rfl, hp', he, hr, rfl⟩, ?_⟩
        show (s.ticks - 1).toNat * C + _ + v < s.ticks.toNat * C + u + v
        have := mul_pred (C := C) tk h0
        omega
    | tell e hi =>
      rename_i i
      have nt : row.op ≠ .tick := fun z => by cases htick z
      have hp' := pos fr.env
      rw [e] at hp'
      have eg : rowG Γ row.x none = Γ := by cases row.x <;> rfl
      rw [eg] at hp'
      refine .inr ⟨{ s with told := s.told ++ [.int i], frames := { fr with at' := fr.at' + 1 } :: rest }, S, _, by cases row.x <;> simp only [actDo], ⟨th, fun w hw => ?_, tk, _, rest, kd, _, v, _, rfl, hp', he, hr, rfl⟩, ?_⟩
      · rcases List.mem_append.mp hw with hw | hw
        · exact told w hw
        · cases List.mem_singleton.mp hw; exact ⟨i, rfl, hi⟩
      · have := uu nt
        show s.ticks.toNat * C + _ + v < s.ticks.toNat * C + u + v
        omega
    | upd e hn ht =>
      rename_i j t k
      have nt : row.op ≠ .tick := fun z => by cases htick z
      have hp' := pos fr.env
      rw [e] at hp'
      have eg : rowG Γ row.x none = Γ := by cases row.x <;> rfl
      rw [eg] at hp'
      refine .inr ⟨{ s with things := s.things.set j t, frames := { fr with at' := fr.at' + 1 } :: rest }, S, _, by cases row.x <;> simp only [actDo], ⟨th_set th hn ht, told, tk, _, rest, kd, _, v, _, rfl, hp', he, hr, rfl⟩, ?_⟩
      have := uu nt
      show s.ticks.toNat * C + _ + v < s.ticks.toNat * C + u + v
      omega
    | call e hf' hvs' =>
      rename_i f ws ps k
      have nt : row.op ≠ .tick := fun z => by cases htick z
      rw [e] at hx
      cases ex : row.x with
      | none => rw [ex] at hx; cases hx
      | some x =>
        obtain ⟨g, hg, hgk, ⟨plg, hbg, rg, hp0⟩⟩ := M.sg f ps k hf'
        obtain ⟨k0, hk0, hB⟩ := hbg _ _ hp0
        obtain ⟨Γ2, hrows2, hend2⟩ := hB.body
        have hgm := List.mem_of_find?_eq_some hg
        have hp' := pos fr.env
        rw [ex, e] at hp'
        have hen : EnvT S (binds [] k0.params ws) ([] ++ k0.params) := EnvT.binds (fun y ky hm => by simp at hm) hB.pt (by rw [hB.par]; exact hvs')
        refine .inr ⟨{ s with frames := ⟨g.blocks, binds [] k0.params ws, some x, k0, 0⟩ :: { fr with at' := fr.at' + 1 } :: rest }, S, _, by simp only [actDo, begin_, hg, hk0, Option.map], ⟨th, told, tk, ⟨g.blocks, binds [] k0.params ws, some x, k0, 0⟩, _, k, 0, _, _, rfl, ⟨⟨plg, rg, Γ2, by rw [← hgk]; exact hbg, hrows2, by rw [← hgk]; exact hend2, .inl ⟨rfl, hB.tk rfl, rfl⟩, pot_at_total (p := ⟨[], ps, rg, true⟩) hp0 hk0⟩, M.size g hgm⟩, hen, .cons (hf x ex) he hp' hr, rfl⟩, ?_⟩
        have := uu nt
        show s.ticks.toNat * C + 0 + (_ + v) < s.ticks.toNat * C + u + v
        omega
  | none =>
    simp only
    have hge : fr.block.rows.length ≤ fr.at' := List.getElem?_eq_none_iff.mp erow
    rw [List.drop_of_length_le hge] at hrows
    cases hrows
    have hu' : pot rk pl fr.blocks + 1 ≤ u := by
      rcases hu with ⟨h0, ht, _⟩ | hu
      · exfalso
        rw [h0] at hge
        have : fr.block.rows = [] := List.eq_nil_of_length_eq_zero (by omega)
        rw [this] at ht; cases ht
      · omega
    cases een : fr.block.en with
    | give x =>
      rw [een] at hend
      obtain _ | _ | hm | _ := hend
      obtain ⟨w, hw, hwt⟩ := he x kd hm
      simp only [endDo, hw]
      generalize etgt : fr.tgt = tg at hr
      cases hr with
      | nil =>
        obtain ⟨i, rfl, hi⟩ := vt_num th hwt
        exact .inl ⟨_, _, rfl, trivial, told⟩
      | cons hfr heg hpg hrg =>
        rename_i kd' x' g gs u' v' Γ0
        refine .inr ⟨{ s with frames := { g with env := putE g.env x' w } :: gs }, S, _, by simp only [etgt], ⟨th, told, tk, _, _, _, u', _, _, rfl, ?_, heg.put hfr hwt, hrg, rfl⟩, ?_⟩
        · obtain ⟨⟨a1, a2, a3, a4, a5, a6, a7, a8⟩, a9⟩ := hpg
          exact ⟨⟨a1, a2, a3, a4, a5, a6, a7, a8⟩, a9⟩
        · show s.ticks.toNat * C + _ + _ < s.ticks.toNat * C + u + (_ + _)
          omega
    | fail w l =>
      rw [een] at hend
      obtain _ | _ | _ | hw := hend
      exact .inl ⟨_, _, rfl, (by rcases hw with rfl | rfl <;> simp [OutOk]), told⟩
    | jump b args =>
      rw [een] at hend
      obtain ⟨ha, hg⟩ | _ | _ | _ := hend
      obtain ⟨vs, hl, hvs⟩ := he.args ha
      obtain ⟨f, u2, Γ2, h1, h2, h3, h4, h5⟩ := goes_ok hbs hsz he hg hvs
      refine .inr ⟨{ s with frames := f :: rest }, S, _, by simp only [endDo, hl, h1, Option.map], ⟨th, told, tk, f, rest, kd, u2, v, Γ2, rfl, h3, h4, by rw [h2]; exact hr, rfl⟩, ?_⟩
      show s.ticks.toNat * C + _ + _ < s.ticks.toNat * C + u + v
      omega
    | branch x b c =>
      rw [een] at hend
      obtain _ | ⟨hm, hg, hg'⟩ | _ | _ := hend
      obtain ⟨w, hw, hwt⟩ := he x .tru hm
      obtain ⟨t, rfl⟩ := vt_tru th hwt
      have hgg : Goes pl rk Γ (if t then b else c) [] := by cases t <;> assumption
      obtain ⟨f, u2, Γ2, h1, h2, h3, h4, h5⟩ := goes_ok hbs hsz he hgg .nil
      refine .inr ⟨{ s with frames := f :: rest }, S, _, by simp only [endDo, hw, h1, Option.map], ⟨th, told, tk, f, rest, kd, u2, v, Γ2, rfl, h3, h4, by rw [h2]; exact hr, rfl⟩, ?_⟩
      show s.ticks.toNat * C + _ + _ < s.ticks.toNat * C + u + v
      omega
/-- a run that keeps kinds comes to an end -/
theorem runs_ok {T : Sg} {m : Mid} {C : Nat} (M : MidT T m C) (rcF : ∀ r ks ks', (r, ks) ∈ T.rc → (r, ks') ∈ T.rc → ks = ks') : ∀ (P : Nat) (S : List Kd) (s : MS), StT T C S s P →
    ∃ n s' o, n ≤ P + 1 ∧ Runs m n s s' o ∧ OutOk o ∧ ∀ v ∈ s'.told, ∃ i, v = .int i ∧ Num i := by
  intro P
  induction P using Nat.strongRecOn with
  | _ P ih =>
    intro S s h
    rcases step_ok M rcF h with ⟨s', o, h1, h2, h3⟩ | ⟨s1, S', P', h1, h2, h3⟩
    · exact ⟨1, s', o, by omega, .last h1, h2, h3⟩
    · obtain ⟨n, s', o, h4, h5, h6, h7⟩ := ih P' h3 S' s1 h2
      exact ⟨n + 1, s', o, by omega, .more h1 h5, h6, h7⟩
/-- main's run -/
theorem main_ok {T : Sg} {m : Mid} {C : Nat} (M : MidT T m C) (rcF : ∀ r ks ks', (r, ks) ∈ T.rc → (r, ks') ∈ T.rc → ks = ks') {g : Fun} {ps : List Kd} (hg : (m.funs.find? fun g => decide (g.name = ("main" : PySem.Str))) = some g) (hk : g.kd = .num) (F : FunT T g ps) (hps : ∀ k ∈ ps, k = .num) {ins : List Int} (hi : ins.length = ps.length) (hn : ∀ i ∈ ins, Num i) {ti : Int} (ht : 0 ≤ ti) :
    ∃ k n s' o, g.blocks[0]? = some k ∧ k.params.length = ins.length ∧ n ≤ ti.toNat * C + 1 ∧ Runs m n ⟨[], [], ti, [⟨g.blocks, binds [] k.params (ins.map .int), none, k, 0⟩]⟩ s' o ∧ OutOk o ∧ ∀ v ∈ s'.told, ∃ i, v = .int i ∧ Num i := by
  obtain ⟨pl, hb, rg, hp0⟩ := F.ex
  obtain ⟨k0, hk0, hB⟩ := hb _ _ hp0
  obtain ⟨Γ2, hrows2, hend2⟩ := hB.body
  have hgm := List.mem_of_find?_eq_some hg
  have hvs : ∀ (ns : List Int) (qs : List Kd), ns.length = qs.length → (∀ k ∈ qs, k = .num) → (∀ i ∈ ns, Num i) → VTs [] (ns.map .int) qs := by
    intro ns
    induction ns with
    | nil => intro qs h _ _; cases qs with
      | nil => exact .nil
      | cons _ _ => cases h
    | cons a r ih => intro qs h h1 h2; cases qs with
      | nil => cases h
      | cons q qs =>
        rw [h1 q (by simp)]
        exact .cons (.int (h2 a (by simp))) (ih qs (by simpa using h) (fun k hk => h1 k (by simp [hk])) (fun i hi => h2 i (by simp [hi])))
  have hlen : k0.params.length = ps.length := by
    have := congrArg List.length hB.par
    simpa using this
  have hen : EnvT [] (binds [] k0.params (ins.map .int)) ([] ++ k0.params) := EnvT.binds (fun y ky hm => by simp at hm) hB.pt (by rw [hB.par]; exact hvs ins ps hi hps hn)
  have st : StT T C [] ⟨[], [], ti, [⟨g.blocks, binds [] k0.params (ins.map .int), none, k0, 0⟩]⟩ (ti.toNat * C + 0 + 0) :=
    ⟨⟨rfl, fun n k e => by simp at e⟩, fun v hv => by simp at hv, ht, _, [], .num, 0, 0, _, rfl, ⟨⟨pl, rg, Γ2, by rw [← hk]; exact hb, hrows2, by rw [← hk]; exact hend2, .inl ⟨rfl, hB.tk rfl, rfl⟩, pot_at_total (p := ⟨[], ps, rg, true⟩) hp0 hk0⟩, M.size g hgm⟩, hen, .nil, rfl⟩
  obtain ⟨n, s', o, h1, h2, h3, h4⟩ := runs_ok M rcF _ _ _ st
  exact ⟨k0, n, s', o, hk0, by rw [hlen, hi], by simpa using h1, h2, h3, h4⟩
end Md

/-! CL, part w8: middles as laws make them: a state that is filled row by row, and what of it keeps kinds -/
namespace Md
open CL
structure Gs where
  blocks : List (Option Block)
  now : Nat
  rows : List Row
  params : List (Int × Kd)
  env : Ga
  next : Int
  line : Int
def named (n : Int) : List Kd → List (Int × Kd)
  | [] => []
  | k :: r => (n, k) :: named (n + 1) r
theorem named_len : ∀ (ks : List Kd) (n : Int), (named n ks).length = ks.length
  | [], _ => rfl
  | k :: r, n => by unfold named; rw [List.length_cons, List.length_cons, named_len r]
theorem named_kinds : ∀ (ks : List Kd) (n : Int), (named n ks).map (·.2) = ks
  | [], _ => rfl
  | k :: r, n => by unfold named; rw [List.map_cons, named_kinds r]
theorem named_lt : ∀ (ks : List Kd) (n : Int) (q : Int × Kd), q ∈ named n ks → n ≤ q.1 ∧ q.1 < n + ks.length
  | [], n, q, h => by cases h
  | k :: r, n, q, h => by
    unfold named at h
    rcases List.mem_cons.mp h with rfl | h
    · simp only [List.length_cons]; constructor <;> (show (_ : Int) ≤ _ ; simp) ; omega
    · have := named_lt r (n + 1) q h
      simp only [List.length_cons]; omega
def Gs.put (S : Gs) (kd : Option Kd) (op : Op) (args : List Int) (more : More) : Gs := match kd with
  | some k => { S with next := S.next + 1, env := S.env ++ [(S.next, k)], line := S.line + 1, rows := S.rows ++ [⟨some S.next, some k, op, args, more, S.line + 1⟩] }
  | none => { S with line := S.line + 1, rows := S.rows ++ [⟨none, none, op, args, more, S.line + 1⟩] }
def Gs.beg (S : Gs) (at' : Nat) (ks : List Kd) : Gs := { S with now := at', rows := [], params := named S.next ks, env := S.env ++ named S.next ks, next := S.next + ks.length }
def Gs.fin (S : Gs) (en : End) : Gs := { S with blocks := S.blocks.set S.now (some ⟨S.params, S.rows, en⟩) }
def Gs.opn (S : Gs) : Gs := { S with blocks := S.blocks ++ [none] }
def sumR : List (Option Block) → Nat
  | [] => 0
  | none :: r => sumR r
  | some b :: r => b.rows.length + sumR r
theorem sumR_snoc : ∀ bs : List (Option Block), sumR (bs ++ [none]) = sumR bs
  | [] => rfl
  | none :: r => sumR_snoc r
  | some b :: r => by rw [List.cons_append, sumR, sumR, sumR_snoc r]
theorem sumR_set (b : Block) : ∀ (bs : List (Option Block)) (i : Nat), sumR (bs.set i (some b)) ≤ sumR bs + b.rows.length
  | [], i => by simp [sumR]
  | none :: r, 0 => by rw [List.set_cons_zero, sumR, sumR]; omega
  | some c :: r, 0 => by rw [List.set_cons_zero, sumR, sumR]; omega
  | none :: r, i + 1 => by rw [List.set_cons_succ, sumR, sumR]; exact sumR_set b r i
  | some c :: r, i + 1 => by rw [List.set_cons_succ, sumR, sumR]; have := sumR_set b r i; omega
/-! ### plans grow -/
def PlLe (pl pl' : Plan) : Prop := ∀ i p, pl i = some p → pl' i = some p
theorem PlLe.refl (pl : Plan) : PlLe pl pl := fun _ _ h => h
theorem PlLe.trans {a b c : Plan} (h : PlLe a b) (k : PlLe b c) : PlLe a c := fun i p e => k i p (h i p e)
theorem Goes.up {pl pl' : Plan} {rk : Nat} {Γ : Ga} {b : Nat} {ks : List Kd} (l : PlLe pl pl') (h : Goes pl rk Γ b ks) : Goes pl' rk Γ b ks := by
  obtain ⟨p, h1, h2⟩ := h
  exact ⟨p, l b p h1, h2⟩
theorem EndT.up {pl pl' : Plan} {rk : Nat} {kd : Kd} {Γ : Ga} {e : End} (l : PlLe pl pl') (h : EndT pl rk kd Γ e) : EndT pl' rk kd Γ e := by
  cases h with
  | jump a g => exact .jump a (g.up l)
  | branch h g g' => exact .branch h (g.up l) (g'.up l)
  | give h => exact .give h
  | fail h => exact .fail h
theorem BlockT.up {T : Sg} {pl pl' : Plan} {kd : Kd} {p : Pl} {b : Block} (l : PlLe pl pl') (h : BlockT T pl kd p b) : BlockT T pl' kd p b := by
  obtain ⟨Γ', h1, h2⟩ := h.body
  exact ⟨h.par, h.pt, ⟨Γ', h1, h2.up l⟩, h.tk⟩
def plan (i : Nat) (p : Pl) (pl : Plan) : Plan := fun j => if j = i then some p else pl j
theorem plan_at {i : Nat} {p : Pl} {pl : Plan} : plan i p pl i = some p := if_pos rfl
theorem plan_ne {i j : Nat} {p : Pl} {pl : Plan} (h : j ≠ i) : plan i p pl j = pl j := if_neg h
theorem plan_le {i : Nat} {p : Pl} {pl : Plan} (h : pl i = none) : PlLe pl (plan i p pl) := fun j q e => by
  by_cases z : j = i
  · subst z; rw [h] at e; cases e
  · rw [plan_ne z]; exact e
def Done (T : Sg) (pl : Plan) (bs : List (Option Block)) (i : Nat) : Prop := ∃ b p, bs[i]? = some (some b) ∧ pl i = some p ∧ BlockT T pl .num p b
theorem Done.up {T : Sg} {pl pl' : Plan} {bs : List (Option Block)} {i : Nat} (l : PlLe pl pl') (h : Done T pl bs i) : Done T pl' bs i := by
  obtain ⟨b, p, h1, h2, h3⟩ := h
  exact ⟨b, p, h1, l i p h2, h3.up l⟩
/-- a block's parts are not too many -/
structure BlkB (b : Block) : Prop where
  par : b.params.length ≤ 14
  row : ∀ r ∈ b.rows, r.args.length ≤ 100
  jmp : ∀ c args, b.en = .jump c args → args.length ≤ 100
def AllB (bs : List (Option Block)) : Prop := ∀ (i : Nat) (b : Block), bs[i]? = some (some b) → BlkB b
theorem AllB.opn {bs : List (Option Block)} (h : AllB bs) : AllB (bs ++ [none]) := fun i b e => by
  by_cases z : i < bs.length
  · rw [List.getElem?_append_left z] at e; exact h i b e
  · rw [List.getElem?_append_right (by omega)] at e
    cases hk : i - bs.length with
    | zero => rw [hk] at e; cases e
    | succ k => rw [hk] at e; simp at e
theorem AllB.set {bs : List (Option Block)} {j : Nat} {c : Block} (h : AllB bs) (hc : BlkB c) : AllB (bs.set j (some c)) := fun i b e => by
  rw [List.getElem?_set] at e
  split at e
  · split at e
    · cases e; exact hc
    · cases e
  · exact h i b e
def EndB (en : End) : Prop := ∀ c args, en = .jump c args → args.length ≤ 100
/-- a block that is being filled -/
structure Gs.Open (T : Sg) (pl : Plan) (S : Gs) (rk : Nat) (U : List Nat) : Prop where
  now : S.now < S.blocks.length
  pln : ∀ i p, pl i = some p → i < S.blocks.length
  cur : ∃ p, pl S.now = some p ∧ p.rank = rk ∧ S.params.map (·.2) = p.ks ∧ ParT p.env S.params ∧ RowsT T (p.env ++ S.params) S.rows S.env ∧ (p.tk = true → tkRow S.rows = true)
  fin : ∀ i, i < S.blocks.length → i = S.now ∨ i ∈ U ∨ Done T pl S.blocks i
  env : ∀ q ∈ S.env, q.1 < S.next
  sum : (sumR S.blocks : Int) + S.rows.length ≤ S.line
  okP : S.params.length ≤ 14
  okR : ∀ r ∈ S.rows, r.args.length ≤ 100
  okB : AllB S.blocks
/-- one that has just been begun -/
structure Gs.Begun (T : Sg) (pl : Plan) (S : Gs) (p : Pl) (U : List Nat) : Prop where
  now : S.now < S.blocks.length
  pln : ∀ i p, pl i = some p → i < S.blocks.length
  cur : pl S.now = some p ∧ S.params.map (·.2) = p.ks ∧ ParT p.env S.params ∧ S.rows = [] ∧ S.env = p.env ++ S.params
  fin : ∀ i, i < S.blocks.length → i = S.now ∨ i ∈ U ∨ Done T pl S.blocks i
  env : ∀ q ∈ S.env, q.1 < S.next
  sum : (sumR S.blocks : Int) ≤ S.line
  okP : S.params.length ≤ 14
  okB : AllB S.blocks
/-- no block is being filled -/
structure Gs.Shut (T : Sg) (pl : Plan) (S : Gs) (U : List Nat) : Prop where
  pln : ∀ i p, pl i = some p → i < S.blocks.length
  fin : ∀ i, i < S.blocks.length → i ∈ U ∨ Done T pl S.blocks i
  env : ∀ q ∈ S.env, q.1 < S.next
  sum : (sumR S.blocks : Int) ≤ S.line
  okB : AllB S.blocks
theorem okR_snoc {rs : List Row} {r : Row} (h : ∀ r ∈ rs, r.args.length ≤ 100) (hr : r.args.length ≤ 100) : ∀ q ∈ rs ++ [r], q.args.length ≤ 100 := fun q hq => by
  rcases List.mem_append.mp hq with hq | hq
  · exact h q hq
  · cases List.mem_singleton.mp hq; exact hr
theorem RowsT.snoc {T : Sg} {r : Row} : ∀ {Γ Γ' : Ga} {rs : List Row}, RowsT T Γ rs Γ' → RowT T Γ' r → RowsT T Γ (rs ++ [r]) (rowG Γ' r.x r.kd)
  | _, _, _, .nil, h => .cons h .nil
  | _, _, _, .cons a t, h => .cons a (t.snoc h)
theorem tkRow_snoc {rs : List Row} {r : Row} (h : tkRow rs = true) : tkRow (rs ++ [r]) = true := by
  cases rs with
  | nil => cases h
  | cons a b => exact h
section
variable {T : Sg} {pl : Plan} {S : Gs} {rk : Nat} {U : List Nat}
theorem Gs.Open.put1 {k : Kd} {op : Op} {args : List Int} {more : More} {ks : List Kd} (h : S.Open T pl rk U) (a : ArgsT S.env args ks) (o : OpT T op more ks (some k)) (hl : args.length ≤ 100) : (S.put (some k) op args more).Open T pl rk U := by
  obtain ⟨p, h1, h2, h3, h4, h5, h6⟩ := h.cur
  refine ⟨h.now, h.pln, ⟨p, h1, h2, h3, h4, ?_, fun z => tkRow_snoc (h6 z)⟩, h.fin, fun q hq => ?_, ?_, h.okP, okR_snoc h.okR hl, h.okB⟩
  · exact h5.snoc (r := ⟨some S.next, some k, op, args, more, S.line + 1⟩) (.mk a o rfl fun x e => by cases e; exact fun q hq => Int.ne_of_lt (h.env q hq))
  · show q.1 < S.next + 1
    rcases List.mem_append.mp hq with hq | hq
    · have := h.env q hq; omega
    · cases List.mem_singleton.mp hq; show S.next < S.next + 1; omega
  · show (sumR S.blocks : Int) + ((S.rows ++ [_]).length : Nat) ≤ S.line + 1
    have := h.sum
    rw [List.length_append]; simp only [List.length_singleton]; push_cast; omega
theorem Gs.put_mem {k : Kd} {op : Op} {args : List Int} {more : More} : (S.next, k) ∈ (S.put (some k) op args more).env := by
  show (S.next, k) ∈ S.env ++ [(S.next, k)]
  simp
theorem Gs.Open.put0 {op : Op} {args : List Int} {more : More} {ks : List Kd} (h : S.Open T pl rk U) (a : ArgsT S.env args ks) (o : OpT T op more ks none) (hl : args.length ≤ 100) : (S.put none op args more).Open T pl rk U := by
  obtain ⟨p, h1, h2, h3, h4, h5, h6⟩ := h.cur
  refine ⟨h.now, h.pln, ⟨p, h1, h2, h3, h4, ?_, fun z => tkRow_snoc (h6 z)⟩, h.fin, h.env, ?_, h.okP, okR_snoc h.okR hl, h.okB⟩
  · exact h5.snoc (r := ⟨none, none, op, args, more, S.line + 1⟩) (.mk a o rfl fun x e => by cases e)
  · show (sumR S.blocks : Int) + ((S.rows ++ [_]).length : Nat) ≤ S.line + 1
    have := h.sum
    rw [List.length_append]; simp only [List.length_singleton]; push_cast; omega
theorem Gs.Begun.tick {p : Pl} (h : S.Begun T pl p U) : (S.put none .tick [] .no).Open T pl p.rank U := by
  obtain ⟨h1, h2, h3, h4, h5⟩ := h.cur
  refine ⟨h.now, h.pln, ⟨p, h1, rfl, h2, h3, ?_, fun _ => ?_⟩, h.fin, h.env, ?_, h.okP, okR_snoc (by rw [h4]; exact fun r hr => by cases hr) (Nat.zero_le _), h.okB⟩
  · show RowsT T (p.env ++ S.params) (S.rows ++ [_]) S.env
    rw [h4, h5]
    exact .cons (.mk .nil .tick rfl fun x e => by cases e) .nil
  · show tkRow (S.rows ++ [_]) = true
    rw [h4]; rfl
  · show (sumR S.blocks : Int) + ((S.rows ++ [_]).length : Nat) ≤ S.line + 1
    have := h.sum
    rw [h4]; simp only [List.nil_append, List.length_singleton]; push_cast; omega
theorem Gs.Begun.open {p : Pl} (h : S.Begun T pl p U) (ht : p.tk = false) : S.Open T pl p.rank U := by
  obtain ⟨h1, h2, h3, h4, h5⟩ := h.cur
  refine ⟨h.now, h.pln, ⟨p, h1, rfl, h2, h3, ?_, fun z => by rw [ht] at z; cases z⟩, h.fin, h.env, ?_, h.okP, (by rw [h4]; exact fun r hr => (by cases hr)), h.okB⟩
  · rw [h4, h5]; exact .nil
  · have := h.sum
    rw [h4]; simp only [List.length_nil]; push_cast; omega
theorem done_opn {bs : List (Option Block)} {i : Nat} (h : Done T pl bs i) : Done T pl (bs ++ [none]) i := by
  obtain ⟨b, p, h1, h2⟩ := h
  exact ⟨b, p, by rw [List.getElem?_append_left (List.getElem?_eq_some_iff.mp h1).1]; exact h1, h2⟩
theorem Gs.Open.opn (h : S.Open T pl rk U) : S.opn.Open T pl rk (S.blocks.length :: U) := by
  have hl : S.opn.blocks.length = S.blocks.length + 1 := by show (S.blocks ++ [none]).length = _; simp
  refine ⟨by rw [hl]; have := h.now; show S.now < _; omega, fun i p e => by rw [hl]; have := h.pln i p e; omega, h.cur, fun i hi => ?_, h.env, ?_, h.okP, h.okR, h.okB.opn⟩
  · rw [hl] at hi
    by_cases z : i = S.blocks.length
    · exact .inr (.inl (by simp [z]))
    · rcases h.fin i (by omega) with h1 | h1 | h1
      · exact .inl h1
      · exact .inr (.inl (List.mem_cons_of_mem _ h1))
      · exact .inr (.inr (done_opn h1))
  · show (sumR (S.blocks ++ [none]) : Int) + _ ≤ _
    rw [sumR_snoc]; exact h.sum
theorem Gs.Open.plan {i : Nat} {p : Pl} (h : S.Open T pl rk U) (hi : pl i = none) (hl : i < S.blocks.length) : S.Open T (plan i p pl) rk U := by
  obtain ⟨q, h1, h2⟩ := h.cur
  refine ⟨h.now, fun j r e => ?_, ⟨q, plan_le hi _ _ h1, h2⟩, fun j hj => ?_, h.env, h.sum, h.okP, h.okR, h.okB⟩
  · by_cases z : j = i
    · rw [z]; exact hl
    · rw [plan_ne z] at e; exact h.pln j r e
  · rcases h.fin j hj with h3 | h3 | h3
    · exact .inl h3
    · exact .inr (.inl h3)
    · exact .inr (.inr (h3.up (plan_le hi)))
theorem Gs.Open.none {i : Nat} (h : S.Open T pl rk U) (hi : S.blocks.length ≤ i) : pl i = none := by
  cases e : pl i with
  | none => rfl
  | some p => have := h.pln i p e; omega
theorem Gs.Open.fin_ {en : End} (h : S.Open T pl rk U) (e : EndT pl rk .num S.env en) (hE : EndB en) : (S.fin en).Shut T pl U := by
  obtain ⟨p, h1, h2, h3, h4, h5, h6⟩ := h.cur
  have hl : (S.fin en).blocks.length = S.blocks.length := by show (S.blocks.set _ _).length = _; simp
  refine ⟨fun i q hq => by rw [hl]; exact h.pln i q hq, fun i hi => ?_, h.env, ?_, h.okB.set ⟨h.okP, h.okR, hE⟩⟩
  · rw [hl] at hi
    by_cases z : i = S.now
    · refine .inr ⟨⟨S.params, S.rows, en⟩, p, ?_, by rw [z]; exact h1, ⟨h3, h4, ⟨S.env, h5, by rw [h2]; exact e⟩, h6⟩⟩
      show (S.blocks.set S.now _)[i]? = _
      rw [z, List.getElem?_set_self h.now]
    · rcases h.fin i hi with h7 | h7 | h7
      · exact absurd h7 z
      · exact .inl h7
      · obtain ⟨b, q, g1, g2⟩ := h7
        refine .inr ⟨b, q, ?_, g2⟩
        show (S.blocks.set S.now _)[i]? = _
        rw [List.getElem?_set_ne (fun y => z y.symm)]; exact g1
  · show (sumR (S.blocks.set S.now (some ⟨S.params, S.rows, en⟩)) : Int) ≤ S.line
    have := sumR_set ⟨S.params, S.rows, en⟩ S.blocks S.now
    have := h.sum
    simp only at *
    omega
theorem Gs.Shut.env_ {Γ : Ga} (h : S.Shut T pl U) (hΓ : ∀ q ∈ Γ, q.1 < S.next) : ({ S with env := Γ } : Gs).Shut T pl U := ⟨h.pln, h.fin, hΓ, h.sum, h.okB⟩
theorem Gs.Shut.plan {i : Nat} {p : Pl} (h : S.Shut T pl U) (hi : pl i = none) (hl : i < S.blocks.length) : S.Shut T (plan i p pl) U := by
  refine ⟨fun j r e => ?_, fun j hj => ?_, h.env, h.sum, h.okB⟩
  · by_cases z : j = i
    · rw [z]; exact hl
    · rw [plan_ne z] at e; exact h.pln j r e
  · rcases h.fin j hj with h3 | h3
    · exact .inl h3
    · exact .inr (h3.up (plan_le hi))
theorem parT_named : ∀ (ks : List Kd) (n : Int) (Γ : Ga), (∀ q ∈ Γ, q.1 < n) → ParT Γ (named n ks)
  | [], _, _, _ => .nil
  | k :: r, n, Γ, h => by
    unfold named
    refine .cons (fun q hq => Int.ne_of_lt (h q hq)) (parT_named r (n + 1) _ fun q hq => ?_)
    rcases List.mem_append.mp hq with hq | hq
    · have := h q hq; omega
    · cases List.mem_singleton.mp hq; show n < n + 1; omega
theorem Gs.Shut.beg {i : Nat} {p : Pl} {U' : List Nat} (h : S.Shut T pl U) (hp : pl i = some p) (he : S.env = p.env) (hU : ∀ j ∈ U, j = i ∨ j ∈ U') (hk : p.ks.length ≤ 14) : (S.beg i p.ks).Begun T pl p U' := by
  refine ⟨h.pln i p hp, h.pln, ⟨hp, named_kinds _ _, ?_, rfl, ?_⟩, fun j hj => ?_, fun q hq => ?_, h.sum, by show (named S.next p.ks).length ≤ 14; rw [named_len]; exact hk, h.okB⟩
  · exact parT_named _ _ _ fun q hq => h.env q (by rw [he]; exact hq)
  · show S.env ++ named S.next p.ks = p.env ++ named S.next p.ks
    rw [he]
  · rcases h.fin j hj with h1 | h1
    · rcases hU j h1 with h2 | h2
      · exact .inl h2
      · exact .inr (.inl h2)
    · exact .inr (.inr h1)
  · show q.1 < S.next + p.ks.length
    rcases List.mem_append.mp hq with hq | hq
    · have := h.env q hq; omega
    · have := named_lt _ _ _ hq; omega
/-- all blocks are done -/
theorem all_done : ∀ (bs : List (Option Block)), (∀ i, i < bs.length → ∃ b, bs[i]? = some (some b)) → ∃ cs : List Block, bs = cs.map some
  | [], _ => ⟨[], rfl⟩
  | a :: r, h => by
    obtain ⟨b, hb⟩ := h 0 (by simp)
    simp at hb
    obtain ⟨cs, hc⟩ := all_done r fun i hi => by
      obtain ⟨c, hc⟩ := h (i + 1) (by simpa using hi)
      exact ⟨c, by simpa using hc⟩
    exact ⟨b :: cs, by rw [hb, hc]; rfl⟩
theorem total_sum : ∀ bs : List Block, total bs = sumR (bs.map some) + bs.length
  | [] => rfl
  | b :: r => by rw [total, List.map_cons, sumR, List.length_cons, total_sum r]; omega
theorem Gs.Shut.done {nm : PySem.Str} {ks : List Kd} (h : S.Shut T pl []) (h0 : pl 0 = some ⟨[], ks, rk, true⟩) : ∃ bs : List Block, S.blocks = bs.map some ∧ FunT T ⟨nm, .num, bs⟩ ks ∧ (total bs : Int) ≤ S.line + S.blocks.length ∧ ∀ b ∈ bs, BlkB b := by
  have hd : ∀ i, i < S.blocks.length → Done T pl S.blocks i := fun i hi => (h.fin i hi).resolve_left (by simp)
  obtain ⟨bs, hbs⟩ := all_done S.blocks fun i hi => by
    obtain ⟨b, _, hb, _⟩ := hd i hi
    exact ⟨b, hb⟩
  refine ⟨bs, hbs, ⟨⟨pl, fun i p hp => ?_, rk, h0⟩⟩, ?_, fun b hb => ?_⟩
  · obtain ⟨b, q, h1, h2, h3⟩ := hd i (h.pln i p hp)
    rw [hp] at h2; cases h2
    rw [hbs, List.getElem?_map] at h1
    refine ⟨b, ?_, h3⟩
    cases e : bs[i]? with
    | none => rw [e] at h1; cases h1
    | some c => rw [e] at h1; cases h1; rfl
  · rw [total_sum, ← hbs]
    have := h.sum
    have : bs.length = S.blocks.length := by rw [hbs]; simp
    push_cast; omega
  · obtain ⟨i, hi⟩ := List.getElem?_of_mem hb
    exact h.okB i b (by rw [hbs, List.getElem?_map, hi]; rfl)
/-- a function's beginning -/
def Gs.s0 (nx : Int) : Gs := ⟨[], 0, [], [], [], nx, 0⟩
def Gs.first (nx : Int) (ks : List Kd) : Gs := (((Gs.s0 nx).opn).beg 0 ks).put none .tick [] .no
theorem first_open {nx : Int} {ks : List Kd} (rk : Nat) (hk : ks.length ≤ 14) : (Gs.first nx ks).Open T (Md.plan 0 ⟨[], ks, rk, true⟩ fun _ => none) rk [] := by
  have h : ((Gs.s0 nx).opn).Shut T (Md.plan 0 ⟨[], ks, rk, true⟩ fun _ => none) [0] := by
    refine ⟨fun i p e => ?_, fun i hi => .inl ?_, fun q hq => (by cases hq), ?_, fun i b e => ?_⟩
    · by_cases z : i = 0
      · subst z; exact (by decide : 0 < 1)
      · rw [plan_ne z] at e; cases e
    · have hi : i < 1 := hi
      simp; omega
    · show ((sumR [none] : Nat) : Int) ≤ 0
      decide
    · cases i with
      | zero => cases e
      | succ k => simp [Gs.opn, Gs.s0] at e
  exact (h.beg (p := ⟨[], ks, rk, true⟩) (U' := []) plan_at rfl (fun j hj => .inl (by simpa using hj)) hk).tick
end
end Md

namespace Md
open CL
/-- main's run: how it begins, and that it ends -/
theorem main_st {T : Sg} {m : Mid} {C : Nat} (M : MidT T m C) {g : Fun} {ps : List Kd} (hg : (m.funs.find? fun g => decide (g.name = ("main" : PySem.Str))) = some g) (hk : g.kd = .num) (F : FunT T g ps) (hps : ∀ k ∈ ps, k = .num) {ins : List Int} (hi : ins.length = ps.length) (hn : ∀ i ∈ ins, Num i) {ti : Int} (ht : 0 ≤ ti) :
    ∃ k, g.blocks[0]? = some k ∧ ins.length = k.params.length ∧ StT T C [] ⟨[], [], ti, [⟨g.blocks, binds [] k.params (ins.map .int), none, k, 0⟩]⟩ (ti.toNat * C) := by
  obtain ⟨pl, hb, rg, hp0⟩ := F.ex
  obtain ⟨k0, hk0, hB⟩ := hb _ _ hp0
  obtain ⟨Γ2, hrows2, hend2⟩ := hB.body
  have hgm := List.mem_of_find?_eq_some hg
  have hvs : ∀ (ns : List Int) (qs : List Kd), ns.length = qs.length → (∀ k ∈ qs, k = .num) → (∀ i ∈ ns, Num i) → VTs [] (ns.map .int) qs := by
    intro ns
    induction ns with
    | nil => intro qs h _ _; cases qs with
      | nil => exact .nil
      | cons _ _ => cases h
    | cons a r ih => intro qs h h1 h2; cases qs with
      | nil => cases h
      | cons q qs =>
        rw [h1 q (by simp)]
        exact .cons (.int (h2 a (by simp))) (ih qs (by simpa using h) (fun k hk => h1 k (by simp [hk])) (fun i hi => h2 i (by simp [hi])))
  have hlen : k0.params.length = ps.length := by
    have := congrArg List.length hB.par
    simpa using this
  have hen : EnvT [] (binds [] k0.params (ins.map .int)) ([] ++ k0.params) := EnvT.binds (fun y ky hm => by simp at hm) hB.pt (by rw [hB.par]; exact hvs ins ps hi hps hn)
  have st : StT T C [] ⟨[], [], ti, [⟨g.blocks, binds [] k0.params (ins.map .int), none, k0, 0⟩]⟩ (ti.toNat * C + 0 + 0) :=
    ⟨⟨rfl, fun n k e => by simp at e⟩, fun v hv => by simp at hv, ht, _, [], .num, 0, 0, _, rfl, ⟨⟨pl, rg, Γ2, by rw [← hk]; exact hb, hrows2, by rw [← hk]; exact hend2, .inl ⟨rfl, hB.tk rfl, rfl⟩, pot_at_total (p := ⟨[], ps, rg, true⟩) hp0 hk0⟩, M.size g hgm⟩, hen, .nil, rfl⟩
  exact ⟨k0, hk0, by rw [hlen, hi], st⟩
theorem actDo_told {m : Mid} {s : MS} {fr : Fr} {rest : List Fr} {x : Option Int} {line : Int} {a : Act} {s' : MS} {o : Option Out} (h : actDo m s fr rest x line a = some (s', o)) : s'.told.length ≤ s.told.length + 1 := by
  unfold actDo at h
  split at h
  · cases h; show s.told.length ≤ _; omega
  · cases h; show s.told.length ≤ _; omega
  · cases h; show s.told.length ≤ _; omega
  · split at h <;> (cases h; show s.told.length ≤ _; omega)
  · cases h; show (s.told ++ [_]).length ≤ _; simp
  · cases h; show s.told.length ≤ _; omega
  · obtain ⟨g, _, h⟩ := Option.map_eq_some_iff.mp h
    cases h; show s.told.length ≤ _; omega
  · cases h
theorem endDo_told {s : MS} {fr : Fr} {rest : List Fr} {e : End} {s' : MS} {o : Option Out} (h : endDo s fr rest e = some (s', o)) : s'.told.length ≤ s.told.length + 1 := by
  unfold endDo at h
  split at h
  · split at h
    · split at h
      · cases h; show s.told.length ≤ _; omega
      · split at h
        · cases h; show s.told.length ≤ _; omega
        · cases h
    · cases h
  · cases h; show s.told.length ≤ _; omega
  · split at h
    · obtain ⟨g, _, h⟩ := Option.map_eq_some_iff.mp h
      cases h; show s.told.length ≤ _; omega
    · cases h
  · split at h
    · obtain ⟨g, _, h⟩ := Option.map_eq_some_iff.mp h
      cases h; show s.told.length ≤ _; omega
    · cases h
theorem step_told {m : Mid} {s s' : MS} {o : Option Out} (h : step m s = some (s', o)) : s'.told.length ≤ s.told.length + 1 := by
  unfold step at h
  split at h
  · cases h
  · split at h
    · split at h
      · split at h
        · exact actDo_told h
        · cases h
      · cases h
    · exact endDo_told h
theorem runs_told {m : Mid} : ∀ {n : Nat} {s s' : MS} {o : Out}, Runs m n s s' o → s'.told.length ≤ s.told.length + n
  | _, _, _, _, .last h => step_told h
  | _, _, _, _, .more h r => by have := step_told h; have := runs_told r; omega
/-- the functions of a middle by their names -/
theorem find_name : ∀ {gs : List Fun} {g : Fun}, (gs.map (·.name)).Nodup → g ∈ gs → (gs.find? fun h => decide (h.name = g.name)) = some g
  | a :: r, g, nd, hm => by
    rw [List.map_cons, List.nodup_cons] at nd
    rcases List.mem_cons.mp hm with rfl | hm
    · rw [List.find?_cons_of_pos (by simp)]
    · rw [List.find?_cons_of_neg, find_name nd.2 hm]
      intro z
      exact nd.1 (List.mem_map.mpr ⟨g, hm, (of_decide_eq_true z).symm⟩)
/-- a middle that is whole: its main takes so many numbers -/
structure Whole (m : Mid) (C P i : Nat) : Prop where
  ex : ∃ T g, MidT T m C ∧ (∀ r ks ks', (r, ks) ∈ T.rc → (r, ks') ∈ T.rc → ks = ks') ∧ (m.funs.find? fun g => decide (g.name = ("main" : PySem.Str))) = some g ∧ g.kd = .num ∧ FunT T g (List.replicate i .num)
  small : Small m P
  len : m.funs.length ≤ 1000
theorem told_ints : ∀ (vs : List MV), (∀ v ∈ vs, ∃ i, v = .int i ∧ Num i) → ∃ ns : List Int, vs = ns.map .int
  | [], _ => ⟨[], rfl⟩
  | v :: r, h => by
    obtain ⟨i, rfl, _⟩ := h v (by simp)
    obtain ⟨ns, rfl⟩ := told_ints r fun u hu => h u (by simp [hu])
    exact ⟨i :: ns, rfl⟩
end Md
namespace CL
variable {B H R : HL} {Q : Val → HL → Prop}
theorem x_lstB {kt : List (List Val)} {a : Nat} {xs : List Val} {i : Int} {v : Val} (u : (a, .lst xs) ∈ B) (h : L2.atI xs i = some v) (q : Q v H) : WP B (subV kt (.ref a) (.int i)) H Q := wp_of (fun st F s => by simp only [subV, fix_at u s, h]) q
theorem f_listB {a : Nat} {xs : List Val} (u : (a, .lst xs) ∈ B) (q : ∀ p, Q (.ref p) ((p, .lst xs) :: H)) : WP B (bfn .list [.ref a]) H Q := fun st F s => by
  obtain ⟨v, K, st', e, q, s'⟩ := wp_mk (B := B) q st F s
  exact ⟨v, K, st', by simp only [bfn, fix_at u s, e], q, s'⟩
end CL

namespace LK28
open PySem
abbrev c_Cells : Nat := 0
abbrev c_Closed : Nat := 1
abbrev c_Level : Nat := 2
abbrev c_Run : Nat := 3
abbrev g_HALF : Nat := 0
abbrev g_WHOLE : Nat := 1
abbrev g_LONGEST : Nat := 2
abbrev f_brought : Nat := 0
abbrev f_parted : Nat := 1
abbrev f_worked : Nat := 2
abbrev f_guard_of : Nat := 3
abbrev f_row_named : Nat := 4
abbrev f_params_of : Nat := 5
abbrev f_Cells_init : Nat := 6
abbrev f_Closed_init : Nat := 7
abbrev f_Level_init : Nat := 8
abbrev f_Level_enter : Nat := 9
abbrev f_Level_worths_of : Nat := 10
abbrev f_lets_by : Nat := 11
abbrev f_told_by : Nat := 12
abbrev f_Run_init : Nat := 13
abbrev f_Run_begin : Nat := 14
abbrev f_Run_ticked : Nat := 15
abbrev f_Run_called : Nat := 16
abbrev f_Run_row_done : Nat := 17
abbrev f_Run_given : Nat := 18
abbrev f_Run_end_done : Nat := 19
abbrev f_Run_ended : Nat := 20
abbrev f_run_middle : Nat := 21
abbrev f_l_pot : Nat := 22
abbrev f_l_mix : Nat := 23
abbrev f_l_take : Nat := 24
abbrev f_l_put : Nat := 25
abbrev f_l_open : Nat := 26
abbrev f_l_begin : Nat := 27
abbrev f_l_end : Nat := 28
abbrev f_l_brought : Nat := 29
abbrev f_l_two : Nat := 30
abbrev f_l_fault : Nat := 31
abbrev f_l_worth : Nat := 32
abbrev f_l_frame : Nat := 33
abbrev f_l_change : Nat := 34
abbrev f_l_row_done : Nat := 35
abbrev f_l_went : Nat := 36
abbrev f_l_end_done : Nat := 37
abbrev f_l_run : Nat := 38
abbrev f_l_state : Nat := 39
abbrev f_l_number : Nat := 40
abbrev f_l_ended : Nat := 41
abbrev f_l_teller : Nat := 42
abbrev f_l_asker : Nat := 43
abbrev f_l_again : Nat := 44
abbrev f_l_main : Nat := 45
abbrev f_l_whole : Nat := 46
abbrev f_l_same : Nat := 47
abbrev f_law : Nat := 48
/- brought(n): 0 n -/
def d_brought : CL.FDef := ⟨1, 1,
    (.cons (.ret (.bin .sub (.bin .mod (.bin .add (.v 0) (.gl g_HALF)) (.gl g_WHOLE)) (.gl g_HALF)))
    .nil)⟩
/- parted(word, one, other): 0 word 1 one 2 other -/
def d_parted : CL.FDef := ⟨3, 3,
    (.cons (.cond (.of (.cmp .eq (.v 2) (.int 0))) (.cons (.ret .non)
    .nil) .nil)
    (.cons (.cond (.of (.cmp .eq (.v 0) (.str "div"))) (.cons (.ret (.call f_brought (.cons (.bin .fdiv (.v 1) (.v 2)) .nil)))
    .nil) .nil)
    (.cons (.ret (.bin .mod (.v 1) (.v 2)))
    .nil)))⟩
/- worked(word, one, other): 0 word 1 one 2 other -/
def d_worked : CL.FDef := ⟨3, 3,
    (.cons (.cond (.of (.cmp .eq (.v 0) (.str "+"))) (.cons (.ret (.call f_brought (.cons (.bin .add (.v 1) (.v 2)) .nil)))
    .nil) .nil)
    (.cons (.cond (.of (.cmp .eq (.v 0) (.str "-"))) (.cons (.ret (.call f_brought (.cons (.bin .sub (.v 1) (.v 2)) .nil)))
    .nil) .nil)
    (.cons (.cond (.of (.cmp .eq (.v 0) (.str "*"))) (.cons (.ret (.call f_brought (.cons (.bin .mul (.v 1) (.v 2)) .nil)))
    .nil) .nil)
    (.cons (.cond (.of (.cmp .eq (.v 0) (.str "<"))) (.cons (.ret (.cmp .lt (.v 1) (.v 2)))
    .nil) .nil)
    (.cons (.cond (.of (.cmp .eq (.v 0) (.str "="))) (.cons (.ret (.cmp .eq (.v 1) (.v 2)))
    .nil) .nil)
    (.cons (.cond (.of (.cmp .eq (.v 0) (.str "and"))) (.cons (.ret (.and (.v 1) (.v 2)))
    .nil) .nil)
    (.cons (.cond (.of (.cmp .eq (.v 0) (.str "or"))) (.cons (.ret (.or (.v 1) (.v 2)))
    .nil) .nil)
    (.cons (.ret (.call f_parted (.cons (.v 0) (.cons (.v 1) (.cons (.v 2) .nil)))))
    .nil))))))))⟩
/- guard_of(row): 0 row -/
def d_guard_of : CL.FDef := ⟨1, 1,
    (.cons (.cond (.of (.cmp .has (.sub (.v 0) (.int 2)) (.tup (.cons (.str "div") (.cons (.str "rem") .nil))))) (.cons (.ret (.tup (.cons (.str "nought") (.cons (.cut (.sub (.v 0) (.int 3)) (.so (.int 1)) .no) .nil))))
    .nil) .nil)
    (.cons (.cond (.of (.cmp .has (.sub (.v 0) (.int 2)) (.tup (.cons (.str "get") (.cons (.str "set") .nil))))) (.cons (.ret (.tup (.cons (.str "place") (.cons (.cut (.sub (.v 0) (.int 3)) .no (.so (.int 2))) .nil))))
    .nil) .nil)
    (.cons (.cond (.of (.cmp .eq (.sub (.v 0) (.int 2)) (.str "fill"))) (.cons (.ret (.tup (.cons (.str "great") (.cons (.cut (.sub (.v 0) (.int 3)) .no (.so (.int 1))) .nil))))
    .nil) .nil)
    (.cons (.ret .non)
    .nil))))⟩
/- row_named(middle, name): 0 middle 1 name 2 function -/
def d_row_named : CL.FDef := ⟨2, 3,
    (.cons (.for (.one 2) (.of (.sub (.v 0) (.int 1))) (.cons (.cond (.of (.cmp .eq (.sub (.v 2) (.int 0)) (.v 1))) (.cons (.ret (.v 2))
    .nil) .nil)
    .nil))
    (.cons (.ret .non)
    .nil))⟩
/- params_of(function): 0 function 1 x 2 kind -/
def d_params_of : CL.FDef := ⟨1, 3,
    (.cons (.ret (.lc (.many [1, 2]) (.of (.sub (.sub (.sub (.v 0) (.int 2)) (.int 0)) (.int 0))) .yes (.v 2)))
    .nil)⟩
/- Cells.__init__(self, held): 0 self 1 held -/
def d_Cells_init : CL.FDef := ⟨2, 2,
    (.cons (.asg (.fld (.v 0) "held") (.bf .list (.cons (.v 1) .nil)))
    .nil)⟩
/- Closed.__init__(self, name, things): 0 self 1 name 2 things -/
def d_Closed_init : CL.FDef := ⟨3, 3,
    (.cons (.asg (.fld (.v 0) "name") (.v 1))
    (.cons (.asg (.fld (.v 0) "things") (.bf .list (.cons (.v 2) .nil)))
    .nil))⟩
/- Level.__init__(self, function, things, target): 0 self 1 function 2 things 3 target -/
def d_Level_init : CL.FDef := ⟨4, 4,
    (.cons (.asg (.fld (.v 0) "blocks") (.sub (.v 1) (.int 2)))
    (.cons (.asg (.fld (.v 0) "worth_by") (.dic .nil))
    (.cons (.asg (.fld (.v 0) "target") (.v 3))
    (.cons (.ex (.met (.v 0) "enter" (.cons (.int 0) (.cons (.v 2) .nil))))
    .nil))))⟩
/- Level.enter(self, number, things): 0 self 1 number 2 things 3 param 4 thing -/
def d_Level_enter : CL.FDef := ⟨3, 5,
    (.cons (.asg (.fld (.v 0) "block") (.sub (.fld (.v 0) "blocks") (.v 1)))
    (.cons (.asg (.fld (.v 0) "at") (.int 0))
    (.cons (.for (.many [3, 4]) (.zip (.sub (.fld (.v 0) "block") (.int 0)) (.v 2)) (.cons (.asg (.sub (.fld (.v 0) "worth_by") (.sub (.v 3) (.int 0))) (.v 4))
    .nil))
    .nil)))⟩
/- Level.worths_of(self, names): 0 self 1 names 2 name -/
def d_Level_worths_of : CL.FDef := ⟨2, 3,
    (.cons (.ret (.lc (.one 2) (.of (.v 1)) .yes (.sub (.fld (.v 0) "worth_by") (.v 2))))
    .nil)⟩
/- lets_by(word, things): 0 word 1 things -/
def d_lets_by : CL.FDef := ⟨2, 2,
    (.cons (.cond (.of (.cmp .eq (.v 0) (.str "nought"))) (.cons (.ret (.cmp .ne (.sub (.v 1) (.int 0)) (.int 0)))
    .nil) .nil)
    (.cons (.cond (.of (.cmp .eq (.v 0) (.str "place"))) (.cons (.ret (.cm2 .le .lt (.int 0) (.sub (.v 1) (.int 1)) (.bf .len (.cons (.fld (.sub (.v 1) (.int 0)) "held") .nil))))
    .nil) .nil)
    (.cons (.ret (.cm2 .le .le (.int 0) (.sub (.v 1) (.int 0)) (.gl g_LONGEST)))
    .nil)))⟩
/- told_by(op, things, more): 0 op 1 things 2 more -/
def d_told_by : CL.FDef := ⟨3, 3,
    (.cons (.cond (.of (.cmp .has (.v 0) (.tup (.cons (.str "number") (.cons (.str "truth") .nil))))) (.cons (.ret (.sub (.v 2) (.int 0)))
    .nil) .nil)
    (.cons (.cond (.of (.cmp .eq (.v 0) (.str "not"))) (.cons (.ret (.not (.sub (.v 1) (.int 0))))
    .nil) .nil)
    (.cons (.cond (.of (.cmp .eq (.v 0) (.str "long"))) (.cons (.ret (.bf .len (.cons (.fld (.sub (.v 1) (.int 0)) "held") .nil)))
    .nil) .nil)
    (.cons (.cond (.of (.cmp .eq (.v 0) (.str "close"))) (.cons (.ret (.make c_Closed (.cons (.sub (.v 2) (.int 0)) (.cons (.v 1) .nil))))
    .nil) .nil)
    (.cons (.cond (.of (.cmp .eq (.v 0) (.str "cell"))) (.cons (.ret (.sub (.fld (.sub (.v 1) (.int 0)) "held") (.sub (.v 2) (.int 0))))
    .nil) .nil)
    (.cons (.cond (.of (.cmp .eq (.v 0) (.str "get"))) (.cons (.ret (.sub (.fld (.sub (.v 1) (.int 0)) "held") (.sub (.v 1) (.int 1))))
    .nil) .nil)
    (.cons (.cond (.of (.cmp .eq (.v 0) (.str "make"))) (.cons (.ret (.make c_Cells (.cons (.v 1) .nil)))
    .nil) .nil)
    (.cons (.cond (.of (.cmp .eq (.v 0) (.str "fill"))) (.cons (.ret (.make c_Cells (.cons (.bin .mul (.lst (.cons (.sub (.v 1) (.int 1)) .nil)) (.sub (.v 1) (.int 0))) .nil)))
    .nil) .nil)
    (.cons (.ret (.call f_worked (.cons (.v 0) (.cons (.sub (.v 1) (.int 0)) (.cons (.sub (.v 1) (.int 1)) .nil)))))
    .nil)))))))))⟩
/- Run.__init__(self, middle, ticks): 0 self 1 middle 2 ticks -/
def d_Run_init : CL.FDef := ⟨3, 3,
    (.cons (.asg (.fld (.v 0) "middle") (.v 1))
    (.cons (.asg (.fld (.v 0) "told") (.lst .nil))
    (.cons (.asg (.fld (.v 0) "ticks") (.v 2))
    (.cons (.asg (.fld (.v 0) "frames") (.lst .nil))
    .nil))))⟩
/- Run.begin(self, name, things, target): 0 self 1 name 2 things 3 target -/
def d_Run_begin : CL.FDef := ⟨4, 4,
    (.cons (.ex (.bm .append (.fld (.v 0) "frames") (.cons (.make c_Level (.cons (.call f_row_named (.cons (.fld (.v 0) "middle") (.cons (.v 1) .nil))) (.cons (.v 2) (.cons (.v 3) .nil)))) .nil)))
    .nil)⟩
/- Run.ticked(self): 0 self -/
def d_Run_ticked : CL.FDef := ⟨1, 1,
    (.cons (.cond (.of (.cmp .eq (.fld (.v 0) "ticks") (.int 0))) (.cons (.ret (.tup (.cons (.str "tired") .nil)))
    .nil) .nil)
    (.cons (.auf (.v 0) "ticks" .sub (.int 1))
    (.cons (.ret .non)
    .nil)))⟩
/- Run.called(self, row, things): 0 self 1 row 2 things -/
def d_Run_called : CL.FDef := ⟨3, 3,
    (.cons (.cond (.of (.cmp .eq (.sub (.v 1) (.int 2)) (.str "call"))) (.cons (.ex (.met (.v 0) "begin" (.cons (.sub (.sub (.v 1) (.int 4)) (.int 0)) (.cons (.v 2) (.cons (.sub (.v 1) (.int 0)) .nil)))))
    .nil) (.cons (.ex (.met (.v 0) "begin" (.cons (.fld (.sub (.v 2) (.int 0)) "name") (.cons (.bin .add (.fld (.sub (.v 2) (.int 0)) "things") (.cut (.v 2) (.so (.int 1)) .no)) (.cons (.sub (.v 1) (.int 0)) .nil)))))
    .nil))
    .nil)⟩
/- Run.row_done(self, frame, row): 0 self 1 frame 2 row 3 things 4 guard 5 x 6 kind 7 op 8 args 9 more 10 line -/
def d_Run_row_done : CL.FDef := ⟨3, 11,
    (.cons (.asT [(.one 5), (.one 6), (.one 7), (.one 8), (.one 9), (.one 10)] (.v 2))
    (.cons (.asg (.one 3) (.met (.v 1) "worths_of" (.cons (.v 8) .nil)))
    (.cons (.asg (.one 4) (.call f_guard_of (.cons (.v 2) .nil)))
    (.cons (.cond (.and (.of (.noN (.v 4))) (.not (.of (.call f_lets_by (.cons (.sub (.v 4) (.int 0)) (.cons (.met (.v 1) "worths_of" (.cons (.sub (.v 4) (.int 1)) .nil)) .nil)))))) (.cons (.ret (.tup (.cons (.str "fault") (.cons (.sub (.v 4) (.int 0)) (.cons (.v 10) .nil)))))
    .nil) .nil)
    (.cons (.cond (.of (.cmp .eq (.v 7) (.str "tick"))) (.cons (.ret (.met (.v 0) "ticked" .nil))
    .nil) .nil)
    (.cons (.cond (.of (.cmp .eq (.v 7) (.str "tell"))) (.cons (.ex (.bm .append (.fld (.v 0) "told") (.cons (.sub (.v 3) (.int 0)) .nil)))
    .nil) (.cons (.cond (.of (.cmp .eq (.v 7) (.str "set"))) (.cons (.asg (.sub (.fld (.sub (.v 3) (.int 0)) "held") (.sub (.v 3) (.int 1))) (.sub (.v 3) (.int 2)))
    .nil) (.cons (.cond (.of (.cmp .eq (.v 7) (.str "store"))) (.cons (.asg (.sub (.fld (.sub (.v 3) (.int 0)) "held") (.sub (.v 9) (.int 0))) (.sub (.v 3) (.int 1)))
    .nil) (.cons (.cond (.of (.cmp .has (.v 7) (.tup (.cons (.str "call") (.cons (.str "ask") .nil))))) (.cons (.ex (.met (.v 0) "called" (.cons (.v 2) (.cons (.v 3) .nil))))
    .nil) (.cons (.asg (.sub (.fld (.v 1) "worth_by") (.v 5)) (.call f_told_by (.cons (.v 7) (.cons (.v 3) (.cons (.v 9) .nil)))))
    .nil))
    .nil))
    .nil))
    .nil))
    (.cons (.ret .non)
    .nil)))))))⟩
/- Run.given(self, value): 0 self 1 value 2 target -/
def d_Run_given : CL.FDef := ⟨2, 3,
    (.cons (.asg (.one 2) (.fld (.bm .pop (.fld (.v 0) "frames") .nil) "target"))
    (.cons (.cond (.of (.cmp .eq (.bf .len (.cons (.fld (.v 0) "frames") .nil)) (.int 0))) (.cons (.ret (.tup (.cons (.str "done") (.cons (.v 1) .nil))))
    .nil) .nil)
    (.cons (.asg (.sub (.fld (.sub (.fld (.v 0) "frames") (.neg (.int 1))) "worth_by") (.v 2)) (.v 1))
    (.cons (.ret .non)
    .nil))))⟩
/- Run.end_done(self, frame, end): 0 self 1 frame 2 end -/
def d_Run_end_done : CL.FDef := ⟨3, 3,
    (.cons (.cond (.of (.cmp .eq (.sub (.v 2) (.int 0)) (.str "give"))) (.cons (.ret (.met (.v 0) "given" (.cons (.sub (.fld (.v 1) "worth_by") (.sub (.v 2) (.int 1))) .nil)))
    .nil) .nil)
    (.cons (.cond (.of (.cmp .eq (.sub (.v 2) (.int 0)) (.str "fail"))) (.cons (.ret (.tup (.cons (.str "fault") (.cons (.sub (.v 2) (.int 1)) (.cons (.sub (.v 2) (.int 2)) .nil)))))
    .nil) .nil)
    (.cons (.cond (.of (.cmp .eq (.sub (.v 2) (.int 0)) (.str "jump"))) (.cons (.ex (.met (.v 1) "enter" (.cons (.sub (.v 2) (.int 1)) (.cons (.met (.v 1) "worths_of" (.cons (.sub (.v 2) (.int 2)) .nil)) .nil))))
    .nil) (.cons (.cond (.of (.sub (.fld (.v 1) "worth_by") (.sub (.v 2) (.int 1)))) (.cons (.ex (.met (.v 1) "enter" (.cons (.sub (.v 2) (.int 2)) (.cons (.lst .nil) .nil))))
    .nil) (.cons (.ex (.met (.v 1) "enter" (.cons (.sub (.v 2) (.int 3)) (.cons (.lst .nil) .nil))))
    .nil))
    .nil))
    (.cons (.ret .non)
    .nil))))⟩
/- Run.ended(self): 0 self 1 end 2 frame 3 rows -/
def d_Run_ended : CL.FDef := ⟨1, 4,
    (.cons (.asg (.one 1) .non)
    (.cons (.whl (.of (.isN (.v 1))) (.cons (.asg (.one 2) (.sub (.fld (.v 0) "frames") (.neg (.int 1))))
    (.cons (.asg (.one 3) (.sub (.fld (.v 2) "block") (.int 1)))
    (.cons (.cond (.of (.cmp .lt (.fld (.v 2) "at") (.bf .len (.cons (.v 3) .nil)))) (.cons (.auf (.v 2) "at" .add (.int 1))
    (.cons (.asg (.one 1) (.met (.v 0) "row_done" (.cons (.v 2) (.cons (.sub (.v 3) (.bin .sub (.fld (.v 2) "at") (.int 1))) .nil))))
    .nil)) (.cons (.asg (.one 1) (.met (.v 0) "end_done" (.cons (.v 2) (.cons (.sub (.fld (.v 2) "block") (.int 2)) .nil))))
    .nil))
    .nil))))
    (.cons (.ret (.v 1))
    .nil)))⟩
/- run_middle(middle, ins, ticks): 0 middle 1 ins 2 ticks 3 run 4 end -/
def d_run_middle : CL.FDef := ⟨3, 5,
    (.cons (.cond (.of (.cmp .ne (.bf .len (.cons (.v 1) .nil)) (.bf .len (.cons (.call f_params_of (.cons (.call f_row_named (.cons (.v 0) (.cons (.str "main") .nil))) .nil)) .nil)))) (.cons .bad
    .nil) .nil)
    (.cons (.asg (.one 3) (.make c_Run (.cons (.v 0) (.cons (.v 2) .nil))))
    (.cons (.ex (.met (.v 3) "begin" (.cons (.str "main") (.cons (.bf .list (.cons (.v 1) .nil)) (.cons .non .nil)))))
    (.cons (.asg (.one 4) (.met (.v 3) "ended" .nil))
    (.cons (.ret (.tup (.cons (.fld (.v 3) "told") (.cons (.v 4) .nil))))
    .nil)))))⟩
/- _law_pot(_law_cells): 0 _law_cells 1 _law_mixed -/
def d_l_pot : CL.FDef := ⟨1, 2,
    (.cons (.asg (.one 1) (.and (.cmp .gt (.bf .len (.cons (.v 0) .nil)) (.int 0)) (.cmp .eq (.bin .mod (.sub (.v 0) (.int 0)) (.int 2)) (.int 1))))
    (.cons (.ret (.dic (.cons (.str "cells") (.bf .list (.cons (.v 0) .nil)) (.cons (.str "at") (.int 0) (.cons (.str "left") (.int 0) (.cons (.str "many") (.int 0) (.cons (.str "mixed") (.v 1) .nil)))))))
    .nil))⟩
/- _law_mix(_law_number_here, _law_turn): 0 _law_number_here 1 _law_turn 2 _law_one -/
def d_l_mix : CL.FDef := ⟨2, 3,
    (.cons (.asg (.one 2) (.bin .mod (.bin .mul (.bin .add (.bin .add (.bin .mod (.v 0) (.int 2147483647)) (.bin .mul (.int 7) (.v 1))) (.int 3)) (.int 48271)) (.int 2147483629)))
    (.cons (.ret (.bin .mod (.bin .mul (.v 2) (.v 2)) (.int 2147483587)))
    .nil))⟩
/- _law_take(_law_pot_here, _law_many): 0 _law_pot_here 1 _law_many 2 _law_cells 3 _law_told -/
def d_l_take : CL.FDef := ⟨2, 4,
    (.cons (.asg (.one 2) (.sub (.v 0) (.str "cells")))
    (.cons (.aus (.v 0) (.str "many") .add (.int 1))
    (.cons (.cond (.of (.sub (.v 0) (.str "mixed"))) (.cons (.ret (.bin .mod (.bin .fdiv (.call f_l_mix (.cons (.sub (.v 2) (.bin .mod (.sub (.v 0) (.str "many")) (.bf .len (.cons (.v 2) .nil)))) (.cons (.sub (.v 0) (.str "many")) .nil))) (.int 7)) (.v 1)))
    .nil) .nil)
    (.cons (.cond (.and (.of (.cmp .eq (.sub (.v 0) (.str "left")) (.int 0))) (.of (.cmp .lt (.sub (.v 0) (.str "at")) (.bf .len (.cons (.v 2) .nil))))) (.cons (.asg (.sub (.v 0) (.str "left")) (.bin .mod (.bf .abs (.cons (.sub (.v 2) (.sub (.v 0) (.str "at"))) .nil)) (.bin .pow (.int 10) (.int 60))))
    (.cons (.aus (.v 0) (.str "at") .add (.int 1))
    .nil)) .nil)
    (.cons (.cond (.of (.cmp .eq (.sub (.v 0) (.str "left")) (.int 0))) (.cons (.ret (.bin .mod (.bin .fdiv (.call f_l_mix (.cons (.bf .len (.cons (.v 2) .nil)) (.cons (.sub (.v 0) (.str "many")) .nil))) (.int 7)) (.v 1)))
    .nil) .nil)
    (.cons (.asg (.one 3) (.bin .mod (.sub (.v 0) (.str "left")) (.v 1)))
    (.cons (.asg (.sub (.v 0) (.str "left")) (.bin .fdiv (.sub (.v 0) (.str "left")) (.v 1)))
    (.cons (.ret (.v 3))
    .nil))))))))⟩
/- _law_put(_law_state_here, _law_kind, _law_op, _law_args, _law_more): 0 _law_state_here 1 _law_kind 2 _law_op 3 _law_args 4 _law_more 5 _law_x -/
def d_l_put : CL.FDef := ⟨5, 6,
    (.cons (.asg (.one 5) .non)
    (.cons (.cond (.of (.noN (.v 1))) (.cons (.asg (.one 5) (.sub (.v 0) (.str "next")))
    (.cons (.aus (.v 0) (.str "next") .add (.int 1))
    (.cons (.ex (.bm .append (.sub (.v 0) (.str "env")) (.cons (.tup (.cons (.v 5) (.cons (.v 1) .nil))) .nil)))
    .nil))) .nil)
    (.cons (.aus (.v 0) (.str "line") .add (.int 1))
    (.cons (.ex (.bm .append (.sub (.v 0) (.str "rows")) (.cons (.tup (.cons (.v 5) (.cons (.v 1) (.cons (.v 2) (.cons (.bf .tuple (.cons (.v 3) .nil)) (.cons (.v 4) (.cons (.sub (.v 0) (.str "line")) .nil))))))) .nil)))
    (.cons (.ret (.v 5))
    .nil)))))⟩
/- _law_open(_law_state_here): 0 _law_state_here -/
def d_l_open : CL.FDef := ⟨1, 1,
    (.cons (.ex (.bm .append (.sub (.v 0) (.str "blocks")) (.cons .non .nil)))
    (.cons (.ret (.bin .sub (.bf .len (.cons (.sub (.v 0) (.str "blocks")) .nil)) (.int 1)))
    .nil))⟩
/- _law_begin(_law_state_here, _law_at, _law_kinds): 0 _law_state_here 1 _law_at 2 _law_kinds 3 _law_names -/
def d_l_begin : CL.FDef := ⟨3, 4,
    (.cons (.asg (.one 3) (.lrg2 (.sub (.v 0) (.str "next")) (.bin .add (.sub (.v 0) (.str "next")) (.bf .len (.cons (.v 2) .nil)))))
    (.cons (.asT [(.sub (.v 0) (.str "now")), (.sub (.v 0) (.str "rows")), (.sub (.v 0) (.str "params"))] (.tup (.cons (.v 1) (.cons (.lst .nil) (.cons (.lzip (.v 3) (.v 2)) .nil)))))
    (.cons (.asg (.sub (.v 0) (.str "env")) (.bin .add (.sub (.v 0) (.str "env")) (.sub (.v 0) (.str "params"))))
    (.cons (.aus (.v 0) (.str "next") .add (.bf .len (.cons (.v 2) .nil)))
    (.cons (.ret (.v 3))
    .nil)))))⟩
/- _law_end(_law_state_here, _law_end_here): 0 _law_state_here 1 _law_end_here -/
def d_l_end : CL.FDef := ⟨2, 2,
    (.cons (.asg (.sub (.sub (.v 0) (.str "blocks")) (.sub (.v 0) (.str "now"))) (.tup (.cons (.bf .tuple (.cons (.sub (.v 0) (.str "params")) .nil)) (.cons (.bf .tuple (.cons (.sub (.v 0) (.str "rows")) .nil)) (.cons (.v 1) .nil)))))
    .nil)⟩
/- _law_brought(_law_number_here): 0 _law_number_here -/
def d_l_brought : CL.FDef := ⟨1, 1,
    (.cons (.ret (.bin .sub (.bin .mod (.bin .add (.v 0) (.int 2147483648)) (.int 4294967296)) (.int 2147483648)))
    .nil)⟩
/- _law_two(_law_op, _law_one, _law_other): 0 _law_op 1 _law_one 2 _law_other -/
def d_l_two : CL.FDef := ⟨3, 3,
    (.cons (.cond (.of (.cmp .eq (.v 0) (.str "+"))) (.cons (.ret (.call f_l_brought (.cons (.bin .add (.v 1) (.v 2)) .nil)))
    .nil) .nil)
    (.cons (.cond (.of (.cmp .eq (.v 0) (.str "-"))) (.cons (.ret (.call f_l_brought (.cons (.bin .sub (.v 1) (.v 2)) .nil)))
    .nil) .nil)
    (.cons (.cond (.of (.cmp .eq (.v 0) (.str "*"))) (.cons (.ret (.call f_l_brought (.cons (.bin .mul (.v 1) (.v 2)) .nil)))
    .nil) .nil)
    (.cons (.cond (.of (.cmp .eq (.v 0) (.str "div"))) (.cons (.ret (.call f_l_brought (.cons (.bin .fdiv (.v 1) (.v 2)) .nil)))
    .nil) .nil)
    (.cons (.cond (.of (.cmp .eq (.v 0) (.str "rem"))) (.cons (.ret (.bin .sub (.v 1) (.bin .mul (.bin .fdiv (.v 1) (.v 2)) (.v 2))))
    .nil) .nil)
    (.cons (.cond (.of (.cmp .eq (.v 0) (.str "<"))) (.cons (.ret (.cmp .lt (.v 1) (.v 2)))
    .nil) .nil)
    (.cons (.cond (.of (.cmp .eq (.v 0) (.str "="))) (.cons (.ret (.cmp .eq (.v 1) (.v 2)))
    .nil) .nil)
    (.cons (.ret (.ite (.of (.cmp .eq (.v 0) (.str "and"))) (.and (.v 1) (.v 2)) (.or (.v 1) (.v 2))))
    .nil))))))))⟩
/- _law_fault(_law_row, _law_things): 0 _law_row 1 _law_things 2 _law_op 3 _law_line -/
def d_l_fault : CL.FDef := ⟨2, 4,
    (.cons (.par [2, 3] (.cons (.sub (.v 0) (.int 2)) (.cons (.sub (.v 0) (.int 5)) .nil)))
    (.cons (.cond (.and (.of (.cmp .has (.v 2) (.tup (.cons (.str "div") (.cons (.str "rem") .nil))))) (.of (.cmp .eq (.sub (.v 1) (.int 1)) (.int 0)))) (.cons (.ret (.tup (.cons (.str "fault") (.cons (.str "nought") (.cons (.v 3) .nil)))))
    .nil) .nil)
    (.cons (.cond (.and (.of (.cmp .has (.v 2) (.tup (.cons (.str "get") (.cons (.str "set") .nil))))) (.not (.of (.cm2 .le .lt (.int 0) (.sub (.v 1) (.int 1)) (.bf .len (.cons (.sub (.sub (.v 1) (.int 0)) (.str "held")) .nil)))))) (.cons (.ret (.tup (.cons (.str "fault") (.cons (.str "place") (.cons (.v 3) .nil)))))
    .nil) .nil)
    (.cons (.cond (.and (.of (.cmp .eq (.v 2) (.str "fill"))) (.not (.of (.cm2 .le .le (.int 0) (.sub (.v 1) (.int 0)) (.int 60))))) (.cons (.ret (.tup (.cons (.str "fault") (.cons (.str "great") (.cons (.v 3) .nil)))))
    .nil) .nil)
    (.cons (.ret .non)
    .nil)))))⟩
/- _law_worth(_law_row, _law_things): 0 _law_row 1 _law_things 2 _law_op 3 _law_more -/
def d_l_worth : CL.FDef := ⟨2, 4,
    (.cons (.par [2, 3] (.cons (.sub (.v 0) (.int 2)) (.cons (.sub (.v 0) (.int 4)) .nil)))
    (.cons (.cond (.of (.cmp .has (.v 2) (.tup (.cons (.str "number") (.cons (.str "truth") .nil))))) (.cons (.ret (.sub (.v 3) (.int 0)))
    .nil) .nil)
    (.cons (.cond (.of (.cmp .eq (.v 2) (.str "not"))) (.cons (.ret (.not (.sub (.v 1) (.int 0))))
    .nil) .nil)
    (.cons (.cond (.of (.cmp .eq (.v 2) (.str "long"))) (.cons (.ret (.bf .len (.cons (.sub (.sub (.v 1) (.int 0)) (.str "held")) .nil)))
    .nil) .nil)
    (.cons (.cond (.of (.cmp .eq (.v 2) (.str "close"))) (.cons (.ret (.dic (.cons (.str "fun") (.sub (.v 3) (.int 0)) (.cons (.str "held") (.bf .list (.cons (.v 1) .nil)) .nil))))
    .nil) .nil)
    (.cons (.cond (.of (.cmp .eq (.v 2) (.str "make"))) (.cons (.ret (.dic (.cons (.str "held") (.bf .list (.cons (.v 1) .nil)) .nil)))
    .nil) .nil)
    (.cons (.cond (.of (.cmp .eq (.v 2) (.str "fill"))) (.cons (.ret (.dic (.cons (.str "held") (.bin .mul (.lst (.cons (.sub (.v 1) (.int 1)) .nil)) (.sub (.v 1) (.int 0))) .nil)))
    .nil) .nil)
    (.cons (.cond (.of (.cmp .eq (.v 2) (.str "cell"))) (.cons (.ret (.sub (.sub (.sub (.v 1) (.int 0)) (.str "held")) (.sub (.v 3) (.int 0))))
    .nil) .nil)
    (.cons (.cond (.of (.cmp .eq (.v 2) (.str "get"))) (.cons (.ret (.sub (.sub (.sub (.v 1) (.int 0)) (.str "held")) (.sub (.v 1) (.int 1))))
    .nil) .nil)
    (.cons (.ret (.call f_l_two (.cons (.v 2) (.cons (.sub (.v 1) (.int 0)) (.cons (.sub (.v 1) (.int 1)) .nil)))))
    .nil))))))))))⟩
/- _law_frame(_law_middle, _law_name, _law_things, _law_target): 0 _law_middle 1 _law_name 2 _law_things 3 _law_target 4 _law_function 5 _law_values 6 _law_param 7 _law_thing 8 _law_one -/
def d_l_frame : CL.FDef := ⟨4, 9,
    (.cons (.asg (.one 4) (.sub (.lc (.one 8) (.of (.sub (.v 0) (.int 1))) (.of (.cmp .eq (.sub (.v 8) (.int 0)) (.v 1))) (.v 8)) (.int 0)))
    (.cons (.asg (.one 5) (.dic .nil))
    (.cons (.for (.many [6, 7]) (.zip (.sub (.sub (.sub (.v 4) (.int 2)) (.int 0)) (.int 0)) (.v 2)) (.cons (.asg (.sub (.v 5) (.sub (.v 6) (.int 0))) (.v 7))
    .nil))
    (.cons (.ret (.dic (.cons (.str "blocks") (.sub (.v 4) (.int 2)) (.cons (.str "at") (.int 0) (.cons (.str "row") (.int 0) (.cons (.str "values") (.v 5) (.cons (.str "target") (.v 3) .nil)))))))
    .nil))))⟩
/- _law_change(_law_run_here, _law_row, _law_things): 0 _law_run_here 1 _law_row 2 _law_things 3 _law_op 4 _law_more -/
def d_l_change : CL.FDef := ⟨3, 5,
    (.cons (.par [3, 4] (.cons (.sub (.v 1) (.int 2)) (.cons (.sub (.v 1) (.int 4)) .nil)))
    (.cons (.cond (.of (.cmp .eq (.v 3) (.str "tell"))) (.cons (.ex (.bm .append (.sub (.v 0) (.str "told")) (.cons (.sub (.v 2) (.int 0)) .nil)))
    .nil) (.cons (.cond (.of (.cmp .eq (.v 3) (.str "set"))) (.cons (.asg (.sub (.sub (.sub (.v 2) (.int 0)) (.str "held")) (.sub (.v 2) (.int 1))) (.sub (.v 2) (.int 2)))
    .nil) (.cons (.cond (.of (.cmp .eq (.v 3) (.str "store"))) (.cons (.asg (.sub (.sub (.sub (.v 2) (.int 0)) (.str "held")) (.sub (.v 4) (.int 0))) (.sub (.v 2) (.int 1)))
    .nil) (.cons (.cond (.of (.cmp .eq (.v 3) (.str "call"))) (.cons (.ex (.bm .append (.sub (.v 0) (.str "pile")) (.cons (.call f_l_frame (.cons (.sub (.v 0) (.str "middle")) (.cons (.sub (.v 4) (.int 0)) (.cons (.v 2) (.cons (.sub (.v 1) (.int 0)) .nil))))) .nil)))
    .nil) (.cons (.cond (.of (.cmp .eq (.v 3) (.str "ask"))) (.cons (.ex (.bm .append (.sub (.v 0) (.str "pile")) (.cons (.call f_l_frame (.cons (.sub (.v 0) (.str "middle")) (.cons (.sub (.sub (.v 2) (.int 0)) (.str "fun")) (.cons (.bin .add (.sub (.sub (.v 2) (.int 0)) (.str "held")) (.cut (.v 2) (.so (.int 1)) .no)) (.cons (.sub (.v 1) (.int 0)) .nil))))) .nil)))
    .nil) (.cons (.asg (.sub (.sub (.sub (.sub (.v 0) (.str "pile")) (.neg (.int 1))) (.str "values")) (.sub (.v 1) (.int 0))) (.call f_l_worth (.cons (.v 1) (.cons (.v 2) .nil))))
    .nil))
    .nil))
    .nil))
    .nil))
    .nil))
    .nil))⟩
/- _law_row_done(_law_run_here, _law_row): 0 _law_run_here 1 _law_row 2 _law_frame_here 3 _law_things 4 _law_fault_here 5 _law_x -/
def d_l_row_done : CL.FDef := ⟨2, 6,
    (.cons (.asg (.one 2) (.sub (.sub (.v 0) (.str "pile")) (.neg (.int 1))))
    (.cons (.aus (.v 2) (.str "row") .add (.int 1))
    (.cons (.cond (.of (.cmp .eq (.sub (.v 1) (.int 2)) (.str "tick"))) (.cons (.aus (.v 0) (.str "ticks") .sub (.int 1))
    (.cons (.ret (.ite (.of (.cmp .lt (.sub (.v 0) (.str "ticks")) (.int 0))) (.tup (.cons (.str "tired") .nil)) .non))
    .nil)) .nil)
    (.cons (.asg (.one 3) (.lc (.one 5) (.of (.sub (.v 1) (.int 3))) .yes (.sub (.sub (.v 2) (.str "values")) (.v 5))))
    (.cons (.asg (.one 4) (.call f_l_fault (.cons (.v 1) (.cons (.v 3) .nil))))
    (.cons (.cond (.of (.isN (.v 4))) (.cons (.ex (.call f_l_change (.cons (.v 0) (.cons (.v 1) (.cons (.v 3) .nil)))))
    .nil) .nil)
    (.cons (.ret (.v 4))
    .nil)))))))⟩
/- _law_went(_law_frame_here, _law_goal, _law_things): 0 _law_frame_here 1 _law_goal 2 _law_things 3 _law_param 4 _law_thing -/
def d_l_went : CL.FDef := ⟨3, 5,
    (.cons (.asg (.sub (.v 0) (.str "at")) (.v 1))
    (.cons (.asg (.sub (.v 0) (.str "row")) (.int 0))
    (.cons (.for (.many [3, 4]) (.zip (.sub (.sub (.sub (.v 0) (.str "blocks")) (.v 1)) (.int 0)) (.v 2)) (.cons (.asg (.sub (.sub (.v 0) (.str "values")) (.sub (.v 3) (.int 0))) (.v 4))
    .nil))
    .nil)))⟩
/- _law_end_done(_law_run_here, _law_end_here): 0 _law_run_here 1 _law_end_here 2 _law_frame_here 3 _law_values 4 _law_x -/
def d_l_end_done : CL.FDef := ⟨2, 5,
    (.cons (.asg (.one 2) (.sub (.sub (.v 0) (.str "pile")) (.neg (.int 1))))
    (.cons (.asg (.one 3) (.sub (.v 2) (.str "values")))
    (.cons (.cond (.of (.cmp .eq (.sub (.v 1) (.int 0)) (.str "fail"))) (.cons (.ret (.tup (.cons (.str "fault") (.cons (.sub (.v 1) (.int 1)) (.cons (.sub (.v 1) (.int 2)) .nil)))))
    .nil) .nil)
    (.cons (.cond (.of (.cmp .eq (.sub (.v 1) (.int 0)) (.str "jump"))) (.cons (.ex (.call f_l_went (.cons (.v 2) (.cons (.sub (.v 1) (.int 1)) (.cons (.lc (.one 4) (.of (.sub (.v 1) (.int 2))) .yes (.sub (.v 3) (.v 4))) .nil)))))
    .nil) (.cons (.cond (.of (.cmp .eq (.sub (.v 1) (.int 0)) (.str "branch"))) (.cons (.ex (.call f_l_went (.cons (.v 2) (.cons (.ite (.of (.sub (.v 3) (.sub (.v 1) (.int 1)))) (.sub (.v 1) (.int 2)) (.sub (.v 1) (.int 3))) (.cons (.lst .nil) .nil)))))
    .nil) (.cons (.ex (.bm .pop (.sub (.v 0) (.str "pile")) .nil))
    (.cons (.cond (.of (.cmp .eq (.sub (.v 0) (.str "pile")) (.lst .nil))) (.cons (.ret (.tup (.cons (.str "done") (.cons (.sub (.v 3) (.sub (.v 1) (.int 1))) .nil))))
    .nil) .nil)
    (.cons (.asg (.sub (.sub (.sub (.sub (.v 0) (.str "pile")) (.neg (.int 1))) (.str "values")) (.sub (.v 2) (.str "target"))) (.sub (.v 3) (.sub (.v 1) (.int 1))))
    .nil))))
    .nil))
    (.cons (.ret .non)
    .nil)))))⟩
/- _law_run(_law_middle, _law_ins, _law_ticks): 0 _law_middle 1 _law_ins 2 _law_ticks 3 _law_run_here 4 _law_end_here 5 _law_frame_here 6 _law_rows -/
def d_l_run : CL.FDef := ⟨3, 7,
    (.cons (.asg (.one 3) (.dic (.cons (.str "middle") (.v 0) (.cons (.str "ticks") (.v 2) (.cons (.str "told") (.lst .nil) (.cons (.str "pile") (.lst .nil) .nil))))))
    (.cons (.ex (.bm .append (.sub (.v 3) (.str "pile")) (.cons (.call f_l_frame (.cons (.v 0) (.cons (.str "main") (.cons (.v 1) (.cons .non .nil))))) .nil)))
    (.cons (.asg (.one 4) .non)
    (.cons (.whl (.of (.isN (.v 4))) (.cons (.asg (.one 5) (.sub (.sub (.v 3) (.str "pile")) (.neg (.int 1))))
    (.cons (.asg (.one 6) (.sub (.sub (.sub (.v 5) (.str "blocks")) (.sub (.v 5) (.str "at"))) (.int 1)))
    (.cons (.cond (.of (.cmp .lt (.sub (.v 5) (.str "row")) (.bf .len (.cons (.v 6) .nil)))) (.cons (.asg (.one 4) (.call f_l_row_done (.cons (.v 3) (.cons (.sub (.v 6) (.sub (.v 5) (.str "row"))) .nil))))
    .nil) (.cons (.asg (.one 4) (.call f_l_end_done (.cons (.v 3) (.cons (.sub (.sub (.sub (.v 5) (.str "blocks")) (.sub (.v 5) (.str "at"))) (.int 2)) .nil))))
    .nil))
    .nil))))
    (.cons (.ret (.tup (.cons (.sub (.v 3) (.str "told")) (.cons (.v 4) .nil))))
    .nil)))))⟩
/- _law_state(_law_pot_here, _law_kinds): 0 _law_pot_here 1 _law_kinds 2 _law_state_here 3 _law_names -/
def d_l_state : CL.FDef := ⟨2, 4,
    (.cons (.asg (.one 2) (.dic (.cons (.str "blocks") (.lst .nil) (.cons (.str "now") (.int 0) (.cons (.str "rows") (.lst .nil) (.cons (.str "params") (.lst .nil) (.cons (.str "env") (.lst .nil) (.cons (.str "next") (.call f_l_take (.cons (.v 0) (.cons (.int 30) .nil))) (.cons (.str "line") (.int 0) .nil)))))))))
    (.cons (.asg (.one 3) (.call f_l_begin (.cons (.v 2) (.cons (.call f_l_open (.cons (.v 2) .nil)) (.cons (.v 1) .nil)))))
    (.cons (.ex (.call f_l_put (.cons (.v 2) (.cons .non (.cons (.str "tick") (.cons (.tup .nil) (.cons (.tup .nil) .nil)))))))
    (.cons (.ret (.tup (.cons (.v 2) (.cons (.v 3) .nil))))
    .nil))))⟩
/- _law_number(_law_state_here, _law_told): 0 _law_state_here 1 _law_told -/
def d_l_number : CL.FDef := ⟨2, 2,
    (.cons (.ret (.call f_l_put (.cons (.v 0) (.cons (.tup (.cons (.str "number") .nil)) (.cons (.str "number") (.cons (.tup .nil) (.cons (.tup (.cons (.v 1) .nil)) .nil)))))))
    .nil)⟩
/- _law_ended(_law_state_here, _law_name, _law_x): 0 _law_state_here 1 _law_name 2 _law_x -/
def d_l_ended : CL.FDef := ⟨3, 3,
    (.cons (.ex (.call f_l_end (.cons (.v 0) (.cons (.tup (.cons (.str "give") (.cons (.v 2) .nil))) .nil))))
    (.cons (.ret (.tup (.cons (.v 1) (.cons (.tup (.cons (.str "number") .nil)) (.cons (.bf .tuple (.cons (.sub (.v 0) (.str "blocks")) .nil)) .nil)))))
    .nil))⟩
/- _law_teller(_law_pot_here, _law_many): 0 _law_pot_here 1 _law_many 2 _law_number_here 3 _law_sum_so 4 _law_x 5 _law_state_here 6 _law_names 7 _law_times -/
def d_l_teller : CL.FDef := ⟨2, 8,
    (.cons (.asg (.one 2) (.tup (.cons (.str "number") .nil)))
    (.cons (.asT [(.one 5), (.one 6)] (.call f_l_state (.cons (.v 0) (.cons (.bin .mul (.lst (.cons (.v 2) .nil)) (.v 1)) .nil))))
    (.cons (.asg (.one 3) (.call f_l_number (.cons (.v 5) (.cons (.call f_l_take (.cons (.v 0) (.cons (.int 100) .nil))) .nil))))
    (.cons (.for (.one 4) (.of (.v 6)) (.cons (.ex (.call f_l_put (.cons (.v 5) (.cons .non (.cons (.str "tell") (.cons (.tup (.cons (.v 4) .nil)) (.cons (.tup .nil) .nil)))))))
    (.cons (.asg (.one 7) (.call f_l_put (.cons (.v 5) (.cons (.v 2) (.cons (.str "*") (.cons (.tup (.cons (.v 4) (.cons (.call f_l_number (.cons (.v 5) (.cons (.bin .add (.int 3) (.call f_l_take (.cons (.v 0) (.cons (.int 90) .nil)))) .nil))) .nil))) (.cons (.tup .nil) .nil)))))))
    (.cons (.asg (.one 3) (.call f_l_put (.cons (.v 5) (.cons (.v 2) (.cons (.sub (.lst (.cons (.str "+") (.cons (.str "-") .nil))) (.call f_l_take (.cons (.v 0) (.cons (.int 2) .nil)))) (.cons (.tup (.cons (.v 3) (.cons (.v 7) .nil))) (.cons (.tup .nil) .nil)))))))
    .nil))))
    (.cons (.ret (.call f_l_ended (.cons (.v 5) (.cons (.str "teller") (.cons (.v 3) .nil)))))
    .nil)))))⟩
/- _law_asker(_law_pot_here, _law_many): 0 _law_pot_here 1 _law_many 2 _law_number_here 3 _law_got 4 _law_state_here 5 _law_names -/
def d_l_asker : CL.FDef := ⟨2, 6,
    (.cons (.asg (.one 2) (.tup (.cons (.str "number") .nil)))
    (.cons (.asT [(.one 4), (.one 5)] (.call f_l_state (.cons (.v 0) (.cons (.bin .add (.lst (.cons (.tup (.cons (.str "fun") (.cons (.bin .mul (.tup (.cons (.v 2) .nil)) (.v 1)) (.cons (.v 2) .nil)))) .nil)) (.bin .mul (.lst (.cons (.v 2) .nil)) (.v 1))) .nil))))
    (.cons (.asg (.one 3) (.call f_l_put (.cons (.v 4) (.cons (.v 2) (.cons (.str "ask") (.cons (.v 5) (.cons (.tup .nil) .nil)))))))
    (.cons (.ex (.call f_l_put (.cons (.v 4) (.cons .non (.cons (.str "tell") (.cons (.tup (.cons (.v 3) .nil)) (.cons (.tup .nil) .nil)))))))
    (.cons (.cond (.of (.cmp .eq (.call f_l_take (.cons (.v 0) (.cons (.int 2) .nil))) (.int 1))) (.cons (.asg (.one 3) (.call f_l_put (.cons (.v 4) (.cons (.v 2) (.cons (.str "ask") (.cons (.bin .add (.lst (.cons (.sub (.v 5) (.int 0)) .nil)) (.cut3 (.v 5) .no (.so (.int 0)) (-1))) (.cons (.tup .nil) .nil)))))))
    .nil) .nil)
    (.cons (.ret (.call f_l_ended (.cons (.v 4) (.cons (.str "asker") (.cons (.v 3) .nil)))))
    .nil))))))⟩
/- _law_again(_law_pot_here, _law_many): 0 _law_pot_here 1 _law_many 2 _law_number_here 3 _law_nought 4 _law_less 5 _law_down 6 _law_got 7 _law_state_here 8 _law_names 9 _law_on 10 _law_out -/
def d_l_again : CL.FDef := ⟨2, 11,
    (.cons (.asg (.one 2) (.tup (.cons (.str "number") .nil)))
    (.cons (.asT [(.one 7), (.one 8)] (.call f_l_state (.cons (.v 0) (.cons (.bin .mul (.lst (.cons (.v 2) .nil)) (.bin .add (.int 1) (.v 1))) .nil))))
    (.cons (.asg (.one 3) (.call f_l_number (.cons (.v 7) (.cons (.int 0) .nil))))
    (.cons (.asg (.one 4) (.call f_l_put (.cons (.v 7) (.cons (.tup (.cons (.str "truth") .nil)) (.cons (.str "<") (.cons (.tup (.cons (.v 3) (.cons (.sub (.v 8) (.int 0)) .nil))) (.cons (.tup .nil) .nil)))))))
    (.cons (.par [9, 10] (.cons (.call f_l_open (.cons (.v 7) .nil)) (.cons (.call f_l_open (.cons (.v 7) .nil)) .nil)))
    (.cons (.ex (.call f_l_end (.cons (.v 7) (.cons (.tup (.cons (.str "branch") (.cons (.v 4) (.cons (.v 9) (.cons (.v 10) .nil))))) .nil))))
    (.cons (.ex (.call f_l_begin (.cons (.v 7) (.cons (.v 9) (.cons (.tup .nil) .nil)))))
    (.cons (.asg (.one 5) (.call f_l_put (.cons (.v 7) (.cons (.v 2) (.cons (.str "-") (.cons (.tup (.cons (.sub (.v 8) (.int 0)) (.cons (.call f_l_number (.cons (.v 7) (.cons (.int 1) .nil))) .nil))) (.cons (.tup .nil) .nil)))))))
    (.cons (.asg (.one 6) (.call f_l_put (.cons (.v 7) (.cons (.v 2) (.cons (.str "call") (.cons (.bin .add (.bin .add (.lst (.cons (.v 5) .nil)) (.cut (.v 8) (.so (.int 2)) .no)) (.cut (.v 8) (.so (.int 1)) (.so (.int 2)))) (.cons (.tup (.cons (.str "again") .nil)) .nil)))))))
    (.cons (.ex (.call f_l_put (.cons (.v 7) (.cons .non (.cons (.str "tell") (.cons (.tup (.cons (.sub (.v 8) (.int 0)) .nil)) (.cons (.tup .nil) .nil)))))))
    (.cons (.ex (.call f_l_end (.cons (.v 7) (.cons (.tup (.cons (.str "give") (.cons (.call f_l_put (.cons (.v 7) (.cons (.v 2) (.cons (.str "-") (.cons (.tup (.cons (.v 6) (.cons (.sub (.v 8) (.int 1)) .nil))) (.cons (.tup .nil) .nil)))))) .nil))) .nil))))
    (.cons (.ex (.call f_l_begin (.cons (.v 7) (.cons (.v 10) (.cons (.tup .nil) .nil)))))
    (.cons (.ret (.call f_l_ended (.cons (.v 7) (.cons (.str "again") (.cons (.sub (.v 8) (.int 1)) .nil)))))
    .nil)))))))))))))⟩
/- _law_main(_law_pot_here, _law_many, _law_last): 0 _law_pot_here 1 _law_many 2 _law_last 3 _law_number_here 4 _law_fun 5 _law_things 6 _law_called 7 _law_closes 8 _law_k 9 _law_row 10 _law_turn 11 _law_at 12 _law_got 13 _law_deep 14 _law_again_here 15 _law_state_here 16 _law_names 17 _law_held 18 _law_asked 19 _law_place -/
def d_l_main : CL.FDef := ⟨3, 20,
    (.cons (.asg (.one 3) (.tup (.cons (.str "number") .nil)))
    (.cons (.asg (.one 4) (.tup (.cons (.str "fun") (.cons (.bin .mul (.tup (.cons (.v 3) .nil)) (.v 2)) (.cons (.v 3) .nil)))))
    (.cons (.asT [(.one 15), (.one 16)] (.call f_l_state (.cons (.v 0) (.cons (.lst (.cons (.v 3) (.cons (.v 3) .nil))) .nil))))
    (.cons (.asg (.one 5) (.bin .add (.lst (.cons (.sub (.v 16) (.int 0)) (.cons (.sub (.v 16) (.int 1)) .nil))) (.lc (.one 8) (.rg1 (.v 1)) .yes (.call f_l_number (.cons (.v 15) (.cons (.bin .add (.int 10) (.v 8)) .nil))))))
    (.cons (.asg (.one 6) (.call f_l_put (.cons (.v 15) (.cons (.v 3) (.cons (.str "call") (.cons (.cut (.v 5) .no (.so (.v 1))) (.cons (.tup (.cons (.str "teller") .nil)) .nil)))))))
    (.cons (.asg (.one 7) (.lst .nil))
    (.cons (.for (.one 8) (.rg1 (.bin .add (.int 2) (.call f_l_take (.cons (.v 0) (.cons (.int 7) .nil))))) (.cons (.asg (.one 17) (.lc (.one 19) (.rg1 (.bin .sub (.v 1) (.v 2))) .yes (.sub (.v 5) (.call f_l_take (.cons (.v 0) (.cons (.bf .len (.cons (.v 5) .nil)) .nil))))))
    (.cons (.ex (.bm .append (.v 7) (.cons (.call f_l_put (.cons (.v 15) (.cons (.v 4) (.cons (.str "close") (.cons (.v 17) (.cons (.tup (.cons (.str "teller") .nil)) .nil)))))) .nil)))
    .nil)))
    (.cons (.asg (.one 9) (.call f_l_put (.cons (.v 15) (.cons (.tup (.cons (.str "row") (.cons (.v 4) .nil))) (.cons (.str "fill") (.cons (.tup (.cons (.call f_l_number (.cons (.v 15) (.cons (.bf .len (.cons (.v 7) .nil)) .nil))) (.cons (.sub (.v 7) (.int 0)) .nil))) (.cons (.tup .nil) .nil)))))))
    (.cons (.asg (.one 10) (.call f_l_take (.cons (.v 0) (.cons (.bf .len (.cons (.v 7) .nil)) .nil))))
    (.cons (.for (.one 8) (.rg2 (.int 1) (.bf .len (.cons (.v 7) .nil))) (.cons (.ex (.call f_l_put (.cons (.v 15) (.cons .non (.cons (.str "set") (.cons (.tup (.cons (.v 9) (.cons (.call f_l_number (.cons (.v 15) (.cons (.bin .mod (.bin .add (.v 8) (.v 10)) (.bf .len (.cons (.v 7) .nil))) .nil))) (.cons (.sub (.v 7) (.v 8)) .nil)))) (.cons (.tup .nil) .nil)))))))
    .nil))
    (.cons (.for (.one 11) (.of (.tup (.cons (.int 0) (.cons (.bin .fdiv (.bf .len (.cons (.v 7) .nil)) (.int 2)) (.cons (.bin .sub (.bf .len (.cons (.v 7) .nil)) (.int 1)) .nil))))) (.cons (.asg (.one 18) (.call f_l_put (.cons (.v 15) (.cons (.v 4) (.cons (.str "get") (.cons (.tup (.cons (.v 9) (.cons (.call f_l_number (.cons (.v 15) (.cons (.v 11) .nil))) .nil))) (.cons (.tup .nil) .nil)))))))
    (.cons (.asg (.one 12) (.call f_l_put (.cons (.v 15) (.cons (.v 3) (.cons (.str "ask") (.cons (.bin .add (.lst (.cons (.v 18) .nil)) (.cut (.v 5) .no (.so (.v 2)))) (.cons (.tup .nil) .nil)))))))
    (.cons (.ex (.call f_l_put (.cons (.v 15) (.cons .non (.cons (.str "tell") (.cons (.tup (.cons (.v 12) .nil)) (.cons (.tup .nil) .nil)))))))
    (.cons (.asg (.one 6) (.call f_l_put (.cons (.v 15) (.cons (.v 3) (.cons (.str "+") (.cons (.tup (.cons (.v 6) (.cons (.v 12) .nil))) (.cons (.tup .nil) .nil)))))))
    .nil)))))
    (.cons (.asg (.one 12) (.call f_l_put (.cons (.v 15) (.cons (.v 3) (.cons (.str "call") (.cons (.bin .add (.lst (.cons (.sub (.v 7) (.neg (.int 1))) .nil)) (.cut (.v 5) (.so (.int 1)) (.so (.bin .add (.int 1) (.v 2))))) (.cons (.tup (.cons (.str "asker") .nil)) .nil)))))))
    (.cons (.asg (.one 13) (.call f_l_number (.cons (.v 15) (.cons (.call f_l_take (.cons (.v 0) (.cons (.int 12) .nil))) .nil))))
    (.cons (.asg (.one 14) (.call f_l_put (.cons (.v 15) (.cons (.v 3) (.cons (.str "call") (.cons (.bin .add (.bin .add (.lst (.cons (.v 13) (.cons (.v 6) .nil))) (.cut (.v 5) (.so (.int 1)) (.so (.bin .add (.int 1) (.v 2))))) (.lst (.cons (.v 12) .nil))) (.cons (.tup (.cons (.str "again") .nil)) .nil)))))))
    (.cons (.ret (.call f_l_ended (.cons (.v 15) (.cons (.str "main") (.cons (.v 14) .nil)))))
    .nil)))))))))))))))⟩
/- _law_whole(_law_pot_here): 0 _law_pot_here 1 _law_many 2 _law_last 3 _law_functions 4 _law_turn -/
def d_l_whole : CL.FDef := ⟨1, 5,
    (.cons (.asg (.one 1) (.bin .add (.bin .add (.int 1) (.call f_l_take (.cons (.v 0) (.cons (.int 5) .nil)))) (.bin .mul (.bin .fdiv (.call f_l_take (.cons (.v 0) (.cons (.int 8) .nil))) (.int 7)) (.int 5))))
    (.cons (.asg (.one 2) (.call f_l_take (.cons (.v 0) (.cons (.bin .add (.v 1) (.int 1)) .nil))))
    (.cons (.asg (.one 3) (.lst (.cons (.call f_l_main (.cons (.v 0) (.cons (.v 1) (.cons (.v 2) .nil)))) (.cons (.call f_l_teller (.cons (.v 0) (.cons (.v 1) .nil))) (.cons (.call f_l_asker (.cons (.v 0) (.cons (.v 2) .nil))) (.cons (.call f_l_again (.cons (.v 0) (.cons (.bin .add (.v 2) (.int 2)) .nil))) .nil))))))
    (.cons (.asg (.one 4) (.call f_l_take (.cons (.v 0) (.cons (.int 4) .nil))))
    (.cons (.ret (.tup (.cons (.tup .nil) (.cons (.bf .tuple (.cons (.bin .add (.cut (.v 3) (.so (.v 4)) .no) (.cut (.v 3) .no (.so (.v 4)))) .nil)) .nil))))
    .nil)))))⟩
/- _law_same(_law_found, _law_due): 0 _law_found 1 _law_due 2 _law_numbers 3 _law_thing 4 _law_number_here -/
def d_l_same : CL.FDef := ⟨2, 5,
    (.cons (.cond (.or (.not (.of (.isi (.v 0) .tuple))) (.or (.of (.cmp .ne (.bf .len (.cons (.v 0) .nil)) (.int 2))) (.not (.of (.isi (.sub (.v 0) (.int 0)) .list))))) (.cons (.ret (.bl false))
    .nil) .nil)
    (.cons (.cond (.or (.not (.of (.isi (.sub (.v 0) (.int 1)) .tuple))) (.of (.cmp .ne (.v 0) (.v 1)))) (.cons (.ret (.bl false))
    .nil) .nil)
    (.cons (.asg (.one 2) (.bin .add (.sub (.v 0) (.int 0)) (.lc (.one 3) (.of (.sub (.v 0) (.int 1))) (.not (.of (.isi (.v 3) .str))) (.v 3))))
    (.cons (.ret (.bf .all (.cons (.lc (.one 4) (.of (.v 2)) .yes (.and (.isi (.v 4) .int) (.not (.isi (.v 4) .bool)))) .nil)))
    .nil))))⟩
/- law(_law_script): 0 _law_script 1 _law_pot_here 2 _law_middle 3 _law_cell 4 _law_ins 5 _law_ticks 6 _law_due 7 _law_turn 8 _law_found -/
def d_law : CL.FDef := ⟨1, 9,
    (.cons (.asg (.one 1) (.call f_l_pot (.cons (.v 0) .nil)))
    (.cons (.asg (.one 2) (.call f_l_whole (.cons (.v 1) .nil)))
    (.cons (.for (.one 3) (.of (.bin .add (.cut (.v 0) .no (.so (.int 63))) (.lst (.cons (.bf .len (.cons (.v 0) .nil)) .nil)))) (.cons (.asg (.one 4) (.lst (.cons (.bin .sub (.bin .mod (.v 3) (.int 4001)) (.int 2000)) (.cons (.bin .sub (.bin .mod (.bin .fdiv (.v 3) (.int 4001)) (.int 4294967296)) (.int 2147483648)) .nil))))
    (.cons (.asg (.one 5) (.sub (.lst (.cons (.bin .mod (.bin .fdiv (.v 3) (.int 7)) (.int 6)) (.cons (.bin .add (.int 20) (.bin .mod (.bin .fdiv (.v 3) (.int 7)) (.int 40))) .nil))) (.bf .int (.cons (.cmp .eq (.bin .mod (.v 3) (.int 3)) (.int 0)) .nil))))
    (.cons (.asg (.one 6) (.call f_l_run (.cons (.v 2) (.cons (.v 4) (.cons (.v 5) .nil)))))
    (.cons (.for (.one 7) (.rg1 (.int 2)) (.cons (.asg (.one 8) (.call f_run_middle (.cons (.v 2) (.cons (.bf .list (.cons (.v 4) .nil)) (.cons (.v 5) .nil)))))
    (.cons (.cond (.not (.of (.call f_l_same (.cons (.v 8) (.cons (.v 6) .nil))))) (.cons (.ret (.bl false))
    .nil) .nil)
    (.cons (.ex (.bm .append (.sub (.v 8) (.int 0)) (.cons (.int 7) .nil)))
    .nil))))
    .nil)))))
    (.cons (.ret (.bl true))
    .nil))))⟩
def fns : List CL.FDef := (([d_brought, d_parted, d_worked, d_guard_of, d_row_named, d_params_of, d_Cells_init, d_Closed_init, d_Level_init, d_Level_enter, d_Level_worths_of, d_lets_by, d_told_by, d_Run_init, d_Run_begin, d_Run_ticked, d_Run_called, d_Run_row_done, d_Run_given, d_Run_end_done] : List CL.FDef) ++ ([d_Run_ended, d_run_middle, d_l_pot, d_l_mix, d_l_take, d_l_put, d_l_open, d_l_begin, d_l_end, d_l_brought, d_l_two, d_l_fault, d_l_worth, d_l_frame, d_l_change, d_l_row_done, d_l_went, d_l_end_done, d_l_run, d_l_state] : List CL.FDef) ++ ([d_l_number, d_l_ended, d_l_teller, d_l_asker, d_l_again, d_l_main, d_l_whole, d_l_same, d_law] : List CL.FDef))
def nmF : List Str := ((["brought", "parted", "worked", "guard_of", "row_named", "params_of", "__init__", "__init__", "__init__", "enter", "worths_of", "lets_by", "told_by", "__init__", "begin", "ticked", "called", "row_done", "given", "end_done", "ended", "run_middle", "_law_pot", "_law_mix", "_law_take", "_law_put", "_law_open", "_law_begin", "_law_end", "_law_brought"] : List Str) ++ (["_law_two", "_law_fault", "_law_worth", "_law_frame", "_law_change", "_law_row_done", "_law_went", "_law_end_done", "_law_run", "_law_state", "_law_number", "_law_ended", "_law_teller", "_law_asker", "_law_again", "_law_main", "_law_whole", "_law_same", "law"] : List Str))
def nm : CL.Nms := ⟨fun f => nmF.getD f "", fun f => (([true, true, true, true, true, true, false, false, false, false, false, true, true, false, false, false, false, false, false, false] : List Bool) ++ ([false, true, true, true, true, true, true, true, true, true, true, true, true, true, true, true, true, true, true, true] : List Bool) ++ ([true, true, true, true, true, true, true, true, true] : List Bool)).getD f false, fun c => (["Cells", "Closed", "Level", "Run"] : List Str).getD c "", fun g => (["HALF", "WHOLE", "LONGEST"] : List Str).getD g ""⟩
def mts : List (Nat × Str × Nat) := [(0, "__init__", f_Cells_init), (1, "__init__", f_Closed_init), (2, "__init__", f_Level_init), (2, "enter", f_Level_enter), (2, "worths_of", f_Level_worths_of), (3, "__init__", f_Run_init), (3, "begin", f_Run_begin), (3, "ticked", f_Run_ticked), (3, "called", f_Run_called), (3, "row_done", f_Run_row_done), (3, "given", f_Run_given), (3, "end_done", f_Run_end_done), (3, "ended", f_Run_ended)]
def flds : List (Nat × Str) := [(0, "held"), (1, "name"), (1, "things"), (2, "at"), (2, "block"), (2, "blocks"), (2, "target"), (2, "worth_by"), (3, "frames"), (3, "middle"), (3, "ticks"), (3, "told")]
def gls : List CL.Val := [(.int 2147483648), (.int 4294967296), (.int 60)]
def kts : List (List CL.Val) := []
def G : CL.Prog := ⟨fun f => fns[f]?, fun c m => (mts.find? fun x => decide (x.1 = c) && decide (x.2.1 = m)).map (·.2.2), fun c => (mts.find? fun x => decide (x.1 = c) && decide (x.2.1 = ("__init__" : Str))).map (·.2.2), fun g => gls[g]?, fun c f => flds.contains (c, f), kts⟩
def top (i : Nat) : Stmt := PySem.Challenge.pw_chainwright_k28_calls_asks.main.body.getD i (.Pass ⟨0, 0, 0, 0⟩)
def n_brought : List Str := ["n"]
theorem sc_brought : L2.FnScope n_brought ["n"] (L2.defScope (top 6)) := ⟨rfl, rfl, rfl, by decide +kernel, rfl, by decide +kernel, by decide +kernel⟩
theorem ch_brought : CL.chSs nm n_brought (L2.defScope (top 6)) (fun _ => true) d_brought.body (L2.defBody (top 6)) = true := by decide +kernel
def n_parted : List Str := ["word", "one", "other"]
theorem sc_parted : L2.FnScope n_parted ["word", "one", "other"] (L2.defScope (top 7)) := ⟨rfl, rfl, rfl, by decide +kernel, rfl, by decide +kernel, by decide +kernel⟩
theorem ch_parted : CL.chSs nm n_parted (L2.defScope (top 7)) (fun _ => true) d_parted.body (L2.defBody (top 7)) = true := by decide +kernel
def n_worked : List Str := ["word", "one", "other"]
theorem sc_worked : L2.FnScope n_worked ["word", "one", "other"] (L2.defScope (top 8)) := ⟨rfl, rfl, rfl, by decide +kernel, rfl, by decide +kernel, by decide +kernel⟩
theorem ch_worked : CL.chSs nm n_worked (L2.defScope (top 8)) (fun _ => true) d_worked.body (L2.defBody (top 8)) = true := by decide +kernel
def n_guard_of : List Str := ["row"]
theorem sc_guard_of : L2.FnScope n_guard_of ["row"] (L2.defScope (top 10)) := ⟨rfl, rfl, rfl, by decide +kernel, rfl, by decide +kernel, by decide +kernel⟩
theorem ch_guard_of : CL.chSs nm n_guard_of (L2.defScope (top 10)) (fun _ => true) d_guard_of.body (L2.defBody (top 10)) = true := by decide +kernel
def n_row_named : List Str := ["middle", "name", "function"]
theorem sc_row_named : L2.FnScope n_row_named ["middle", "name"] (L2.defScope (top 11)) := ⟨rfl, rfl, rfl, by decide +kernel, rfl, by decide +kernel, by decide +kernel⟩
theorem ch_row_named : CL.chSs nm n_row_named (L2.defScope (top 11)) (fun _ => true) d_row_named.body (L2.defBody (top 11)) = true := by decide +kernel
def n_params_of : List Str := ["function", "x", "kind"]
theorem sc_params_of : L2.FnScope n_params_of ["function"] (L2.defScope (top 12)) := ⟨rfl, rfl, rfl, by decide +kernel, rfl, by decide +kernel, by decide +kernel⟩
theorem ch_params_of : CL.chSs nm n_params_of (L2.defScope (top 12)) (fun _ => true) d_params_of.body (L2.defBody (top 12)) = true := by decide +kernel
def n_Cells_init : List Str := ["self", "held"]
theorem sc_Cells_init : L2.FnScope n_Cells_init ["self", "held"] (L2.defScope (L2.inClass (top 15) 0)) := ⟨rfl, rfl, rfl, by decide +kernel, rfl, by decide +kernel, by decide +kernel⟩
theorem ch_Cells_init : CL.chSs nm n_Cells_init (L2.defScope (L2.inClass (top 15) 0)) (fun _ => true) d_Cells_init.body (L2.defBody (L2.inClass (top 15) 0)) = true := by decide +kernel
def n_Closed_init : List Str := ["self", "name", "things"]
theorem sc_Closed_init : L2.FnScope n_Closed_init ["self", "name", "things"] (L2.defScope (L2.inClass (top 16) 0)) := ⟨rfl, rfl, rfl, by decide +kernel, rfl, by decide +kernel, by decide +kernel⟩
theorem ch_Closed_init : CL.chSs nm n_Closed_init (L2.defScope (L2.inClass (top 16) 0)) (fun _ => true) d_Closed_init.body (L2.defBody (L2.inClass (top 16) 0)) = true := by decide +kernel
def n_Level_init : List Str := ["self", "function", "things", "target"]
theorem sc_Level_init : L2.FnScope n_Level_init ["self", "function", "things", "target"] (L2.defScope (L2.inClass (top 17) 0)) := ⟨rfl, rfl, rfl, by decide +kernel, rfl, by decide +kernel, by decide +kernel⟩
theorem ch_Level_init : CL.chSs nm n_Level_init (L2.defScope (L2.inClass (top 17) 0)) (fun _ => true) d_Level_init.body (L2.defBody (L2.inClass (top 17) 0)) = true := by decide +kernel
def n_Level_enter : List Str := ["self", "number", "things", "param", "thing"]
theorem sc_Level_enter : L2.FnScope n_Level_enter ["self", "number", "things"] (L2.defScope (L2.inClass (top 17) 1)) := ⟨rfl, rfl, rfl, by decide +kernel, rfl, by decide +kernel, by decide +kernel⟩
theorem ch_Level_enter : CL.chSs nm n_Level_enter (L2.defScope (L2.inClass (top 17) 1)) (fun _ => true) d_Level_enter.body (L2.defBody (L2.inClass (top 17) 1)) = true := by decide +kernel
def n_Level_worths_of : List Str := ["self", "names", "name"]
theorem sc_Level_worths_of : L2.FnScope n_Level_worths_of ["self", "names"] (L2.defScope (L2.inClass (top 17) 2)) := ⟨rfl, rfl, rfl, by decide +kernel, rfl, by decide +kernel, by decide +kernel⟩
theorem ch_Level_worths_of : CL.chSs nm n_Level_worths_of (L2.defScope (L2.inClass (top 17) 2)) (fun _ => true) d_Level_worths_of.body (L2.defBody (L2.inClass (top 17) 2)) = true := by decide +kernel
def n_lets_by : List Str := ["word", "things"]
theorem sc_lets_by : L2.FnScope n_lets_by ["word", "things"] (L2.defScope (top 18)) := ⟨rfl, rfl, rfl, by decide +kernel, rfl, by decide +kernel, by decide +kernel⟩
theorem ch_lets_by : CL.chSs nm n_lets_by (L2.defScope (top 18)) (fun _ => true) d_lets_by.body (L2.defBody (top 18)) = true := by decide +kernel
def n_told_by : List Str := ["op", "things", "more"]
theorem sc_told_by : L2.FnScope n_told_by ["op", "things", "more"] (L2.defScope (top 19)) := ⟨rfl, rfl, rfl, by decide +kernel, rfl, by decide +kernel, by decide +kernel⟩
theorem ch_told_by : CL.chSs nm n_told_by (L2.defScope (top 19)) (fun _ => true) d_told_by.body (L2.defBody (top 19)) = true := by decide +kernel
def n_Run_init : List Str := ["self", "middle", "ticks"]
theorem sc_Run_init : L2.FnScope n_Run_init ["self", "middle", "ticks"] (L2.defScope (L2.inClass (top 20) 0)) := ⟨rfl, rfl, rfl, by decide +kernel, rfl, by decide +kernel, by decide +kernel⟩
theorem ch_Run_init : CL.chSs nm n_Run_init (L2.defScope (L2.inClass (top 20) 0)) (fun _ => true) d_Run_init.body (L2.defBody (L2.inClass (top 20) 0)) = true := by decide +kernel
def n_Run_begin : List Str := ["self", "name", "things", "target"]
theorem sc_Run_begin : L2.FnScope n_Run_begin ["self", "name", "things", "target"] (L2.defScope (L2.inClass (top 20) 1)) := ⟨rfl, rfl, rfl, by decide +kernel, rfl, by decide +kernel, by decide +kernel⟩
theorem ch_Run_begin : CL.chSs nm n_Run_begin (L2.defScope (L2.inClass (top 20) 1)) (fun _ => true) d_Run_begin.body (L2.defBody (L2.inClass (top 20) 1)) = true := by decide +kernel
def n_Run_ticked : List Str := ["self"]
theorem sc_Run_ticked : L2.FnScope n_Run_ticked ["self"] (L2.defScope (L2.inClass (top 20) 2)) := ⟨rfl, rfl, rfl, by decide +kernel, rfl, by decide +kernel, by decide +kernel⟩
theorem ch_Run_ticked : CL.chSs nm n_Run_ticked (L2.defScope (L2.inClass (top 20) 2)) (fun _ => true) d_Run_ticked.body (L2.defBody (L2.inClass (top 20) 2)) = true := by decide +kernel
def n_Run_called : List Str := ["self", "row", "things"]
theorem sc_Run_called : L2.FnScope n_Run_called ["self", "row", "things"] (L2.defScope (L2.inClass (top 20) 3)) := ⟨rfl, rfl, rfl, by decide +kernel, rfl, by decide +kernel, by decide +kernel⟩
theorem ch_Run_called : CL.chSs nm n_Run_called (L2.defScope (L2.inClass (top 20) 3)) (fun _ => true) d_Run_called.body (L2.defBody (L2.inClass (top 20) 3)) = true := by decide +kernel
def n_Run_row_done : List Str := ["self", "frame", "row", "things", "guard", "x", "kind", "op", "args", "more", "line"]
theorem sc_Run_row_done : L2.FnScope n_Run_row_done ["self", "frame", "row"] (L2.defScope (L2.inClass (top 20) 4)) := ⟨rfl, rfl, rfl, by decide +kernel, rfl, by decide +kernel, by decide +kernel⟩
theorem ch_Run_row_done : CL.chSs nm n_Run_row_done (L2.defScope (L2.inClass (top 20) 4)) (fun _ => true) d_Run_row_done.body (L2.defBody (L2.inClass (top 20) 4)) = true := by decide +kernel
def n_Run_given : List Str := ["self", "value", "target"]
theorem sc_Run_given : L2.FnScope n_Run_given ["self", "value"] (L2.defScope (L2.inClass (top 20) 5)) := ⟨rfl, rfl, rfl, by decide +kernel, rfl, by decide +kernel, by decide +kernel⟩
theorem ch_Run_given : CL.chSs nm n_Run_given (L2.defScope (L2.inClass (top 20) 5)) (fun _ => true) d_Run_given.body (L2.defBody (L2.inClass (top 20) 5)) = true := by decide +kernel
def n_Run_end_done : List Str := ["self", "frame", "end"]
theorem sc_Run_end_done : L2.FnScope n_Run_end_done ["self", "frame", "end"] (L2.defScope (L2.inClass (top 20) 6)) := ⟨rfl, rfl, rfl, by decide +kernel, rfl, by decide +kernel, by decide +kernel⟩
theorem ch_Run_end_done : CL.chSs nm n_Run_end_done (L2.defScope (L2.inClass (top 20) 6)) (fun _ => true) d_Run_end_done.body (L2.defBody (L2.inClass (top 20) 6)) = true := by decide +kernel
def n_Run_ended : List Str := ["self", "end", "frame", "rows"]
theorem sc_Run_ended : L2.FnScope n_Run_ended ["self"] (L2.defScope (L2.inClass (top 20) 7)) := ⟨rfl, rfl, rfl, by decide +kernel, rfl, by decide +kernel, by decide +kernel⟩
theorem ch_Run_ended : CL.chSs nm n_Run_ended (L2.defScope (L2.inClass (top 20) 7)) (fun _ => true) d_Run_ended.body (L2.defBody (L2.inClass (top 20) 7)) = true := by decide +kernel
def n_run_middle : List Str := ["middle", "ins", "ticks", "run", "end"]
theorem sc_run_middle : L2.FnScope n_run_middle ["middle", "ins", "ticks"] (L2.defScope (top 21)) := ⟨rfl, rfl, rfl, by decide +kernel, rfl, by decide +kernel, by decide +kernel⟩
theorem ch_run_middle : CL.chSs nm n_run_middle (L2.defScope (top 21)) (fun _ => true) d_run_middle.body (L2.defBody (top 21)) = true := by decide +kernel
def n_l_pot : List Str := ["_law_cells", "_law_mixed"]
theorem sc_l_pot : L2.FnScope n_l_pot ["_law_cells"] (L2.defScope (top 23)) := ⟨rfl, rfl, rfl, by decide +kernel, rfl, by decide +kernel, by decide +kernel⟩
theorem ch_l_pot : CL.chSs nm n_l_pot (L2.defScope (top 23)) (fun _ => true) d_l_pot.body (L2.defBody (top 23)) = true := by decide +kernel
def n_l_mix : List Str := ["_law_number_here", "_law_turn", "_law_one"]
theorem sc_l_mix : L2.FnScope n_l_mix ["_law_number_here", "_law_turn"] (L2.defScope (top 24)) := ⟨rfl, rfl, rfl, by decide +kernel, rfl, by decide +kernel, by decide +kernel⟩
theorem ch_l_mix : CL.chSs nm n_l_mix (L2.defScope (top 24)) (fun _ => true) d_l_mix.body (L2.defBody (top 24)) = true := by decide +kernel
def n_l_take : List Str := ["_law_pot_here", "_law_many", "_law_cells", "_law_told"]
theorem sc_l_take : L2.FnScope n_l_take ["_law_pot_here", "_law_many"] (L2.defScope (top 25)) := ⟨rfl, rfl, rfl, by decide +kernel, rfl, by decide +kernel, by decide +kernel⟩
theorem ch_l_take : CL.chSs nm n_l_take (L2.defScope (top 25)) (fun _ => true) d_l_take.body (L2.defBody (top 25)) = true := by decide +kernel
def n_l_put : List Str := ["_law_state_here", "_law_kind", "_law_op", "_law_args", "_law_more", "_law_x"]
theorem sc_l_put : L2.FnScope n_l_put ["_law_state_here", "_law_kind", "_law_op", "_law_args", "_law_more"] (L2.defScope (top 26)) := ⟨rfl, rfl, rfl, by decide +kernel, rfl, by decide +kernel, by decide +kernel⟩
theorem ch_l_put : CL.chSs nm n_l_put (L2.defScope (top 26)) (fun _ => true) d_l_put.body (L2.defBody (top 26)) = true := by decide +kernel
def n_l_open : List Str := ["_law_state_here"]
theorem sc_l_open : L2.FnScope n_l_open ["_law_state_here"] (L2.defScope (top 27)) := ⟨rfl, rfl, rfl, by decide +kernel, rfl, by decide +kernel, by decide +kernel⟩
theorem ch_l_open : CL.chSs nm n_l_open (L2.defScope (top 27)) (fun _ => true) d_l_open.body (L2.defBody (top 27)) = true := by decide +kernel
def n_l_begin : List Str := ["_law_state_here", "_law_at", "_law_kinds", "_law_names"]
theorem sc_l_begin : L2.FnScope n_l_begin ["_law_state_here", "_law_at", "_law_kinds"] (L2.defScope (top 28)) := ⟨rfl, rfl, rfl, by decide +kernel, rfl, by decide +kernel, by decide +kernel⟩
theorem ch_l_begin : CL.chSs nm n_l_begin (L2.defScope (top 28)) (fun _ => true) d_l_begin.body (L2.defBody (top 28)) = true := by decide +kernel
def n_l_end : List Str := ["_law_state_here", "_law_end_here"]
theorem sc_l_end : L2.FnScope n_l_end ["_law_state_here", "_law_end_here"] (L2.defScope (top 29)) := ⟨rfl, rfl, rfl, by decide +kernel, rfl, by decide +kernel, by decide +kernel⟩
theorem ch_l_end : CL.chSs nm n_l_end (L2.defScope (top 29)) (fun _ => true) d_l_end.body (L2.defBody (top 29)) = true := by decide +kernel
def n_l_brought : List Str := ["_law_number_here"]
theorem sc_l_brought : L2.FnScope n_l_brought ["_law_number_here"] (L2.defScope (top 30)) := ⟨rfl, rfl, rfl, by decide +kernel, rfl, by decide +kernel, by decide +kernel⟩
theorem ch_l_brought : CL.chSs nm n_l_brought (L2.defScope (top 30)) (fun _ => true) d_l_brought.body (L2.defBody (top 30)) = true := by decide +kernel
def n_l_two : List Str := ["_law_op", "_law_one", "_law_other"]
theorem sc_l_two : L2.FnScope n_l_two ["_law_op", "_law_one", "_law_other"] (L2.defScope (top 31)) := ⟨rfl, rfl, rfl, by decide +kernel, rfl, by decide +kernel, by decide +kernel⟩
theorem ch_l_two : CL.chSs nm n_l_two (L2.defScope (top 31)) (fun _ => true) d_l_two.body (L2.defBody (top 31)) = true := by decide +kernel
def n_l_fault : List Str := ["_law_row", "_law_things", "_law_op", "_law_line"]
theorem sc_l_fault : L2.FnScope n_l_fault ["_law_row", "_law_things"] (L2.defScope (top 32)) := ⟨rfl, rfl, rfl, by decide +kernel, rfl, by decide +kernel, by decide +kernel⟩
theorem ch_l_fault : CL.chSs nm n_l_fault (L2.defScope (top 32)) (fun _ => true) d_l_fault.body (L2.defBody (top 32)) = true := by decide +kernel
def n_l_worth : List Str := ["_law_row", "_law_things", "_law_op", "_law_more"]
theorem sc_l_worth : L2.FnScope n_l_worth ["_law_row", "_law_things"] (L2.defScope (top 33)) := ⟨rfl, rfl, rfl, by decide +kernel, rfl, by decide +kernel, by decide +kernel⟩
theorem ch_l_worth : CL.chSs nm n_l_worth (L2.defScope (top 33)) (fun _ => true) d_l_worth.body (L2.defBody (top 33)) = true := by decide +kernel
def n_l_frame : List Str := ["_law_middle", "_law_name", "_law_things", "_law_target", "_law_function", "_law_values", "_law_param", "_law_thing", "_law_one"]
theorem sc_l_frame : L2.FnScope n_l_frame ["_law_middle", "_law_name", "_law_things", "_law_target"] (L2.defScope (top 34)) := ⟨rfl, rfl, rfl, by decide +kernel, rfl, by decide +kernel, by decide +kernel⟩
theorem ch_l_frame : CL.chSs nm n_l_frame (L2.defScope (top 34)) (fun _ => true) d_l_frame.body (L2.defBody (top 34)) = true := by decide +kernel
def n_l_change : List Str := ["_law_run_here", "_law_row", "_law_things", "_law_op", "_law_more"]
theorem sc_l_change : L2.FnScope n_l_change ["_law_run_here", "_law_row", "_law_things"] (L2.defScope (top 35)) := ⟨rfl, rfl, rfl, by decide +kernel, rfl, by decide +kernel, by decide +kernel⟩
theorem ch_l_change : CL.chSs nm n_l_change (L2.defScope (top 35)) (fun _ => true) d_l_change.body (L2.defBody (top 35)) = true := by decide +kernel
def n_l_row_done : List Str := ["_law_run_here", "_law_row", "_law_frame_here", "_law_things", "_law_fault_here", "_law_x"]
theorem sc_l_row_done : L2.FnScope n_l_row_done ["_law_run_here", "_law_row"] (L2.defScope (top 36)) := ⟨rfl, rfl, rfl, by decide +kernel, rfl, by decide +kernel, by decide +kernel⟩
theorem ch_l_row_done : CL.chSs nm n_l_row_done (L2.defScope (top 36)) (fun _ => true) d_l_row_done.body (L2.defBody (top 36)) = true := by decide +kernel
def n_l_went : List Str := ["_law_frame_here", "_law_goal", "_law_things", "_law_param", "_law_thing"]
theorem sc_l_went : L2.FnScope n_l_went ["_law_frame_here", "_law_goal", "_law_things"] (L2.defScope (top 37)) := ⟨rfl, rfl, rfl, by decide +kernel, rfl, by decide +kernel, by decide +kernel⟩
theorem ch_l_went : CL.chSs nm n_l_went (L2.defScope (top 37)) (fun _ => true) d_l_went.body (L2.defBody (top 37)) = true := by decide +kernel
def n_l_end_done : List Str := ["_law_run_here", "_law_end_here", "_law_frame_here", "_law_values", "_law_x"]
theorem sc_l_end_done : L2.FnScope n_l_end_done ["_law_run_here", "_law_end_here"] (L2.defScope (top 38)) := ⟨rfl, rfl, rfl, by decide +kernel, rfl, by decide +kernel, by decide +kernel⟩
theorem ch_l_end_done : CL.chSs nm n_l_end_done (L2.defScope (top 38)) (fun _ => true) d_l_end_done.body (L2.defBody (top 38)) = true := by decide +kernel
def n_l_run : List Str := ["_law_middle", "_law_ins", "_law_ticks", "_law_run_here", "_law_end_here", "_law_frame_here", "_law_rows"]
theorem sc_l_run : L2.FnScope n_l_run ["_law_middle", "_law_ins", "_law_ticks"] (L2.defScope (top 39)) := ⟨rfl, rfl, rfl, by decide +kernel, rfl, by decide +kernel, by decide +kernel⟩
theorem ch_l_run : CL.chSs nm n_l_run (L2.defScope (top 39)) (fun _ => true) d_l_run.body (L2.defBody (top 39)) = true := by decide +kernel
def n_l_state : List Str := ["_law_pot_here", "_law_kinds", "_law_state_here", "_law_names"]
theorem sc_l_state : L2.FnScope n_l_state ["_law_pot_here", "_law_kinds"] (L2.defScope (top 40)) := ⟨rfl, rfl, rfl, by decide +kernel, rfl, by decide +kernel, by decide +kernel⟩
theorem ch_l_state : CL.chSs nm n_l_state (L2.defScope (top 40)) (fun _ => true) d_l_state.body (L2.defBody (top 40)) = true := by decide +kernel
def n_l_number : List Str := ["_law_state_here", "_law_told"]
theorem sc_l_number : L2.FnScope n_l_number ["_law_state_here", "_law_told"] (L2.defScope (top 41)) := ⟨rfl, rfl, rfl, by decide +kernel, rfl, by decide +kernel, by decide +kernel⟩
theorem ch_l_number : CL.chSs nm n_l_number (L2.defScope (top 41)) (fun _ => true) d_l_number.body (L2.defBody (top 41)) = true := by decide +kernel
def n_l_ended : List Str := ["_law_state_here", "_law_name", "_law_x"]
theorem sc_l_ended : L2.FnScope n_l_ended ["_law_state_here", "_law_name", "_law_x"] (L2.defScope (top 42)) := ⟨rfl, rfl, rfl, by decide +kernel, rfl, by decide +kernel, by decide +kernel⟩
theorem ch_l_ended : CL.chSs nm n_l_ended (L2.defScope (top 42)) (fun _ => true) d_l_ended.body (L2.defBody (top 42)) = true := by decide +kernel
def n_l_teller : List Str := ["_law_pot_here", "_law_many", "_law_number_here", "_law_sum_so", "_law_x", "_law_state_here", "_law_names", "_law_times"]
theorem sc_l_teller : L2.FnScope n_l_teller ["_law_pot_here", "_law_many"] (L2.defScope (top 43)) := ⟨rfl, rfl, rfl, by decide +kernel, rfl, by decide +kernel, by decide +kernel⟩
theorem ch_l_teller : CL.chSs nm n_l_teller (L2.defScope (top 43)) (fun _ => true) d_l_teller.body (L2.defBody (top 43)) = true := by decide +kernel
def n_l_asker : List Str := ["_law_pot_here", "_law_many", "_law_number_here", "_law_got", "_law_state_here", "_law_names"]
theorem sc_l_asker : L2.FnScope n_l_asker ["_law_pot_here", "_law_many"] (L2.defScope (top 44)) := ⟨rfl, rfl, rfl, by decide +kernel, rfl, by decide +kernel, by decide +kernel⟩
theorem ch_l_asker : CL.chSs nm n_l_asker (L2.defScope (top 44)) (fun _ => true) d_l_asker.body (L2.defBody (top 44)) = true := by decide +kernel
def n_l_again : List Str := ["_law_pot_here", "_law_many", "_law_number_here", "_law_nought", "_law_less", "_law_down", "_law_got", "_law_state_here", "_law_names", "_law_on", "_law_out"]
theorem sc_l_again : L2.FnScope n_l_again ["_law_pot_here", "_law_many"] (L2.defScope (top 45)) := ⟨rfl, rfl, rfl, by decide +kernel, rfl, by decide +kernel, by decide +kernel⟩
theorem ch_l_again : CL.chSs nm n_l_again (L2.defScope (top 45)) (fun _ => true) d_l_again.body (L2.defBody (top 45)) = true := by decide +kernel
def n_l_main : List Str := ["_law_pot_here", "_law_many", "_law_last", "_law_number_here", "_law_fun", "_law_things", "_law_called", "_law_closes", "_law_k", "_law_row", "_law_turn", "_law_at", "_law_got", "_law_deep", "_law_again_here", "_law_state_here", "_law_names", "_law_held", "_law_asked", "_law_place"]
theorem sc_l_main : L2.FnScope n_l_main ["_law_pot_here", "_law_many", "_law_last"] (L2.defScope (top 46)) := ⟨rfl, rfl, rfl, by decide +kernel, rfl, by decide +kernel, by decide +kernel⟩
theorem ch_l_main : CL.chSs nm n_l_main (L2.defScope (top 46)) (fun _ => true) d_l_main.body (L2.defBody (top 46)) = true := by decide +kernel
def n_l_whole : List Str := ["_law_pot_here", "_law_many", "_law_last", "_law_functions", "_law_turn"]
theorem sc_l_whole : L2.FnScope n_l_whole ["_law_pot_here"] (L2.defScope (top 47)) := ⟨rfl, rfl, rfl, by decide +kernel, rfl, by decide +kernel, by decide +kernel⟩
theorem ch_l_whole : CL.chSs nm n_l_whole (L2.defScope (top 47)) (fun _ => true) d_l_whole.body (L2.defBody (top 47)) = true := by decide +kernel
def n_l_same : List Str := ["_law_found", "_law_due", "_law_numbers", "_law_thing", "_law_number_here"]
theorem sc_l_same : L2.FnScope n_l_same ["_law_found", "_law_due"] (L2.defScope (top 48)) := ⟨rfl, rfl, rfl, by decide +kernel, rfl, by decide +kernel, by decide +kernel⟩
theorem ch_l_same : CL.chSs nm n_l_same (L2.defScope (top 48)) (fun _ => true) d_l_same.body (L2.defBody (top 48)) = true := by decide +kernel
def n_law : List Str := ["_law_script", "_law_pot_here", "_law_middle", "_law_cell", "_law_ins", "_law_ticks", "_law_due", "_law_turn", "_law_found"]
theorem sc_law : L2.FnScope n_law ["_law_script"] (L2.defScope (top 49)) := ⟨rfl, rfl, rfl, by decide +kernel, rfl, by decide +kernel, by decide +kernel⟩
theorem ch_law : CL.chSs nm n_law (L2.defScope (top 49)) (fun _ => true) d_law.body (L2.defBody (top 49)) = true := by decide +kernel
abbrev fuel : Nat := 1000000
end LK28
set_option maxHeartbeats 4000000
namespace LK28
open CL Md
local macro_rules | `(tactic| walk_at "sub") => `(tactic| first | with_reducible exact sub_one | with_reducible assumption | with_reducible exact sub_all | with_reducible exact sub_here | ((with_reducible apply sub_cons); walk_at "sub") | ((with_reducible apply sub_there); walk_at "sub"))
local macro_rules | `(tactic| walk_at "upd") => `(tactic| first | with_reducible exact Upd.here | ((with_reducible apply Upd.there); walk_at "upd") | ((with_reducible apply Upd.left); walk_at "upd"))
local macro_rules | `(tactic| walk_at "subs") => `(tactic| first | ((with_reducible apply sub_add); (· walk_at "sub"); walk_at "subs") | walk_at "sub" | with_reducible exact sub_nil)
local macro_rules | `(tactic| walk_at "look") => `(tactic| first | with_reducible exact LookD.here | ((with_reducible apply LookD.there); (· exact rfl); walk_at "look"))
local macro_rules | `(tactic| walk_at "put") => `(tactic| first | with_reducible exact PutD.nil | ((with_reducible apply PutD.here); (· exact rfl)) | ((with_reducible apply PutD.there); (· exact rfl); walk_at "put"))
local macro_rules | `(tactic| walk_at "lk") => `(tactic| (simp (disch := omega) only [Md.looks, Md.lookE_here, Md.lookE_there] <;> rfl))
local macro_rules | `(tactic| walk_at "pt") => `(tactic| (simp (disch := omega) only [Md.putE_nil, Md.putE_cons_ne] <;> rfl))
local macro_rules | `(tactic| walk_at "1e1") => `(tactic| first
  | ((with_reducible apply e_v); (· exact rfl))
  | ((with_reducible apply e_int))
  | ((with_reducible apply e_str))
  | ((with_reducible apply e_sub)))
local macro_rules | `(tactic| walk_at "1e2") => `(tactic| first
  | ((with_reducible apply e_callN))
  | ((with_reducible apply e_cmp))
  | ((with_reducible apply e_tup))
  | ((with_reducible apply e_bin))
  | ((with_reducible apply e_fld))
  | ((with_reducible apply e_non))
  | ((with_reducible apply e_bf)))
local macro_rules | `(tactic| walk_at "1e3") => `(tactic| first
  | ((with_reducible apply e_cut))
  | ((with_reducible apply e_bl))
  | ((with_reducible apply e_bm))
  | ((with_reducible apply e_metN))
  | ((with_reducible apply e_makeN))
  | ((with_reducible apply e_lst))
  | ((with_reducible apply e_ite))
  | ((with_reducible apply e_lc'))
  | ((with_reducible apply e_dic)))
local macro_rules | `(tactic| walk_at "1e4") => `(tactic| first
  | ((with_reducible apply e_and))
  | ((with_reducible apply e_or))
  | ((with_reducible apply e_not))
  | ((with_reducible apply e_isN))
  | ((with_reducible apply e_noN))
  | ((with_reducible apply e_cm2))
  | ((with_reducible apply e_neg))
  | ((with_reducible apply e_isi))
  | ((with_reducible apply e_lzip))
  | ((with_reducible apply e_lrg1))
  | ((with_reducible apply e_lrg2))
  | ((with_reducible apply e_cut3))
  | ((with_reducible apply e_gl); (· exact rfl)))
local macro_rules | `(tactic| walk_at "1S") => `(tactic| first
  | ((with_reducible apply ss_cons))
  | ((with_reducible apply ss_nil)))
local macro_rules | `(tactic| walk_at "1s1") => `(tactic| first
  | ((with_reducible apply s_cond))
  | ((with_reducible apply s_ret))
  | ((with_reducible apply s_asg1))
  | ((with_reducible apply s_ex))
  | ((with_reducible apply s_asgf))
  | ((with_reducible apply s_asgs)))
local macro_rules | `(tactic| walk_at "1s2") => `(tactic| first
  | ((with_reducible apply s_auf))
  | ((with_reducible apply s_asT))
  | ((with_reducible apply s_par))
  | ((with_reducible apply s_aus))
  | ((with_reducible apply s_aug); (· exact rfl))
  | ((with_reducible apply s_for))
  | ((with_reducible apply s_whl))
  | ((with_reducible apply s_rtN))
  | ((with_reducible apply s_pass))
  | ((with_reducible apply s_cnt))
  | ((with_reducible apply s_brk)))
local macro_rules | `(tactic| walk_at "1v") => `(tactic| first
  | ((with_reducible apply e_cons))
  | ((with_reducible apply e_nil)))
local macro_rules | `(tactic| walk_at "1o") => `(tactic| first
  | ((with_reducible apply e_no))
  | ((with_reducible apply e_so)))
local macro_rules | `(tactic| walk_at "1d") => `(tactic| first
  | ((with_reducible apply ep_nil))
  | ((with_reducible apply ep_cons)))
local macro_rules | `(tactic| walk_at "1b") => `(tactic| first
  | ((with_reducible apply b_of))
  | ((with_reducible apply b_and))
  | ((with_reducible apply b_or))
  | ((with_reducible apply b_not))
  | ((with_reducible apply b_yes)))
local macro_rules | `(tactic| walk_at "1x") => `(tactic| first
  | ((with_reducible apply x_tup); (· first | exact rfl | exact atI_zero))
  | ((with_reducible apply x_dS); (· walk_at "sub"); (· exact rfl); (· walk_at "look"))
  | ((with_reducible apply x_lst); (· walk_at "sub"); (· first | exact rfl | exact atI_zero)))
local macro_rules | `(tactic| walk_at "1c") => `(tactic| first
  | ((with_reducible apply c_eqs))
  | ((with_reducible apply c_int); (· exact rfl))
  | ((with_reducible apply c_eqi))
  | ((with_reducible apply c_nei))
  | ((with_reducible apply c_lt))
  | ((with_reducible apply c_le))
  | ((with_reducible apply c_gt))
  | ((with_reducible apply c_ge))
  | ((with_reducible apply c_nes)))
local macro_rules | `(tactic| walk_at "1p") => `(tactic| first
  | ((with_reducible apply p_add'))
  | ((with_reducible apply p_sub'))
  | ((with_reducible apply p_addl'); (· walk_at "sub"); (· walk_at "sub"); (· exact rfl)))
local macro_rules | `(tactic| walk_at "1f") => `(tactic| first
  | ((with_reducible apply f_lent))
  | ((with_reducible apply f_lenl); (· walk_at "sub"))
  | ((with_reducible apply f_listt))
  | ((with_reducible apply f_listl); (· walk_at "sub"))
  | ((with_reducible apply f_tupl); (· walk_at "sub"))
  | ((with_reducible apply f_tupt)))
local macro_rules | `(tactic| walk_at "1r") => `(tactic| first
  | ((with_reducible apply br_t); (· exact rfl))
  | ((with_reducible apply br_f); (· exact rfl)))
local macro_rules | `(tactic| walk_at "1a") => `(tactic| first
  | ((with_reducible apply a_nil))
  | ((with_reducible apply a_one))
  | ((with_reducible apply a_sub))
  | ((with_reducible apply a_fld)))
local macro_rules | `(tactic| walk_at "1i") => `(tactic| first
  | ((with_reducible apply i_of))
  | ((with_reducible apply i_tup))
  | ((with_reducible apply i_lst); (· walk_at "sub"))
  | ((with_reducible apply i_zip))
  | ((with_reducible apply i_rg1))
  | ((with_reducible apply i_rg2))
  | ((with_reducible apply i_enu)))
local macro_rules | `(tactic| walk_at "1y") => `(tactic| first
  | ((with_reducible apply x_fld); (· walk_at "sub"); (· exact rfl); (· exact rfl))
  | ((with_reducible apply y_fld); (· walk_at "upd"); (· exact rfl); (· exact Nat.le_of_ble_eq_true rfl))
  | ((with_reducible apply d_gS); (· walk_at "sub"); (· exact rfl); (· walk_at "look"))
  | ((with_reducible apply d_pS); (· walk_at "sub"); (· exact rfl); (· walk_at "put"); (· exact Nat.le_of_ble_eq_true rfl); (· walk_at "upd"))
  | ((with_reducible apply y_dS); (· walk_at "sub"); (· exact rfl); (· walk_at "put"); (· exact Nat.le_of_ble_eq_true rfl); (· walk_at "upd"))
  | ((with_reducible apply x_cutt); (· exact rfl); (· exact rfl))
  | ((with_reducible apply x_cutl); (· walk_at "sub"); (· exact rfl); (· exact rfl))
  | ((with_reducible apply o_add))
  | ((with_reducible apply o_sub)))
local macro_rules | `(tactic| walk_at "1t") => `(tactic| first
  | ((with_reducible apply t_bool))
  | ((with_reducible apply t_int'))
  | ((with_reducible apply t_tup'))
  | ((with_reducible apply t_str'))
  | ((with_reducible apply t_bl'))
  | ((with_reducible apply t_non))
  | ((with_reducible apply t_lst'); (· walk_at "sub"))
  | ((with_reducible apply t_int)))
local macro_rules | `(tactic| walk_at "1z") => `(tactic| first
  | ((with_reducible refine And.intro (small62_of ?_) ?_); (· omega))
  | with_reducible refine And.intro rfl ?_
  | refine ⟨_, _, _, _, _, rfl, by walk_at "sub", rfl, rfl, Nat.le_of_ble_eq_true rfl, ?_⟩
  | refine ⟨_, _, _, _, _, rfl, by walk_at "sub", rfl, rfl, ?_⟩
  | refine ⟨_, _, _, rfl, by walk_at "sub", ?_⟩
  | refine ⟨_, its_tup, ?_⟩
  | refine ⟨_, its_lst (by walk_at "sub"), ?_⟩
  | refine ⟨_, by walk_at "upd", ?_⟩
  | refine ⟨_, _, rfl, Nat.le_of_ble_eq_true rfl, by walk_at "upd", ?_⟩
  | refine ⟨_, rfl, ?_⟩
  | refine And.intro rfl ?_)
/-- one step of a run -/
local macro_rules | `(tactic| walk_at "1") => `(tactic| first
  | ((with_reducible show WP _ (ev _ _ _) _ _); (first | walk_at "1e1" | walk_at "1e2" | walk_at "1e3" | walk_at "1e4"))
  | ((with_reducible show WP _ (subV _ _ _) _ _); walk_at "1x")
  | ((with_reducible show WSs _ _ _ _ _ _ _ _ _); walk_at "1S")
  | ((with_reducible show WS _ _ _ _ _ _ _ _ _); (first | walk_at "1s1" | walk_at "1s2"))
  | ((with_reducible show WP _ (evs _ _ _) _ _); walk_at "1v")
  | ((with_reducible show Br _ _ _); walk_at "1r")
  | ((with_reducible show WP _ (ts _ _ _) _ _); walk_at "1b")
  | ((with_reducible show WP _ (cop _ _ _ _) _ _); walk_at "1c")
  | ((with_reducible show WP _ (bop _ _ _) _ _); walk_at "1p")
  | ((with_reducible show WP _ (bfn _ _) _ _); walk_at "1f")
  | ((with_reducible show WP _ (evo _ _ _) _ _); walk_at "1o")
  | ((with_reducible show WP _ (evp _ _ _) _ _); walk_at "1d")
  | ((with_reducible show WQ _ _ _ _); walk_at "1i")
  | ((with_reducible show WT _ _ _ _ _ _ _); walk_at "1a")
  | ((with_reducible show WP _ _ _ _); (first | walk_at "1t" | walk_at "1y"))
  | walk_at "1z"
  | (with_reducible intro))
local macro_rules | `(tactic| walk_at "w") => `(tactic| repeat walk_at "1")
/-- into a def's body -/
local macro_rules | `(tactic| walk_at "in") => `(tactic| (refine w_callB rfl rfl ?_; dsimp only [List.map, List.reduceReplicate, List.replicate_zero, List.cons_append, List.nil_append, List.append_nil, Nat.reduceSub, Nat.sub_self]))
section
variable {B H : HL} {d : Nat} {Q : Val → HL → Prop}
theorem sp_brought {n : Int} (q : Q (.int (Md.br n)) H) : WP B (callN G fuel (d + 1) f_brought [.int n]) H Q := by
  walk_at "in"
  walk_at "w"
  refine p_mod' (by decide) ?_
  walk_at "w"
  exact conv0 q
theorem sp_ticked {r : Nat} {mv told frames : Val} {k : Int} {R : HL} (hp : H.Perm ((r, .ins c_Run [("middle", mv), ("told", told), ("ticks", .int k), ("frames", frames)]) :: R)) (h0 : k = 0 → Q (.tup [.str "tired"]) ((r, .ins c_Run [("middle", mv), ("told", told), ("ticks", .int k), ("frames", frames)]) :: R))
    (h1 : k ≠ 0 → Q .non ((r, .ins c_Run [("middle", mv), ("told", told), ("ticks", .int (k - 1)), ("frames", frames)]) :: R)) :
    WP B (callN G fuel (d + 1) f_Run_ticked [.ref r]) H Q := by
  refine wp_perm hp ?_
  walk_at "in"
  walk_at "w"
  refine br_dec (fun e => ?_) fun e => ?_
  · walk_at "w"
    exact conv0 (h0 e)
  · walk_at "w"
    exact conv0 (h1 e)
end
abbrev lvl (f : Fr) (w : Nat) : Ob := .ins c_Level [("blocks", .tup (f.blocks.map Block.v)), ("worth_by", .ref w), ("target", oI f.tgt), ("block", f.block.v), ("at", .int (f.at' : Nat))]
abbrev runO (m : Mid) (t fl : Nat) (k : Int) : Ob := .ins c_Run [("middle", m.v), ("told", .ref t), ("ticks", .int k), ("frames", .ref fl)]
inductive FrsH (φ : List Nat) : List Fr → List Nat → HL → Prop
  | nil : FrsH φ [] [] []
  | cons {f : Fr} {kvs : List (L2.Key × Val)} {fs : List Fr} {o w : Nat} {os : List Nat} {T : HL} (h : EnvR φ f.env kvs) (r : FrsH φ fs os T) : FrsH φ (f :: fs) (o :: os) ((o, lvl f w) :: (w, .dK kvs) :: T)
abbrev celO (l : Nat) : Ob := .ins c_Cells [("held", .ref l)]
abbrev cloO (f : PySem.Str) (l : Nat) : Ob := .ins c_Closed [("name", .str f), ("things", .ref l)]
inductive ThH (φ : List Nat) : List Nat → List Thing → HL → Prop
  | nil : ThH φ [] [] []
  | cells {a l : Nat} {as : List Nat} {vs : List MV} {ws : List Val} {ts : List Thing} {T : HL} (h : Rels φ vs ws) (r : ThH φ as ts T) : ThH φ (a :: as) (.cells vs :: ts) ((a, celO l) :: (l, .lst ws) :: T)
  | clo {a l : Nat} {as : List Nat} {f : PySem.Str} {vs : List MV} {ws : List Val} {ts : List Thing} {T : HL} (h : Rels φ vs ws) (r : ThH φ as ts T) : ThH φ (a :: as) (.clo f vs :: ts) ((a, cloO f l) :: (l, .lst ws) :: T)
section
variable {φ ψ : List Nat}
theorem FrsH.up : ∀ {fs : List Fr} {os : List Nat} {T : HL}, FrsH φ fs os T → FrsH (φ ++ ψ) fs os T
  | _, _, _, .nil => .nil
  | _, _, _, .cons h r => .cons h.up r.up
theorem ThH.up : ∀ {as : List Nat} {ts : List Thing} {T : HL}, ThH φ as ts T → ThH (φ ++ ψ) as ts T
  | _, _, _, .nil => .nil
  | _, _, _, .cells h r => .cells h.up r.up
  | _, _, _, .clo h r => .clo h.up r.up
theorem ThH.len : ∀ {as : List Nat} {ts : List Thing} {T : HL}, ThH φ as ts T → as.length = ts.length
  | _, _, _, .nil => rfl
  | _, _, _, .cells h r => by rw [List.length_cons, List.length_cons, r.len]
  | _, _, _, .clo h r => by rw [List.length_cons, List.length_cons, r.len]
theorem ThH.snocC {l : Nat} {vs : List MV} {ws : List Val} : ∀ {as : List Nat} {ts : List Thing} {T : HL} {a : Nat}, ThH φ as ts T → Rels φ vs ws → ThH φ (as ++ [a]) (ts ++ [.cells vs]) (T ++ [(a, celO l), (l, .lst ws)])
  | _, _, _, _, .nil, q => .cells q .nil
  | _, _, _, _, .cells h r, q => .cells h (r.snocC q)
  | _, _, _, _, .clo h r, q => .clo h (r.snocC q)
theorem ThH.snocF {l : Nat} {f : PySem.Str} {vs : List MV} {ws : List Val} : ∀ {as : List Nat} {ts : List Thing} {T : HL} {a : Nat}, ThH φ as ts T → Rels φ vs ws → ThH φ (as ++ [a]) (ts ++ [.clo f vs]) (T ++ [(a, cloO f l), (l, .lst ws)])
  | _, _, _, _, .nil, q => .clo q .nil
  | _, _, _, _, .cells h r, q => .cells h (r.snocF q)
  | _, _, _, _, .clo h r, q => .clo h (r.snocF q)
theorem p22 {α : Type} {x y A B : α} {R : List α} : (x :: y :: A :: B :: R).Perm (A :: B :: x :: y :: R) :=
  (List.perm_append_comm (l₁ := [x, y]) (l₂ := [A, B])).append_right R
/-- the cells of a thing, and how it may change -/
theorem ThH.getC : ∀ {as : List Nat} {ts : List Thing} {T : HL} {n a : Nat} {vs : List MV}, ThH φ as ts T → ts[n]? = some (.cells vs) → as[n]? = some a →
    ∃ l ws R, Rels φ vs ws ∧ T.Perm ((a, celO l) :: (l, .lst ws) :: R) ∧ ∀ vs' ws', Rels φ vs' ws' → ∃ T', ThH φ as (ts.set n (.cells vs')) T' ∧ T'.Perm ((a, celO l) :: (l, .lst ws') :: R)
  | _, _, _, n, _, _, .nil, e, _ => by simp at e
  | _, _, _, 0, _, _, .cells h r, e, e2 => by
    simp at e e2
    subst e e2
    exact ⟨_, _, _, h, .refl _, fun vs' ws' q => ⟨_, .cells q r, .refl _⟩⟩
  | _, _, _, 0, _, _, .clo h r, e, e2 => by simp at e
  | _, _, _, n + 1, _, _, .cells h r, e, e2 => by
    obtain ⟨l, ws, R, h1, h2, h3⟩ := r.getC (n := n) (by simpa using e) (by simpa using e2)
    refine ⟨l, ws, _ :: _ :: R, h1, ((h2.cons _).cons _).trans p22, fun vs' ws' q => ?_⟩
    obtain ⟨T', h4, h5⟩ := h3 vs' ws' q
    exact ⟨_, .cells h h4, ((h5.cons _).cons _).trans p22⟩
  | _, _, _, n + 1, _, _, .clo h r, e, e2 => by
    obtain ⟨l, ws, R, h1, h2, h3⟩ := r.getC (n := n) (by simpa using e) (by simpa using e2)
    refine ⟨l, ws, _ :: _ :: R, h1, ((h2.cons _).cons _).trans p22, fun vs' ws' q => ?_⟩
    obtain ⟨T', h4, h5⟩ := h3 vs' ws' q
    exact ⟨_, .clo h h4, ((h5.cons _).cons _).trans p22⟩
theorem ThH.getF : ∀ {as : List Nat} {ts : List Thing} {T : HL} {n a : Nat} {f : PySem.Str} {vs : List MV}, ThH φ as ts T → ts[n]? = some (.clo f vs) → as[n]? = some a →
    ∃ l ws R, Rels φ vs ws ∧ T.Perm ((a, cloO f l) :: (l, .lst ws) :: R)
  | _, _, _, n, _, _, _, .nil, e, _ => by simp at e
  | _, _, _, 0, _, _, _, .clo h r, e, e2 => by
    simp at e e2
    obtain ⟨rfl, rfl⟩ := e
    subst e2
    exact ⟨_, _, _, h, .refl _⟩
  | _, _, _, 0, _, _, _, .cells h r, e, e2 => by simp at e
  | _, _, _, n + 1, _, _, _, .cells h r, e, e2 => by
    obtain ⟨l, ws, R, h1, h2⟩ := r.getF (n := n) (by simpa using e) (by simpa using e2)
    exact ⟨l, ws, _ :: _ :: R, h1, ((h2.cons _).cons _).trans p22⟩
  | _, _, _, n + 1, _, _, _, .clo h r, e, e2 => by
    obtain ⟨l, ws, R, h1, h2⟩ := r.getF (n := n) (by simpa using e) (by simpa using e2)
    exact ⟨l, ws, _ :: _ :: R, h1, ((h2.cons _).cons _).trans p22⟩
end
section
variable {B H R R' : HL} {d : Nat} {Q : Val → HL → Prop}
theorem sp_worths {o w : Nat} {fs : List (PySem.Str × Val)} {kvs : List (L2.Key × Val)} {xs : List Int} {ws : List Val} (h1 : Sub H [(o, .ins c_Level fs)] R) (hf : fs.lookup ("worth_by" : PySem.Str) = some (.ref w)) (h2 : Sub H [(w, .dK kvs)] R') (hx : xs.length ≤ 1000)
    (hl : looksV kvs xs = some ws) (q : ∀ p, Q (.ref p) ((p, .lst ws) :: H)) : WP B (callN G fuel (d + 1) f_Level_worths_of [.ref o, intsV xs]) H Q := by
  walk_at "in"
  unfold intsV
  walk_at "w"
  rename_i D
  refine lc_pure (lkV kvs) H _ [] (fun y hy => ?_) sees_nil (by simp; omega) ?_
  · obtain ⟨x, hx, rfl⟩ := List.mem_map.mp hy
    refine ⟨_, rfl, fun zs => ?_⟩
    walk_at "w"
    refine x_fld (sub_cons h1) rfl hf ?_
    walk_at "w"
    obtain ⟨v, hv⟩ := looksV_some hl hx
    exact x_dK (sub_cons h2) rfl hv ⟨rfl, hv⟩
  · rw [List.nil_append, looksV_map hl]
    exact conv0 (q D)
end
section
variable {B H R R' : HL} {d : Nat} {Q : Val → HL → Prop}
/-- zip(params, things) into a dict -/
theorem env_loop {o w : Nat} {fs : List (PySem.Str × Val)} (hf : fs.lookup ("worth_by" : PySem.Str) = some (.ref w)) {φ : List Nat} {s1 s2 : Option Val} {N : Env → HL → Prop} {T : Val → HL → Prop} {wt : Watch} : ∀ (ps : List (Int × Kd)) (vs : List MV) (ws : List Val) (e : Ev) (kvs : List (L2.Key × Val)) (a b : Option Val),
    Rels φ vs ws → EnvR φ e kvs → kvs.length + ps.length ≤ 900000 → (∀ kvs', Sees B ((o, .ins c_Level fs) :: (w, .dK kvs') :: R) wt) →
    (∀ a b kvs', EnvR φ (binds e ps vs) kvs' → N [some (.ref o), s1, s2, a, b] ((o, .ins c_Level fs) :: (w, .dK kvs') :: R)) →
    WF B (cxN G fuel d) (.many [3, 4]) (.cons (.asg (.sub (.fld (.v 0) "worth_by") (.sub (.v 3) (.int 0))) (.v 4)) .nil) wt (zipL (ps.map parV) ws) [some (.ref o), s1, s2, a, b] ((o, .ins c_Level fs) :: (w, .dK kvs) :: R) N T
  | [], vs, ws, e, kvs, a, b, h1, h2, h3, h4, h5 => by
    unfold zipL
    exact for_nil (h4 kvs) (h5 a b kvs h2)
  | p :: ps, [], _, e, kvs, a, b, .nil, h2, h3, h4, h5 => by
    rw [List.map_cons, zipL]
    · exact for_nil (h4 kvs) (h5 a b kvs h2)
    · intro x r y t _ e; cases e
  | p :: ps, _, _, e, kvs, a, b, .cons h hr, h2, h3, h4, h5 => by
    rw [List.map_cons, zipL]
    refine for_cons (h4 kvs) rfl ?_
    unfold parV
    simp only [List.length_cons] at h3
    walk_at "w"
    refine x_fld sub_one rfl hf ?_
    walk_at "w"
    refine y_dK (.there .here) rfl (by omega) ?_
    walk_at "w"
    refine env_loop hf ps _ _ (putE e p.1 _) _ _ _ hr (h2.put p.1 h) ?_ h4 h5
    exact Nat.le_trans (Nat.add_le_add_right (put_len _ _ _) _) (by omega)
theorem sp_enter {o w p b : Nat} {bs : List Block} {tg : Option Int} {rest : List (PySem.Str × Val)} {k : Block} {e : Ev} {kvs : List (L2.Key × Val)} {vs : List MV} {ws : List Val} {φ : List Nat} (hr : rest = [] ∨ ∃ u v, rest = [(("block" : PySem.Str), u), (("at" : PySem.Str), v)]) (hb : bs[b]? = some k) (h1 : Rels φ vs ws) (h2 : EnvR φ e kvs) (h3 : kvs.length + k.params.length ≤ 900000)
    (hp : H.Perm ((o, .ins c_Level (("blocks", .tup (bs.map Block.v)) :: ("worth_by", .ref w) :: ("target", oI tg) :: rest)) :: (w, .dK kvs) :: R)) (hl : Sub R [(p, .lst ws)] R')
    (q : ∀ kvs', EnvR φ (binds e k.params vs) kvs' → Q .non ((o, lvl ⟨bs, binds e k.params vs, tg, k, 0⟩ w) :: (w, .dK kvs') :: R)) :
    WP B (callN G fuel (d + 1) f_Level_enter [.ref o, .int b, .ref p]) H Q := by
  refine wp_perm hp ?_
  have hb' : L2.atI (bs.map Block.v) (b : Int) = some k.v := atI_nat (by rw [List.getElem?_map, hb]; rfl)
  have sw : ∀ x o', Sees B ((x, o') :: R) [(p, ws)] := fun x o' i ys h => .inl (by
    cases List.mem_singleton.mp h
    exact List.mem_cons_of_mem _ ((List.Perm.mem_iff hl).mpr (by simp)))
  walk_at "in"
  rcases hr with rfl | ⟨u, v, rfl⟩
  · walk_at "w"
    refine x_tup hb' ?_
    walk_at "w"
    refine ⟨_, _, its_tup, its_lst (sub_cons (sub_cons hl)), ?_⟩
    refine env_loop rfl k.params vs ws e kvs _ _ h1 h2 h3 (fun kvs' i ys h => (sw w (.dK kvs') i ys h).imp_left (List.mem_cons_of_mem _)) fun a b kvs' h => ?_
    walk_at "w"
    exact conv0 (q kvs' h)
  · walk_at "w"
    refine x_tup hb' ?_
    walk_at "w"
    refine ⟨_, _, its_tup, its_lst (sub_cons (sub_cons hl)), ?_⟩
    refine env_loop rfl k.params vs ws e kvs _ _ h1 h2 h3 (fun kvs' i ys h => (sw w (.dK kvs') i ys h).imp_left (List.mem_cons_of_mem _)) fun a b kvs' h => ?_
    walk_at "w"
    exact conv0 (q kvs' h)
/-- the function of a name -/
theorem fn_loop {s0 : Option Val} {nm : PySem.Str} {N : Env → HL → Prop} {T : Val → HL → Prop} {g : Fun} (q : T g.v H) : ∀ (fs : List Fun) (a : Option Val), (fs.find? fun g => decide (g.name = nm)) = some g →
    WF B (cxN G fuel d) (.one 2) (.cons (.cond (.of (.cmp .eq (.sub (.v 2) (.int 0)) (.v 1))) (.cons (.ret (.v 2)) .nil) .nil) .nil) [] (fs.map Fun.v) [s0, some (.str nm), a] H N T
  | [], _, e => by cases e
  | f :: fs, a, e => by
    rw [List.map_cons]
    refine for_cons sees_nil rfl ?_
    rw [List.find?_cons] at e
    walk_at "w"
    refine br_dec (fun h => ?_) fun h => ?_
    · rw [decide_eq_true h] at e
      cases e
      walk_at "w"
      exact q
    · rw [decide_eq_false h] at e
      walk_at "w"
      exact fn_loop q fs _ e
theorem sp_named {m : Mid} {nm : PySem.Str} {g : Fun} (hg : (m.funs.find? fun g => decide (g.name = nm)) = some g) (q : Q g.v H) : WP B (callN G fuel (d + 1) f_row_named [m.v, .str nm]) H Q := by
  walk_at "in"
  unfold Mid.v
  walk_at "w"
  exact fn_loop (conv0 q) m.funs _ hg
theorem sp_level {o p : Nat} {g : Fun} {tg : Option Int} {k : Block} {vs : List MV} {ws : List Val} {φ : List Nat} (hb : g.blocks[0]? = some k) (h1 : Rels φ vs ws) (h3 : k.params.length ≤ 900000) (hl : Sub H [(p, .lst ws)] R')
    (q : ∀ w kvs', EnvR φ (binds [] k.params vs) kvs' → Q .non ((o, lvl ⟨g.blocks, binds [] k.params vs, tg, k, 0⟩ w) :: (w, .dK kvs') :: H)) :
    WP B (callN G fuel (d + 2) f_Level_init [.ref o, g.v, .ref p, oI tg]) ((o, .ins c_Level []) :: H) Q := by
  walk_at "in"
  unfold Fun.v
  walk_at "w"
  rename_i w
  refine sp_enter (b := 0) (e := []) (kvs := []) (R := H) (.inl rfl) hb h1 .nil (by simpa using h3) (.swap _ _ _) hl fun kvs' h => ?_
  walk_at "w"
  exact conv0 (q w kvs' h)
theorem sp_begin {r t fl p : Nat} {m : Mid} {nm : PySem.Str} {g : Fun} {k : Block} {vs : List MV} {ws : List Val} {φ : List Nat} {tg : Option Int} {ti : Int} {os : List Val} (hg : (m.funs.find? fun g => decide (g.name = nm)) = some g) (hb : g.blocks[0]? = some k) (h1 : Rels φ vs ws) (h3 : k.params.length ≤ 900000)
    (ho : os.length < 1000000) (hp : H.Perm ((r, runO m t fl ti) :: (fl, .lst os) :: R)) (hl : Sub R [(p, .lst ws)] R')
    (q : ∀ o w kvs', EnvR φ (binds [] k.params vs) kvs' → Q .non ((o, lvl ⟨g.blocks, binds [] k.params vs, tg, k, 0⟩ w) :: (w, .dK kvs') :: (r, runO m t fl ti) :: (fl, .lst (os ++ [.ref o])) :: R)) :
    WP B (callN G fuel (d + 4) f_Run_begin [.ref r, .str nm, .ref p, oI tg]) H Q := by
  refine wp_perm hp ?_
  walk_at "in"
  walk_at "w"
  refine sp_named hg ?_
  walk_at "w"
  rename_i o
  refine sp_level hb h1 h3 (sub_cons (sub_cons hl)) fun w kvs' h => ?_
  walk_at "w"
  refine m_app (by walk_at "upd") ho ?_
  walk_at "w"
  exact conv0 (q o w kvs' h)
/-- what stands for a row's guard -/
def grd (r : Row) : Option (PySem.Str × List Int) := match r.op with
  | .div => some ("nought", r.args.drop 1)
  | .rem => some ("nought", r.args.drop 1)
  | .get => some ("place", r.args.take 2)
  | .set => some ("place", r.args.take 2)
  | .fill => some ("great", r.args.take 1)
  | _ => none
def grdV : Option (PySem.Str × List Int) → Val
  | none => .non
  | some (w, xs) => .tup [.str w, intsV xs]
theorem sp_guard {r : Row} (q : Q (grdV (grd r)) H) : WP B (callN G fuel (d + 1) f_guard_of [r.v]) H Q := by
  obtain ⟨x, kd, op, args, more, line⟩ := r
  have c1 := cut_from (args.map Val.int) 1
  have c2 := cut_to (args.map Val.int) 2
  have c3 := cut_to (args.map Val.int) 1
  walk_at "in"
  cases op <;> walk_at "w"
  case div => rw [show cutL (args.map Val.int) (some 1) none = _ from c1, ← List.map_drop]; exact conv0 q
  case rem => rw [show cutL (args.map Val.int) (some 1) none = _ from c1, ← List.map_drop]; exact conv0 q
  case get => rw [show cutL (args.map Val.int) none (some 2) = _ from c2, ← List.map_take]; exact conv0 q
  case set => rw [show cutL (args.map Val.int) none (some 2) = _ from c2, ← List.map_take]; exact conv0 q
  case fill => rw [show cutL (args.map Val.int) none (some 1) = _ from c3, ← List.map_take]; exact conv0 q
  all_goals exact conv0 q
end
section
variable {B H R R' : HL} {d : Nat} {Q : Val → HL → Prop}
theorem sp_worked {op : Op} {a b : Int} {v : MV} (h : two op a b = some (.give v)) (q : ∀ w, (∀ φ, Rel φ v w) → Q w H) : WP B (callN G fuel (d + 3) f_worked [.str op.s, .int a, .int b]) H Q := by
  walk_at "in"
  cases op <;> simp only [two] at h <;> try cases h
  case add.refl =>
    walk_at "w"
    refine sp_brought ?_
    exact conv0 (q _ fun φ => .int _)
  case sub.refl =>
    walk_at "w"
    refine sp_brought ?_
    exact conv0 (q _ fun φ => .int _)
  case mul =>
    split at h
    · rename_i hm
      cases h
      walk_at "w"
      refine p_mul' hm ?_
      walk_at "w"
      refine sp_brought ?_
      exact conv0 (q _ fun φ => .int _)
    · cases h
  case lt.refl =>
    walk_at "w"
    exact conv0 (q _ fun φ => .bl _)
  case eq.refl =>
    walk_at "w"
    exact conv0 (q _ fun φ => .bl _)
  case div =>
    split at h
    · cases h
    · rename_i hb
      split at h
      · rename_i hn
        cases h
        walk_at "w"
        walk_at "in"
        walk_at "w"
        refine br_f (decide_eq_false hb) ?_
        walk_at "w"
        refine p_fdiv' ⟨hb, hn⟩ ?_
        walk_at "w"
        refine sp_brought ?_
        exact conv0 (conv0 (q _ fun φ => .int _))
      · cases h
  case rem =>
    split at h
    · cases h
    · rename_i hb
      cases h
      walk_at "w"
      walk_at "in"
      walk_at "w"
      refine br_f (decide_eq_false hb) ?_
      walk_at "w"
      refine p_mod' hb ?_
      exact conv0 (conv0 (q _ fun φ => .int _))
theorem sp_and {a b : Bool} (q : Q (.bl (a && b)) H) : WP B (callN G fuel (d + 3) f_worked [.str Op.and.s, .bl a, .bl b]) H Q := by
  walk_at "in"
  walk_at "w"
  refine ⟨fun h => ?_, fun h => ?_⟩ <;> subst h <;> walk_at "w" <;> exact conv0 q
theorem sp_or {a b : Bool} (q : Q (.bl (a || b)) H) : WP B (callN G fuel (d + 3) f_worked [.str Op.or.s, .bl a, .bl b]) H Q := by
  walk_at "in"
  walk_at "w"
  refine ⟨fun h => ?_, fun h => ?_⟩ <;> subst h <;> walk_at "w" <;> exact conv0 q
/-- what told_by tells -/
def ToldQ (φ : List Nat) (H : HL) (Q : Val → HL → Prop) : Act → Prop
  | .give v => ∀ w, Rel φ v w → Q w H
  | .new (.cells vs) => ∀ o l ws, Rels φ vs ws → Q (.ref o) ((o, celO l) :: (l, .lst ws) :: H)
  | .new (.clo f vs) => ∀ o l ws, Rels φ vs ws → Q (.ref o) ((o, cloO f l) :: (l, .lst ws) :: H)
  | _ => False
theorem rels0 {φ : List Nat} {ws : List Val} (h : Rels φ [] ws) : ws = [] := by cases h; rfl
theorem rels1 {φ : List Nat} {v : MV} {ws : List Val} (h : Rels φ [v] ws) : ∃ w, ws = [w] ∧ Rel φ v w := by
  cases h with
  | cons h r => cases r; exact ⟨_, rfl, h⟩
theorem rels2 {φ : List Nat} {u v : MV} {ws : List Val} (h : Rels φ [u, v] ws) : ∃ w x, ws = [w, x] ∧ Rel φ u w ∧ Rel φ v x := by
  cases h with
  | cons h r => obtain ⟨w, rfl, h2⟩ := rels1 r; exact ⟨_, _, rfl, h, h2⟩
theorem rels3 {φ : List Nat} {t u v : MV} {ws : List Val} (h : Rels φ [t, u, v] ws) : ∃ w x y, ws = [w, x, y] ∧ Rel φ t w ∧ Rel φ u x ∧ Rel φ v y := by
  cases h with
  | cons h r => obtain ⟨w, x, rfl, h2, h3⟩ := rels2 r; exact ⟨_, _, _, rfl, h, h2, h3⟩
theorem rel_int {φ : List Nat} {i : Int} {w : Val} (h : Rel φ (.int i) w) : w = .int i := by cases h; rfl
theorem rel_bl {φ : List Nat} {i : Bool} {w : Val} (h : Rel φ (.bl i) w) : w = .bl i := by cases h; rfl
theorem rel_ref {φ : List Nat} {n : Nat} {w : Val} (h : Rel φ (.ref n) w) : ∃ a, w = .ref a ∧ φ[n]? = some a := by cases h with | ref h => exact ⟨_, rfl, h⟩
theorem sp_cells {o p : Nat} {xs : List Val} (hl : Sub H [(p, .lst xs)] R) (q : ∀ l, Q .non ((o, celO l) :: (l, .lst xs) :: H)) : WP B (callN G fuel (d + 1) f_Cells_init [.ref o, .ref p]) ((o, .ins c_Cells []) :: H) Q := by
  walk_at "in"
  walk_at "w"
  exact conv_perm (.swap _ _ _) (q _)
theorem sp_closed {o p : Nat} {f : PySem.Str} {xs : List Val} (hl : Sub H [(p, .lst xs)] R) (q : ∀ l, Q .non ((o, cloO f l) :: (l, .lst xs) :: H)) : WP B (callN G fuel (d + 1) f_Closed_init [.ref o, .str f, .ref p]) ((o, .ins c_Closed []) :: H) Q := by
  walk_at "in"
  walk_at "w"
  exact conv_perm (.swap _ _ _) (q _)
theorem th_cells {φ : List Nat} {ts : List Thing} {T X : HL} {n a : Nat} {vs : List MV} (hs : Sub H T X) (h : ThH φ φ ts T) (e : ts[n]? = some (.cells vs)) (hn : φ[n]? = some a) : ∃ l ws R1 R2, Rels φ vs ws ∧ Sub H [(a, celO l)] R1 ∧ Sub H [(l, .lst ws)] R2 := by
  obtain ⟨l, ws, R, h1, h2, _⟩ := h.getC e hn
  have p : H.Perm ((a, celO l) :: (l, .lst ws) :: (R ++ X)) := List.Perm.trans hs (h2.append_right X)
  exact ⟨l, ws, _, _, h1, p, p.trans (.swap _ _ _)⟩
theorem rep_one (v : Val) (k : Int) : rep [v] k = List.replicate k.toNat v := by
  unfold rep
  generalize k.toNat = n
  induction n with
  | zero => rfl
  | succ n ih => rw [List.replicate_succ, List.flatten_cons, ih, List.replicate_succ]; rfl
theorem sp_told {op : Op} {more : More} {vs : List MV} {ws : List Val} {ts : List Thing} {φ : List Nat} {T X : HL} {a : Act} {p : Nat} (h : actO ts op more vs = some a) (hr : Rels φ vs ws) (hT : ThH φ φ ts T) (hs : Sub H T X) (hp : Sub H [(p, .lst ws)] R) (hq : ToldQ φ H Q a) :
    WP B (callN G fuel (d + 4) f_told_by [.str op.s, .ref p, more.v]) H Q := by
  walk_at "in"
  cases op <;> simp only [actO] at h
  case number =>
    split at h
    · cases h
      walk_at "w"
      exact conv0 (hq _ (.int _))
    · cases h
  case truth =>
    split at h
    · cases h
      walk_at "w"
      exact conv0 (hq _ (.bl _))
    · cases h
  case not =>
    split at h
    · cases h
      obtain ⟨w, rfl, hw⟩ := rels1 hr
      cases rel_bl hw
      walk_at "w"
      exact conv0 (hq _ (.bl _))
    · cases h
  case and =>
    split at h
    · cases h
      obtain ⟨w, x, rfl, hw, hx⟩ := rels2 hr
      cases rel_bl hw; cases rel_bl hx
      walk_at "w"
      exact sp_and (conv0 (hq _ (.bl _)))
    · cases h
  case or =>
    split at h
    · cases h
      obtain ⟨w, x, rfl, hw, hx⟩ := rels2 hr
      cases rel_bl hw; cases rel_bl hx
      walk_at "w"
      exact sp_or (conv0 (hq _ (.bl _)))
    · cases h
  case long =>
    split at h
    · obtain ⟨us, e, h⟩ := onCells_inv h
      cases h
      obtain ⟨w, rfl, hw⟩ := rels1 hr
      obtain ⟨o, rfl, ho⟩ := rel_ref hw
      obtain ⟨l, xs, R1, R2, r, u1, u2⟩ := th_cells hs hT e ho
      walk_at "w"
      refine conv0 (hq _ ?_)
      rw [r.length]; exact .int _
    · cases h
  case close =>
    split at h
    · cases h
      walk_at "w"
      refine sp_closed hp fun l => ?_
      walk_at "w"
      exact conv0 (hq _ _ _ hr)
    · cases h
  case make =>
    split at h
    · cases h
      walk_at "w"
      refine sp_cells hp fun l => ?_
      walk_at "w"
      exact conv0 (hq _ _ _ hr)
    · cases h
  case cell =>
    split at h
    · obtain ⟨us, e, h⟩ := onCells_inv h
      split at h
      · rename_i hk
        obtain ⟨v, hv, rfl⟩ := Option.map_eq_some_iff.mp h
        obtain ⟨w, rfl, hw⟩ := rels1 hr
        obtain ⟨o, rfl, ho⟩ := rel_ref hw
        obtain ⟨l, xs, R1, R2, r, u1, u2⟩ := th_cells hs hT e ho
        obtain ⟨x, hx, rx⟩ := r.get hv
        walk_at "w"
        refine x_lst u2 (atI_int hk hx) ?_
        exact conv0 (hq _ rx)
      · cases h
    · cases h
  case get =>
    split at h
    · obtain ⟨us, e, h⟩ := onCells_inv h
      split at h
      · rename_i hk
        obtain ⟨v, hv, rfl⟩ := Option.map_eq_some_iff.mp h
        obtain ⟨w, y, rfl, hw, hy⟩ := rels2 hr
        cases rel_int hy
        obtain ⟨o, rfl, ho⟩ := rel_ref hw
        obtain ⟨l, xs, R1, R2, r, u1, u2⟩ := th_cells hs hT e ho
        obtain ⟨x, hx, rx⟩ := r.get hv
        walk_at "w"
        refine x_lst u2 (atI_int hk.1 hx) ?_
        exact conv0 (hq _ rx)
      · cases h; exact hq.elim
    · cases h
  case fill =>
    split at h
    · cases h
      split at hq
      · rename_i hk
        obtain ⟨w, y, rfl, hw, hy⟩ := rels2 hr
        cases rel_int hw
        walk_at "w"
        refine p_mull' sub_one ?_ fun b => ?_
        · unfold repOk
          simp only [Bool.and_eq_true, decide_eq_true_eq]
          exact ⟨⟨by omega, by omega⟩, fits_small (by simp; omega)⟩
        rw [rep_one]
        walk_at "w"
        refine sp_cells (by walk_at "sub") fun l => ?_
        walk_at "w"
        exact conv (by walk_at "subs") (hq _ _ _ (Rels.rep _ hy))
      · exact hq.elim
    · cases h
  case set =>
    split at h
    · obtain ⟨us, e, h⟩ := onCells_inv h
      cases h
      split at hq <;> exact hq.elim
    · cases h
  case store =>
    split at h
    · obtain ⟨us, e, h⟩ := onCells_inv h
      split at h
      · cases h; exact hq.elim
      · cases h
    · cases h
  case call => split at h <;> cases h; exact hq.elim
  case ask =>
    split at h
    · split at h <;> cases h; exact hq.elim
    · cases h
  case tell => split at h <;> cases h; exact hq.elim
  case tick => split at h <;> cases h; exact hq.elim
  all_goals
    obtain ⟨rfl, x, y, rfl, h2⟩ := act2_inv h
    obtain ⟨w, z, rfl, hw, hz⟩ := rels2 hr
    cases rel_int hw
    cases rel_int hz
    cases a with
    | give v =>
      walk_at "w"
      refine sp_worked h2 fun w hw => conv0 (hq _ (hw φ))
    | new t => exact (two_new h2).elim
    | _ => exact hq.elim
end
section
variable {B H R R' : HL} {d : Nat} {Q : Val → HL → Prop}
theorem sp_nought {p : Nat} {b : Int} (hp : Sub H [(p, .lst [.int b])] R) (q : Q (.bl (!decide (b = 0))) H) : WP B (callN G fuel (d + 1) f_lets_by [.str "nought", .ref p]) H Q := by
  walk_at "in"
  walk_at "w"
  exact conv0 q
theorem sp_place {p o l : Nat} {i : Int} {xs : List Val} (hp : Sub H [(p, .lst [.ref o, .int i])] R) {R1 R2 : HL} (h1 : Sub H [(o, celO l)] R1) (h2 : Sub H [(l, .lst xs)] R2) (q : Q (.bl (decide (0 ≤ i ∧ i < xs.length))) H) : WP B (callN G fuel (d + 1) f_lets_by [.str "place", .ref p]) H Q := by
  walk_at "in"
  walk_at "w"
  refine br_dec (fun h => ?_) fun h => ?_
  · walk_at "w"
    have e : decide (0 ≤ i ∧ i < (xs.length : Int)) = decide (i < (xs.length : Int)) := decide_eq_decide.mpr ⟨fun h => h.2, fun h' => ⟨h, h'⟩⟩
    rw [e] at q
    exact conv0 q
  · rw [decide_eq_false (fun h' => h h'.1)] at q
    exact conv0 q
theorem sp_great {p : Nat} {i : Int} (hp : Sub H [(p, .lst [.int i])] R) (q : Q (.bl (decide (0 ≤ i ∧ i ≤ 60))) H) : WP B (callN G fuel (d + 1) f_lets_by [.str "great", .ref p]) H Q := by
  walk_at "in"
  walk_at "w"
  refine br_dec (fun h => ?_) fun h => ?_
  · walk_at "w"
    have e : decide (0 ≤ i ∧ i ≤ 60) = decide (i ≤ 60) := decide_eq_decide.mpr ⟨fun h => h.2, fun h' => ⟨h, h'⟩⟩
    rw [e] at q
    exact conv0 q
  · rw [decide_eq_false (fun h' => h h'.1)] at q
    exact conv0 q
def OutR (φ : List Nat) : Option Out → Val → Prop
  | none, v => v = .non
  | some (.done x), v => ∃ w, v = .tup [.str "done", w] ∧ Rel φ x w
  | some (.fault w l), v => v = .tup [.str "fault", .str w, .int l]
  | some .tired, v => v = .tup [.str "tired"]
/-- a run's state in the heap, and how a step ended -/
def RepO (m : Mid) (s : MS) (out : Option Out) (r t : Nat) (v : Val) (H : HL) : Prop := ∃ fl os φ tw FT TT, Rels φ s.told tw ∧ FrsH φ s.frames os FT ∧ ThH φ φ s.things TT ∧ OutR φ out v ∧ H = (r, runO m t fl s.ticks) :: (t, .lst tw) :: (fl, .lst (os.reverse.map .ref)) :: (FT ++ TT)
theorem ToldQ.mono {φ : List Nat} {H : HL} {P Q : Val → HL → Prop} {a : Act} (h : ToldQ φ H P a) (k : ∀ u K, P u K → Q u K) : ToldQ φ H Q a := by
  cases a with
  | give v => exact fun w hw => k _ _ (h w hw)
  | new t =>
    cases t with
    | cells vs => exact fun o l ws hr => k _ _ (h o l ws hr)
    | clo f vs => exact fun o l ws hr => k _ _ (h o l ws hr)
  | _ => exact h.elim
theorem conv_right {α : Type} {Q : α → HL → Prop} {a : α} {H M : HL} (h : Conv Q a H) : Conv Q a (H ++ M) := by
  obtain ⟨K, X, h1, h2⟩ := h
  exact ⟨K, X ++ M, sub_left h1, h2⟩
theorem s3 {x y z : Nat × Ob} {q : Nat × Ob} {R : HL} : Sub (x :: y :: z :: q :: R) [q] (x :: y :: z :: R) := sub_cons (sub_cons (sub_cons sub_one))
theorem sub_tail {x y z : Nat × Ob} {F T : HL} : Sub (x :: y :: z :: (F ++ T)) (F ++ (T ++ [x, y])) [z] := by
  unfold CL.Sub
  have := List.perm_append_comm (l₁ := [x, y, z]) (l₂ := F ++ T)
  simpa using this
theorem sub_th {c x : Nat × Ob} {Ps FT T' R0 : HL} (h : T'.Perm (c :: x :: R0)) : Sub (x :: (Ps ++ (FT ++ (c :: R0)))) (FT ++ T') Ps := by
  unfold CL.Sub
  have e1 : (x :: (FT ++ (c :: R0))).Perm (FT ++ T') := List.perm_middle.symm.trans (((List.Perm.swap _ _ _).trans h.symm).append_left FT)
  exact (List.perm_middle.symm.trans List.perm_append_comm).trans (e1.append_right Ps)
theorem y_sub {kt : List (List Val)} {a : Nat} {xs : List Val} {i : Int} {j : Nat} {v : Val} {K : HL} (p : H.Perm ((a, .lst xs) :: K)) (h : L2.ixN xs.length i = some j) (q : Q .non ((a, .lst (xs.set j v)) :: K)) : WP B (putV kt (.ref a) (.int i) v) H Q := wp_perm p (y_lst .here h q)
theorem rep_of {m : Mid} {s : MS} {out : Option Out} {r t fl o w : Nat} {os : List Nat} {φ : List Nat} {tw : List Val} {kvs : List (L2.Key × Val)} {FT TT : HL} {fr : Fr} {rest : List Fr} {v : Val} (h1 : Rels φ s.told tw) (h2 : FrsH φ rest os FT) (h3 : ThH φ φ s.things TT) (h4 : EnvR φ fr.env kvs) (ho : OutR φ out v) :
    RepO m { s with frames := fr :: rest } out r t v ((r, runO m t fl s.ticks) :: (t, .lst tw) :: (fl, .lst ((o :: os).reverse.map .ref)) :: (o, lvl fr w) :: (w, .dK kvs) :: (FT ++ TT)) :=
  ⟨fl, o :: os, φ, tw, (o, lvl fr w) :: (w, .dK kvs) :: FT, TT, h1, .cons h4 h2, h3, ho, rfl⟩
theorem rel_new {φ : List Nat} {o n : Nat} (h : φ.length = n) : Rel (φ ++ [o]) (.ref n) (.ref o) := .ref (by subst h; simp)
theorem sp_row {m : Mid} {s s' : MS} {out : Option Out} {r t fl o w : Nat} {os : List Nat} {φ : List Nat} {tw : List Val} {kvs : List (L2.Key × Val)} {FT TT : HL} {fr : Fr} {rest : List Fr} {row : Row} {vs : List MV} {a : Act}
    (h1 : Rels φ s.told tw) (h2 : FrsH φ rest os FT) (h3 : ThH φ φ s.things TT) (h4 : EnvR φ fr.env kvs) (hv : looks fr.env row.args = some vs) (ha : actO s.things row.op row.more vs = some a) (hd : actDo m s fr rest row.x row.line a = some (s', out))
    (b1 : row.args.length ≤ 1000) (b2 : tw.length < 1000000) (b3 : os.length + 1 < 1000000) (b4 : kvs.length < 1000000) (b6 : vs.length ≤ 100000) (b7 : ∀ (n : Nat) f us, s.things[n]? = some (.clo f us) → us.length ≤ 100000) (b5 : ∀ g ∈ m.funs, ∀ k ∈ g.blocks, k.params.length ≤ 900000) (hH : H = (r, runO m t fl s.ticks) :: (t, .lst tw) :: (fl, .lst ((o :: os).reverse.map .ref)) :: (o, lvl fr w) :: (w, .dK kvs) :: (FT ++ TT)) :
    WP B (callN G fuel (d + 6) f_Run_row_done [.ref r, .ref o, row.v]) H (RepO m s' out r t) := by
  subst hH
  obtain ⟨x, kd, op, args, more, line⟩ := row
  obtain ⟨ws, hw, hr⟩ := h4.looks hv
  have hT : Sub (FT ++ TT) TT FT := List.perm_append_comm
  walk_at "in"
  walk_at "w"
  refine sp_worths (by walk_at "sub") rfl (by walk_at "sub") b1 hw fun p => ?_
  walk_at "w"
  refine sp_guard ?_
  walk_at "w"
  have fin : (∃ v, a = .give v) ∨ (∃ th, a = .new th) → ToldQ φ ((p, .lst ws) :: (r, runO m t fl s.ticks) :: (t, .lst tw) :: (fl, .lst ((o :: os).reverse.map .ref)) :: (o, lvl fr w) :: (w, .dK kvs) :: (FT ++ TT))
      (fun u K => ∃ (y : Int) (R1 K' : HL), x = some y ∧ Sub K [(o, lvl fr w)] R1 ∧ Upd K w (.dK kvs) (.dK (CL.put kvs (.inl y) u)) K' ∧ Conv (RepO m s' out r t) .non K') a := by
    intro hg
    cases x with
    | none => rcases hg with ⟨v, rfl⟩ | ⟨th, rfl⟩ <;> (simp only [actDo] at hd; cases hd)
    | some y =>
      rcases hg with ⟨v, rfl⟩ | ⟨th, rfl⟩
      · simp only [actDo] at hd
        cases hd
        intro u hu
        refine ⟨y, _, _, rfl, by walk_at "sub", by walk_at "upd", conv (K := (r, runO m t fl s.ticks) :: (t, .lst tw) :: (fl, .lst ((o :: os).reverse.map .ref)) :: (o, lvl fr w) :: (w, .dK _) :: (FT ++ TT)) (by walk_at "subs") ⟨fl, o :: os, φ, tw, (o, lvl fr w) :: (w, .dK _) :: FT, TT, h1, .cons (h4.put y hu) h2, h3, rfl, rfl⟩⟩
      · simp only [actDo] at hd
        cases hd
        cases th with
        | cells us =>
          intro o' l zs hz
          refine ⟨y, _, _, rfl, by walk_at "sub", by walk_at "upd", conv (K := (r, runO m t fl s.ticks) :: (t, .lst tw) :: (fl, .lst ((o :: os).reverse.map .ref)) :: (o, lvl fr w) :: (w, .dK _) :: (FT ++ (TT ++ [(o', celO l), (l, .lst zs)]))) (sub_add s3 (sub_add s3 (sub_add s3 (sub_add s3 (sub_add s3 sub_tail))))) ⟨fl, o :: os, φ ++ [o'], tw, (o, lvl fr w) :: (w, .dK _) :: FT, TT ++ [(o', celO l), (l, .lst zs)], h1.up, .cons (h4.up.put y (rel_new h3.len)) h2.up, h3.up.snocC hz.up, rfl, rfl⟩⟩
        | clo f us =>
          intro o' l zs hz
          refine ⟨y, _, _, rfl, by walk_at "sub", by walk_at "upd", conv (K := (r, runO m t fl s.ticks) :: (t, .lst tw) :: (fl, .lst ((o :: os).reverse.map .ref)) :: (o, lvl fr w) :: (w, .dK _) :: (FT ++ (TT ++ [(o', cloO f l), (l, .lst zs)]))) (sub_add s3 (sub_add s3 (sub_add s3 (sub_add s3 (sub_add s3 sub_tail))))) ⟨fl, o :: os, φ ++ [o'], tw, (o, lvl fr w) :: (w, .dK _) :: FT, TT ++ [(o', cloO f l), (l, .lst zs)], h1.up, .cons (h4.up.put y (rel_new h3.len)) h2.up, h3.up.snocF hz.up, rfl, rfl⟩⟩
  cases op
  case number =>
    walk_at "w"
    refine sp_told ha hr h3 (by walk_at "sub") (by walk_at "sub") ((fin ?_).mono fun u K ⟨y, R1, K', hy, hs, hu, hc⟩ => ?_)
    · simp only [actO] at ha; split at ha <;> cases ha; exact .inl ⟨_, rfl⟩
    subst hy
    walk_at "w"
    refine y_dK hu rfl b4 ?_
    walk_at "w"
    exact hc
  case truth =>
    walk_at "w"
    refine sp_told ha hr h3 (by walk_at "sub") (by walk_at "sub") ((fin ?_).mono fun u K ⟨y, R1, K', hy, hs, hu, hc⟩ => ?_)
    · simp only [actO] at ha; split at ha <;> cases ha; exact .inl ⟨_, rfl⟩
    subst hy
    walk_at "w"
    refine y_dK hu rfl b4 ?_
    walk_at "w"
    exact hc
  case not =>
    walk_at "w"
    refine sp_told ha hr h3 (by walk_at "sub") (by walk_at "sub") ((fin ?_).mono fun u K ⟨y, R1, K', hy, hs, hu, hc⟩ => ?_)
    · simp only [actO] at ha; split at ha <;> cases ha; exact .inl ⟨_, rfl⟩
    subst hy
    walk_at "w"
    refine y_dK hu rfl b4 ?_
    walk_at "w"
    exact hc
  case and =>
    walk_at "w"
    refine sp_told ha hr h3 (by walk_at "sub") (by walk_at "sub") ((fin ?_).mono fun u K ⟨y, R1, K', hy, hs, hu, hc⟩ => ?_)
    · simp only [actO] at ha; split at ha <;> cases ha; exact .inl ⟨_, rfl⟩
    subst hy
    walk_at "w"
    refine y_dK hu rfl b4 ?_
    walk_at "w"
    exact hc
  case or =>
    walk_at "w"
    refine sp_told ha hr h3 (by walk_at "sub") (by walk_at "sub") ((fin ?_).mono fun u K ⟨y, R1, K', hy, hs, hu, hc⟩ => ?_)
    · simp only [actO] at ha; split at ha <;> cases ha; exact .inl ⟨_, rfl⟩
    subst hy
    walk_at "w"
    refine y_dK hu rfl b4 ?_
    walk_at "w"
    exact hc
  case long =>
    walk_at "w"
    refine sp_told ha hr h3 (by walk_at "sub") (by walk_at "sub") ((fin ?_).mono fun u K ⟨y, R1, K', hy, hs, hu, hc⟩ => ?_)
    · simp only [actO] at ha
      split at ha
      · obtain ⟨us, e, ha⟩ := onCells_inv ha
        cases ha; exact .inl ⟨_, rfl⟩
      · cases ha
    subst hy
    walk_at "w"
    refine y_dK hu rfl b4 ?_
    walk_at "w"
    exact hc
  case cell =>
    walk_at "w"
    refine sp_told ha hr h3 (by walk_at "sub") (by walk_at "sub") ((fin ?_).mono fun u K ⟨y, R1, K', hy, hs, hu, hc⟩ => ?_)
    · simp only [actO] at ha
      split at ha
      · obtain ⟨us, e, ha⟩ := onCells_inv ha
        split at ha
        · obtain ⟨v, _, rfl⟩ := Option.map_eq_some_iff.mp ha
          exact .inl ⟨_, rfl⟩
        · cases ha
      · cases ha
    subst hy
    walk_at "w"
    refine y_dK hu rfl b4 ?_
    walk_at "w"
    exact hc
  case close =>
    walk_at "w"
    refine sp_told ha hr h3 (by walk_at "sub") (by walk_at "sub") ((fin ?_).mono fun u K ⟨y, R1, K', hy, hs, hu, hc⟩ => ?_)
    · simp only [actO] at ha; split at ha <;> cases ha; exact .inr ⟨_, rfl⟩
    subst hy
    walk_at "w"
    refine y_dK hu rfl b4 ?_
    walk_at "w"
    exact hc
  case make =>
    walk_at "w"
    refine sp_told ha hr h3 (by walk_at "sub") (by walk_at "sub") ((fin ?_).mono fun u K ⟨y, R1, K', hy, hs, hu, hc⟩ => ?_)
    · simp only [actO] at ha; split at ha <;> cases ha; exact .inr ⟨_, rfl⟩
    subst hy
    walk_at "w"
    refine y_dK hu rfl b4 ?_
    walk_at "w"
    exact hc
  case add =>
    walk_at "w"
    refine sp_told ha hr h3 (by walk_at "sub") (by walk_at "sub") ((fin ?_).mono fun u K ⟨y, R1, K', hy, hs, hu, hc⟩ => ?_)
    · obtain ⟨_, y1, y2, _, h2⟩ := act2_inv (show act2 _ _ _ = some a from ha); exact two_give h2 rfl
    subst hy
    walk_at "w"
    refine y_dK hu rfl b4 ?_
    walk_at "w"
    exact hc
  case sub =>
    walk_at "w"
    refine sp_told ha hr h3 (by walk_at "sub") (by walk_at "sub") ((fin ?_).mono fun u K ⟨y, R1, K', hy, hs, hu, hc⟩ => ?_)
    · obtain ⟨_, y1, y2, _, h2⟩ := act2_inv (show act2 _ _ _ = some a from ha); exact two_give h2 rfl
    subst hy
    walk_at "w"
    refine y_dK hu rfl b4 ?_
    walk_at "w"
    exact hc
  case mul =>
    walk_at "w"
    refine sp_told ha hr h3 (by walk_at "sub") (by walk_at "sub") ((fin ?_).mono fun u K ⟨y, R1, K', hy, hs, hu, hc⟩ => ?_)
    · obtain ⟨_, y1, y2, _, h2⟩ := act2_inv (show act2 _ _ _ = some a from ha); exact two_give h2 rfl
    subst hy
    walk_at "w"
    refine y_dK hu rfl b4 ?_
    walk_at "w"
    exact hc
  case lt =>
    walk_at "w"
    refine sp_told ha hr h3 (by walk_at "sub") (by walk_at "sub") ((fin ?_).mono fun u K ⟨y, R1, K', hy, hs, hu, hc⟩ => ?_)
    · obtain ⟨_, y1, y2, _, h2⟩ := act2_inv (show act2 _ _ _ = some a from ha); exact two_give h2 rfl
    subst hy
    walk_at "w"
    refine y_dK hu rfl b4 ?_
    walk_at "w"
    exact hc
  case eq =>
    walk_at "w"
    refine sp_told ha hr h3 (by walk_at "sub") (by walk_at "sub") ((fin ?_).mono fun u K ⟨y, R1, K', hy, hs, hu, hc⟩ => ?_)
    · obtain ⟨_, y1, y2, _, h2⟩ := act2_inv (show act2 _ _ _ = some a from ha); exact two_give h2 rfl
    subst hy
    walk_at "w"
    refine y_dK hu rfl b4 ?_
    walk_at "w"
    exact hc
  case div =>
    obtain ⟨rfl, i, j, rfl, hh⟩ := act2_inv (show act2 _ _ _ = some a from ha)
    obtain ⟨u1, u2, rfl, hi, hj⟩ := rels2 hr
    cases rel_int hi; cases rel_int hj
    rw [show grdV (grd ⟨x, kd, .div, args, .no, line⟩) = .tup [.str "nought", intsV (args.drop 1)] from rfl]
    walk_at "w"
    refine sp_worths (by walk_at "sub") rfl (by walk_at "sub") (by rw [List.length_drop]; exact Nat.le_trans (Nat.sub_le _ _) b1) (show looksV kvs (args.drop 1) = some [.int j] from (looksV_cut 1 hw).2) fun p2 => ?_
    walk_at "w"
    refine sp_nought (by walk_at "sub") ?_
    walk_at "w"
    refine ⟨fun hb => ?_, fun hb => ?_⟩
    · have hb : j = 0 := by simpa using hb
      have : a = .fault "nought" := by simp only [two, hb, if_true] at hh; cases hh; rfl
      subst this
      simp only [actDo] at hd
      cases hd
      walk_at "w"
      exact conv (by walk_at "subs") (rep_of h1 h2 h3 h4 rfl)
    · have hb : ¬ j = 0 := by simpa using hb
      have hg : ∃ v, a = .give v := by
        simp only [two, hb, if_false] at hh
        split at hh
        · cases hh; exact ⟨_, rfl⟩
        · cases hh
      walk_at "w"
      refine wp_frame (sub_cons sub_all) (sp_told ha hr h3 (by walk_at "sub") (by walk_at "sub") (fin (.inl hg))) fun u K ⟨y, R1, K', hy, hs, hu, hc⟩ => ?_
      have hs := sub_left (M := [(p2, Ob.lst [.int j])]) hs
      subst hy
      walk_at "w"
      refine y_dK (.right hu) rfl b4 ?_
      walk_at "w"
      exact conv_right hc
  case rem =>
    obtain ⟨rfl, i, j, rfl, hh⟩ := act2_inv (show act2 _ _ _ = some a from ha)
    obtain ⟨u1, u2, rfl, hi, hj⟩ := rels2 hr
    cases rel_int hi; cases rel_int hj
    rw [show grdV (grd ⟨x, kd, .rem, args, .no, line⟩) = .tup [.str "nought", intsV (args.drop 1)] from rfl]
    walk_at "w"
    refine sp_worths (by walk_at "sub") rfl (by walk_at "sub") (by rw [List.length_drop]; exact Nat.le_trans (Nat.sub_le _ _) b1) (show looksV kvs (args.drop 1) = some [.int j] from (looksV_cut 1 hw).2) fun p2 => ?_
    walk_at "w"
    refine sp_nought (by walk_at "sub") ?_
    walk_at "w"
    refine ⟨fun hb => ?_, fun hb => ?_⟩
    · have hb : j = 0 := by simpa using hb
      have : a = .fault "nought" := by simp only [two, hb, if_true] at hh; cases hh; rfl
      subst this
      simp only [actDo] at hd
      cases hd
      walk_at "w"
      exact conv (by walk_at "subs") (rep_of h1 h2 h3 h4 rfl)
    · have hb : ¬ j = 0 := by simpa using hb
      have hg : ∃ v, a = .give v := by
        simp only [two, hb, if_false] at hh
        cases hh; exact ⟨_, rfl⟩
      walk_at "w"
      refine wp_frame (sub_cons sub_all) (sp_told ha hr h3 (by walk_at "sub") (by walk_at "sub") (fin (.inl hg))) fun u K ⟨y, R1, K', hy, hs, hu, hc⟩ => ?_
      have hs := sub_left (M := [(p2, Ob.lst [.int j])]) hs
      subst hy
      walk_at "w"
      refine y_dK (.right hu) rfl b4 ?_
      walk_at "w"
      exact conv_right hc
  case get =>
    have ha' := ha
    simp only [actO] at ha'
    split at ha'
    · rename_i n i
      obtain ⟨us, e, ha'⟩ := onCells_inv ha'
      obtain ⟨w1, y1, rfl, hw1, hy1⟩ := rels2 hr
      cases rel_int hy1
      obtain ⟨ob, rfl, ho⟩ := rel_ref hw1
      rw [show grdV (grd ⟨x, kd, .get, args, .no, line⟩) = .tup [.str "place", intsV (args.take 2)] from rfl]
      walk_at "w"
      refine sp_worths (by walk_at "sub") rfl (by walk_at "sub") (by rw [List.length_take]; exact Nat.le_trans (Nat.min_le_right _ _) b1) (show looksV kvs (args.take 2) = some [.ref ob, .int i] from (looksV_cut 2 hw).1) fun p2 => ?_
      obtain ⟨l, xs, R1, R2, rr, v1, v2⟩ := th_cells (H := (p2, .lst [.ref ob, .int i]) :: (p, .lst [.ref ob, .int i]) :: (r, runO m t fl s.ticks) :: (t, .lst tw) :: (fl, .lst ((o :: os).reverse.map .ref)) :: (o, lvl fr w) :: (w, .dK kvs) :: (FT ++ TT)) (by walk_at "sub") h3 e ho
      walk_at "w"
      refine sp_place (by walk_at "sub") v1 v2 ?_
      walk_at "w"
      rw [rr.length]
      refine ⟨fun hb => ?_, fun hb => ?_⟩
      · have hb : ¬ (0 ≤ i ∧ i < (us.length : Int)) := fun h => by rw [decide_eq_true h] at hb; cases hb
        rw [if_neg hb] at ha'
        cases ha'
        simp only [actDo] at hd
        cases hd
        walk_at "w"
        exact conv (by walk_at "subs") (rep_of h1 h2 h3 h4 rfl)
      · have hb : 0 ≤ i ∧ i < (us.length : Int) := by simpa using hb
        rw [if_pos hb] at ha'
        obtain ⟨v, _, hv'⟩ := Option.map_eq_some_iff.mp ha'
        have hg : ∃ v, a = .give v := ⟨v, hv'.symm⟩
        clear v1 v2
        walk_at "w"
        refine wp_frame (sub_cons sub_all) (sp_told ha hr h3 (by walk_at "sub") (by walk_at "sub") (fin (.inl hg))) fun u K ⟨y, R1, K', hy, hs, hu, hc⟩ => ?_
        have hs := sub_left (M := [(p2, Ob.lst [.ref ob, .int i])]) hs
        subst hy
        walk_at "w"
        refine y_dK (.right hu) rfl b4 ?_
        walk_at "w"
        exact conv_right hc
    · cases ha'
  case fill =>
    have ha' := ha
    simp only [actO] at ha'
    split at ha'
    · rename_i i v0
      obtain ⟨w1, y1, rfl, hw1, hy1⟩ := rels2 hr
      cases rel_int hw1
      rw [show grdV (grd ⟨x, kd, .fill, args, .no, line⟩) = .tup [.str "great", intsV (args.take 1)] from rfl]
      walk_at "w"
      refine sp_worths (by walk_at "sub") rfl (by walk_at "sub") (by rw [List.length_take]; exact Nat.le_trans (Nat.min_le_right _ _) b1) (show looksV kvs (args.take 1) = some [.int i] from (looksV_cut 1 hw).1) fun p2 => ?_
      walk_at "w"
      refine sp_great (by walk_at "sub") ?_
      walk_at "w"
      refine ⟨fun hb => ?_, fun hb => ?_⟩
      · have hb : ¬ (0 ≤ i ∧ i ≤ 60) := fun h => by rw [decide_eq_true h] at hb; cases hb
        rw [if_neg hb] at ha'
        cases ha'
        simp only [actDo] at hd
        cases hd
        walk_at "w"
        exact conv (by walk_at "subs") (rep_of h1 h2 h3 h4 rfl)
      · have hb : 0 ≤ i ∧ i ≤ 60 := by simpa using hb
        rw [if_pos hb] at ha'
        have hg : ∃ t, a = .new t := ⟨_, (Option.some.inj ha').symm⟩
        walk_at "w"
        refine wp_frame (sub_cons sub_all) (sp_told ha hr h3 (by walk_at "sub") (by walk_at "sub") (fin (.inr hg))) fun u K ⟨y, R1, K', hy, hs, hu, hc⟩ => ?_
        have hs := sub_left (M := [(p2, Ob.lst [.int i])]) hs
        subst hy
        walk_at "w"
        refine y_dK (.right hu) rfl b4 ?_
        walk_at "w"
        exact conv_right hc
    · cases ha'
  case set =>
    have ha' := ha
    simp only [actO] at ha'
    split at ha'
    · rename_i n i v0
      obtain ⟨us, e, ha'⟩ := onCells_inv ha'
      obtain ⟨w1, y1, z1, rfl, hw1, hy1, hz1⟩ := rels3 hr
      cases rel_int hy1
      obtain ⟨ob, rfl, ho⟩ := rel_ref hw1
      rw [show grdV (grd ⟨x, kd, .set, args, .no, line⟩) = .tup [.str "place", intsV (args.take 2)] from rfl]
      walk_at "w"
      refine sp_worths (by walk_at "sub") rfl (by walk_at "sub") (by rw [List.length_take]; exact Nat.le_trans (Nat.min_le_right _ _) b1) (show looksV kvs (args.take 2) = some [.ref ob, .int i] from (looksV_cut 2 hw).1) fun p2 => ?_
      obtain ⟨l, xs, R0, rr, pe, up⟩ := h3.getC e ho
      have pm : ((p2, Ob.lst [.ref ob, .int i]) :: (p, .lst [.ref ob, .int i, z1]) :: (r, runO m t fl s.ticks) :: (t, .lst tw) :: (fl, .lst ((o :: os).reverse.map .ref)) :: (o, lvl fr w) :: (w, .dK kvs) :: (FT ++ TT)).Perm
          ((l, .lst xs) :: ((p2, Ob.lst [.ref ob, .int i]) :: (p, .lst [.ref ob, .int i, z1]) :: (r, runO m t fl s.ticks) :: (t, .lst tw) :: (fl, .lst ((o :: os).reverse.map .ref)) :: (o, lvl fr w) :: (w, .dK kvs) :: (FT ++ ((ob, celO l) :: R0)))) :=
        (List.Perm.symm (List.perm_middle.symm.trans ((List.perm_middle.symm.trans ((((List.Perm.swap _ _ _).trans pe.symm).append_left FT))).append_left [_, _, _, _, _, _, _])))
      refine wp_perm pm ?_
      walk_at "w"
      refine sp_place (l := l) (xs := xs) (by walk_at "sub") (sub_cons (sub_cons (sub_cons (sub_cons (sub_cons (sub_cons (sub_cons (sub_cons (sub_there sub_one))))))))) (by walk_at "sub") ?_
      have v1 : Sub ((l, .lst xs) :: ((p2, Ob.lst [.ref ob, .int i]) :: (p, .lst [.ref ob, .int i, z1]) :: (r, runO m t fl s.ticks) :: (t, .lst tw) :: (fl, .lst ((o :: os).reverse.map .ref)) :: (o, lvl fr w) :: (w, .dK kvs) :: (FT ++ ((ob, celO l) :: R0)))) [(ob, celO l)] _ := sub_cons (sub_cons (sub_cons (sub_cons (sub_cons (sub_cons (sub_cons (sub_cons (sub_there sub_one))))))))
      walk_at "w"
      rw [rr.length]
      refine ⟨fun hb => ?_, fun hb => ?_⟩
      · have hb : ¬ (0 ≤ i ∧ i < (us.length : Int)) := fun h => by rw [decide_eq_true h] at hb; cases hb
        rw [if_neg hb] at ha'
        cases ha'
        simp only [actDo] at hd
        cases hd
        walk_at "w"
        refine conv (sub_add (sub_cons (sub_cons (sub_cons sub_one))) (sub_add (sub_cons (sub_cons (sub_cons sub_one))) (sub_add (sub_cons (sub_cons (sub_cons sub_one))) (sub_add (sub_cons (sub_cons (sub_cons sub_one))) (sub_add (sub_cons (sub_cons (sub_cons sub_one))) (sub_th (Ps := [_, _]) pe)))))) (rep_of h1 h2 h3 h4 rfl)
      · have hb : 0 ≤ i ∧ i < (us.length : Int) := by simpa using hb
        rw [if_pos hb] at ha'
        cases ha'
        simp only [actDo] at hd
        cases hd
        walk_at "w"
        refine y_lst .here (ixN_int (by rw [rr.length]; exact hb)) ?_
        walk_at "w"
        obtain ⟨T', t1, t2⟩ := up (us.set i.toNat v0) (xs.set i.toNat z1) (rr.set _ hz1)
        refine conv (sub_add (sub_cons (sub_cons (sub_cons sub_one))) (sub_add (sub_cons (sub_cons (sub_cons sub_one))) (sub_add (sub_cons (sub_cons (sub_cons sub_one))) (sub_add (sub_cons (sub_cons (sub_cons sub_one))) (sub_add (sub_cons (sub_cons (sub_cons sub_one))) (sub_th (Ps := [_, _]) t2)))))) (rep_of (s := { s with things := s.things.set n (.cells (us.set i.toNat v0)) }) h1 h2 t1 h4 rfl)
    · cases ha'
  case store =>
    have ha' := ha
    simp only [actO] at ha'
    split at ha'
    · rename_i k n v0
      obtain ⟨us, e, ha'⟩ := onCells_inv ha'
      obtain ⟨w1, z1, rfl, hw1, hz1⟩ := rels2 hr
      obtain ⟨ob, rfl, ho⟩ := rel_ref hw1
      obtain ⟨l, xs, R0, rr, pe, up⟩ := h3.getC e ho
      split at ha'
      · rename_i hb
        cases ha'
        simp only [actDo] at hd
        cases hd
        have pm : ((p, Ob.lst [.ref ob, z1]) :: (r, runO m t fl s.ticks) :: (t, .lst tw) :: (fl, .lst ((o :: os).reverse.map .ref)) :: (o, lvl fr w) :: (w, .dK kvs) :: (FT ++ TT)).Perm
            ((l, .lst xs) :: ((p, Ob.lst [.ref ob, z1]) :: (r, runO m t fl s.ticks) :: (t, .lst tw) :: (fl, .lst ((o :: os).reverse.map .ref)) :: (o, lvl fr w) :: (w, .dK kvs) :: (FT ++ ((ob, celO l) :: R0)))) :=
          (List.Perm.symm (List.perm_middle.symm.trans ((List.perm_middle.symm.trans ((((List.Perm.swap _ _ _).trans pe.symm).append_left FT))).append_left [_, _, _, _, _, _])))
        have v1 : Sub ((l, .lst xs) :: ((p, Ob.lst [.ref ob, z1]) :: (r, runO m t fl s.ticks) :: (t, .lst tw) :: (fl, .lst ((o :: os).reverse.map .ref)) :: (o, lvl fr w) :: (w, .dK kvs) :: (FT ++ ((ob, celO l) :: R0)))) [(ob, celO l)] _ := sub_cons (sub_cons (sub_cons (sub_cons (sub_cons (sub_cons (sub_cons (sub_there sub_one)))))))
        walk_at "w"
        refine wp_perm pm ?_
        walk_at "w"
        refine y_lst .here (ixN_int (by rw [rr.length]; exact hb)) ?_
        walk_at "w"
        obtain ⟨T', t1, t2⟩ := up (us.set k.toNat v0) (xs.set k.toNat z1) (rr.set _ hz1)
        refine conv (sub_add (sub_cons (sub_cons sub_one)) (sub_add (sub_cons (sub_cons sub_one)) (sub_add (sub_cons (sub_cons sub_one)) (sub_add (sub_cons (sub_cons sub_one)) (sub_add (sub_cons (sub_cons sub_one)) (sub_th (Ps := [_]) t2)))))) (rep_of (s := { s with things := s.things.set n (.cells (us.set k.toNat v0)) }) h1 h2 t1 h4 rfl)
      · cases ha'
    · cases ha'
  case tell =>
    simp only [actO] at ha
    split at ha
    · cases ha
      simp only [actDo] at hd
      cases hd
      obtain ⟨w1, rfl, hw1⟩ := rels1 hr
      walk_at "w"
      refine m_app (by walk_at "upd") b2 ?_
      walk_at "w"
      exact conv (by walk_at "subs") (rep_of (s := { s with told := s.told ++ [_] }) (h1.append (.cons hw1 .nil)) h2 h3 h4 rfl)
    · cases ha
  case tick =>
    simp only [actO] at ha
    split at ha
    · cases ha
      cases rels0 hr
      walk_at "w"
      refine sp_ticked (.swap _ _ _) (fun hk => ?_) fun hk => ?_
      · simp only [actDo] at hd; rw [if_pos hk] at hd
        cases hd
        exact conv (by walk_at "subs") (rep_of h1 h2 h3 h4 rfl)
      · simp only [actDo] at hd; rw [if_neg hk] at hd
        cases hd
        exact conv (by walk_at "subs") (rep_of (s := { s with ticks := s.ticks - 1 }) h1 h2 h3 h4 rfl)
    · cases ha
  case call =>
    simp only [actO] at ha
    split at ha
    · rename_i f
      cases ha
      simp only [actDo] at hd
      obtain ⟨g, hg, he⟩ := Option.map_eq_some_iff.mp hd
      cases he
      unfold begin_ at hg
      split at hg
      · rename_i g0 eg
        split at hg
        · rename_i k0 ek
          cases hg
          walk_at "w"
          walk_at "in"
          walk_at "w"
          refine sp_begin (t := t) (fl := fl) (ti := s.ticks) (R := (p, .lst ws) :: (t, .lst tw) :: (o, lvl fr w) :: (w, .dK kvs) :: (FT ++ TT)) (os := (o :: os).reverse.map .ref) eg ek hr (b5 _ (List.mem_of_find?_eq_some eg) _ (List.mem_of_getElem? ek)) (by simpa using b3) ?_ sub_one fun o' w' kvs' hk => ?_
          · exact (List.Perm.swap _ _ _).trans (.cons _ (List.perm_middle (l₁ := [_, _])))
          walk_at "w"
          refine conv0 ?_
          walk_at "w"
          refine conv (K := (r, runO m t fl s.ticks) :: (t, .lst tw) :: (fl, .lst ((o' :: o :: os).reverse.map .ref)) :: (o', lvl ⟨g0.blocks, binds [] k0.params vs, x, k0, 0⟩ w') :: (w', .dK kvs') :: (o, lvl fr w) :: (w, .dK kvs) :: (FT ++ TT)) (by rw [show (o' :: o :: os).reverse.map Val.ref = (o :: os).reverse.map Val.ref ++ [.ref o'] by simp]; walk_at "subs") ⟨fl, o' :: o :: os, φ, tw, (o', lvl ⟨g0.blocks, binds [] k0.params vs, x, k0, 0⟩ w') :: (w', .dK kvs') :: (o, lvl fr w) :: (w, .dK kvs) :: FT, TT, h1, .cons hk (.cons h4 h2), h3, rfl, rfl⟩
        · cases hg
      · cases hg
    · cases ha
  case ask =>
    simp only [actO] at ha
    split at ha
    · rename_i n us
      split at ha
      · rename_i f vs0 et
        cases ha
        simp only [actDo] at hd
        obtain ⟨g, hg, he⟩ := Option.map_eq_some_iff.mp hd
        cases he
        unfold begin_ at hg
        split at hg
        · rename_i g0 eg
          split at hg
          · rename_i k0 ek
            cases hg
            cases hr with
            | cons hh hr2 =>
            rename_i w1 ws2
            obtain ⟨ob, rfl, ho⟩ := rel_ref hh
            obtain ⟨l, xs, R0, rr, pe⟩ := h3.getF et ho
            have pt : (FT ++ TT).Perm ((ob, cloO f l) :: (l, .lst xs) :: (FT ++ R0)) := ((pe.append_left FT).trans List.perm_middle).trans (List.perm_middle.cons _)
            have v1 : Sub ((p, .lst (.ref ob :: ws2)) :: (r, runO m t fl s.ticks) :: (t, .lst tw) :: (fl, .lst ((o :: os).reverse.map .ref)) :: (o, lvl fr w) :: (w, .dK kvs) :: (FT ++ TT)) [(ob, cloO f l)] _ := sub_cons (sub_cons (sub_cons (sub_cons (sub_cons (sub_cons pt)))))
            have v2 : Sub ((p, .lst (.ref ob :: ws2)) :: (r, runO m t fl s.ticks) :: (t, .lst tw) :: (fl, .lst ((o :: os).reverse.map .ref)) :: (o, lvl fr w) :: (w, .dK kvs) :: (FT ++ TT)) [(l, .lst xs)] _ := sub_cons (sub_cons (sub_cons (sub_cons (sub_cons (sub_cons (pt.trans (.swap _ _ _)))))))
            walk_at "w"
            walk_at "in"
            walk_at "w"
            rw [show cutL (Val.ref ob :: ws2) (some 1) none = ws2 from cut_from _ 1]
            refine p_addl' (sub_cons v2) sub_one (fits_small (by have := rr.length; have := hr2.length; have := b7 _ _ _ et; simp only [List.length_cons] at b6; omega)) fun p3 => ?_
            walk_at "w"
            rename_i p2
            refine sp_begin (t := t) (fl := fl) (ti := s.ticks) (R := (p3, .lst (xs ++ ws2)) :: (p2, .lst ws2) :: (p, .lst (.ref ob :: ws2)) :: (t, .lst tw) :: (o, lvl fr w) :: (w, .dK kvs) :: (FT ++ TT)) (os := (o :: os).reverse.map .ref) eg ek (rr.append hr2) (b5 _ (List.mem_of_find?_eq_some eg) _ (List.mem_of_getElem? ek)) (by simpa using b3) ?_ sub_one fun o' w' kvs' hk => ?_
            · exact (List.perm_middle (l₁ := [_, _, _])).trans (.cons _ (List.perm_middle (l₁ := [_, _, _, _])))
            walk_at "w"
            refine conv0 ?_
            walk_at "w"
            refine conv (K := (r, runO m t fl s.ticks) :: (t, .lst tw) :: (fl, .lst ((o' :: o :: os).reverse.map .ref)) :: (o', lvl ⟨g0.blocks, binds [] k0.params (vs0 ++ us), x, k0, 0⟩ w') :: (w', .dK kvs') :: (o, lvl fr w) :: (w, .dK kvs) :: (FT ++ TT)) (by rw [show (o' :: o :: os).reverse.map Val.ref = (o :: os).reverse.map Val.ref ++ [.ref o'] by simp]; walk_at "subs") ⟨fl, o' :: o :: os, φ, tw, (o', lvl ⟨g0.blocks, binds [] k0.params (vs0 ++ us), x, k0, 0⟩ w') :: (w', .dK kvs') :: (o, lvl fr w) :: (w, .dK kvs) :: FT, TT, h1, .cons hk (.cons h4 h2), h3, rfl, rfl⟩
          · cases hg
        · cases hg
      · cases ha
    · cases ha
end
section
variable {B H R R' : HL} {d : Nat} {Q : Val → HL → Prop}
theorem sp_end {m : Mid} {s s' : MS} {out : Option Out} {r t fl o w : Nat} {os : List Nat} {φ : List Nat} {tw : List Val} {kvs : List (L2.Key × Val)} {FT TT : HL} {fr : Fr} {rest : List Fr} {en : End}
    (h1 : Rels φ s.told tw) (h2 : FrsH φ rest os FT) (h3 : ThH φ φ s.things TT) (h4 : EnvR φ fr.env kvs) (hd : endDo s fr rest en = some (s', out))
    (b1 : ∀ b args, en = .jump b args → args.length ≤ 1000) (b3 : os.length + 1 < 1000000) (b4 : ∀ f ∈ fr :: rest, ∀ k ∈ fr.blocks, f.env.length + k.params.length ≤ 900000) (hb : 0 < fr.blocks.length) (hH : H = (r, runO m t fl s.ticks) :: (t, .lst tw) :: (fl, .lst ((o :: os).reverse.map .ref)) :: (o, lvl fr w) :: (w, .dK kvs) :: (FT ++ TT)) :
    WP B (callN G fuel (d + 6) f_Run_end_done [.ref r, .ref o, en.v]) H (RepO m s' out r t) := by
  subst hH
  walk_at "in"
  cases en with
  | fail wd l =>
    simp only [endDo] at hd
    cases hd
    walk_at "w"
    exact conv (by walk_at "subs") (rep_of h1 h2 h3 h4 rfl)
  | give x =>
    simp only [endDo] at hd
    cases e1 : lookE fr.env x with
    | none => rw [e1] at hd; cases hd
    | some v =>
      rw [e1] at hd
      obtain ⟨u, hu, ru⟩ := h4.look e1
      walk_at "w"
      refine x_dK (by walk_at "sub") rfl hu ?_
      walk_at "w"
      walk_at "in"
      walk_at "w"
      refine m_pop (v := .ref o) (by walk_at "upd") (by simp) ?_
      rw [show ((o :: os).reverse.map Val.ref).dropLast = os.reverse.map Val.ref by simp]
      walk_at "w"
      cases rest with
      | nil =>
        cases h2
        simp only at hd
        cases hd
        walk_at "w"
        refine conv0 ?_
        exact conv (by walk_at "subs") ⟨fl, [], φ, tw, [], TT, h1, .nil, h3, ⟨u, rfl, ru⟩, rfl⟩
      | cons g gs =>
        cases h2 with
        | cons hg hgs =>
        rename_i kg og wg ogs TG
        simp only at hd
        cases et : fr.tgt with
        | none => rw [et] at hd; cases hd
        | some tt =>
          rw [et] at hd
          cases hd
          rw [show (og :: ogs).reverse.map Val.ref = ogs.reverse.map Val.ref ++ [.ref og] by simp, List.cons_append, List.cons_append]
          refine br_f (decide_eq_false (by simp; omega)) ?_
          walk_at "w"
          refine x_lst (by walk_at "sub") atI_last ?_
          walk_at "w"
          refine y_dK (by walk_at "upd") rfl ?_ ?_
          · have := hg.length
            obtain ⟨k0, hk0⟩ := List.exists_mem_of_length_pos hb
            have := b4 g (by simp) k0 hk0
            omega
          walk_at "w"
          refine conv0 ?_
          exact conv (K := (r, runO m t fl s.ticks) :: (t, .lst tw) :: (fl, .lst ((og :: ogs).reverse.map .ref)) :: (og, lvl g wg) :: (wg, .dK (CL.put kg (.inl tt) u)) :: (TG ++ TT)) (by rw [show (og :: ogs).reverse.map Val.ref = ogs.reverse.map Val.ref ++ [.ref og] by simp]; walk_at "subs") (rep_of (fr := { g with env := putE g.env tt v }) h1 hgs h3 (hg.put tt ru) rfl)
  | jump b args =>
    simp only [endDo] at hd
    cases e1 : looks fr.env args with
    | none => rw [e1] at hd; cases hd
    | some vs =>
      rw [e1] at hd
      obtain ⟨f, hf, he⟩ := Option.map_eq_some_iff.mp hd
      cases he
      unfold Fr.enter at hf
      split at hf
      · rename_i k ek
        cases hf
        obtain ⟨ws, hw, hr⟩ := h4.looks e1
        walk_at "w"
        refine sp_worths (by walk_at "sub") rfl (by walk_at "sub") (b1 b args rfl) hw fun p => ?_
        walk_at "w"
        have := h4.length
        have := b4 fr (by simp) k (List.mem_of_getElem? ek)
        refine sp_enter (w := w) (bs := fr.blocks) (tg := fr.tgt) (R := (p, .lst ws) :: (r, runO m t fl s.ticks) :: (t, .lst tw) :: (fl, .lst ((o :: os).reverse.map .ref)) :: (FT ++ TT)) (.inr ⟨fr.block.v, .int (fr.at' : Nat), rfl⟩) ek hr h4 (by omega) ((List.perm_middle (l₁ := [_, _, _, _])).trans (.cons _ (List.perm_middle (l₁ := [_, _, _, _])))) sub_one fun kvs' hk => ?_
        walk_at "w"
        exact conv (K := (r, runO m t fl s.ticks) :: (t, .lst tw) :: (fl, .lst ((o :: os).reverse.map .ref)) :: (o, lvl _ w) :: (w, .dK kvs') :: (FT ++ TT)) (by walk_at "subs") (rep_of (fr := { fr with env := binds fr.env k.params vs, block := k, at' := 0 }) h1 h2 h3 hk rfl)
      · cases hf
  | branch x b c =>
    simp only [endDo] at hd
    cases e1 : lookE fr.env x with
    | none => rw [e1] at hd; cases hd
    | some v =>
      rw [e1] at hd
      cases v with
      | bl tv =>
        obtain ⟨f, hf, he⟩ := Option.map_eq_some_iff.mp hd
        cases he
        unfold Fr.enter at hf
        split at hf
        · rename_i k ek
          cases hf
          obtain ⟨u, hu, ru⟩ := h4.look e1
          cases rel_bl ru
          have := h4.length
          have := b4 fr (by simp) k (List.mem_of_getElem? ek)
          walk_at "w"
          refine x_dK (by walk_at "sub") rfl hu ?_
          walk_at "w"
          cases tv
          · walk_at "w"
            rename_i p
            refine sp_enter (w := w) (bs := fr.blocks) (tg := fr.tgt) (R := (p, .lst []) :: (r, runO m t fl s.ticks) :: (t, .lst tw) :: (fl, .lst ((o :: os).reverse.map .ref)) :: (FT ++ TT)) (.inr ⟨fr.block.v, .int (fr.at' : Nat), rfl⟩) ek .nil h4 (by omega) ((List.perm_middle (l₁ := [_, _, _, _])).trans (.cons _ (List.perm_middle (l₁ := [_, _, _, _])))) sub_one fun kvs' hk => ?_
            walk_at "w"
            exact conv (K := (r, runO m t fl s.ticks) :: (t, .lst tw) :: (fl, .lst ((o :: os).reverse.map .ref)) :: (o, lvl _ w) :: (w, .dK kvs') :: (FT ++ TT)) (by walk_at "subs") (rep_of (fr := { fr with env := binds fr.env k.params [], block := k, at' := 0 }) h1 h2 h3 hk rfl)
          · walk_at "w"
            rename_i p
            refine sp_enter (w := w) (bs := fr.blocks) (tg := fr.tgt) (R := (p, .lst []) :: (r, runO m t fl s.ticks) :: (t, .lst tw) :: (fl, .lst ((o :: os).reverse.map .ref)) :: (FT ++ TT)) (.inr ⟨fr.block.v, .int (fr.at' : Nat), rfl⟩) ek .nil h4 (by omega) ((List.perm_middle (l₁ := [_, _, _, _])).trans (.cons _ (List.perm_middle (l₁ := [_, _, _, _])))) sub_one fun kvs' hk => ?_
            walk_at "w"
            exact conv (K := (r, runO m t fl s.ticks) :: (t, .lst tw) :: (fl, .lst ((o :: os).reverse.map .ref)) :: (o, lvl _ w) :: (w, .dK kvs') :: (FT ++ TT)) (by walk_at "subs") (rep_of (fr := { fr with env := binds fr.env k.params [], block := k, at' := 0 }) h1 h2 h3 hk rfl)
        · cases hf
      | _ => cases hd
end
section
variable {B H R R' : HL} {d : Nat} {Q : Val → HL → Prop}
theorem frs_len {φ : List Nat} : ∀ {fs : List Fr} {os : List Nat} {T : HL}, FrsH φ fs os T → os.length = fs.length
  | _, _, _, .nil => rfl
  | _, _, _, .cons h r => by rw [List.length_cons, List.length_cons, frs_len r]
/-- one turn of the run -/
theorem sp_turn {m : Mid} {P n : Nat} {s s' : MS} {out : Option Out} {r t : Nat} {a2 a3 : Option Val} {N : Env → HL → Prop} {T : Val → HL → Prop} {K C : Env → HL → Prop} (S : Small m P) (F : Fits m P (n + 1) s) (h : step m s = some (s', out)) (hR : RepO m s none r t .non H)
    (q : ∀ v K a2 a3, RepO m s' out r t v K → N [some (.ref r), some v, a2, a3] K) :
    WSs B (cxN G fuel (d + 6)) (.cons (.asg (.one 2) (.sub (.fld (.v 0) "frames") (.neg (.int 1))))
    (.cons (.asg (.one 3) (.sub (.fld (.v 2) "block") (.int 1)))
    (.cons (.cond (.of (.cmp .lt (.fld (.v 2) "at") (.bf .len (.cons (.v 3) .nil)))) (.cons (.auf (.v 2) "at" .add (.int 1))
    (.cons (.asg (.one 1) (.met (.v 0) "row_done" (.cons (.v 2) (.cons (.sub (.v 3) (.bin .sub (.fld (.v 2) "at") (.int 1))) .nil))))
    .nil)) (.cons (.asg (.one 1) (.met (.v 0) "end_done" (.cons (.v 2) (.cons (.sub (.fld (.v 2) "block") (.int 2)) .nil))))
    .nil))
    .nil))) [some (.ref r), some .non, a2, a3] H N T K C := by
  obtain ⟨fl, os, φ, tw, FT, TT, h1, h2, h3, _, rfl⟩ := hR
  unfold Md.step at h
  split at h
  · cases h
  · rename_i fr rest efr
    have Ff : ∀ f ∈ fr :: rest, FrOk m P (n + 1) f := by rw [← efr]; exact F.frs
    have Fl : (fr :: rest).length + (n + 1) ≤ 900000 := by rw [← efr]; exact F.frames
    obtain ⟨F1, g, hg, hgb, hgk⟩ := Ff fr (by simp)
    rw [efr] at h2
    cases h2 with
    | cons h4 h2 =>
    rename_i kvs o w os FT
    have hlen := frs_len h2
    have hkl := h4.length
    simp only [List.length_cons] at Fl
    rw [List.cons_append, List.cons_append]
    walk_at "w"
    rw [show (o :: os).reverse.map Val.ref = os.reverse.map Val.ref ++ [.ref o] by simp]
    refine x_lst (by walk_at "sub") atI_last ?_
    rw [show os.reverse.map Val.ref ++ [.ref o] = (o :: os).reverse.map Val.ref by simp]
    walk_at "w"
    split at h
    · rename_i row erow
      split at h
      · rename_i vs evs
        split at h
        · rename_i a ea
          have hlt := (List.getElem?_eq_some_iff.mp erow).1
          have hm : row ∈ fr.block.rows := List.mem_of_getElem? erow
          refine br_t (decide_eq_true (by simp only [List.length_map]; omega)) ?_
          walk_at "w"
          refine x_tup (v := row.v) ?_ ?_
          · rw [show ((fr.at' : Int) + 1 - 1) = (fr.at' : Int) by omega]
            exact atI_nat (by rw [List.getElem?_map, erow]; rfl)
          walk_at "w"
          have b4 : kvs.length < 1000000 := by omega
          have := looks_len evs
          have := S.row g hg _ hgk _ hm
          refine wp_mono (sp_row (fr := { fr with at' := fr.at' + 1 }) h1 h2 h3 h4 evs ea h this (by rw [h1.length]; have := F.told; omega) (by omega) b4 (by omega) (fun i f us e => Nat.le_trans (F.clo i f us e) (by omega)) (fun g hg k hk => Nat.le_trans (S.par g hg k hk) (by omega)) rfl) fun v K hv => ?_
          walk_at "w"
          exact q v K _ _ hv
        · cases h
      · cases h
    · rename_i erow
      have hge : fr.block.rows.length ≤ fr.at' := List.getElem?_eq_none_iff.mp erow
      refine br_f (decide_eq_false (by simp only [List.length_map]; omega)) ?_
      walk_at "w"
      refine wp_mono (sp_end h1 h2 h3 h4 h (fun b args e => S.jmp g hg _ hgk b args e) (by omega) (fun f hf k hk => ?_) ?_ rfl) fun v K hv => ?_
      · have := (Ff f hf).1
        rw [hgb] at hk
        have := S.par g hg k hk
        omega
      · rw [hgb]; exact List.length_pos_of_mem hgk
      walk_at "w"
      exact q v K _ _ hv
theorem sp_loop {m : Mid} {P : Nat} {r t : Nat} {N : Env → HL → Prop} {T : Val → HL → Prop} (S : Small m P) : ∀ (n : Nat) (s s' : MS) (o : Out) (f : Nat) (H : HL) (a2 a3 : Option Val), Runs m n s s' o → Fits m P n s → n + 1 ≤ f → RepO m s none r t .non H →
    (∀ v K a2 a3, RepO m s' (some o) r t v K → N [some (.ref r), some v, a2, a3] K) →
    WW B (cxN G fuel (d + 6)) (.of (.isN (.v 1))) (.cons (.asg (.one 2) (.sub (.fld (.v 0) "frames") (.neg (.int 1))))
    (.cons (.asg (.one 3) (.sub (.fld (.v 2) "block") (.int 1)))
    (.cons (.cond (.of (.cmp .lt (.fld (.v 2) "at") (.bf .len (.cons (.v 3) .nil)))) (.cons (.auf (.v 2) "at" .add (.int 1))
    (.cons (.asg (.one 1) (.met (.v 0) "row_done" (.cons (.v 2) (.cons (.sub (.v 3) (.bin .sub (.fld (.v 2) "at") (.int 1))) .nil))))
    .nil)) (.cons (.asg (.one 1) (.met (.v 0) "end_done" (.cons (.v 2) (.cons (.sub (.fld (.v 2) "block") (.int 2)) .nil))))
    .nil))
    .nil))) f [some (.ref r), some .non, a2, a3] H N T
  | _, s, s', o, 0, H, a2, a3, _, _, hf, _, _ => by omega
  | _, s, s', o, f + 1, H, a2, a3, .last h, F, hf, hR, q => by
    refine whl_step (b_of (e_isN (e_v rfl (t_bool (br_t rfl ?_)))))
    refine sp_turn S F h hR fun v K a2 a3 hv => ?_
    obtain ⟨f, rfl⟩ : ∃ g, f = g + 1 := ⟨f - 1, by omega⟩
    refine whl_step (b_of (e_isN (e_v rfl (t_bool ?_))))
    obtain ⟨_, _, _, _, _, _, _, _, _, ho, _⟩ := id hv
    refine br_f ?_ (q v K a2 a3 hv)
    cases o with
    | done x => obtain ⟨w, rfl, _⟩ := ho; rfl
    | fault w l => cases ho; rfl
    | tired => cases ho; rfl
  | _, s, s', o, f + 1, H, a2, a3, .more h hr, F, hf, hR, q => by
    refine whl_step (b_of (e_isN (e_v rfl (t_bool (br_t rfl ?_)))))
    refine sp_turn S F h hR fun v K a2 a3 hv => ?_
    obtain ⟨_, _, _, _, _, _, _, _, _, ho, _⟩ := id hv
    cases ho
    exact sp_loop S _ _ _ _ f K a2 a3 hr (F.step S h) (by omega) hv q
theorem sp_ended {m : Mid} {P n : Nat} {s s' : MS} {o : Out} {r t : Nat} (S : Small m P) (hr : Runs m n s s' o) (F : Fits m P n s) (hn : n < 800000) (hR : RepO m s none r t .non H) (q : ∀ v K, RepO m s' (some o) r t v K → Q v K) :
    WP B (callN G fuel (d + 7) f_Run_ended [.ref r]) H Q := by
  walk_at "in"
  walk_at "w"
  refine sp_loop S n s s' o fuel H _ _ hr F (by show n + 1 ≤ 1000000; omega) hR fun v K a2 a3 hv => ?_
  walk_at "w"
  exact conv0 (q v K hv)
end
section
variable {B H R R' : HL} {d : Nat} {Q : Val → HL → Prop}
def kindOf : Val → Option Val
  | .tup [_, k] => some k
  | _ => none
theorem sp_params {f : Fun} {k : Block} (hb : f.blocks[0]? = some k) (hk : k.params.length ≤ 900000) (q : ∀ p, Q (.ref p) ((p, .lst (k.params.map fun x => x.2.v)) :: H)) : WP B (callN G fuel (d + 1) f_params_of [f.v]) H Q := by
  have e0 : L2.atI (f.blocks.map Block.v) 0 = some k.v := atI_nat (i := 0) (by rw [List.getElem?_map, hb]; rfl)
  walk_at "in"
  walk_at "w"
  refine x_tup e0 ?_
  walk_at "w"
  rename_i D
  refine lc_pure kindOf H _ [] (fun y hy => ?_) sees_nil (by simp; omega) ?_
  · obtain ⟨x, hx, rfl⟩ := List.mem_map.mp hy
    refine ⟨_, rfl, fun zs => ?_⟩
    walk_at "w"
    rfl
  · have : (k.params.map parV).filterMap kindOf = k.params.map fun x => x.2.v := by
      rw [List.filterMap_map]
      induction k.params with
      | nil => rfl
      | cons a b ih => rw [List.filterMap_cons, List.map_cons]; simp only [Function.comp, kindOf]; rw [← ih]
    rw [List.nil_append, this]
    exact conv0 (q D)
theorem ints_rels {φ : List Nat} : ∀ ns : List Int, Rels φ (ns.map .int) (ns.map .int)
  | [] => .nil
  | n :: r => .cons (.int n) (ints_rels r)
theorem sp_run {m : Mid} {P n : Nat} {g : Fun} {k : Block} {ins : List Int} {ti : Int} {s' : MS} {o : Out} {p : Nat} (hg : (m.funs.find? fun g => decide (g.name = ("main" : PySem.Str))) = some g) (hb : g.blocks[0]? = some k) (hi : ins.length = k.params.length) (S : Small m P) (hP : (n + 2) * P ≤ 800000) (hn : n < 800000)
    (hr : Runs m n ⟨[], [], ti, [⟨g.blocks, binds [] k.params (ins.map .int), none, k, 0⟩]⟩ s' o) (hl : Sub H [(p, .lst (ins.map .int))] R)
    (q : ∀ t φ tw ov, Rels φ s'.told tw → OutR φ (some o) ov → Q (.tup [.ref t, ov]) ((t, .lst tw) :: H)) : WP B (callN G fuel (d + 8) f_run_middle [m.v, .ref p, .int ti]) H Q := by
  have hgm := List.mem_of_find?_eq_some hg
  have hkm := List.mem_of_getElem? hb
  have hpl := S.par g hgm k hkm
  have hP2 : n * P + 2 * P ≤ 800000 := by rw [← Nat.add_mul]; exact hP
  walk_at "in"
  walk_at "w"
  refine sp_named hg ?_
  walk_at "w"
  refine sp_params hb (by omega) fun p1 => ?_
  walk_at "w"
  refine br_f (by rw [List.length_map, List.length_map, hi]; simp) ?_
  walk_at "w"
  walk_at "in"
  walk_at "w"
  rename_i r t fl
  show Conv _ _ ((fl, .lst []) :: (t, .lst []) :: (r, runO m t fl ti) :: (p1, .lst _) :: H)
  refine conv (K := (r, runO m t fl ti) :: (t, .lst []) :: (fl, .lst []) :: H) (by walk_at "subs") ⟨rfl, ?_⟩
  walk_at "w"
  rename_i p2
  refine sp_begin (t := t) (fl := fl) (ti := ti) (tg := none) (R := (p2, .lst (ins.map .int)) :: (t, .lst []) :: H) (os := []) hg hb (ints_rels (φ := []) ins) (by omega) (by simp) ((List.Perm.swap _ _ _).trans (.cons _ (List.perm_middle (l₁ := [_, _])))) sub_one fun ob w kvs hk => ?_
  walk_at "w"
  have F : Fits m P n ⟨[], [], ti, [⟨g.blocks, binds [] k.params (ins.map .int), none, k, 0⟩]⟩ := by
    refine ⟨by show 0 + n ≤ 900000; omega, by show 1 + n ≤ 900000; omega, fun f hf => ?_, fun i f us e => by simp at e⟩
    cases List.mem_singleton.mp hf
    refine ⟨?_, g, hgm, rfl, hkm⟩
    have := binds_len k.params (ins.map .int) []
    show (binds [] k.params (ins.map .int)).length + n * P + P ≤ 800000
    simp only [List.length_nil] at this
    omega
  refine wp_frame (L := (r, runO m t fl ti) :: (t, .lst []) :: (fl, .lst [.ref ob]) :: (ob, lvl ⟨g.blocks, binds [] k.params (ins.map .int), none, k, 0⟩ w) :: (w, .dK kvs) :: []) (R := (p2, .lst (ins.map .int)) :: H) (by rw [List.nil_append]; walk_at "subs")
    (sp_ended S hr F hn ⟨fl, [ob], [], [], [(ob, lvl ⟨g.blocks, binds [] k.params (ins.map .int), none, k, 0⟩ w), (w, .dK kvs)], [], .nil, .cons hk .nil, .nil, rfl, rfl⟩ fun v K h => h) fun v K hv => ?_
  obtain ⟨fl', os', φ, tw, FT, TT, g1, g2, g3, g4, rfl⟩ := hv
  simp only [List.cons_append]
  walk_at "w"
  exact conv (by walk_at "subs") (q t φ tw v g1 g4)
end
abbrev frD (f : Fr) (i w : Nat) : Ob := .dK [(.inr "blocks", .tup (f.blocks.map Block.v)), (.inr "at", .int (i : Nat)), (.inr "row", .int (f.at' : Nat)), (.inr "values", .ref w), (.inr "target", oI f.tgt)]
abbrev runD (m : Mid) (t fl : Nat) (k : Int) : Ob := .dK [(.inr "middle", m.v), (.inr "ticks", .int k), (.inr "told", .ref t), (.inr "pile", .ref fl)]
abbrev celD (l : Nat) : Ob := .dK [(.inr "held", .ref l)]
abbrev cloD (f : PySem.Str) (l : Nat) : Ob := .dK [(.inr "fun", .str f), (.inr "held", .ref l)]
inductive FrsL (φ : List Nat) : List Fr → List Nat → HL → Prop
  | nil : FrsL φ [] [] []
  | cons {f : Fr} {kvs : List (L2.Key × Val)} {fs : List Fr} {o w i : Nat} {os : List Nat} {T : HL} (h : EnvR φ f.env kvs) (b : f.blocks[i]? = some f.block) (r : FrsL φ fs os T) : FrsL φ (f :: fs) (o :: os) ((o, frD f i w) :: (w, .dK kvs) :: T)
inductive ThL (φ : List Nat) : List Nat → List Thing → HL → Prop
  | nil : ThL φ [] [] []
  | cells {a l : Nat} {as : List Nat} {vs : List MV} {ws : List Val} {ts : List Thing} {T : HL} (h : Rels φ vs ws) (r : ThL φ as ts T) : ThL φ (a :: as) (.cells vs :: ts) ((a, celD l) :: (l, .lst ws) :: T)
  | clo {a l : Nat} {as : List Nat} {f : PySem.Str} {vs : List MV} {ws : List Val} {ts : List Thing} {T : HL} (h : Rels φ vs ws) (r : ThL φ as ts T) : ThL φ (a :: as) (.clo f vs :: ts) ((a, cloD f l) :: (l, .lst ws) :: T)
section
variable {φ ψ : List Nat}
theorem FrsL.up : ∀ {fs : List Fr} {os : List Nat} {T : HL}, FrsL φ fs os T → FrsL (φ ++ ψ) fs os T
  | _, _, _, .nil => .nil
  | _, _, _, .cons h b r => .cons h.up b r.up
theorem ThL.up : ∀ {as : List Nat} {ts : List Thing} {T : HL}, ThL φ as ts T → ThL (φ ++ ψ) as ts T
  | _, _, _, .nil => .nil
  | _, _, _, .cells h r => .cells h.up r.up
  | _, _, _, .clo h r => .clo h.up r.up
theorem ThL.len : ∀ {as : List Nat} {ts : List Thing} {T : HL}, ThL φ as ts T → as.length = ts.length
  | _, _, _, .nil => rfl
  | _, _, _, .cells h r => by rw [List.length_cons, List.length_cons, r.len]
  | _, _, _, .clo h r => by rw [List.length_cons, List.length_cons, r.len]
theorem ThL.snocC {l : Nat} {vs : List MV} {ws : List Val} : ∀ {as : List Nat} {ts : List Thing} {T : HL} {a : Nat}, ThL φ as ts T → Rels φ vs ws → ThL φ (as ++ [a]) (ts ++ [.cells vs]) (T ++ [(a, celD l), (l, .lst ws)])
  | _, _, _, _, .nil, q => .cells q .nil
  | _, _, _, _, .cells h r, q => .cells h (r.snocC q)
  | _, _, _, _, .clo h r, q => .clo h (r.snocC q)
theorem ThL.snocF {l : Nat} {f : PySem.Str} {vs : List MV} {ws : List Val} : ∀ {as : List Nat} {ts : List Thing} {T : HL} {a : Nat}, ThL φ as ts T → Rels φ vs ws → ThL φ (as ++ [a]) (ts ++ [.clo f vs]) (T ++ [(a, cloD f l), (l, .lst ws)])
  | _, _, _, _, .nil, q => .clo q .nil
  | _, _, _, _, .cells h r, q => .cells h (r.snocF q)
  | _, _, _, _, .clo h r, q => .clo h (r.snocF q)
/-- the cells of a thing, and how it may change -/
theorem ThL.getC : ∀ {as : List Nat} {ts : List Thing} {T : HL} {n a : Nat} {vs : List MV}, ThL φ as ts T → ts[n]? = some (.cells vs) → as[n]? = some a →
    ∃ l ws R, Rels φ vs ws ∧ T.Perm ((a, celD l) :: (l, .lst ws) :: R) ∧ ∀ vs' ws', Rels φ vs' ws' → ∃ T', ThL φ as (ts.set n (.cells vs')) T' ∧ T'.Perm ((a, celD l) :: (l, .lst ws') :: R)
  | _, _, _, n, _, _, .nil, e, _ => by simp at e
  | _, _, _, 0, _, _, .cells h r, e, e2 => by
    simp at e e2
    subst e e2
    exact ⟨_, _, _, h, .refl _, fun vs' ws' q => ⟨_, .cells q r, .refl _⟩⟩
  | _, _, _, 0, _, _, .clo h r, e, e2 => by simp at e
  | _, _, _, n + 1, _, _, .cells h r, e, e2 => by
    obtain ⟨l, ws, R, h1, h2, h3⟩ := r.getC (n := n) (by simpa using e) (by simpa using e2)
    refine ⟨l, ws, _ :: _ :: R, h1, ((h2.cons _).cons _).trans p22, fun vs' ws' q => ?_⟩
    obtain ⟨T', h4, h5⟩ := h3 vs' ws' q
    exact ⟨_, .cells h h4, ((h5.cons _).cons _).trans p22⟩
  | _, _, _, n + 1, _, _, .clo h r, e, e2 => by
    obtain ⟨l, ws, R, h1, h2, h3⟩ := r.getC (n := n) (by simpa using e) (by simpa using e2)
    refine ⟨l, ws, _ :: _ :: R, h1, ((h2.cons _).cons _).trans p22, fun vs' ws' q => ?_⟩
    obtain ⟨T', h4, h5⟩ := h3 vs' ws' q
    exact ⟨_, .clo h h4, ((h5.cons _).cons _).trans p22⟩
theorem ThL.getF : ∀ {as : List Nat} {ts : List Thing} {T : HL} {n a : Nat} {f : PySem.Str} {vs : List MV}, ThL φ as ts T → ts[n]? = some (.clo f vs) → as[n]? = some a →
    ∃ l ws R, Rels φ vs ws ∧ T.Perm ((a, cloD f l) :: (l, .lst ws) :: R)
  | _, _, _, n, _, _, _, .nil, e, _ => by simp at e
  | _, _, _, 0, _, _, _, .clo h r, e, e2 => by
    simp at e e2
    obtain ⟨rfl, rfl⟩ := e
    subst e2
    exact ⟨_, _, _, h, .refl _⟩
  | _, _, _, 0, _, _, _, .cells h r, e, e2 => by simp at e
  | _, _, _, n + 1, _, _, _, .cells h r, e, e2 => by
    obtain ⟨l, ws, R, h1, h2⟩ := r.getF (n := n) (by simpa using e) (by simpa using e2)
    exact ⟨l, ws, _ :: _ :: R, h1, ((h2.cons _).cons _).trans p22⟩
  | _, _, _, n + 1, _, _, _, .clo h r, e, e2 => by
    obtain ⟨l, ws, R, h1, h2⟩ := r.getF (n := n) (by simpa using e) (by simpa using e2)
    exact ⟨l, ws, _ :: _ :: R, h1, ((h2.cons _).cons _).trans p22⟩
end
section
variable {B H R R' : HL} {d : Nat} {Q : Val → HL → Prop}
theorem tl_cells {φ : List Nat} {ts : List Thing} {T X : HL} {n a : Nat} {vs : List MV} (hs : Sub H T X) (h : ThL φ φ ts T) (e : ts[n]? = some (.cells vs)) (hn : φ[n]? = some a) : ∃ l ws R1 R2, Rels φ vs ws ∧ Sub H [(a, celD l)] R1 ∧ Sub H [(l, .lst ws)] R2 := by
  obtain ⟨l, ws, R, h1, h2, _⟩ := h.getC e hn
  have p : H.Perm ((a, celD l) :: (l, .lst ws) :: (R ++ X)) := List.Perm.trans hs (h2.append_right X)
  exact ⟨l, ws, _, _, h1, p, p.trans (.swap _ _ _)⟩
/-- zip(params, things) into the frame's dict: at its making -/
theorem fr_loop {w : Nat} {φ : List Nat} {s0 s1 s2 s3 s4 a8 : Option Val} {N : Env → HL → Prop} {T : Val → HL → Prop} {wt : Watch} : ∀ (ps : List (Int × Kd)) (vs : List MV) (ws : List Val) (e : Ev) (kvs : List (L2.Key × Val)) (a b : Option Val),
    Rels φ vs ws → EnvR φ e kvs → kvs.length + ps.length ≤ 900000 → (∀ kvs', Sees B ((w, .dK kvs') :: R) wt) →
    (∀ a b kvs', EnvR φ (binds e ps vs) kvs' → N [s0, s1, s2, s3, s4, some (.ref w), a, b, a8] ((w, .dK kvs') :: R)) →
    WF B (cxN G fuel d) (.many [6, 7]) (.cons (.asg (.sub (.v 5) (.sub (.v 6) (.int 0))) (.v 7)) .nil) wt (zipL (ps.map parV) ws) [s0, s1, s2, s3, s4, some (.ref w), a, b, a8] ((w, .dK kvs) :: R) N T
  | [], vs, ws, e, kvs, a, b, h1, h2, h3, h4, h5 => by
    unfold zipL
    exact for_nil (h4 kvs) (h5 a b kvs h2)
  | p :: ps, [], _, e, kvs, a, b, .nil, h2, h3, h4, h5 => by
    rw [List.map_cons, zipL]
    · exact for_nil (h4 kvs) (h5 a b kvs h2)
    · intro x r y t _ e; cases e
  | p :: ps, _, _, e, kvs, a, b, .cons h hr, h2, h3, h4, h5 => by
    rw [List.map_cons, zipL]
    refine for_cons (h4 kvs) rfl ?_
    unfold parV
    simp only [List.length_cons] at h3
    walk_at "w"
    refine y_dK .here rfl (by omega) ?_
    walk_at "w"
    refine fr_loop ps _ _ (putE e p.1 _) _ _ _ hr (h2.put p.1 h) ?_ h4 h5
    exact Nat.le_trans (Nat.add_le_add_right (put_len _ _ _) _) (by omega)
/-- the same, at a jump -/
theorem went_loop {o w : Nat} {f : Fr} {i : Nat} {φ : List Nat} {s1 s2 : Option Val} {N : Env → HL → Prop} {T : Val → HL → Prop} {wt : Watch} : ∀ (ps : List (Int × Kd)) (vs : List MV) (ws : List Val) (e : Ev) (kvs : List (L2.Key × Val)) (a b : Option Val),
    Rels φ vs ws → EnvR φ e kvs → kvs.length + ps.length ≤ 900000 → (∀ kvs', Sees B ((o, frD f i w) :: (w, .dK kvs') :: R) wt) →
    (∀ a b kvs', EnvR φ (binds e ps vs) kvs' → N [some (.ref o), s1, s2, a, b] ((o, frD f i w) :: (w, .dK kvs') :: R)) →
    WF B (cxN G fuel d) (.many [3, 4]) (.cons (.asg (.sub (.sub (.v 0) (.str "values")) (.sub (.v 3) (.int 0))) (.v 4)) .nil) wt (zipL (ps.map parV) ws) [some (.ref o), s1, s2, a, b] ((o, frD f i w) :: (w, .dK kvs) :: R) N T
  | [], vs, ws, e, kvs, a, b, h1, h2, h3, h4, h5 => by
    unfold zipL
    exact for_nil (h4 kvs) (h5 a b kvs h2)
  | p :: ps, [], _, e, kvs, a, b, .nil, h2, h3, h4, h5 => by
    rw [List.map_cons, zipL]
    · exact for_nil (h4 kvs) (h5 a b kvs h2)
    · intro x r y t _ e; cases e
  | p :: ps, _, _, e, kvs, a, b, .cons h hr, h2, h3, h4, h5 => by
    rw [List.map_cons, zipL]
    refine for_cons (h4 kvs) rfl ?_
    unfold parV
    simp only [List.length_cons] at h3
    walk_at "w"
    refine y_dK (.there .here) rfl (by omega) ?_
    walk_at "w"
    refine went_loop ps _ _ (putE e p.1 _) _ _ _ hr (h2.put p.1 h) ?_ h4 h5
    exact Nat.le_trans (Nat.add_le_add_right (put_len _ _ _) _) (by omega)
def nameIs (nm : PySem.Str) : Val → Bool
  | .tup (.str z :: _) => decide (z = nm)
  | _ => false
theorem filt_first {nm : PySem.Str} {g : Fun} : ∀ {fs : List Fun}, (fs.find? fun g => decide (g.name = nm)) = some g → ∃ r, ((fs.map Fun.v).filter (nameIs nm)) = g.v :: r
  | [], e => by cases e
  | f :: fs, e => by
    rw [List.find?_cons] at e
    rw [List.map_cons, List.filter_cons]
    have hn : nameIs nm f.v = decide (f.name = nm) := rfl
    rw [hn]
    cases hd : decide (f.name = nm) with
    | true => rw [hd] at e; cases e; exact ⟨_, rfl⟩
    | false => rw [hd] at e; simpa using filt_first e
theorem sl_went {o w p b j : Nat} {f : Fr} {k : Block} {kvs : List (L2.Key × Val)} {vs : List MV} {ws : List Val} {φ : List Nat} (hb : f.blocks[b]? = some k) (h1 : Rels φ vs ws) (h2 : EnvR φ f.env kvs) (h3 : kvs.length + k.params.length ≤ 900000)
    (hp : H.Perm ((o, frD f j w) :: (w, .dK kvs) :: R)) (hl : Sub R [(p, .lst ws)] R')
    (q : ∀ kvs', EnvR φ (binds f.env k.params vs) kvs' → Q .non ((o, frD { f with env := binds f.env k.params vs, block := k, at' := 0 } b w) :: (w, .dK kvs') :: R)) :
    WP B (callN G fuel (d + 1) f_l_went [.ref o, .int b, .ref p]) H Q := by
  refine wp_perm hp ?_
  have hb' : L2.atI (f.blocks.map Block.v) (b : Int) = some k.v := atI_nat (by rw [List.getElem?_map, hb]; rfl)
  have sw : ∀ x o', Sees B ((x, o') :: R) [(p, ws)] := fun x o' i ys h => .inl (by
    cases List.mem_singleton.mp h
    exact List.mem_cons_of_mem _ ((List.Perm.mem_iff hl).mpr (by simp)))
  walk_at "in"
  walk_at "w"
  refine x_tup hb' ?_
  walk_at "w"
  refine ⟨_, _, its_tup, its_lst (sub_cons (sub_cons hl)), ?_⟩
  refine went_loop (f := { f with at' := 0 }) (i := b) k.params vs ws f.env kvs _ _ h1 h2 h3 (fun kvs' i ys h => (sw w (.dK kvs') i ys h).imp_left (List.mem_cons_of_mem _)) fun a b kvs' h => ?_
  walk_at "w"
  exact conv0 (q kvs' h)
end
section
variable {B H R R' : HL} {d : Nat} {Q : Val → HL → Prop}
theorem sl_brought {n : Int} (q : Q (.int (Md.br n)) H) : WP B (callN G fuel (d + 1) f_l_brought [.int n]) H Q := by
  walk_at "in"
  walk_at "w"
  refine p_mod' (by decide) ?_
  walk_at "w"
  exact conv0 q
theorem sl_worked {op : Op} {a b : Int} {v : MV} (h : two op a b = some (.give v)) (ha : Md.Num a) (hb : Md.Num b) (q : ∀ w, (∀ φ, Rel φ v w) → Q w H) : WP B (callN G fuel (d + 2) f_l_two [.str op.s, .int a, .int b]) H Q := by
  unfold Md.Num at ha hb
  walk_at "in"
  cases op <;> simp only [two] at h <;> try cases h
  case add.refl =>
    walk_at "w"
    exact sl_brought (conv0 (q _ fun φ => .int _))
  case sub.refl =>
    walk_at "w"
    exact sl_brought (conv0 (q _ fun φ => .int _))
  case mul =>
    split at h
    · rename_i hm
      cases h
      walk_at "w"
      refine p_mul' hm ?_
      walk_at "w"
      exact sl_brought (conv0 (q _ fun φ => .int _))
    · cases h
  case lt.refl =>
    walk_at "w"
    exact conv0 (q _ fun φ => .bl _)
  case eq.refl =>
    walk_at "w"
    exact conv0 (q _ fun φ => .bl _)
  case div =>
    split at h
    · cases h
    · rename_i hz
      split at h
      · rename_i hn
        cases h
        walk_at "w"
        refine p_fdiv' ⟨hz, hn⟩ ?_
        walk_at "w"
        exact sl_brought (conv0 (q _ fun φ => .int _))
      · cases h
  case rem =>
    split at h
    · cases h
    · rename_i hz
      cases h
      walk_at "w"
      refine p_fdiv' ⟨hz, by omega⟩ ?_
      walk_at "w"
      refine p_mul' (mulOk_right (by omega)) ?_
      walk_at "w"
      have e : a - a.fdiv b * b = a.fmod b := by have := Int.fmod_add_fdiv_mul a b; omega
      rw [e]
      exact conv0 (q _ fun φ => .int _)
theorem sl_and {a b : Bool} (q : Q (.bl (a && b)) H) : WP B (callN G fuel (d + 2) f_l_two [.str Op.and.s, .bl a, .bl b]) H Q := by
  walk_at "in"
  walk_at "w"
  refine ⟨fun h => ?_, fun h => ?_⟩ <;> subst h <;> walk_at "w" <;> exact conv0 q
theorem sl_or {a b : Bool} (q : Q (.bl (a || b)) H) : WP B (callN G fuel (d + 2) f_l_two [.str Op.or.s, .bl a, .bl b]) H Q := by
  walk_at "in"
  walk_at "w"
  refine ⟨fun h => ?_, fun h => ?_⟩ <;> subst h <;> walk_at "w" <;> exact conv0 q
end
section
variable {B H R R' : HL} {d : Nat} {Q : Val → HL → Prop}
theorem sl_frame {m : Mid} {nm : PySem.Str} {g : Fun} {k : Block} {vs : List MV} {ws : List Val} {φ : List Nat} {tg : Option Int} {p : Nat} (hg : (m.funs.find? fun g => decide (g.name = nm)) = some g) (hb : g.blocks[0]? = some k) (h1 : Rels φ vs ws) (h3 : k.params.length ≤ 900000) (hm : m.funs.length ≤ 1000) (hl : Sub H [(p, .lst ws)] R')
    (q : ∀ o w kvs', EnvR φ (binds [] k.params vs) kvs' → Q (.ref o) ((o, frD ⟨g.blocks, binds [] k.params vs, tg, k, 0⟩ 0 w) :: (w, .dK kvs') :: H)) :
    WP B (callN G fuel (d + 1) f_l_frame [m.v, .str nm, .ref p, oI tg]) H Q := by
  have hb' : L2.atI (g.blocks.map Block.v) 0 = some k.v := atI_nat (i := 0) (by rw [List.getElem?_map, hb]; rfl)
  obtain ⟨rs, hrs⟩ := filt_first hg
  walk_at "in"
  unfold Mid.v
  walk_at "w"
  rename_i D
  refine lc_pure (fun v => if nameIs nm v then some v else none) H _ [] (fun y hy => ?_) sees_nil (by simp; omega) ?_
  · obtain ⟨f, hf, rfl⟩ := List.mem_map.mp hy
    refine ⟨_, rfl, fun zs => ?_⟩
    walk_at "w"
    have hn : nameIs nm f.v = decide (f.name = nm) := rfl
    rw [hn]
    refine br_dec (fun h => ?_) fun h => ?_
    · rw [if_pos (decide_eq_true h)]
      walk_at "w"
      rfl
    · rw [if_neg (by rw [decide_eq_false h]; exact Bool.false_ne_true)]
  have ef : (m.funs.map Fun.v).filterMap (fun v => if nameIs nm v then some v else none) = g.v :: rs := by
    rw [← hrs]
    induction (m.funs.map Fun.v) with
    | nil => rfl
    | cons a b ih =>
      rw [List.filterMap_cons, List.filter_cons]
      cases nameIs nm a with
      | true => simp [ih]
      | false => simpa using ih
  rw [List.nil_append, ef]
  walk_at "w"
  rename_i w
  refine x_tup hb' ?_
  walk_at "w"
  refine ⟨_, _, its_tup, its_lst (sub_cons (sub_cons hl)), ?_⟩
  refine fr_loop (R := (D, .lst (g.v :: rs)) :: H) k.params vs ws [] [] _ _ h1 .nil (by simpa using h3) (fun kvs' i ys h => .inl (by
    cases List.mem_singleton.mp h
    exact List.mem_cons_of_mem _ (List.mem_cons_of_mem _ ((List.Perm.mem_iff hl).mpr (by simp))))) fun a b kvs' h => ?_
  walk_at "w"
  rename_i o
  show Conv Q (.ref o) ((o, frD ⟨g.blocks, binds [] k.params vs, tg, k, 0⟩ 0 w) :: (w, .dK kvs') :: (D, .lst (g.v :: rs)) :: H)
  exact conv (K := (o, frD ⟨g.blocks, binds [] k.params vs, tg, k, 0⟩ 0 w) :: (w, .dK kvs') :: H) (by walk_at "subs") (q o w kvs' h)
theorem Br.swap {k : Bool} {P Q : Prop} (h : Br k P Q) : Br (!k) Q P := ⟨fun e => h.2 (by simpa using e), fun e => h.1 (by simpa using e)⟩
def fltV (line : Int) : Act → Val
  | .fault w => .tup [.str "fault", .str w, .int line]
  | _ => .non
theorem sl_fault {x : Option Int} {kd : Option Kd} {args : List Int} {line : Int} {op : Op} {more : More} {vs : List MV} {ws : List Val} {ts : List Thing} {φ : List Nat} {T X : HL} {a : Act} {p : Nat} (h : actO ts op more vs = some a) (hr : Rels φ vs ws) (hT : ThL φ φ ts T) (hs : Sub H T X) (hp : Sub H [(p, .lst ws)] R) (q : Q (fltV line a) H) :
    WP B (callN G fuel (d + 1) f_l_fault [Row.v ⟨x, kd, op, args, more, line⟩, .ref p]) H Q := by
  walk_at "in"
  cases op <;> simp only [actO] at h
  case div =>
    obtain ⟨rfl, i, j, rfl, h2⟩ := act2_inv h
    obtain ⟨w, z, rfl, hw, hz⟩ := rels2 hr
    cases rel_int hw
    cases rel_int hz
    walk_at "w"
    simp only [two] at h2
    refine br_dec (fun e => ?_) fun e => ?_
    · rw [if_pos e] at h2; cases h2
      walk_at "w"
      exact conv0 q
    · rw [if_neg e] at h2
      split at h2 <;> cases h2
      walk_at "w"
      exact conv0 q
  case rem =>
    obtain ⟨rfl, i, j, rfl, h2⟩ := act2_inv h
    obtain ⟨w, z, rfl, hw, hz⟩ := rels2 hr
    cases rel_int hw
    cases rel_int hz
    walk_at "w"
    simp only [two] at h2
    refine br_dec (fun e => ?_) fun e => ?_
    · rw [if_pos e] at h2; cases h2
      walk_at "w"
      exact conv0 q
    · rw [if_neg e] at h2
      cases h2
      walk_at "w"
      exact conv0 q
  case get =>
    split at h
    · obtain ⟨us, e, h⟩ := onCells_inv h
      obtain ⟨w, y, rfl, hw, hy⟩ := rels2 hr
      cases rel_int hy
      obtain ⟨o, rfl, ho⟩ := rel_ref hw
      obtain ⟨l, xs, R1, R2, r, u1, u2⟩ := tl_cells hs hT e ho
      rename_i n i
      have hlen := r.length
      walk_at "w"
      refine br_dec (fun e1 => ?_) fun e1 => ?_
      · walk_at "w"
        refine Br.swap (br_dec (fun e2 => ?_) fun e2 => ?_)
        · rw [if_pos ⟨e1, by omega⟩] at h
          obtain ⟨v, hv, rfl⟩ := Option.map_eq_some_iff.mp h
          walk_at "w"
          exact conv0 q
        · rw [if_neg (fun z => e2 (by omega))] at h
          cases h
          walk_at "w"
          exact conv0 q
      · rw [if_neg (fun z => e1 z.1)] at h
        cases h
        walk_at "w"
        exact conv0 q
    · cases h
  case set =>
    split at h
    · obtain ⟨us, e, h⟩ := onCells_inv h
      obtain ⟨w, y, z, rfl, hw, hy, hz⟩ := rels3 hr
      cases rel_int hy
      obtain ⟨o, rfl, ho⟩ := rel_ref hw
      obtain ⟨l, xs, R1, R2, r, u1, u2⟩ := tl_cells hs hT e ho
      have hlen := r.length
      walk_at "w"
      refine br_dec (fun e1 => ?_) fun e1 => ?_
      · walk_at "w"
        refine Br.swap (br_dec (fun e2 => ?_) fun e2 => ?_)
        · rw [if_pos ⟨e1, by omega⟩] at h
          cases h
          walk_at "w"
          exact conv0 q
        · rw [if_neg (fun z => e2 (by omega))] at h
          cases h
          walk_at "w"
          exact conv0 q
      · rw [if_neg (fun z => e1 z.1)] at h
        cases h
        walk_at "w"
        exact conv0 q
    · cases h
  case fill =>
    split at h
    · obtain ⟨w, y, rfl, hw, hy⟩ := rels2 hr
      cases rel_int hw
      walk_at "w"
      refine br_dec (fun e1 => ?_) fun e1 => ?_
      · walk_at "w"
        refine Br.swap (br_dec (fun e2 => ?_) fun e2 => ?_)
        · rw [if_pos ⟨e1, e2⟩] at h
          cases h
          walk_at "w"
          exact conv0 q
        · rw [if_neg (fun z => e2 z.2)] at h
          cases h
          walk_at "w"
          exact conv0 q
      · rw [if_neg (fun z => e1 z.1)] at h
        cases h
        walk_at "w"
        exact conv0 q
    · cases h
  case number => split at h <;> cases h; walk_at "w"; exact conv0 q
  case truth => split at h <;> cases h; walk_at "w"; exact conv0 q
  case not => split at h <;> cases h; walk_at "w"; exact conv0 q
  case and => split at h <;> cases h; walk_at "w"; exact conv0 q
  case or => split at h <;> cases h; walk_at "w"; exact conv0 q
  case close => split at h <;> cases h; walk_at "w"; exact conv0 q
  case make => split at h <;> cases h; walk_at "w"; exact conv0 q
  case call => split at h <;> cases h; walk_at "w"; exact conv0 q
  case tell => split at h <;> cases h; walk_at "w"; exact conv0 q
  case tick => split at h <;> cases h; walk_at "w"; exact conv0 q
  case long =>
    split at h
    · obtain ⟨us, e, h⟩ := onCells_inv h
      cases h
      walk_at "w"; exact conv0 q
    · cases h
  case cell =>
    split at h
    · obtain ⟨us, e, h⟩ := onCells_inv h
      split at h
      · obtain ⟨v, hv, rfl⟩ := Option.map_eq_some_iff.mp h
        walk_at "w"; exact conv0 q
      · cases h
    · cases h
  case store =>
    split at h
    · obtain ⟨us, e, h⟩ := onCells_inv h
      split at h <;> cases h
      walk_at "w"; exact conv0 q
    · cases h
  case ask =>
    split at h
    · split at h <;> cases h
      walk_at "w"; exact conv0 q
    · cases h
  all_goals
    obtain ⟨rfl, i, j, rfl, h2⟩ := act2_inv h
    simp only [two] at h2
    first
      | (cases h2; walk_at "w"; exact conv0 q)
      | (split at h2 <;> cases h2; walk_at "w"; exact conv0 q)
end
section
variable {B H R R' : HL} {d : Nat} {Q : Val → HL → Prop}
def ToldL (φ : List Nat) (H : HL) (Q : Val → HL → Prop) : Act → Prop
  | .give v => ∀ w, Rel φ v w → Q w H
  | .new (.cells vs) => ∀ o l ws, Rels φ vs ws → Q (.ref o) ((o, celD l) :: (l, .lst ws) :: H)
  | .new (.clo f vs) => ∀ o l ws, Rels φ vs ws → Q (.ref o) ((o, cloD f l) :: (l, .lst ws) :: H)
  | _ => False
theorem ToldL.mono {φ : List Nat} {H : HL} {P Q : Val → HL → Prop} {a : Act} (h : ToldL φ H P a) (k : ∀ u K, P u K → Q u K) : ToldL φ H Q a := by
  cases a with
  | give v => exact fun w hw => k _ _ (h w hw)
  | new t =>
    cases t with
    | cells vs => exact fun o l ws hr => k _ _ (h o l ws hr)
    | clo f vs => exact fun o l ws hr => k _ _ (h o l ws hr)
  | _ => exact h.elim
theorem sl_worth {x : Option Int} {kd : Option Kd} {args : List Int} {line : Int} {op : Op} {more : More} {vs : List MV} {ws : List Val} {ts : List Thing} {φ : List Nat} {T X : HL} {a : Act} {p : Nat} (h : actO ts op more vs = some a) (hn : ∀ v ∈ vs, ∀ i, v = .int i → Md.Num i) (hr : Rels φ vs ws) (hT : ThL φ φ ts T) (hs : Sub H T X) (hp : Sub H [(p, .lst ws)] R) (hq : ToldL φ H Q a) :
    WP B (callN G fuel (d + 3) f_l_worth [Row.v ⟨x, kd, op, args, more, line⟩, .ref p]) H Q := by
  walk_at "in"
  cases op <;> simp only [actO] at h
  case number =>
    split at h
    · cases h
      walk_at "w"
      exact conv0 (hq _ (.int _))
    · cases h
  case truth =>
    split at h
    · cases h
      walk_at "w"
      exact conv0 (hq _ (.bl _))
    · cases h
  case not =>
    split at h
    · cases h
      obtain ⟨w, rfl, hw⟩ := rels1 hr
      cases rel_bl hw
      walk_at "w"
      exact conv0 (hq _ (.bl _))
    · cases h
  case and =>
    split at h
    · cases h
      obtain ⟨w, x, rfl, hw, hx⟩ := rels2 hr
      cases rel_bl hw; cases rel_bl hx
      walk_at "w"
      exact sl_and (conv0 (hq _ (.bl _)))
    · cases h
  case or =>
    split at h
    · cases h
      obtain ⟨w, x, rfl, hw, hx⟩ := rels2 hr
      cases rel_bl hw; cases rel_bl hx
      walk_at "w"
      exact sl_or (conv0 (hq _ (.bl _)))
    · cases h
  case long =>
    split at h
    · obtain ⟨us, e, h⟩ := onCells_inv h
      cases h
      obtain ⟨w, rfl, hw⟩ := rels1 hr
      obtain ⟨o, rfl, ho⟩ := rel_ref hw
      obtain ⟨l, xs, R1, R2, r, u1, u2⟩ := tl_cells hs hT e ho
      walk_at "w"
      refine conv0 (hq _ ?_)
      rw [r.length]; exact .int _
    · cases h
  case close =>
    split at h
    · cases h
      walk_at "w"
      rename_i o l
      show Conv Q (.ref o) ((l, .lst ws) :: (o, cloD _ l) :: H)
      exact conv_perm (.swap _ _ _) (hq _ _ _ hr)
    · cases h
  case make =>
    split at h
    · cases h
      walk_at "w"
      rename_i o l
      show Conv Q (.ref o) ((l, .lst ws) :: (o, celD l) :: H)
      exact conv_perm (.swap _ _ _) (hq _ _ _ hr)
    · cases h
  case cell =>
    split at h
    · obtain ⟨us, e, h⟩ := onCells_inv h
      split at h
      · rename_i hk
        obtain ⟨v, hv, rfl⟩ := Option.map_eq_some_iff.mp h
        obtain ⟨w, rfl, hw⟩ := rels1 hr
        obtain ⟨o, rfl, ho⟩ := rel_ref hw
        obtain ⟨l, xs, R1, R2, r, u1, u2⟩ := tl_cells hs hT e ho
        obtain ⟨x, hx, rx⟩ := r.get hv
        walk_at "w"
        refine x_lst u2 (atI_int hk hx) ?_
        exact conv0 (hq _ rx)
      · cases h
    · cases h
  case get =>
    split at h
    · obtain ⟨us, e, h⟩ := onCells_inv h
      split at h
      · rename_i hk
        obtain ⟨v, hv, rfl⟩ := Option.map_eq_some_iff.mp h
        obtain ⟨w, y, rfl, hw, hy⟩ := rels2 hr
        cases rel_int hy
        obtain ⟨o, rfl, ho⟩ := rel_ref hw
        obtain ⟨l, xs, R1, R2, r, u1, u2⟩ := tl_cells hs hT e ho
        obtain ⟨x, hx, rx⟩ := r.get hv
        walk_at "w"
        refine x_lst u2 (atI_int hk.1 hx) ?_
        exact conv0 (hq _ rx)
      · cases h; exact hq.elim
    · cases h
  case fill =>
    split at h
    · cases h
      split at hq
      · rename_i hk
        obtain ⟨w, y, rfl, hw, hy⟩ := rels2 hr
        cases rel_int hw
        walk_at "w"
        refine p_mull' sub_one ?_ fun b => ?_
        · unfold repOk
          simp only [Bool.and_eq_true, decide_eq_true_eq]
          exact ⟨⟨by omega, by omega⟩, fits_small (by simp; omega)⟩
        rw [rep_one]
        walk_at "w"
        rename_i o b1
        show Conv Q (.ref o) ((b, .lst (List.replicate _ y)) :: (b1, .lst [y]) :: (o, celD b) :: H)
        exact conv (K := (o, celD b) :: (b, .lst (List.replicate _ y)) :: H) (by walk_at "subs") (hq _ _ _ (Rels.rep _ hy))
      · exact hq.elim
    · cases h
  case set =>
    split at h
    · obtain ⟨us, e, h⟩ := onCells_inv h
      cases h
      split at hq <;> exact hq.elim
    · cases h
  case store =>
    split at h
    · obtain ⟨us, e, h⟩ := onCells_inv h
      split at h
      · cases h; exact hq.elim
      · cases h
    · cases h
  case call => split at h <;> cases h; exact hq.elim
  case ask =>
    split at h
    · split at h <;> cases h; exact hq.elim
    · cases h
  case tell => split at h <;> cases h; exact hq.elim
  case tick => split at h <;> cases h; exact hq.elim
  all_goals
    obtain ⟨rfl, x, y, rfl, h2⟩ := act2_inv h
    obtain ⟨w, z, rfl, hw, hz⟩ := rels2 hr
    cases rel_int hw
    cases rel_int hz
    cases a with
    | give v =>
      walk_at "w"
      refine sl_worked h2 (hn _ (by simp) _ rfl) (hn _ (by simp) _ rfl) fun w hw => conv0 (hq _ (hw φ))
    | new t => exact (two_new h2).elim
    | _ => exact hq.elim
end
section
variable {B H R R' : HL} {d : Nat} {Q : Val → HL → Prop}
/-- the law's run's state in the heap, and how a step ended -/
def RepL (m : Mid) (s : MS) (out : Option Out) (r t : Nat) (v : Val) (H : HL) : Prop := ∃ fl os φ tw FT TT tk, Rels φ s.told tw ∧ FrsL φ s.frames os FT ∧ ThL φ φ s.things TT ∧ OutR φ out v ∧ (out = none → tk = s.ticks) ∧ H = (r, runD m t fl tk) :: (t, .lst tw) :: (fl, .lst (os.reverse.map .ref)) :: (FT ++ TT)
theorem repl_of {m : Mid} {s : MS} {out : Option Out} {r t fl o w i : Nat} {os : List Nat} {φ : List Nat} {tw : List Val} {kvs : List (L2.Key × Val)} {FT TT : HL} {fr : Fr} {rest : List Fr} {v : Val} {tk : Int} (h1 : Rels φ s.told tw) (h2 : FrsL φ rest os FT) (h3 : ThL φ φ s.things TT) (h4 : EnvR φ fr.env kvs) (hb : fr.blocks[i]? = some fr.block) (ho : OutR φ out v) (ht : out = none → tk = s.ticks) :
    RepL m { s with frames := fr :: rest } out r t v ((r, runD m t fl tk) :: (t, .lst tw) :: (fl, .lst ((o :: os).reverse.map .ref)) :: (o, frD fr i w) :: (w, .dK kvs) :: (FT ++ TT)) :=
  ⟨fl, o :: os, φ, tw, (o, frD fr i w) :: (w, .dK kvs) :: FT, TT, tk, h1, .cons h4 hb h2, h3, ho, ht, rfl⟩
theorem rev_map (o : Nat) (os : List Nat) : (o :: os).reverse.map Val.ref = os.reverse.map Val.ref ++ [.ref o] := by simp
theorem sl_change {m : Mid} {s s' : MS} {out : Option Out} {r t fl o w i p : Nat} {os : List Nat} {φ : List Nat} {tw : List Val} {kvs : List (L2.Key × Val)} {FT TT : HL} {fr : Fr} {rest : List Fr} {row : Row} {vs : List MV} {ws : List Val} {a : Act}
    (h1 : Rels φ s.told tw) (h2 : FrsL φ rest os FT) (h3 : ThL φ φ s.things TT) (h4 : EnvR φ fr.env kvs) (hb : fr.blocks[i]? = some fr.block) (hr : Rels φ vs ws) (hn : ∀ v ∈ vs, ∀ i, v = .int i → Md.Num i) (ha : actO s.things row.op row.more vs = some a) (hnf : ∀ w, a ≠ .fault w) (hnt : row.op ≠ .tick) (hd : actDo m s fr rest row.x row.line a = some (s', out))
    (b2 : tw.length < 1000000) (b3 : os.length + 1 < 1000000) (b4 : kvs.length < 1000000) (b6 : vs.length ≤ 100000) (b7 : ∀ (n : Nat) f us, s.things[n]? = some (.clo f us) → us.length ≤ 100000) (b5 : ∀ g ∈ m.funs, ∀ k ∈ g.blocks, k.params.length ≤ 900000) (b8 : m.funs.length ≤ 1000)
    (hH : H = (p, .lst ws) :: (r, runD m t fl s.ticks) :: (t, .lst tw) :: (fl, .lst ((o :: os).reverse.map .ref)) :: (o, frD fr i w) :: (w, .dK kvs) :: (FT ++ TT)) :
    WP B (callN G fuel (d + 4) f_l_change [.ref r, row.v, .ref p]) H (fun v K => v = .non ∧ out = none ∧ RepL m s' none r t .non K) := by
  subst hH
  obtain ⟨x, kd, op, args, more, line⟩ := row
  have hT : Sub (FT ++ TT) TT FT := List.perm_append_comm
  walk_at "in"
  walk_at "w"
  have fin : (∃ v, a = .give v) ∨ (∃ th, a = .new th) → ToldL φ ((p, .lst ws) :: (r, runD m t fl s.ticks) :: (t, .lst tw) :: (fl, .lst ((o :: os).reverse.map .ref)) :: (o, frD fr i w) :: (w, .dK kvs) :: (FT ++ TT))
      (fun u K => ∃ (y : Int) (R1 R2 R3 K' : HL), x = some y ∧ Sub K [(r, runD m t fl s.ticks)] R1 ∧ Sub K [(fl, .lst ((o :: os).reverse.map .ref))] R2 ∧ Sub K [(o, frD fr i w)] R3 ∧ Upd K w (.dK kvs) (.dK (CL.put kvs (.inl y) u)) K' ∧ Conv (fun (v : Val) K => v = Val.non ∧ out = none ∧ RepL m s' none r t Val.non K) Val.non K') a := by
    intro hg
    cases x with
    | none => rcases hg with ⟨v, rfl⟩ | ⟨th, rfl⟩ <;> (simp only [actDo] at hd; cases hd)
    | some y =>
      rcases hg with ⟨v, rfl⟩ | ⟨th, rfl⟩
      · simp only [actDo] at hd
        cases hd
        intro u hu
        refine ⟨y, _, _, _, _, rfl, by walk_at "sub", by walk_at "sub", by walk_at "sub", by walk_at "upd", conv (K := (r, runD m t fl s.ticks) :: (t, .lst tw) :: (fl, .lst ((o :: os).reverse.map .ref)) :: (o, frD fr i w) :: (w, .dK _) :: (FT ++ TT)) (by walk_at "subs") ⟨rfl, rfl, fl, o :: os, φ, tw, (o, frD fr i w) :: (w, .dK _) :: FT, TT, _, h1, .cons (h4.put y hu) hb h2, h3, rfl, fun _ => rfl, rfl⟩⟩
      · simp only [actDo] at hd
        cases hd
        cases th with
        | cells us =>
          intro o' l zs hz
          refine ⟨y, _, _, _, _, rfl, by walk_at "sub", by walk_at "sub", by walk_at "sub", by walk_at "upd", conv (K := (r, runD m t fl s.ticks) :: (t, .lst tw) :: (fl, .lst ((o :: os).reverse.map .ref)) :: (o, frD fr i w) :: (w, .dK _) :: (FT ++ (TT ++ [(o', celD l), (l, .lst zs)]))) (sub_add s3 (sub_add s3 (sub_add s3 (sub_add s3 (sub_add s3 sub_tail))))) ⟨rfl, rfl, fl, o :: os, φ ++ [o'], tw, (o, frD fr i w) :: (w, .dK _) :: FT, TT ++ [(o', celD l), (l, .lst zs)], _, h1.up, .cons (h4.up.put y (rel_new h3.len)) hb h2.up, h3.up.snocC hz.up, rfl, fun _ => rfl, rfl⟩⟩
        | clo f us =>
          intro o' l zs hz
          refine ⟨y, _, _, _, _, rfl, by walk_at "sub", by walk_at "sub", by walk_at "sub", by walk_at "upd", conv (K := (r, runD m t fl s.ticks) :: (t, .lst tw) :: (fl, .lst ((o :: os).reverse.map .ref)) :: (o, frD fr i w) :: (w, .dK _) :: (FT ++ (TT ++ [(o', cloD f l), (l, .lst zs)]))) (sub_add s3 (sub_add s3 (sub_add s3 (sub_add s3 (sub_add s3 sub_tail))))) ⟨rfl, rfl, fl, o :: os, φ ++ [o'], tw, (o, frD fr i w) :: (w, .dK _) :: FT, TT ++ [(o', cloD f l), (l, .lst zs)], _, h1.up, .cons (h4.up.put y (rel_new h3.len)) hb h2.up, h3.up.snocF hz.up, rfl, fun _ => rfl, rfl⟩⟩
  have give2 : ∀ op', op' = .add ∨ op' = .sub ∨ op' = .mul ∨ op' = .lt ∨ op' = .eq ∨ op' = .div ∨ op' = .rem → actO s.things op' more vs = some a → (∃ v, a = .give v) ∨ (∃ th, a = .new th) := by
    intro op' hop h
    have h : act2 op' more vs = some a := by rcases hop with rfl | rfl | rfl | rfl | rfl | rfl | rfl <;> exact h
    obtain ⟨rfl, i, j, rfl, h2⟩ := act2_inv h
    rcases hop with rfl | rfl | rfl | rfl | rfl | rfl | rfl <;> simp only [two] at h2
    · cases h2; exact .inl ⟨_, rfl⟩
    · cases h2; exact .inl ⟨_, rfl⟩
    · split at h2 <;> cases h2; exact .inl ⟨_, rfl⟩
    · cases h2; exact .inl ⟨_, rfl⟩
    · cases h2; exact .inl ⟨_, rfl⟩
    · split at h2
      · cases h2; exact absurd rfl (hnf _)
      · split at h2 <;> cases h2; exact .inl ⟨_, rfl⟩
    · split at h2
      · cases h2; exact absurd rfl (hnf _)
      · cases h2; exact .inl ⟨_, rfl⟩
  cases op
  case tick => exact absurd rfl hnt
  case tell =>
    simp only [actO] at ha
    split at ha
    · cases ha
      simp only [actDo] at hd
      cases hd
      obtain ⟨w1, rfl, hw1⟩ := rels1 hr
      walk_at "w"
      refine m_app (by walk_at "upd") b2 ?_
      walk_at "w"
      exact conv (by walk_at "subs") ⟨rfl, rfl, repl_of (s := { s with told := s.told ++ [_] }) (h1.append (.cons hw1 .nil)) h2 h3 h4 hb rfl fun _ => rfl⟩
    · cases ha
  case set =>
    simp only [actO] at ha
    split at ha
    · rename_i n j v0
      obtain ⟨us, e, ha⟩ := onCells_inv ha
      obtain ⟨w1, y1, z1, rfl, hw1, hy1, hz1⟩ := rels3 hr
      cases rel_int hy1
      obtain ⟨ob, rfl, ho⟩ := rel_ref hw1
      have hj : 0 ≤ j ∧ j < us.length := by
        refine Decidable.byContradiction fun z => ?_
        rw [if_neg z] at ha
        cases ha
        exact hnf _ rfl
      rw [if_pos hj] at ha
      cases ha
      simp only [actDo] at hd
      cases hd
      obtain ⟨l, xs, R0, rr, pe, up⟩ := h3.getC e ho
      have hlen := rr.length
      have pm : ((p, Ob.lst [.ref ob, .int j, z1]) :: (r, runD m t fl s.ticks) :: (t, .lst tw) :: (fl, .lst ((o :: os).reverse.map .ref)) :: (o, frD fr i w) :: (w, .dK kvs) :: (FT ++ TT)).Perm
          ((l, .lst xs) :: ((p, Ob.lst [.ref ob, .int j, z1]) :: (r, runD m t fl s.ticks) :: (t, .lst tw) :: (fl, .lst ((o :: os).reverse.map .ref)) :: (o, frD fr i w) :: (w, .dK kvs) :: (FT ++ ((ob, celD l) :: R0)))) :=
        (List.Perm.symm (List.perm_middle.symm.trans ((List.perm_middle.symm.trans ((((List.Perm.swap _ _ _).trans pe.symm).append_left FT))).append_left [_, _, _, _, _, _])))
      have pt : (FT ++ TT).Perm ((ob, celD l) :: (l, .lst xs) :: (FT ++ R0)) := ((pe.append_left FT).trans List.perm_middle).trans (List.perm_middle.cons _)
      have v1 : Sub ((p, Ob.lst [.ref ob, .int j, z1]) :: (r, runD m t fl s.ticks) :: (t, .lst tw) :: (fl, .lst ((o :: os).reverse.map .ref)) :: (o, frD fr i w) :: (w, .dK kvs) :: (FT ++ TT)) [(ob, celD l)] _ := sub_cons (sub_cons (sub_cons (sub_cons (sub_cons (sub_cons pt)))))
      walk_at "w"
      refine y_sub pm (ixN_int (by omega)) ?_
      walk_at "w"
      obtain ⟨T', g1, g2⟩ := up _ _ (rr.set j.toNat hz1)
      exact conv (K := (r, runD m t fl s.ticks) :: (t, .lst tw) :: (fl, .lst ((o :: os).reverse.map .ref)) :: (o, frD fr i w) :: (w, .dK kvs) :: (FT ++ T')) (sub_add (sub_cons (sub_cons sub_one)) (sub_add (sub_cons (sub_cons sub_one)) (sub_add (sub_cons (sub_cons sub_one)) (sub_add (sub_cons (sub_cons sub_one)) (sub_add (sub_cons (sub_cons sub_one)) (sub_th (Ps := [_]) g2)))))) ⟨rfl, rfl, repl_of (s := { s with things := s.things.set n _ }) h1 h2 g1 h4 hb rfl fun _ => rfl⟩
    · cases ha
  case store =>
    simp only [actO] at ha
    split at ha
    · rename_i k n v0
      obtain ⟨us, e, ha⟩ := onCells_inv ha
      obtain ⟨w1, z1, rfl, hw1, hz1⟩ := rels2 hr
      obtain ⟨ob, rfl, ho⟩ := rel_ref hw1
      split at ha
      · rename_i hj
        cases ha
        simp only [actDo] at hd
        cases hd
        obtain ⟨l, xs, R0, rr, pe, up⟩ := h3.getC e ho
        have hlen := rr.length
        have pm : ((p, Ob.lst [.ref ob, z1]) :: (r, runD m t fl s.ticks) :: (t, .lst tw) :: (fl, .lst ((o :: os).reverse.map .ref)) :: (o, frD fr i w) :: (w, .dK kvs) :: (FT ++ TT)).Perm
            ((l, .lst xs) :: ((p, Ob.lst [.ref ob, z1]) :: (r, runD m t fl s.ticks) :: (t, .lst tw) :: (fl, .lst ((o :: os).reverse.map .ref)) :: (o, frD fr i w) :: (w, .dK kvs) :: (FT ++ ((ob, celD l) :: R0)))) :=
          (List.Perm.symm (List.perm_middle.symm.trans ((List.perm_middle.symm.trans ((((List.Perm.swap _ _ _).trans pe.symm).append_left FT))).append_left [_, _, _, _, _, _])))
        have pt : (FT ++ TT).Perm ((ob, celD l) :: (l, .lst xs) :: (FT ++ R0)) := ((pe.append_left FT).trans List.perm_middle).trans (List.perm_middle.cons _)
        have v1 : Sub ((p, Ob.lst [.ref ob, z1]) :: (r, runD m t fl s.ticks) :: (t, .lst tw) :: (fl, .lst ((o :: os).reverse.map .ref)) :: (o, frD fr i w) :: (w, .dK kvs) :: (FT ++ TT)) [(ob, celD l)] _ := sub_cons (sub_cons (sub_cons (sub_cons (sub_cons (sub_cons pt)))))
        walk_at "w"
        refine y_sub pm (ixN_int (by omega)) ?_
        walk_at "w"
        obtain ⟨T', g1, g2⟩ := up _ _ (rr.set k.toNat hz1)
        exact conv (K := (r, runD m t fl s.ticks) :: (t, .lst tw) :: (fl, .lst ((o :: os).reverse.map .ref)) :: (o, frD fr i w) :: (w, .dK kvs) :: (FT ++ T')) (sub_add (sub_cons (sub_cons sub_one)) (sub_add (sub_cons (sub_cons sub_one)) (sub_add (sub_cons (sub_cons sub_one)) (sub_add (sub_cons (sub_cons sub_one)) (sub_add (sub_cons (sub_cons sub_one)) (sub_th (Ps := [_]) g2)))))) ⟨rfl, rfl, repl_of (s := { s with things := s.things.set n _ }) h1 h2 g1 h4 hb rfl fun _ => rfl⟩
      · cases ha
    · cases ha
  case call =>
    simp only [actO] at ha
    split at ha
    · rename_i f
      cases ha
      simp only [actDo] at hd
      obtain ⟨g, hg, he⟩ := Option.map_eq_some_iff.mp hd
      cases he
      unfold begin_ at hg
      split at hg
      · rename_i g0 eg
        split at hg
        · rename_i k0 ek
          cases hg
          walk_at "w"
          refine sl_frame eg ek hr (b5 _ (List.mem_of_find?_eq_some eg) _ (List.mem_of_getElem? ek)) b8 (by walk_at "sub") fun o' w' kvs' hk => ?_
          walk_at "w"
          refine m_app (by walk_at "upd") (by simpa using b3) ?_
          walk_at "w"
          refine conv (K := (r, runD m t fl s.ticks) :: (t, .lst tw) :: (fl, .lst ((o' :: o :: os).reverse.map .ref)) :: (o', frD ⟨g0.blocks, binds [] k0.params vs, x, k0, 0⟩ 0 w') :: (w', .dK kvs') :: (o, frD fr i w) :: (w, .dK kvs) :: (FT ++ TT)) (by rw [rev_map o' (o :: os)]; walk_at "subs") ⟨rfl, rfl, fl, o' :: o :: os, φ, tw, (o', frD ⟨g0.blocks, binds [] k0.params vs, x, k0, 0⟩ 0 w') :: (w', .dK kvs') :: (o, frD fr i w) :: (w, .dK kvs) :: FT, TT, _, h1, .cons hk ek (.cons h4 hb h2), h3, rfl, fun _ => rfl, rfl⟩
        · cases hg
      · cases hg
    · cases ha
  case ask =>
    simp only [actO] at ha
    split at ha
    · rename_i n us
      split at ha
      · rename_i f vs0 et
        cases ha
        simp only [actDo] at hd
        obtain ⟨g, hg, he⟩ := Option.map_eq_some_iff.mp hd
        cases he
        unfold begin_ at hg
        split at hg
        · rename_i g0 eg
          split at hg
          · rename_i k0 ek
            cases hg
            cases hr with
            | cons hh hr2 =>
            rename_i w1 ws2
            obtain ⟨ob, rfl, ho⟩ := rel_ref hh
            obtain ⟨l, xs, R0, rr, pe⟩ := h3.getF et ho
            have pt : (FT ++ TT).Perm ((ob, cloD f l) :: (l, .lst xs) :: (FT ++ R0)) := ((pe.append_left FT).trans List.perm_middle).trans (List.perm_middle.cons _)
            have v1 : Sub ((p, .lst (.ref ob :: ws2)) :: (r, runD m t fl s.ticks) :: (t, .lst tw) :: (fl, .lst ((o :: os).reverse.map .ref)) :: (o, frD fr i w) :: (w, .dK kvs) :: (FT ++ TT)) [(ob, cloD f l)] _ := sub_cons (sub_cons (sub_cons (sub_cons (sub_cons (sub_cons pt)))))
            have v2 : Sub ((p, .lst (.ref ob :: ws2)) :: (r, runD m t fl s.ticks) :: (t, .lst tw) :: (fl, .lst ((o :: os).reverse.map .ref)) :: (o, frD fr i w) :: (w, .dK kvs) :: (FT ++ TT)) [(l, .lst xs)] _ := sub_cons (sub_cons (sub_cons (sub_cons (sub_cons (sub_cons (pt.trans (.swap _ _ _)))))))
            walk_at "w"
            rw [show cutL (Val.ref ob :: ws2) (some 1) none = ws2 from cut_from _ 1]
            refine p_addl' (sub_cons v2) sub_one (fits_small (by have := rr.length; have := hr2.length; have := b7 _ _ _ et; simp only [List.length_cons] at b6; omega)) fun p3 => ?_
            walk_at "w"
            refine sl_frame eg ek (rr.append hr2) (b5 _ (List.mem_of_find?_eq_some eg) _ (List.mem_of_getElem? ek)) b8 (by walk_at "sub") fun o' w' kvs' hk => ?_
            walk_at "w"
            refine m_app (by walk_at "upd") (by simpa using b3) ?_
            walk_at "w"
            refine conv (K := (r, runD m t fl s.ticks) :: (t, .lst tw) :: (fl, .lst ((o' :: o :: os).reverse.map .ref)) :: (o', frD ⟨g0.blocks, binds [] k0.params (vs0 ++ us), x, k0, 0⟩ 0 w') :: (w', .dK kvs') :: (o, frD fr i w) :: (w, .dK kvs) :: (FT ++ TT)) (by rw [rev_map o' (o :: os)]; walk_at "subs") ⟨rfl, rfl, fl, o' :: o :: os, φ, tw, (o', frD ⟨g0.blocks, binds [] k0.params (vs0 ++ us), x, k0, 0⟩ 0 w') :: (w', .dK kvs') :: (o, frD fr i w) :: (w, .dK kvs) :: FT, TT, _, h1, .cons hk ek (.cons h4 hb h2), h3, rfl, fun _ => rfl, rfl⟩
          · cases hg
        · cases hg
      · cases ha
    · cases ha
  all_goals
    have hg : (∃ v, a = .give v) ∨ (∃ th, a = .new th) := by
      first
        | exact give2 .add (.inl rfl) ha
        | exact give2 .sub (.inr (.inl rfl)) ha
        | exact give2 .mul (.inr (.inr (.inl rfl))) ha
        | exact give2 .lt (.inr (.inr (.inr (.inl rfl)))) ha
        | exact give2 .eq (.inr (.inr (.inr (.inr (.inl rfl))))) ha
        | exact give2 .div (.inr (.inr (.inr (.inr (.inr (.inl rfl)))))) ha
        | exact give2 .rem (.inr (.inr (.inr (.inr (.inr (.inr rfl)))))) ha
        | (simp only [actO] at ha
           split at ha
           · first
               | (cases ha; first | exact .inl ⟨_, rfl⟩ | exact .inr ⟨_, rfl⟩)
               | (obtain ⟨us, e, ha⟩ := onCells_inv ha
                  first
                    | (cases ha; exact .inl ⟨_, rfl⟩)
                    | (split at ha
                       · obtain ⟨v, _, rfl⟩ := Option.map_eq_some_iff.mp ha
                         exact .inl ⟨_, rfl⟩
                       · first | (cases ha; exact absurd rfl (hnf _)) | (cases ha; done)))
               | (split at ha
                  · cases ha; exact .inr ⟨_, rfl⟩
                  · cases ha; exact absurd rfl (hnf _))
           · cases ha)
    walk_at "w"
    refine sl_worth ha hn hr h3 (by walk_at "sub") (by walk_at "sub") ((fin hg).mono fun u K ⟨y, R1, R2, R3, K', hy, hs1, hs2, hs3, hu, hc⟩ => ?_)
    subst hy
    walk_at "w"
    rw [rev_map] at hs2
    refine x_lst hs2 atI_last ?_
    walk_at "w"
    refine y_dK hu rfl b4 ?_
    walk_at "w"
    exact hc
end
section
variable {B H R R' : HL} {d : Nat} {Q : Val → HL → Prop}
theorem op_tick {op : Op} : op.s = "tick" ↔ op = .tick := by cases op <;> simp [Op.s] <;> decide
theorem flt_non {line : Int} {a : Act} (h : ∀ w, a ≠ .fault w) : fltV line a = .non := by cases a <;> first | rfl | exact absurd rfl (h _)
theorem sl_rowd {m : Mid} {s s' : MS} {out : Option Out} {r t fl o w i : Nat} {os : List Nat} {φ : List Nat} {tw : List Val} {kvs : List (L2.Key × Val)} {FT TT : HL} {fr : Fr} {rest : List Fr} {row : Row} {vs : List MV} {a : Act}
    (h1 : Rels φ s.told tw) (h2 : FrsL φ rest os FT) (h3 : ThL φ φ s.things TT) (h4 : EnvR φ fr.env kvs) (hb : fr.blocks[i]? = some fr.block) (hv : looks fr.env row.args = some vs) (hn : ∀ v ∈ vs, ∀ i, v = .int i → Md.Num i) (ha : actO s.things row.op row.more vs = some a) (hd : actDo m s { fr with at' := fr.at' + 1 } rest row.x row.line a = some (s', out)) (htk : 0 ≤ s.ticks)
    (b1 : row.args.length ≤ 1000) (b2 : tw.length < 1000000) (b3 : os.length + 1 < 1000000) (b4 : kvs.length < 1000000) (b6 : vs.length ≤ 100000) (b7 : ∀ (n : Nat) f us, s.things[n]? = some (.clo f us) → us.length ≤ 100000) (b5 : ∀ g ∈ m.funs, ∀ k ∈ g.blocks, k.params.length ≤ 900000) (b8 : m.funs.length ≤ 1000)
    (hH : H = (r, runD m t fl s.ticks) :: (t, .lst tw) :: (fl, .lst ((o :: os).reverse.map .ref)) :: (o, frD fr i w) :: (w, .dK kvs) :: (FT ++ TT)) :
    WP B (callN G fuel (d + 5) f_l_row_done [.ref r, row.v]) H (RepL m s' out r t) := by
  subst hH
  obtain ⟨x, kd, op, args, more, line⟩ := row
  have b1 : args.length ≤ 1000 := b1
  obtain ⟨ws, hw, hr⟩ := h4.looks hv
  have hT : Sub (FT ++ TT) TT FT := List.perm_append_comm
  rw [rev_map]
  walk_at "in"
  walk_at "w"
  refine x_lst (by walk_at "sub") atI_last ?_
  walk_at "w"
  rw [← rev_map]
  refine br_dec (fun e => ?_) fun e => ?_
  · cases op_tick.mp e
    simp only [actO] at ha
    split at ha
    · cases ha
      walk_at "w"
      refine br_dec (fun e1 => ?_) fun e1 => ?_
      · simp only [actDo] at hd
        rw [if_pos (by omega)] at hd
        cases hd
        walk_at "w"
        exact conv0 (repl_of (fr := { fr with at' := fr.at' + 1 }) (tk := s.ticks - 1) h1 h2 h3 h4 hb rfl fun z => by cases z)
      · simp only [actDo] at hd
        rw [if_neg (by omega)] at hd
        cases hd
        walk_at "w"
        exact conv0 (repl_of (fr := { fr with at' := fr.at' + 1 }) (s := { s with ticks := s.ticks - 1 }) h1 h2 h3 h4 hb rfl fun z => rfl)
    · cases ha
  · have hnt : op ≠ .tick := fun z => e (op_tick.mpr z)
    walk_at "w"
    rename_i D
    refine lc_pure (lkV kvs) _ _ [] (fun y hy => ?_) sees_nil (by simp; omega) ?_
    · obtain ⟨x', hx, rfl⟩ := List.mem_map.mp hy
      refine ⟨_, rfl, fun zs => ?_⟩
      walk_at "w"
      obtain ⟨v, hv'⟩ := looksV_some hw hx
      refine x_dK (by walk_at "sub") rfl hv' ⟨rfl, hv'⟩
    rw [List.nil_append, looksV_map hw]
    walk_at "w"
    refine sl_fault ha hr h3 (by walk_at "sub") (by walk_at "sub") ?_
    walk_at "w"
    by_cases hf : ∃ wd, a = .fault wd
    · obtain ⟨wd, rfl⟩ := hf
      refine br_f rfl ?_
      walk_at "w"
      simp only [actDo] at hd
      cases hd
      show Conv _ _ ((D, .lst ws) :: (r, runD m t fl s.ticks) :: (t, .lst tw) :: (fl, .lst ((o :: os).reverse.map .ref)) :: (o, frD { fr with at' := fr.at' + 1 } i w) :: (w, .dK kvs) :: (FT ++ TT))
      exact conv (K := (r, runD m t fl s.ticks) :: (t, .lst tw) :: (fl, .lst ((o :: os).reverse.map .ref)) :: (o, frD { fr with at' := fr.at' + 1 } i w) :: (w, .dK kvs) :: (FT ++ TT)) (by walk_at "subs") (repl_of (fr := { fr with at' := fr.at' + 1 }) (tk := s.ticks) h1 h2 h3 h4 hb rfl fun z => by cases z)
    · have hnf : ∀ w, a ≠ .fault w := fun w z => hf ⟨w, z⟩
      rw [flt_non hnf]
      refine br_t rfl ?_
      walk_at "w"
      refine wp_mono (sl_change (row := ⟨x, kd, op, args, more, line⟩) (fr := { fr with at' := fr.at' + 1 }) h1 h2 h3 h4 hb hr hn ha hnf hnt hd b2 b3 b4 b6 b7 b5 b8 rfl) fun v K ⟨hv1, ho, hR⟩ => ?_
      subst hv1 ho
      walk_at "w"
      exact conv0 hR
theorem sl_endd {m : Mid} {s s' : MS} {out : Option Out} {r t fl o w i : Nat} {os : List Nat} {φ : List Nat} {tw : List Val} {kvs : List (L2.Key × Val)} {FT TT : HL} {fr : Fr} {rest : List Fr} {en : End}
    (h1 : Rels φ s.told tw) (h2 : FrsL φ rest os FT) (h3 : ThL φ φ s.things TT) (h4 : EnvR φ fr.env kvs) (hb : fr.blocks[i]? = some fr.block) (hd : endDo s fr rest en = some (s', out))
    (b1 : ∀ b args, en = .jump b args → args.length ≤ 1000) (b3 : os.length + 1 < 1000000) (b4 : ∀ f ∈ fr :: rest, ∀ k ∈ fr.blocks, f.env.length + k.params.length ≤ 900000) (hbl : 0 < fr.blocks.length) (hH : H = (r, runD m t fl s.ticks) :: (t, .lst tw) :: (fl, .lst ((o :: os).reverse.map .ref)) :: (o, frD fr i w) :: (w, .dK kvs) :: (FT ++ TT)) :
    WP B (callN G fuel (d + 5) f_l_end_done [.ref r, en.v]) H (RepL m s' out r t) := by
  subst hH
  rw [rev_map]
  walk_at "in"
  cases en with
  | fail wd l =>
    simp only [endDo] at hd
    cases hd
    walk_at "w"
    refine x_lst (by walk_at "sub") atI_last ?_
    walk_at "w"
    rw [← rev_map]
    exact conv0 (repl_of h1 h2 h3 h4 hb rfl fun z => by cases z)
  | give x =>
    simp only [endDo] at hd
    cases e1 : lookE fr.env x with
    | none => rw [e1] at hd; cases hd
    | some v =>
      rw [e1] at hd
      obtain ⟨u, hu, ru⟩ := h4.look e1
      walk_at "w"
      refine x_lst (by walk_at "sub") atI_last ?_
      walk_at "w"
      refine m_pop (v := .ref o) (by walk_at "upd") (by simp) ?_
      rw [show (os.reverse.map Val.ref ++ [Val.ref o]).dropLast = os.reverse.map Val.ref by simp]
      walk_at "w"
      rename_i E
      cases rest with
      | nil =>
        cases h2
        simp only at hd
        cases hd
        rw [show (([] : List Nat).reverse.map Val.ref) = [] from rfl]
        refine c_eqd (k := true) (fun st F sp => eq_lists (ns := []) (show st.m fl = some (.lst []) from sub_at (R := _) (by walk_at "sub") sp) (show st.m E = some (.lst []) from sub_at (R := _) (by walk_at "sub") sp)) ?_
        walk_at "w"
        refine x_dK (by walk_at "sub") rfl hu ?_
        walk_at "w"
        exact conv (K := (r, runD m t fl s.ticks) :: (t, .lst tw) :: (fl, .lst []) :: ([] ++ TT)) (by walk_at "subs") ⟨fl, [], φ, tw, [], TT, s.ticks, h1, .nil, h3, ⟨u, rfl, ru⟩, fun z => (by cases z), rfl⟩
      | cons g gs =>
        cases h2 with
        | cons hg hgb hgs =>
        rename_i kg og wg ig ogs TG
        simp only at hd
        cases et : fr.tgt with
        | none => rw [et] at hd; cases hd
        | some tt =>
          rw [et] at hd
          cases hd
          refine c_eqlen (by walk_at "sub") (by walk_at "sub") (by simp) ?_
          walk_at "w"
          refine x_dK (by walk_at "sub") rfl hu ?_
          rw [rev_map og ogs, List.cons_append, List.cons_append]
          walk_at "w"
          refine x_lst (by walk_at "sub") atI_last ?_
          walk_at "w"
          refine y_dK (by walk_at "upd") (show key1 (oI fr.tgt) = some (.inl tt) by rw [et]; rfl) ?_ ?_
          · have := hg.length
            obtain ⟨k0, hk0⟩ := List.exists_mem_of_length_pos hbl
            have := b4 g (by simp) k0 hk0
            omega
          walk_at "w"
          exact conv (K := (r, runD m t fl s.ticks) :: (t, .lst tw) :: (fl, .lst ((og :: ogs).reverse.map .ref)) :: (og, frD g ig wg) :: (wg, .dK (CL.put kg (.inl tt) u)) :: (TG ++ TT)) (by rw [rev_map og ogs]; walk_at "subs") (repl_of (fr := { g with env := putE g.env tt v }) h1 hgs h3 (hg.put tt ru) hgb rfl fun z => rfl)
  | jump b args =>
    simp only [endDo] at hd
    cases e1 : looks fr.env args with
    | none => rw [e1] at hd; cases hd
    | some vs =>
      rw [e1] at hd
      obtain ⟨f, hf, he⟩ := Option.map_eq_some_iff.mp hd
      cases he
      unfold Fr.enter at hf
      split at hf
      · rename_i k ek
        cases hf
        obtain ⟨ws, hw, hr⟩ := h4.looks e1
        have := b1 b args rfl
        walk_at "w"
        refine x_lst (by walk_at "sub") atI_last ?_
        walk_at "w"
        rename_i D
        refine lc_pure (lkV kvs) _ _ [] (fun y hy => ?_) sees_nil (by simp; omega) ?_
        · obtain ⟨x', hx, rfl⟩ := List.mem_map.mp hy
          refine ⟨_, rfl, fun zs => ?_⟩
          walk_at "w"
          obtain ⟨v, hv'⟩ := looksV_some hw hx
          refine x_dK (by walk_at "sub") rfl hv' ⟨rfl, hv'⟩
        rw [List.nil_append, looksV_map hw, ← rev_map]
        walk_at "w"
        have := h4.length
        have := b4 fr (by simp) k (List.mem_of_getElem? ek)
        refine sl_went (w := w) (f := fr) (R := (D, .lst ws) :: (r, runD m t fl s.ticks) :: (t, .lst tw) :: (fl, .lst ((o :: os).reverse.map .ref)) :: (FT ++ TT)) ek hr h4 (by omega) ((List.perm_middle (l₁ := [_, _, _, _])).trans (.cons _ (List.perm_middle (l₁ := [_, _, _, _])))) sub_one fun kvs' hk => ?_
        walk_at "w"
        exact conv (K := (r, runD m t fl s.ticks) :: (t, .lst tw) :: (fl, .lst ((o :: os).reverse.map .ref)) :: (o, frD { fr with env := binds fr.env k.params vs, block := k, at' := 0 } b w) :: (w, .dK kvs') :: (FT ++ TT)) (by walk_at "subs") (repl_of (fr := { fr with env := binds fr.env k.params vs, block := k, at' := 0 }) h1 h2 h3 hk ek rfl fun z => rfl)
      · cases hf
  | branch x b c =>
    simp only [endDo] at hd
    cases e1 : lookE fr.env x with
    | none => rw [e1] at hd; cases hd
    | some v =>
      rw [e1] at hd
      cases v with
      | bl tv =>
        obtain ⟨f, hf, he⟩ := Option.map_eq_some_iff.mp hd
        cases he
        unfold Fr.enter at hf
        split at hf
        · rename_i k ek
          cases hf
          obtain ⟨u, hu, ru⟩ := h4.look e1
          cases rel_bl ru
          have := h4.length
          have := b4 fr (by simp) k (List.mem_of_getElem? ek)
          walk_at "w"
          refine x_lst (by walk_at "sub") atI_last ?_
          walk_at "w"
          refine x_dK (by walk_at "sub") rfl hu ?_
          walk_at "w"
          cases tv
          · walk_at "w"
            rename_i p
            rw [← rev_map]
            refine sl_went (w := w) (f := fr) (R := (p, .lst []) :: (r, runD m t fl s.ticks) :: (t, .lst tw) :: (fl, .lst ((o :: os).reverse.map .ref)) :: (FT ++ TT)) ek .nil h4 (by omega) ((List.perm_middle (l₁ := [_, _, _, _])).trans (.cons _ (List.perm_middle (l₁ := [_, _, _, _])))) sub_one fun kvs' hk => ?_
            walk_at "w"
            exact conv (K := (r, runD m t fl s.ticks) :: (t, .lst tw) :: (fl, .lst ((o :: os).reverse.map .ref)) :: (o, frD { fr with env := binds fr.env k.params [], block := k, at' := 0 } c w) :: (w, .dK kvs') :: (FT ++ TT)) (by walk_at "subs") (repl_of (fr := { fr with env := binds fr.env k.params [], block := k, at' := 0 }) h1 h2 h3 hk ek rfl fun z => rfl)
          · walk_at "w"
            rename_i p
            rw [← rev_map]
            refine sl_went (w := w) (f := fr) (R := (p, .lst []) :: (r, runD m t fl s.ticks) :: (t, .lst tw) :: (fl, .lst ((o :: os).reverse.map .ref)) :: (FT ++ TT)) ek .nil h4 (by omega) ((List.perm_middle (l₁ := [_, _, _, _])).trans (.cons _ (List.perm_middle (l₁ := [_, _, _, _])))) sub_one fun kvs' hk => ?_
            walk_at "w"
            exact conv (K := (r, runD m t fl s.ticks) :: (t, .lst tw) :: (fl, .lst ((o :: os).reverse.map .ref)) :: (o, frD { fr with env := binds fr.env k.params [], block := k, at' := 0 } b w) :: (w, .dK kvs') :: (FT ++ TT)) (by walk_at "subs") (repl_of (fr := { fr with env := binds fr.env k.params [], block := k, at' := 0 }) h1 h2 h3 hk ek rfl fun z => rfl)
        · cases hf
      | _ => cases hd
end
theorem vts_num {S : List Kd} : ∀ {vs : List MV} {ks : List Kd}, VTs S vs ks → ∀ v ∈ vs, ∀ i, v = .int i → Md.Num i
  | _, _, .nil, v, hv, _, _ => by cases hv
  | _, _, .cons h r, v, hv, i, e => by
    rcases List.mem_cons.mp hv with rfl | hv
    · subst e
      cases h with
      | int hi => exact hi
    · exact vts_num r v hv i e
theorem st_nums {T : Sg} {C P : Nat} {S : List Kd} {s : MS} {fr : Fr} {rest : List Fr} {row : Row} {vs : List MV} (st : StT T C S s P) (ef : s.frames = fr :: rest) (er : fr.block.rows[fr.at']? = some row) (el : looks fr.env row.args = some vs) : ∀ v ∈ vs, ∀ i, v = .int i → Md.Num i := by
  obtain ⟨_, _, _, f, r2, kd, u, v, Γ, ef2, hp, he, _, _⟩ := st
  rw [ef] at ef2
  cases ef2
  obtain ⟨pl, rk, Γ', _, hrows, _⟩ := hp.ex
  have hlt := (List.getElem?_eq_some_iff.mp er).1
  rw [List.drop_eq_getElem_cons hlt, (List.getElem?_eq_some_iff.mp er).2] at hrows
  obtain _ | ⟨hrow, _⟩ := hrows
  obtain ⟨ha, _⟩ := hrow
  obtain ⟨vs', h1, h2⟩ := he.args ha
  rw [el] at h1
  cases h1
  exact vts_num h2
section
variable {B H R R' : HL} {d : Nat} {Q : Val → HL → Prop}
theorem frsl_len {φ : List Nat} : ∀ {fs : List Fr} {os : List Nat} {T : HL}, FrsL φ fs os T → os.length = fs.length
  | _, _, _, .nil => rfl
  | _, _, _, .cons h _ r => by rw [List.length_cons, List.length_cons, frsl_len r]
theorem ww_perm {c : Ctx} {tb : CL.B} {b : Ss} {f : Nat} {s : Env} {H K : HL} {N : Env → HL → Prop} {T : Val → HL → Prop} (p : H.Perm K) (h : WW B c tb b f s K N T) : WW B c tb b f s H N T := wp_perm p h
def lawB : Ss := match d_l_run.body with
  | .cons _ (.cons _ (.cons _ (.cons (.whl _ b) _))) => b
  | _ => .nil
theorem sub_all2 {L R : HL} : Sub (L ++ R) L R := List.Perm.refl _
theorem sl_rturn {m : Mid} {P n : Nat} {s s' : MS} {out : Option Out} {r t : Nat} {a0 a1 a2 a5 a6 : Option Val} {N : Env → HL → Prop} {T : Val → HL → Prop} {K C : Env → HL → Prop} {K0 R0 : HL} (S : Small m P) (F : Fits m P (n + 1) s) {Tg : Sg} {CC PP : Nat} {SS : List Kd} (st : StT Tg CC SS s PP) (hm : m.funs.length ≤ 1000) (h : step m s = some (s', out)) (hR : RepL m s none r t .non K0)
    (q : ∀ v K a5 a6, RepL m s' out r t v K → N [a0, a1, a2, some (.ref r), some v, a5, a6] (K ++ R0)) :
    WSs B (cxN G fuel (d + 5)) lawB [a0, a1, a2, some (.ref r), some .non, a5, a6] (K0 ++ R0) N T K C := by
  obtain ⟨fl, os, φ, tw, FT, TT, tk, h1, h2, h3, _, htk, rfl⟩ := hR
  cases htk rfl
  have tk0 := st.tk
  unfold Md.step at h
  split at h
  · cases h
  · rename_i fr rest efr
    have Ff : ∀ f ∈ fr :: rest, FrOk m P (n + 1) f := by rw [← efr]; exact F.frs
    have Fl : (fr :: rest).length + (n + 1) ≤ 900000 := by rw [← efr]; exact F.frames
    obtain ⟨F1, g, hg, hgb, hgk⟩ := Ff fr (by simp)
    rw [efr] at h2
    cases h2 with
    | cons h4 hb h2 =>
    rename_i kvs o w i os FT
    have hlen := frsl_len h2
    have hkl := h4.length
    have hb' : L2.atI (fr.blocks.map Block.v) (i : Int) = some fr.block.v := atI_nat (by rw [List.getElem?_map, hb]; rfl)
    simp only [List.length_cons] at Fl
    simp only [List.cons_append]
    rw [rev_map]
    unfold lawB d_l_run
    dsimp only
    walk_at "w"
    refine x_lst (by walk_at "sub") atI_last ?_
    rw [← rev_map]
    walk_at "w"
    refine x_tup hb' ?_
    walk_at "w"
    split at h
    · rename_i row erow
      split at h
      · rename_i vs evs
        split at h
        · rename_i a ea
          have hlt := (List.getElem?_eq_some_iff.mp erow).1
          have hm' : row ∈ fr.block.rows := List.mem_of_getElem? erow
          have hnum := st_nums st efr erow evs
          refine br_t (decide_eq_true (by simp only [List.length_map]; omega)) ?_
          walk_at "w"
          refine x_tup (v := row.v) (atI_nat (by rw [List.getElem?_map, erow]; rfl)) ?_
          walk_at "w"
          have b4 : kvs.length < 1000000 := by omega
          have := looks_len evs
          have := S.row g hg _ hgk _ hm'
          refine wp_frame (L := (r, runD m t fl s.ticks) :: (t, .lst tw) :: (fl, .lst ((o :: os).reverse.map .ref)) :: (o, frD fr i w) :: (w, .dK kvs) :: (FT ++ TT)) (R := R0) (List.Perm.refl _) (sl_rowd (fr := fr) h1 h2 h3 h4 hb evs hnum ea h tk0 this (by rw [h1.length]; have := F.told; omega) (by omega) b4 (by omega) (fun i f us e => Nat.le_trans (F.clo i f us e) (by omega)) (fun g hg k hk => Nat.le_trans (S.par g hg k hk) (by omega)) hm rfl) fun v K hv => ?_
          walk_at "w"
          exact q v K _ _ hv
        · cases h
      · cases h
    · rename_i erow
      have hge : fr.block.rows.length ≤ fr.at' := List.getElem?_eq_none_iff.mp erow
      refine br_f (decide_eq_false (by simp only [List.length_map]; omega)) ?_
      walk_at "w"
      refine x_tup hb' ?_
      walk_at "w"
      refine wp_frame (L := (r, runD m t fl s.ticks) :: (t, .lst tw) :: (fl, .lst ((o :: os).reverse.map .ref)) :: (o, frD fr i w) :: (w, .dK kvs) :: (FT ++ TT)) (R := R0) (List.Perm.refl _) (sl_endd h1 h2 h3 h4 hb h (fun b args e => S.jmp g hg _ hgk b args e) (by omega) (fun f hf k hk => ?_) ?_ rfl) fun v K hv => ?_
      · have := (Ff f hf).1
        rw [hgb] at hk
        have := S.par g hg k hk
        omega
      · rw [hgb]; exact List.length_pos_of_mem hgk
      walk_at "w"
      exact q v K _ _ hv
theorem step_det {m : Mid} {s : MS} {x y : MS × Option Out} (h1 : step m s = some x) (h2 : step m s = some y) : x = y := by rw [h1] at h2; exact Option.some.inj h2
theorem sl_rloop {m : Mid} {P : Nat} {r t : Nat} {a0 a1 a2 : Option Val} {N : Env → HL → Prop} {T : Val → HL → Prop} {R0 : HL} (S : Small m P) {Tg : Sg} {CC : Nat} (M : MidT Tg m CC) (rcF : ∀ r ks ks', (r, ks) ∈ Tg.rc → (r, ks') ∈ Tg.rc → ks = ks') (hm : m.funs.length ≤ 1000) : ∀ (n : Nat) (s s' : MS) (o : Out) (f : Nat) (H : HL) (a5 a6 : Option Val) (SS : List Kd) (PP : Nat), Runs m n s s' o → Fits m P n s → StT Tg CC SS s PP → n + 1 ≤ f → RepL m s none r t .non H →
    (∀ v K a5 a6, RepL m s' (some o) r t v K → N [a0, a1, a2, some (.ref r), some v, a5, a6] (K ++ R0)) →
    WW B (cxN G fuel (d + 5)) (.of (.isN (.v 4))) lawB f [a0, a1, a2, some (.ref r), some .non, a5, a6] (H ++ R0) N T
  | _, s, s', o, 0, H, a2, a3, _, _, _, _, _, hf, _, _ => by omega
  | _, s, s', o, f + 1, H, a5, a6, SS, PP, .last h, F, st, hf, hR, q => by
    refine whl_step (b_of (e_isN (e_v rfl (t_bool (br_t rfl ?_)))))
    refine sl_rturn S F st hm h hR fun v K a2 a3 hv => ?_
    obtain ⟨f, rfl⟩ : ∃ g, f = g + 1 := ⟨f - 1, by omega⟩
    refine whl_step (b_of (e_isN (e_v rfl (t_bool ?_))))
    obtain ⟨_, _, _, _, _, _, _, _, _, _, ho, _⟩ := id hv
    refine br_f ?_ (q v K a2 a3 hv)
    cases o with
    | done x => obtain ⟨w, rfl, _⟩ := ho; rfl
    | fault w l => cases ho; rfl
    | tired => cases ho; rfl
  | _, s, s', o, f + 1, H, a5, a6, SS, PP, .more h hr, F, st, hf, hR, q => by
    refine whl_step (b_of (e_isN (e_v rfl (t_bool (br_t rfl ?_)))))
    refine sl_rturn S F st hm h hR fun v K a2 a3 hv => ?_
    obtain ⟨_, _, _, _, _, _, _, _, _, _, ho, _⟩ := id hv
    cases ho
    rcases step_ok M rcF st with ⟨s2, o2, g1, _⟩ | ⟨s2, SS2, PP2, g1, g2, _⟩
    · cases step_det h g1
    · cases step_det h g1
      exact sl_rloop S M rcF hm _ _ _ _ f K a2 a3 SS2 PP2 hr (F.step S h) g2 (by omega) hv q
theorem sl_run {m : Mid} {P n : Nat} {g : Fun} {k : Block} {ins : List Int} {ti : Int} {s' : MS} {o : Out} {p : Nat} (hg : (m.funs.find? fun g => decide (g.name = ("main" : PySem.Str))) = some g) (hb : g.blocks[0]? = some k) (S : Small m P) {Tg : Sg} {CC : Nat} (M : MidT Tg m CC) (rcF : ∀ r ks ks', (r, ks) ∈ Tg.rc → (r, ks') ∈ Tg.rc → ks = ks') (hm : m.funs.length ≤ 1000) {SS : List Kd} {PP : Nat} (st : StT Tg CC SS ⟨[], [], ti, [⟨g.blocks, binds [] k.params (ins.map .int), none, k, 0⟩]⟩ PP) (hP : (n + 2) * P ≤ 800000) (hn : n < 800000)
    (hr : Runs m n ⟨[], [], ti, [⟨g.blocks, binds [] k.params (ins.map .int), none, k, 0⟩]⟩ s' o) (hl : Sub H [(p, .lst (ins.map .int))] R)
    (q : ∀ t φ tw ov, Rels φ s'.told tw → OutR φ (some o) ov → Q (.tup [.ref t, ov]) ((t, .lst tw) :: H)) : WP B (callN G fuel (d + 6) f_l_run [m.v, .ref p, .int ti]) H Q := by
  have hgm := List.mem_of_find?_eq_some hg
  have hkm := List.mem_of_getElem? hb
  have hpl := S.par g hgm k hkm
  have hP2 : n * P + 2 * P ≤ 800000 := by rw [← Nat.add_mul]; exact hP
  walk_at "in"
  show WSs B _ (.cons _ (.cons _ (.cons _ (.cons (.whl _ lawB) _)))) _ _ _ _ _ _
  walk_at "w"
  rename_i r t fl
  show WP B _ ((fl, .lst []) :: (t, .lst []) :: (r, runD m t fl ti) :: H) _
  walk_at "w"
  refine sl_frame (tg := none) hg hb (ints_rels (φ := []) ins) (by omega) hm (by walk_at "sub") fun ob w kvs hk => ?_
  walk_at "w"
  refine m_app (by walk_at "upd") (by simp) ?_
  walk_at "w"
  have F : Fits m P n ⟨[], [], ti, [⟨g.blocks, binds [] k.params (ins.map .int), none, k, 0⟩]⟩ := by
    refine ⟨by show 0 + n ≤ 900000; omega, by show 1 + n ≤ 900000; omega, fun f hf => ?_, fun i f us e => by simp at e⟩
    cases List.mem_singleton.mp hf
    refine ⟨?_, g, hgm, rfl, hkm⟩
    have := binds_len k.params (ins.map .int) []
    show (binds [] k.params (ins.map .int)).length + n * P + P ≤ 800000
    simp only [List.length_nil] at this
    omega
  refine ww_perm (K := ((r, runD m t fl ti) :: (t, .lst []) :: (fl, .lst [.ref ob]) :: (ob, frD ⟨g.blocks, binds [] k.params (ins.map .int), none, k, 0⟩ 0 w) :: (w, .dK kvs) :: []) ++ H) ?_ ?_
  · simp only [List.cons_append, List.nil_append]
    show Sub _ [_, _, _, _, _] H
    walk_at "subs"
  refine sl_rloop S M rcF hm n _ s' o fuel _ _ _ SS PP hr F st (by show n + 1 ≤ 1000000; omega) ⟨fl, [ob], [], [], [(ob, frD ⟨g.blocks, binds [] k.params (ins.map .int), none, k, 0⟩ 0 w), (w, .dK kvs)], [], ti, .nil, .cons hk hb .nil, .nil, rfl, fun _ => rfl, rfl⟩ fun v K a5 a6 hv => ?_
  obtain ⟨fl', os', φ, tw, FT, TT, tk, g1, g2, g3, g4, g5, rfl⟩ := hv
  simp only [List.cons_append]
  walk_at "w"
  exact conv (by walk_at "subs") (q t φ tw v g1 g4)
end
structure Pot where
  cells : List Int
  at' : Int
  left : Int
  many : Int
  mixed : Bool
structure Pot.ok (P : Pot) : Prop where
  h1 : 0 ≤ P.at'
  h2 : 0 ≤ P.left
  h3 : 0 ≤ P.many
  h4 : P.mixed = true → P.cells ≠ []
  h5 : P.cells.length ≤ 100
abbrev potD (c : Nat) (P : Pot) : Ob := .dK [(.inr "cells", .ref c), (.inr "at", .int P.at'), (.inr "left", .int P.left), (.inr "many", .int P.many), (.inr "mixed", .bl P.mixed)]
abbrev potL (P : Pot) : Ob := .lst (P.cells.map .int)
section
variable {B H R R' : HL} {d : Nat} {Q : Val → HL → Prop}
theorem sl_mix {n k : Int} (q : ∀ v : Int, 0 ≤ v → Q (.int v) H) : WP B (callN G fuel (d + 1) f_l_mix [.int n, .int k]) H Q := by
  walk_at "in"
  walk_at "w"
  refine p_mod' (by decide) ?_
  walk_at "w"
  refine p_mul' (mulOk_left (by decide)) ?_
  walk_at "w"
  refine p_mul' (mulOk_right (by decide)) ?_
  walk_at "w"
  refine p_mod' (by decide) ?_
  walk_at "w"
  generalize (n.fmod 2147483647 + 7 * k + 3) * 48271 = z
  have hz : 0 ≤ z.fmod 2147483629 ∧ z.fmod 2147483629 < 2147483629 := by rw [fmod_pos (by decide)]; omega
  refine p_mul' (mulOk_left (by omega)) ?_
  walk_at "w"
  refine p_mod' (by decide) ?_
  refine conv0 (q _ ?_)
  rw [fmod_pos (by decide)]; omega
theorem at_mod {xs : List Int} {k : Int} (h : xs ≠ []) (hk : 0 ≤ k) : ∃ x : Int, L2.atI (xs.map Val.int) (k.fmod (xs.length : Int)) = some (.int x) := by
  have hl : 0 < xs.length := List.length_pos_iff.mpr h
  have e : k.fmod (xs.length : Int) = k % (xs.length : Int) := fmod_pos (by omega)
  have h1 : 0 ≤ k % (xs.length : Int) := Int.emod_nonneg _ (by omega)
  have h2 : k % (xs.length : Int) < xs.length := Int.emod_lt_of_pos _ (by omega)
  rw [e]
  have h3 : (k % (xs.length : Int)).toNat < xs.length := by omega
  refine ⟨xs[(k % (xs.length : Int)).toNat], atI_int h1 ?_⟩
  rw [List.getElem?_map, List.getElem?_eq_getElem h3]; rfl
theorem fm_bd {i j : Int} (h : 0 < j) : 0 ≤ i.fmod j ∧ i.fmod j < j := by
  rw [fmod_pos h]
  exact ⟨Int.emod_nonneg _ (by omega), Int.emod_lt_of_pos _ h⟩
def takeTail : Ss := match d_l_take.body with
  | .cons _ (.cons _ (.cons _ (.cons _ r))) => r
  | _ => .nil
theorem sl_take {p c : Nat} {P : Pot} {n : Int} (hP : P.ok) (hn : 0 < n) (hn2 : n < 9223372036854775808) (hp : Sub H [(p, potD c P), (c, potL P)] R)
    (q : ∀ (r : Int) (P' : Pot), P'.ok → 0 ≤ r → r < n → Q (.int r) ((p, potD c P') :: (c, potL P') :: R)) : WP B (callN G fuel (d + 2) f_l_take [.ref p, .int n]) H Q := by
  refine wp_perm (show H.Perm ((p, potD c P) :: (c, potL P) :: R) from hp) ?_
  have hl := hP.h3
  obtain ⟨cells, at', left, many, mixed⟩ := P
  obtain ⟨g1, g2, g3, g4, g5⟩ := hP
  simp only at g1 g2 g3 g4 g5
  walk_at "in"
  show WSs B _ (.cons _ (.cons _ (.cons _ (.cons _ takeTail)))) _ _ _ _ _ _
  walk_at "w"
  refine ⟨fun hm => ?_, fun hm => ?_⟩
  · subst hm
    have hne := g4 rfl
    have hlen : 0 < cells.length := List.length_pos_iff.mpr hne
    obtain ⟨x, hx⟩ := at_mod (k := many + 1) hne (by omega)
    walk_at "w"
    refine p_mod' (by simp; omega) ?_
    rw [List.length_map]
    walk_at "w"
    refine x_lst (by walk_at "sub") hx ?_
    walk_at "w"
    refine sl_mix fun v hv => ?_
    walk_at "w"
    refine p_fdiv' (by decide) ?_
    walk_at "w"
    refine p_mod' (by omega) ?_
    exact conv0 (q _ ⟨cells, at', left, many + 1, true⟩ ⟨g1, g2, by show 0 ≤ many + 1; omega, fun _ => hne, g5⟩ (fm_bd hn).1 (fm_bd hn).2)
  · subst hm
    have tail : ∀ (at2 left2 : Int), 0 ≤ at2 → 0 ≤ left2 → WSs B (cxN G fuel (d + 1)) takeTail [some (.ref p), some (.int n), some (.ref c), none] ((p, potD c ⟨cells, at2, left2, many + 1, false⟩) :: (c, potL ⟨cells, at2, left2, many + 1, false⟩) :: R) (fun _ K => Conv Q .non K) (Conv Q) (fun _ _ => False) (fun _ _ => False) := by
      intro at2 left2 ha hl
      unfold takeTail d_l_take
      dsimp only
      walk_at "w"
      refine br_dec (fun h0 => ?_) fun h0 => ?_
      · walk_at "w"
        refine sl_mix fun v hv => ?_
        walk_at "w"
        refine p_fdiv' (by decide) ?_
        walk_at "w"
        refine p_mod' (by omega) ?_
        exact conv0 (q _ ⟨cells, at2, left2, many + 1, false⟩ ⟨ha, hl, by show 0 ≤ many + 1; omega, fun h => (by cases h), g5⟩ (fm_bd hn).1 (fm_bd hn).2)
      · walk_at "w"
        refine p_mod' (by omega) ?_
        walk_at "w"
        refine p_fdiv' ⟨by omega, by omega⟩ ?_
        walk_at "w"
        refine conv0 (q _ ⟨cells, at2, left2.fdiv n, many + 1, false⟩ ⟨ha, ?_, by show 0 ≤ many + 1; omega, fun h => (by cases h), g5⟩ (fm_bd hn).1 (fm_bd hn).2)
        show 0 ≤ left2.fdiv n
        rw [fdiv_pos hn]
        exact Int.ediv_nonneg hl (by omega)
    walk_at "w"
    refine br_dec (fun h0 => ?_) fun h0 => ?_
    · walk_at "w"
      refine br_dec (fun h1 => ?_) fun h1 => ?_
      · simp only [List.length_map] at h1
        have hx : cells[at'.toNat]? = some cells[at'.toNat] := List.getElem?_eq_getElem (by omega)
        walk_at "w"
        refine x_lst (by walk_at "sub") (atI_int (x := .int cells[at'.toNat]) g1 (by rw [List.getElem?_map, hx]; rfl)) ?_
        walk_at "w"
        refine f_abs ?_
        walk_at "w"
        refine p_pow' (by decide) ?_
        walk_at "w"
        refine p_mod' (by decide) ?_
        walk_at "w"
        exact tail (at' + 1) _ (by omega) (fm_bd (j := 10 ^ 60) (by decide)).1
      · walk_at "w"
        exact tail at' left g1 g2
    · walk_at "w"
      exact tail at' left g1 g2
end
@[reducible] def oB : Option Block → Val
  | none => .non
  | some b => b.v
abbrev stD (b r p e : Nat) (S : Gs) : Ob := .dK [(.inr "blocks", .ref b), (.inr "now", .int (S.now : Nat)), (.inr "rows", .ref r), (.inr "params", .ref p), (.inr "env", .ref e), (.inr "next", .int S.next), (.inr "line", .int S.line)]
abbrev stH (a b r p e : Nat) (S : Gs) (R : HL) : HL := (a, stD b r p e S) :: (b, .lst (S.blocks.map oB)) :: (r, .lst (S.rows.map Row.v)) :: (p, .lst (S.params.map parV)) :: (e, .lst (S.env.map parV)) :: R
abbrev stL (a b r p e : Nat) (S : Gs) : HL := [(a, stD b r p e S), (b, .lst (S.blocks.map oB)), (r, .lst (S.rows.map Row.v)), (p, .lst (S.params.map parV)), (e, .lst (S.env.map parV))]
theorem zip_named : ∀ (ks : List Kd) (n : Int), zipL (rangeL n ks.length) (ks.map Kd.v) = (named n ks).map parV
  | [], n => by simp [rangeL, zipL, named]
  | k :: r, n => by
    rw [List.length_cons, rangeL, List.map_cons, zipL, zip_named r, named, List.map_cons]
/-- a state that is not too large -/
structure SOk (S : Gs) : Prop where
  h1 : S.blocks.length ≤ 10000
  h2 : S.rows.length ≤ 10000
  h3 : S.env.length ≤ 100000
  h4 : 0 ≤ S.next ∧ S.next ≤ 1000000
  h5 : 0 ≤ S.line ∧ S.line ≤ 1000000
structure Sz (S : Gs) (n : Nat) : Prop where
  h1 : S.blocks.length ≤ n
  h2 : S.rows.length ≤ n
  h3 : S.env.length ≤ n
  h4 : 0 ≤ S.next ∧ S.next ≤ n
  h5 : 0 ≤ S.line ∧ S.line ≤ n
theorem Sz.ok {S : Gs} {n : Nat} (h : Sz S n) (hn : n ≤ 10000) : SOk S := ⟨Nat.le_trans h.h1 hn, Nat.le_trans h.h2 hn, Nat.le_trans h.h3 (by omega), by have := h.h4; omega, by have := h.h5; omega⟩
theorem Sz.mono {S : Gs} {n m : Nat} (h : Sz S n) (hm : n ≤ m) : Sz S m := ⟨Nat.le_trans h.h1 hm, Nat.le_trans h.h2 hm, Nat.le_trans h.h3 hm, by have := h.h4; omega, by have := h.h5; omega⟩
theorem Sz.put {S : Gs} {n : Nat} (h : Sz S n) (kd : Option Kd) (op : Op) (args : List Int) (more : More) : Sz (S.put kd op args more) (n + 1) := by
  obtain ⟨h1, h2, h3, h4, h5⟩ := h
  cases kd with
  | none => exact ⟨by show S.blocks.length ≤ n + 1; omega, by show (S.rows ++ [_]).length ≤ n + 1; simp; omega, by show S.env.length ≤ n + 1; omega, by show 0 ≤ S.next ∧ S.next ≤ (n + 1 : Nat); omega, by show 0 ≤ S.line + 1 ∧ S.line + 1 ≤ (n + 1 : Nat); omega⟩
  | some k => exact ⟨by show S.blocks.length ≤ n + 1; omega, by show (S.rows ++ [_]).length ≤ n + 1; simp; omega, by show (S.env ++ [_]).length ≤ n + 1; simp; omega, by show 0 ≤ S.next + 1 ∧ S.next + 1 ≤ (n + 1 : Nat); omega, by show 0 ≤ S.line + 1 ∧ S.line + 1 ≤ (n + 1 : Nat); omega⟩
theorem Sz.opn {S : Gs} {n : Nat} (h : Sz S n) : Sz S.opn (n + 1) := by
  obtain ⟨h1, h2, h3, h4, h5⟩ := h
  exact ⟨by show (S.blocks ++ [none]).length ≤ n + 1; simp; omega, by show S.rows.length ≤ n + 1; omega, by show S.env.length ≤ n + 1; omega, by show 0 ≤ S.next ∧ S.next ≤ (n + 1 : Nat); omega, by show 0 ≤ S.line ∧ S.line ≤ (n + 1 : Nat); omega⟩
theorem Sz.beg {S : Gs} {n : Nat} (h : Sz S n) (at' : Nat) (ks : List Kd) : Sz (S.beg at' ks) (n + ks.length) := by
  obtain ⟨h1, h2, h3, h4, h5⟩ := h
  exact ⟨by show S.blocks.length ≤ n + ks.length; omega, by show 0 ≤ n + ks.length; omega, by show (S.env ++ named S.next ks).length ≤ n + ks.length; rw [List.length_append, named_len]; omega, by show 0 ≤ S.next + ks.length ∧ S.next + ks.length ≤ (n + ks.length : Nat); omega, by show 0 ≤ S.line ∧ S.line ≤ (n + ks.length : Nat); omega⟩
theorem Sz.fin {S : Gs} {n : Nat} (h : Sz S n) (en : End) : Sz (S.fin en) n := by
  obtain ⟨h1, h2, h3, h4, h5⟩ := h
  exact ⟨by show (S.blocks.set _ _).length ≤ n; rw [List.length_set]; omega, h2, h3, h4, h5⟩
section
variable {B H R R' : HL} {d : Nat} {Q : Val → HL → Prop}
/-- what stands for args: a tuple, or a list of them -/
def ArgsV (H : HL) (xs : List Int) (v : Val) : Prop := v = intsV xs ∨ ∃ p R, v = .ref p ∧ Sub H [(p, .lst (xs.map .int))] R
theorem sl_put1 {a b r p e : Nat} {S : Gs} {k : Kd} {op : Op} {args : List Int} {more : More} {av : Val} (hS : SOk S) (hp : Sub H (stL a b r p e S) R) (ha : ArgsV R args av) (q : Q (.int S.next) (stH a b r p e (S.put (some k) op args more) R)) :
    WP B (callN G fuel (d + 1) f_l_put [.ref a, k.v, .str op.s, av, more.v]) H Q := by
  have hp : H.Perm ((a, stD b r p e S) :: (b, .lst (S.blocks.map oB)) :: (r, .lst (S.rows.map Row.v)) :: (p, .lst (S.params.map parV)) :: (e, .lst (S.env.map parV)) :: R) := hp
  refine wp_perm hp ?_
  have hk : (match k.v with | Val.non => false | _ => true) = true := by cases k <;> rfl
  have h2 := hS.h2
  have h3 := hS.h3
  walk_at "in"
  walk_at "w"
  refine br_t hk ?_
  walk_at "w"
  refine m_app (by walk_at "upd") (by rw [List.length_map]; omega) ?_
  walk_at "w"
  rcases ha with rfl | ⟨pa, Ra, rfl, hpa⟩
  · walk_at "w"
    refine m_app (by walk_at "upd") (by rw [List.length_map]; omega) ?_
    walk_at "w"
    simp only [stH, stD, Gs.put, List.map_append, List.map_cons, List.map_nil, List.cons_append, List.nil_append] at q
    exact conv0 q
  · walk_at "w"
    refine m_app (by walk_at "upd") (by rw [List.length_map]; omega) ?_
    walk_at "w"
    simp only [stH, stD, Gs.put, List.map_append, List.map_cons, List.map_nil, List.cons_append, List.nil_append] at q
    exact conv0 q
theorem sl_put0 {a b r p e : Nat} {S : Gs} {op : Op} {args : List Int} {more : More} {av : Val} (hS : SOk S) (hp : Sub H (stL a b r p e S) R) (ha : ArgsV R args av) (q : Q .non (stH a b r p e (S.put none op args more) R)) :
    WP B (callN G fuel (d + 1) f_l_put [.ref a, .non, .str op.s, av, more.v]) H Q := by
  have hp : H.Perm ((a, stD b r p e S) :: (b, .lst (S.blocks.map oB)) :: (r, .lst (S.rows.map Row.v)) :: (p, .lst (S.params.map parV)) :: (e, .lst (S.env.map parV)) :: R) := hp
  refine wp_perm hp ?_
  have h2 := hS.h2
  have h3 := hS.h3
  walk_at "in"
  walk_at "w"
  rcases ha with rfl | ⟨pa, Ra, rfl, hpa⟩
  · walk_at "w"
    refine m_app (by walk_at "upd") (by rw [List.length_map]; omega) ?_
    walk_at "w"
    simp only [stH, stD, Gs.put, List.map_append, List.map_cons, List.map_nil, List.cons_append, List.nil_append] at q
    exact conv0 q
  · walk_at "w"
    refine m_app (by walk_at "upd") (by rw [List.length_map]; omega) ?_
    walk_at "w"
    simp only [stH, stD, Gs.put, List.map_append, List.map_cons, List.map_nil, List.cons_append, List.nil_append] at q
    exact conv0 q
theorem sl_open {a b r p e : Nat} {S : Gs} (hS : SOk S) (hp : Sub H (stL a b r p e S) R) (q : Q (.int (S.blocks.length : Nat)) (stH a b r p e S.opn R)) :
    WP B (callN G fuel (d + 1) f_l_open [.ref a]) H Q := by
  have hp : H.Perm ((a, stD b r p e S) :: (b, .lst (S.blocks.map oB)) :: (r, .lst (S.rows.map Row.v)) :: (p, .lst (S.params.map parV)) :: (e, .lst (S.env.map parV)) :: R) := hp
  refine wp_perm hp ?_
  have h1 := hS.h1
  walk_at "in"
  walk_at "w"
  refine m_app (by walk_at "upd") (by rw [List.length_map]; omega) ?_
  walk_at "w"
  simp only [stH, stD, Gs.opn, List.map_append, List.map_cons, List.map_nil, List.cons_append, List.nil_append] at q
  rw [show (((S.blocks.map oB ++ [Val.non]).length : Nat) : Int) - 1 = (S.blocks.length : Int) by simp]
  exact conv0 q
theorem sl_end {a b r p e : Nat} {S : Gs} {en : End} (hn : S.now < S.blocks.length) (hp : Sub H (stL a b r p e S) R) (q : Q .non (stH a b r p e (S.fin en) R)) :
    WP B (callN G fuel (d + 1) f_l_end [.ref a, en.v]) H Q := by
  have hp : H.Perm ((a, stD b r p e S) :: (b, .lst (S.blocks.map oB)) :: (r, .lst (S.rows.map Row.v)) :: (p, .lst (S.params.map parV)) :: (e, .lst (S.env.map parV)) :: R) := hp
  refine wp_perm hp ?_
  walk_at "in"
  walk_at "w"
  refine y_lst (by walk_at "upd") (ixN_nat (by rw [List.length_map]; exact hn)) ?_
  walk_at "w"
  simp only [stH, stD, Gs.fin, List.map_set, List.cons_append, List.nil_append] at q
  exact conv0 q
/-- what stands for kinds: a tuple, or a list of them -/
def KindsV (H : HL) (ks : List Kd) (v : Val) : Prop := v = .tup (ks.map Kd.v) ∨ ∃ p R, v = .ref p ∧ Sub H [(p, .lst (ks.map Kd.v))] R
theorem sl_begin {a b r p e at' : Nat} {S : Gs} {ks : List Kd} {kv : Val} (hS : SOk S) (hl : ks.length ≤ 10000) (hp : Sub H (stL a b r p e S) R) (hk : KindsV R ks kv)
    (q : ∀ n r' p' e', Q (.ref n) ((n, .lst (rangeL S.next ks.length)) :: stH a b r' p' e' (S.beg at' ks) R)) :
    WP B (callN G fuel (d + 1) f_l_begin [.ref a, .int at', kv]) H Q := by
  have hp : H.Perm ((a, stD b r p e S) :: (b, .lst (S.blocks.map oB)) :: (r, .lst (S.rows.map Row.v)) :: (p, .lst (S.params.map parV)) :: (e, .lst (S.env.map parV)) :: R) := hp
  refine wp_perm hp ?_
  have h3 := hS.h3
  have h4 := hS.h4
  have e1 : (S.next + (ks.length : Int) - S.next).toNat = ks.length := by omega
  have z1 := zip_named ks S.next
  have l1 := named_len ks S.next
  have fin : ∀ n r' p' e', Conv Q (.ref n) ((e', .lst (S.env.map parV ++ (named S.next ks).map parV)) :: (p', .lst ((named S.next ks).map parV)) :: (r', .lst []) :: (n, .lst (rangeL S.next ks.length)) :: (a, stD b r' p' e' (S.beg at' ks)) :: (b, .lst (S.blocks.map oB)) :: (r, .lst (S.rows.map Row.v)) :: (p, .lst (S.params.map parV)) :: (e, .lst (S.env.map parV)) :: R) := by
    intro n r' p' e'
    have q := q n r' p' e'
    rw [← List.map_append]
    exact conv (K := (n, .lst (rangeL S.next ks.length)) :: (a, stD b r' p' e' (S.beg at' ks)) :: (b, .lst (S.blocks.map oB)) :: (r', .lst []) :: (p', .lst ((named S.next ks).map parV)) :: (e', .lst ((S.env ++ named S.next ks).map parV)) :: R) (by walk_at "subs") q
  walk_at "in"
  rcases hk with rfl | ⟨pk, Rk, rfl, hpk⟩
  · walk_at "w"
    refine ⟨_, _, rfl, rfl, small24_of (by omega) (by rw [List.length_map]; omega) (by rw [List.length_map, e1]; omega), fun n => ?_⟩
    rw [List.length_map, e1]
    walk_at "w"
    refine ⟨_, _, its_lst (by walk_at "sub"), its_tup, fun p' => ?_⟩
    rw [z1]
    walk_at "w"
    refine p_addl' (by walk_at "sub") (by walk_at "sub") (fits_small (by rw [List.length_map, List.length_map]; omega)) fun e' => ?_
    walk_at "w"
    rw [List.length_map]
    exact fin n _ p' e'
  · walk_at "w"
    refine ⟨_, _, rfl, rfl, small24_of (by omega) (by rw [List.length_map]; omega) (by rw [List.length_map, e1]; omega), fun n => ?_⟩
    rw [List.length_map, e1]
    walk_at "w"
    refine ⟨_, _, its_lst (by walk_at "sub"), its_lst (by walk_at "sub"), fun p' => ?_⟩
    rw [z1]
    walk_at "w"
    refine p_addl' (by walk_at "sub") (by walk_at "sub") (fits_small (by rw [List.length_map, List.length_map]; omega)) fun e' => ?_
    walk_at "w"
    rw [List.length_map]
    exact fin n _ p' e'
end
section
variable {B H R R' : HL} {d : Nat} {Q : Val → HL → Prop}
theorem rep_kinds (n : Nat) : rep [Kd.v .num] (n : Int) = (List.replicate n Kd.num).map Kd.v := by
  rw [rep_one, Int.toNat_natCast, List.map_replicate]
theorem Sz.first {nx : Int} {ks : List Kd} (h0 : 0 ≤ nx) (h1 : nx < 30) (hk : ks.length ≤ 14) : Sz (Gs.first nx ks) 50 := by
  refine ⟨?_, ?_, ?_, ?_, ?_⟩
  · exact Nat.le_of_ble_eq_true rfl
  · exact Nat.le_of_ble_eq_true rfl
  · show ([] ++ named nx ks).length ≤ 50
    rw [List.nil_append, named_len]; omega
  · show 0 ≤ nx + (ks.length : Int) ∧ nx + (ks.length : Int) ≤ (50 : Nat)
    omega
  · show (0 : Int) ≤ 0 + 1 ∧ (0 : Int) + 1 ≤ (50 : Nat)
    omega
theorem sl_state {p c : Nat} {P : Pot} {ks : List Kd} {kv : Val} (hP : P.ok) (hk : ks.length ≤ 14) (hp : Sub H [(p, potD c P), (c, potL P)] R) (hv : KindsV R ks kv)
    (q : ∀ a b r e f n nx P', P'.ok → 0 ≤ nx → nx < 30 → Q (.tup [.ref a, .ref n]) ((n, .lst (rangeL nx ks.length)) :: stH a b r e f (Gs.first nx ks) ((p, potD c P') :: (c, potL P') :: R))) :
    WP B (callN G fuel (d + 3) f_l_state [.ref p, kv]) H Q := by
  refine wp_perm (show H.Perm ((p, potD c P) :: (c, potL P) :: R) from hp) ?_
  walk_at "in"
  walk_at "w"
  refine sl_take (n := 30) hP (by decide) (by decide) (by walk_at "subs") fun nx P1 hP1 h0 h1 => ?_
  walk_at "w"
  rename_i a b r e f
  show WP B _ ((p, potD c P1) :: (c, potL P1) :: (f, .lst ((Gs.s0 nx).env.map parV)) :: (e, .lst ((Gs.s0 nx).params.map parV)) :: (r, .lst ((Gs.s0 nx).rows.map Row.v)) :: (b, .lst ((Gs.s0 nx).blocks.map oB)) :: (a, stD b r e f (Gs.s0 nx)) :: R) _
  walk_at "w"
  refine sl_open (S := Gs.s0 nx) ⟨Nat.le_of_ble_eq_true rfl, Nat.le_of_ble_eq_true rfl, Nat.le_of_ble_eq_true rfl, by show 0 ≤ nx ∧ nx ≤ 1000000; omega, by show (0 : Int) ≤ 0 ∧ (0 : Int) ≤ 1000000; omega⟩ (by walk_at "subs") ?_
  walk_at "w"
  have hv' : KindsV ((p, potD c P1) :: (c, potL P1) :: R) ks kv := by
    rcases hv with h | ⟨pk, Rk, h, hs⟩
    · exact .inl h
    · exact .inr ⟨pk, _, h, sub_cons (sub_cons hs)⟩
  refine sl_begin (S := (Gs.s0 nx).opn) (at' := 0) (ks := ks) ⟨Nat.le_of_ble_eq_true rfl, Nat.le_of_ble_eq_true rfl, Nat.le_of_ble_eq_true rfl, by show 0 ≤ nx ∧ nx ≤ 1000000; omega, by show (0 : Int) ≤ 0 ∧ (0 : Int) ≤ 1000000; omega⟩ (by omega) (by walk_at "subs") hv' fun n r' p' e' => ?_
  walk_at "w"
  have z := (Sz.first h0 h1 hk)
  refine sl_put0 (S := ((Gs.s0 nx).opn).beg 0 ks) (op := .tick) (args := []) (more := .no) ⟨Nat.le_of_ble_eq_true rfl, Nat.le_of_ble_eq_true rfl, ?_, ?_, by show (0 : Int) ≤ 0 ∧ (0 : Int) ≤ 1000000; omega⟩ (by walk_at "subs") (.inl rfl) ?_
  · show ([] ++ named nx ks).length ≤ 100000
    rw [List.nil_append, named_len]; omega
  · show 0 ≤ nx + (ks.length : Int) ∧ nx + (ks.length : Int) ≤ 1000000
    omega
  walk_at "w"
  show Conv Q _ (stH a b r' p' e' (Gs.first nx ks) ((n, .lst (rangeL nx ks.length)) :: (p, potD c P1) :: (c, potL P1) :: R))
  exact conv (K := (n, .lst (rangeL nx ks.length)) :: stH a b r' p' e' (Gs.first nx ks) ((p, potD c P1) :: (c, potL P1) :: R)) (by walk_at "subs") (q a b r' p' e' n nx P1 hP1 h0 h1)
theorem sl_number {a b r p e : Nat} {S : Gs} {v : Int} (hS : SOk S) (hp : Sub H (stL a b r p e S) R) (q : Q (.int S.next) (stH a b r p e (S.put (some .num) .number [] (.num v)) R)) : WP B (callN G fuel (d + 2) f_l_number [.ref a, .int v]) H Q := by
  have hp' : H.Perm (stH a b r p e S R) := hp
  refine wp_perm hp' ?_
  walk_at "in"
  walk_at "w"
  refine sl_put1 (S := S) (k := .num) (op := .number) (args := []) (more := .num v) hS (by walk_at "subs") (.inl rfl) ?_
  walk_at "w"
  exact conv0 q
/-- a function that is done -/
structure FunOk (T : Sg) (nm : PySem.Str) (ks : List Kd) (bs : List Block) : Prop where
  ty : FunT T ⟨nm, .num, bs⟩ ks
  sz : total bs ≤ 500
  bl : ∀ b ∈ bs, BlkB b
theorem oB_map (bs : List Block) : (bs.map some).map oB = bs.map Block.v := by rw [List.map_map]; rfl
theorem sl_ended {a b r p e m : Nat} {S : Gs} {nm : PySem.Str} {x : Int} {T : Sg} {pl : Plan} {rk rk0 : Nat} {ks : List Kd} {Γ : Ga} (hO : ({ S with env := Γ } : Gs).Open T pl rk []) (h0 : pl 0 = some ⟨[], ks, rk0, true⟩) (hx : (x, Kd.num) ∈ Γ) (hS : Sz S m) (hm : m ≤ 240) (hp : Sub H (stL a b r p e S) R) (q : ∀ bs, FunOk T nm ks bs → Q (Fun.v ⟨nm, .num, bs⟩) R) :
    WP B (callN G fuel (d + 2) f_l_ended [.ref a, .str nm, .int x]) H Q := by
  have hp' : H.Perm (stH a b r p e S R) := hp
  have hs := hO.fin_ (en := .give x) (.give hx) (fun c args z => by cases z)
  obtain ⟨bs, h1, h2, h3, h4⟩ := hs.done (nm := nm) h0
  have h1 : (S.fin (.give x)).blocks = bs.map some := h1
  have h3 : (total bs : Int) ≤ (S.fin (.give x)).line + ((S.fin (.give x)).blocks.length : Nat) := h3
  have hS' := hS.fin (.give x)
  refine wp_perm hp' ?_
  walk_at "in"
  walk_at "w"
  refine sl_end (S := S) (en := .give x) (show S.now < S.blocks.length from hO.now) (by walk_at "subs") ?_
  walk_at "w"
  rw [h1, oB_map]
  refine conv (K := R) (by walk_at "subs") (q bs ⟨h2, ?_, h4⟩)
  have := hS'.h1
  have := hS'.h5
  have h3' : (total bs : Int) ≤ (S.fin (.give x)).line + ((S.fin (.give x)).blocks.length : Nat) := h3
  omega
end
section
variable {B H R R' : HL} {d : Nat} {Q : Val → HL → Prop}
theorem wp_less {α : Type} {m : Store → Res α} {K X : HL} {Q : α → HL → Prop} (p : Sub H K X) (h : WP B m K Q) : WP B m H Q := fun st F s => by
  refine h st F ((s.perm ((List.Perm.append_right F p).trans (by rw [List.append_assoc]))).sub ?_)
  exact (List.Sublist.refl K).append (List.sublist_append_right X F)
theorem wf_sub {c : Ctx} {t : Tg} {b : Ss} {w : Watch} {xs : List Val} {s : Env} {K X : HL} {N : Env → HL → Prop} {T : Val → HL → Prop} (p : Sub H K X) (h : WF B c t b w xs s K N T) : WF B c t b w xs s H N T := wp_less p h
theorem wss_sub {c : Ctx} {x : Ss} {s : Env} {K X : HL} {N : Env → HL → Prop} {T : Val → HL → Prop} {K' C : Env → HL → Prop} (p : Sub H K X) (h : WSs B c x s K N T K' C) : WSs B c x s H N T K' C := wp_less p h
theorem mem_named : ∀ (n : Nat) (nx : Int) (i : Nat), i < n → (nx + i, Kd.num) ∈ named nx (List.replicate n Kd.num)
  | 0, _, _, h => absurd h (Nat.not_lt_zero _)
  | n + 1, nx, 0, _ => by rw [List.replicate_succ, named]; simp
  | n + 1, nx, i + 1, h => by
    rw [List.replicate_succ, named]
    have := mem_named n (nx + 1) i (by omega)
    rw [show nx + ((i + 1 : Nat) : Int) = nx + 1 + i by omega]
    exact List.mem_cons_of_mem _ this
theorem env_put1 {S : Gs} {k : Kd} {op : Op} {args : List Int} {more : More} {x : Int} {k' : Kd} (h : (x, k') ∈ S.env) : (x, k') ∈ (S.put (some k) op args more).env := by
  show (x, k') ∈ S.env ++ [_]
  exact List.mem_append_left _ h
theorem env_put0 {S : Gs} {op : Op} {args : List Int} {more : More} {x : Int} {k' : Kd} (h : (x, k') ∈ S.env) : (x, k') ∈ (S.put none op args more).env := h
theorem num_of {v : Int} (h0 : -2147483648 ≤ v) (h1 : v ≤ 2147483647) : Md.Num v := ⟨h0, h1⟩
def tellB : Ss := match d_l_teller.body with
  | .cons _ (.cons _ (.cons _ (.cons (.for _ _ b) _))) => b
  | _ => .nil
theorem sl_tloop {a b r p e pp c : Nat} {T : Sg} {pl : Plan} {rk : Nat} {U : List Nat} {R : HL} {wt : Watch} {a0 a1 a6 : Option Val} {N : Env → HL → Prop} {T' : Val → HL → Prop} (hs : Sees B R wt) : ∀ (n : Nat) (x0 : Int) (S : Gs) (P : Pot) (s : Int) (m : Nat) (a4 a7 : Option Val), S.Open T pl rk U → Sz S m → m + 4 * n ≤ 240 → (∀ i : Nat, i < n → (x0 + i, Kd.num) ∈ S.env) → (s, Kd.num) ∈ S.env → P.ok →
    (∀ S' P' s' a4 a7, S'.Open T pl rk U → Sz S' (m + 4 * n) → (s', Kd.num) ∈ S'.env → P'.ok → N [a0, a1, some (.tup [.str "number"]), some (.int s'), a4, some (.ref a), a6, a7] (stH a b r p e S' ((pp, potD c P') :: (c, potL P') :: R))) → a0 = some (.ref pp) →
    WF B (cxN G fuel (d + 3)) (.one 4) tellB wt (rangeL x0 n) [a0, a1, some (.tup [.str "number"]), some (.int s), a4, some (.ref a), a6, a7] (stH a b r p e S ((pp, potD c P) :: (c, potL P) :: R)) N T'
  | 0, x0, S, P, s, m, a4, a7, hO, hz, hm, hx, hsum, hP, q, ha0 => by
    rw [rangeL]
    exact for_nil (fun i xs h => (hs i xs h).imp_left fun z => List.mem_cons_of_mem _ (List.mem_cons_of_mem _ (List.mem_cons_of_mem _ (List.mem_cons_of_mem _ (List.mem_cons_of_mem _ (List.mem_cons_of_mem _ (List.mem_cons_of_mem _ z))))))) (q S P s a4 a7 hO hz hsum hP)
  | n + 1, x0, S, P, s, m, a4, a7, hO, hz, hm, hx, hsum, hP, q, ha0 => by
    subst ha0
    rw [rangeL]
    refine for_cons (fun i xs h => (hs i xs h).imp_left fun z => List.mem_cons_of_mem _ (List.mem_cons_of_mem _ (List.mem_cons_of_mem _ (List.mem_cons_of_mem _ (List.mem_cons_of_mem _ (List.mem_cons_of_mem _ (List.mem_cons_of_mem _ z))))))) rfl ?_
    unfold tellB d_l_teller
    dsimp only
    have hx0 : (x0, Kd.num) ∈ S.env := by have := hx 0 (by omega); simpa using this
    walk_at "w"
    refine sl_put0 (S := S) (op := .tell) (args := [x0]) (more := .no) (hz.ok (by omega)) (by walk_at "subs") (.inl rfl) ?_
    have O1 := hO.put0 (op := .tell) (more := .no) (.cons hx0 .nil) .tell (Nat.le_of_ble_eq_true rfl)
    have z1 := hz.put none .tell [x0] .no
    have e1 : ∀ {x k}, (x, k) ∈ S.env → (x, k) ∈ (S.put none .tell [x0] .no).env := fun h => h
    generalize S.put none .tell [x0] .no = S1 at O1 z1 e1 ⊢
    walk_at "w"
    refine sl_take (n := 90) hP (by decide) (by decide) (by walk_at "subs") fun w P1 hP1 g0 g1 => ?_
    walk_at "w"
    refine sl_number (S := S1) (v := 3 + w) (z1.ok (by omega)) (by walk_at "subs") ?_
    have O2 := O1.put1 (k := .num) (op := .number) (more := .num (3 + w)) .nil (.number (num_of (by omega) (by omega))) (by decide)
    have z2 := z1.put (some .num) .number [] (.num (3 + w))
    have e2 : ∀ {x k}, (x, k) ∈ S1.env → (x, k) ∈ (S1.put (some .num) .number [] (.num (3 + w))).env := env_put1
    have m2 : (S1.next, Kd.num) ∈ (S1.put (some .num) .number [] (.num (3 + w))).env := Gs.put_mem
    generalize S1.put (some .num) .number [] (.num (3 + w)) = S2 at O2 z2 e2 m2 ⊢
    walk_at "w"
    refine sl_put1 (S := S2) (k := .num) (op := .mul) (args := [x0, S1.next]) (more := .no) (z2.ok (by omega)) (by walk_at "subs") (.inl rfl) ?_
    have O3 := O2.put1 (k := .num) (op := .mul) (args := [x0, S1.next]) (more := .no) (.cons (e2 (e1 hx0)) (.cons m2 .nil)) (.nums (by simp)) (Nat.le_of_ble_eq_true rfl)
    have z3 := z2.put (some .num) .mul [x0, S1.next] .no
    have e3 : ∀ {x k}, (x, k) ∈ S2.env → (x, k) ∈ (S2.put (some .num) .mul [x0, S1.next] .no).env := env_put1
    have m3 : (S2.next, Kd.num) ∈ (S2.put (some .num) .mul [x0, S1.next] .no).env := Gs.put_mem
    generalize S2.put (some .num) .mul [x0, S1.next] .no = S3 at O3 z3 e3 m3 ⊢
    walk_at "w"
    refine sl_take (n := 2) hP1 (by decide) (by decide) (by walk_at "subs") fun w2 P2 hP2 k0 k1 => ?_
    obtain ⟨op, ew, hop⟩ : ∃ op : Op, L2.atI [Val.str "+", .str "-"] w2 = some (.str op.s) ∧ (op = .add ∨ op = .sub) := by
      obtain rfl | rfl : w2 = 0 ∨ w2 = 1 := by omega
      · exact ⟨.add, rfl, .inl rfl⟩
      · exact ⟨.sub, rfl, .inr rfl⟩
    refine x_lst (by walk_at "sub") ew ?_
    walk_at "w"
    refine sl_put1 (S := S3) (k := .num) (op := op) (args := [s, S2.next]) (more := .no) (z3.ok (by omega)) (by walk_at "subs") (.inl rfl) ?_
    have O4 := O3.put1 (k := .num) (op := op) (args := [s, S2.next]) (more := .no) (.cons (e3 (e2 (e1 hsum))) (.cons m3 .nil)) (.nums (by rcases hop with rfl | rfl <;> simp)) (Nat.le_of_ble_eq_true rfl)
    have z4 := z3.put (some .num) op [s, S2.next] .no
    have e4 : ∀ {x k}, (x, k) ∈ S3.env → (x, k) ∈ (S3.put (some .num) op [s, S2.next] .no).env := env_put1
    have m4 : (S3.next, Kd.num) ∈ (S3.put (some .num) op [s, S2.next] .no).env := Gs.put_mem
    generalize S3.put (some .num) op [s, S2.next] .no = S4 at O4 z4 e4 m4 ⊢
    walk_at "w"
    refine wf_sub (K := stH a b r p e S4 ((pp, potD c P2) :: (c, potL P2) :: R)) (X := _) (by walk_at "subs") ?_
    refine sl_tloop hs n (x0 + 1) S4 P2 _ (m + 1 + 1 + 1 + 1) _ _ O4 z4 (by omega) (fun i hi => ?_) m4 hP2 (fun S' P' s' a4 a7 h1 h2 h3 h4 => q S' P' s' a4 a7 h1 (by rw [show m + 4 * (n + 1) = m + 1 + 1 + 1 + 1 + 4 * n by omega]; exact h2) h3 h4) rfl
    have := hx (i + 1) (by omega)
    rw [show x0 + ((i + 1 : Nat) : Int) = x0 + 1 + i by omega] at this
    exact e4 (e3 (e2 (e1 this)))
end
section
variable {B H R R' : HL} {d : Nat} {Q : Val → HL → Prop}
theorem rep_okn {many : Nat} (hm : many ≤ 20) (v : Val) : repOk [v] (many : Int) = true := by
  unfold repOk
  simp only [Bool.and_eq_true, decide_eq_true_eq]
  exact ⟨⟨by omega, by omega⟩, fits_small (by simp; omega)⟩
theorem first_env {nx : Int} {ks : List Kd} : (Gs.first nx ks).env = named nx ks := rfl
theorem sl_teller {p c many : Nat} {P : Pot} {T : Sg} (hP : P.ok) (hm : 1 ≤ many ∧ many ≤ 10) (hp : Sub H [(p, potD c P), (c, potL P)] R)
    (q : ∀ bs P', P'.ok → FunOk T "teller" (List.replicate many .num) bs → Q (Fun.v ⟨"teller", .num, bs⟩) ((p, potD c P') :: (c, potL P') :: R)) :
    WP B (callN G fuel (d + 4) f_l_teller [.ref p, .int many]) H Q := by
  refine wp_perm (show H.Perm ((p, potD c P) :: (c, potL P) :: R) from hp) ?_
  walk_at "in"
  show WSs B _ (.cons _ (.cons _ (.cons _ (.cons (.for _ _ tellB) _)))) _ _ _ _ _ _
  walk_at "w"
  refine p_mull' sub_one (rep_okn (by omega) _) fun k1 => ?_
  rw [show rep [Val.tup [Val.str "number"]] (many : Int) = _ from rep_kinds many]
  walk_at "w"
  refine sl_state (ks := List.replicate many .num) hP (by rw [List.length_replicate]; omega) (by walk_at "subs") (.inr ⟨k1, _, rfl, by walk_at "sub"⟩) fun a b r e f n nx P1 hP1 h0 h1 => ?_
  have z0 := Sz.first (ks := List.replicate many Kd.num) h0 h1 (by rw [List.length_replicate]; omega)
  have O0 := first_open (T := T) (nx := nx) (ks := List.replicate many Kd.num) 5 (by rw [List.length_replicate]; omega)
  have n0 : ∀ i : Nat, i < many → (nx + i, Kd.num) ∈ (Gs.first nx (List.replicate many Kd.num)).env := fun i hi => mem_named many nx i hi
  rw [List.length_replicate]
  generalize Gs.first nx (List.replicate many Kd.num) = S0 at z0 O0 n0 ⊢
  walk_at "w"
  refine sl_take (n := 100) hP1 (by decide) (by decide) (by walk_at "subs") fun w P2 hP2 g0 g1 => ?_
  walk_at "w"
  refine sl_number (S := S0) (v := w) (z0.ok (by decide)) (by walk_at "subs") ?_
  have O1 := O0.put1 (k := .num) (op := .number) (more := .num w) .nil (.number (num_of (by omega) (by omega))) (by decide)
  have z1 := z0.put (some .num) .number [] (.num w)
  have e1 : ∀ {x k}, (x, k) ∈ S0.env → (x, k) ∈ (S0.put (some .num) .number [] (.num w)).env := env_put1
  have m1 : (S0.next, Kd.num) ∈ (S0.put (some .num) .number [] (.num w)).env := Gs.put_mem
  generalize S0.put (some .num) .number [] (.num w) = S1 at O1 z1 e1 m1 ⊢
  walk_at "w"
  refine wf_sub (K := stH a b r e f S1 ((p, potD c P2) :: (c, potL P2) :: (n, .lst (rangeL nx many)) :: R)) (X := _) (by walk_at "subs") ?_
  refine sl_tloop (fun i xs h => .inl (by cases List.mem_singleton.mp h; simp)) many nx S1 P2 _ 51 _ _ O1 z1 (by omega) (fun i hi => e1 (n0 i hi)) m1 hP2 (fun S' P' s' a4 a7 h1 h2 h3 h4 => ?_) rfl
  walk_at "w"
  refine sl_ended (ks := List.replicate many .num) h1 plan_at h3 h2 (by omega) (by walk_at "subs") fun bs hbs => ?_
  exact conv (by walk_at "subs") (q bs P' h4 hbs)
end
section
variable {B H R R' : HL} {d : Nat} {Q : Val → HL → Prop}
def rI (n : Int) : Nat → List Int
  | 0 => []
  | k + 1 => n :: rI (n + 1) k
theorem rangeL_rI : ∀ (k : Nat) (n : Int), rangeL n k = (rI n k).map Val.int
  | 0, _ => rfl
  | k + 1, n => by rw [rangeL, rI, List.map_cons, rangeL_rI k]
theorem rI_len : ∀ (k : Nat) (n : Int), (rI n k).length = k
  | 0, _ => rfl
  | k + 1, n => by rw [rI, List.length_cons, rI_len k]
theorem rI_get : ∀ (k : Nat) (n : Int) (i : Nat), i < k → (rI n k)[i]? = some (n + i)
  | 0, _, _, h => absurd h (Nat.not_lt_zero _)
  | k + 1, n, 0, _ => by rw [rI]; simp
  | k + 1, n, i + 1, h => by
    rw [rI, List.getElem?_cons_succ, rI_get k (n + 1) i (by omega)]
    congr 1; push_cast; omega
theorem ArgsT.mono {Γ Γ' : Ga} (h : ∀ q ∈ Γ, q ∈ Γ') : ∀ {xs : List Int} {ks : List Kd}, ArgsT Γ xs ks → ArgsT Γ' xs ks
  | _, _, .nil => .nil
  | _, _, .cons a t => .cons (h _ a) (ArgsT.mono h t)
theorem args_named : ∀ (ks : List Kd) (n : Int), ArgsT (named n ks) (rI n ks.length) ks
  | [], _ => .nil
  | k :: r, n => by
    rw [named, List.length_cons, rI]
    exact .cons (by simp) (ArgsT.mono (fun q hq => List.mem_cons_of_mem _ hq) (args_named r (n + 1)))
theorem args_nums {Γ : Ga} : ∀ {xs : List Int}, (∀ x ∈ xs, (x, Kd.num) ∈ Γ) → ArgsT Γ xs (List.replicate xs.length .num)
  | [], _ => .nil
  | x :: r, h => by
    rw [List.length_cons, List.replicate_succ]
    exact .cons (h x (by simp)) (args_nums fun y hy => h y (by simp [hy]))
theorem ArgsT.append {Γ : Ga} : ∀ {xs ys : List Int} {ks ls : List Kd}, ArgsT Γ xs ks → ArgsT Γ ys ls → ArgsT Γ (xs ++ ys) (ks ++ ls)
  | _, _, _, _, .nil, h => h
  | _, _, _, _, .cons a t, h => .cons a (ArgsT.append t h)
theorem range_down (n : Nat) : PySem.sliceRange ((n : Int) + 1 - 1) 0 (-1) = (List.range n).map fun k => n - k := by
  unfold PySem.sliceRange
  have e : (if (-1 : Int) > 0 then (if (n : Int) + 1 - 1 < 0 then (0 - ((n : Int) + 1 - 1) + (-1) - 1) / (-1) else 0) else (if (n : Int) + 1 - 1 > 0 then ((n : Int) + 1 - 1 - 0 - (-1) - 1) / (-(-1)) else 0)).toNat = n := by
    rw [if_neg (by decide)]
    by_cases h : n = 0
    · subst h; rfl
    · rw [if_pos (by omega), show (-(-1) : Int) = 1 from rfl, Int.ediv_one]; omega
  simp only [e]
  apply List.map_congr_left
  intro k hk
  have := List.mem_range.mp hk
  omega
theorem pick_rev (n : Nat) (x : Int) : pickL ((rI x (n + 1)).map Val.int) none (some 0) (-1) = ((List.range n).map fun k => x + ((n - k : Nat) : Int)).map Val.int := by
  unfold pickL
  rw [List.length_map, rI_len]
  have hb : PySem.sliceBounds none (some 0) (some (-1)) (n + 1) = ((n : Int) + 1 - 1, 0, -1) := by
    unfold PySem.sliceBounds
    simp only [Option.getD]
    refine Prod.ext ?_ (Prod.ext ?_ rfl)
    · simp
    · show (max (-1) (min (if (0 : Int) < 0 then 0 + ((n + 1 : Nat) : Int) else 0) (((n + 1 : Nat) : Int) - 1)) : Int) = 0
      rw [if_neg (by decide)]; omega
  rw [hb]
  simp only
  rw [range_down, List.filterMap_map, List.map_map]
  have : ∀ (l : List Nat), (∀ k ∈ l, k < n) → l.filterMap ((fun i => ((rI x (n + 1)).map Val.int)[i]?) ∘ fun k => n - k) = l.map (Val.int ∘ fun k => x + ((n - k : Nat) : Int)) := by
    intro l
    induction l with
    | nil => intro _; rfl
    | cons a r ih =>
      intro h
      have ha := h a (by simp)
      have : ((rI x (n + 1)).map Val.int)[n - a]? = some (.int (x + ((n - a : Nat) : Int))) := by
        rw [List.getElem?_map, rI_get _ _ _ (by omega)]; rfl
      rw [List.filterMap_cons]
      simp only [Function.comp, this]
      rw [List.map_cons, ← ih fun k hk => h k (by simp [hk])]
      rfl
  exact this _ fun k hk => List.mem_range.mp hk
theorem kds_map (ks : List Kd) : Kd.vs ks = ks.map Kd.v := by
  induction ks with
  | nil => rfl
  | cons k r ih => rw [Kd.vs, ih, List.map_cons]
def fnK (n : Nat) : Kd := .fn (List.replicate n .num) .num
theorem fnK_v (n : Nat) : Val.tup [.str "fun", .tup (rep [Val.tup [Val.str "number"]] (n : Int)), .tup [.str "number"]] = (fnK n).v := by
  rw [show rep [Val.tup [Val.str "number"]] (n : Int) = _ from rep_kinds n, ← kds_map]; rfl
theorem sl_asker {p c many : Nat} {P : Pot} {T : Sg} (hP : P.ok) (hm : many ≤ 10) (hp : Sub H [(p, potD c P), (c, potL P)] R)
    (q : ∀ bs P', P'.ok → FunOk T "asker" (fnK many :: List.replicate many .num) bs → Q (Fun.v ⟨"asker", .num, bs⟩) ((p, potD c P') :: (c, potL P') :: R)) :
    WP B (callN G fuel (d + 4) f_l_asker [.ref p, .int many]) H Q := by
  have hlen : (fnK many :: List.replicate many Kd.num).length = many + 1 := by simp
  refine wp_perm (show H.Perm ((p, potD c P) :: (c, potL P) :: R) from hp) ?_
  walk_at "in"
  walk_at "w"
  refine p_mult' ⟨by simp, by omega, by omega, by simp⟩ ?_
  walk_at "w"
  rw [fnK_v]
  refine p_mull' sub_one (rep_okn (by omega) _) fun k2 => ?_
  rw [show rep [Val.tup [Val.str "number"]] (many : Int) = _ from rep_kinds many]
  walk_at "w"
  rename_i k0 k1
  refine p_addl' (by walk_at "sub") (by walk_at "sub") (fits_small (by simp; omega)) fun k3 => ?_
  rw [show [(fnK many).v] ++ (List.replicate many Kd.num).map Kd.v = (fnK many :: List.replicate many Kd.num).map Kd.v from rfl]
  walk_at "w"
  refine sl_state (ks := fnK many :: List.replicate many .num) hP (by omega) (by walk_at "subs") (.inr ⟨k3, _, rfl, by walk_at "sub"⟩) fun a b r e f n nx P1 hP1 h0 h1 => ?_
  have z0 := Sz.first (ks := fnK many :: List.replicate many .num) h0 h1 (by omega)
  have O0 := first_open (T := T) (nx := nx) (ks := fnK many :: List.replicate many .num) 5 (by omega)
  have A0 : ArgsT (Gs.first nx (fnK many :: List.replicate many .num)).env (rI nx (many + 1)) (fnK many :: List.replicate many .num) := by
    have := args_named (fnK many :: List.replicate many .num) nx
    rw [hlen] at this; exact this
  have f0 : (nx, fnK many) ∈ (Gs.first nx (fnK many :: List.replicate many .num)).env := by rw [first_env, named]; simp
  have n0 : ∀ i : Nat, i < many → (nx + 1 + i, Kd.num) ∈ (Gs.first nx (fnK many :: List.replicate many .num)).env := fun i hi => by
    rw [first_env, named]
    exact List.mem_cons_of_mem _ (mem_named many (nx + 1) i hi)
  rw [hlen, rangeL_rI]
  generalize Gs.first nx (fnK many :: List.replicate many .num) = S0 at z0 O0 A0 f0 n0 ⊢
  walk_at "w"
  refine sl_put1 (S := S0) (k := .num) (op := .ask) (args := rI nx (many + 1)) (more := .no) (z0.ok (by decide)) (by walk_at "subs") (.inr ⟨n, _, rfl, by walk_at "sub"⟩) ?_
  have O1 := O0.put1 (k := .num) (op := .ask) (more := .no) A0 .ask (by rw [rI_len]; omega)
  have z1 := z0.put (some .num) .ask (rI nx (many + 1)) .no
  have e1 : ∀ {x k}, (x, k) ∈ S0.env → (x, k) ∈ (S0.put (some .num) .ask (rI nx (many + 1)) .no).env := env_put1
  have m1 : (S0.next, Kd.num) ∈ (S0.put (some .num) .ask (rI nx (many + 1)) .no).env := Gs.put_mem
  generalize S0.put (some .num) .ask (rI nx (many + 1)) .no = S1 at O1 z1 e1 m1 ⊢
  walk_at "w"
  refine sl_put0 (S := S1) (op := .tell) (args := [S0.next]) (more := .no) (z1.ok (by decide)) (by walk_at "subs") (.inl rfl) ?_
  have O2 := O1.put0 (op := .tell) (more := .no) (.cons m1 .nil) .tell (Nat.le_of_ble_eq_true rfl)
  have z2 := z1.put none .tell [S0.next] .no
  have e2 : ∀ {x k}, (x, k) ∈ S1.env → (x, k) ∈ (S1.put none .tell [S0.next] .no).env := fun h => h
  generalize S1.put none .tell [S0.next] .no = S2 at O2 z2 e2 ⊢
  walk_at "w"
  refine sl_take (n := 2) hP1 (by decide) (by decide) (by walk_at "subs") fun w P2 hP2 g0 g1 => ?_
  walk_at "w"
  refine br_dec (fun hw => ?_) fun hw => ?_
  · walk_at "w"
    rename_i l1
    have hpk := pick_rev many nx
    refine x_cut3 (by walk_at "sub") rfl rfl (by decide) (by rw [hpk]; exact fits_small (by simp; omega)) fun l2 => ?_
    rw [hpk]
    refine p_addl' (by walk_at "sub") (by walk_at "sub") (fits_small (by simp; omega)) fun l3 => ?_
    rw [show [Val.int nx] ++ ((List.range many).map fun k => nx + ((many - k : Nat) : Int)).map Val.int = (nx :: (List.range many).map fun k => nx + ((many - k : Nat) : Int)).map Val.int from rfl]
    have A1 : ArgsT S2.env (nx :: (List.range many).map fun k => nx + ((many - k : Nat) : Int)) (fnK many :: List.replicate many .num) := by
      refine .cons (e2 (e1 f0)) ?_
      have := args_nums (Γ := S2.env) (xs := (List.range many).map fun k => nx + ((many - k : Nat) : Int)) fun x hx => by
        obtain ⟨k, hk, rfl⟩ := List.mem_map.mp hx
        have hk := List.mem_range.mp hk
        have := n0 (many - k - 1) (by omega)
        rw [show nx + 1 + ((many - k - 1 : Nat) : Int) = nx + ((many - k : Nat) : Int) by omega] at this
        exact e2 (e1 this)
      rw [List.length_map, List.length_range] at this
      exact this
    generalize hargs : (nx :: (List.range many).map fun k => nx + ((many - k : Nat) : Int)) = args at A1 ⊢
    have hal : args.length ≤ 100 := by rw [← hargs]; simp; omega
    walk_at "w"
    refine sl_put1 (S := S2) (k := .num) (op := .ask) (args := args) (more := .no) (z2.ok (by decide)) (by walk_at "subs") (.inr ⟨l3, _, rfl, by walk_at "sub"⟩) ?_
    have O3 := O2.put1 (k := .num) (op := .ask) (more := .no) A1 .ask hal
    have z3 := z2.put (some .num) .ask args .no
    have m3 : (S2.next, Kd.num) ∈ (S2.put (some .num) .ask args .no).env := Gs.put_mem
    generalize S2.put (some .num) .ask args .no = S3 at O3 z3 m3 ⊢
    walk_at "w"
    refine sl_ended (ks := fnK many :: List.replicate many .num) O3 plan_at m3 z3 (by decide) (by walk_at "subs") fun bs hbs => ?_
    exact conv (by walk_at "subs") (q bs P2 hP2 hbs)
  · walk_at "w"
    refine sl_ended (ks := fnK many :: List.replicate many .num) O2 plan_at (e2 m1) z2 (by decide) (by walk_at "subs") fun bs hbs => ?_
    exact conv (by walk_at "subs") (q bs P2 hP2 hbs)
end
section
variable {B H R R' : HL} {d : Nat} {Q : Val → HL → Prop}
theorem rI_at {k : Nat} {n : Int} {i : Nat} (h : i < k) : L2.atI ((rI n k).map Val.int) (i : Int) = some (.int (n + i)) := atI_nat (by rw [List.getElem?_map, rI_get _ _ _ h]; rfl)
theorem rI_drop : ∀ (j k : Nat) (n : Int), (rI n (j + k)).drop j = rI (n + j) k
  | 0, k, n => by simp
  | j + 1, k, n => by
    rw [show j + 1 + k = (j + k) + 1 by omega, rI, List.drop_succ_cons, rI_drop j k (n + 1)]
    congr 1; push_cast; omega
theorem rI_mem : ∀ (k : Nat) (n x : Int), x ∈ rI n k → ∃ i : Nat, i < k ∧ x = n + i
  | 0, _, _, h => by cases h
  | k + 1, n, x, h => by
    rw [rI] at h
    rcases List.mem_cons.mp h with rfl | h
    · exact ⟨0, by omega, by simp⟩
    · obtain ⟨i, h1, h2⟩ := rI_mem k (n + 1) x h
      exact ⟨i + 1, by omega, by rw [h2]; push_cast; omega⟩
theorem sl_again {p c many : Nat} {P : Pot} {T : Sg} (hT : (("again" : PySem.Str), List.replicate (1 + many) Kd.num, Kd.num) ∈ T.fn) (hP : P.ok) (hm : 2 ≤ many ∧ many ≤ 12) (hp : Sub H [(p, potD c P), (c, potL P)] R)
    (q : ∀ bs P', P'.ok → FunOk T "again" (List.replicate (1 + many) .num) bs → Q (Fun.v ⟨"again", .num, bs⟩) ((p, potD c P') :: (c, potL P') :: R)) :
    WP B (callN G fuel (d + 4) f_l_again [.ref p, .int many]) H Q := by
  refine wp_perm (show H.Perm ((p, potD c P) :: (c, potL P) :: R) from hp) ?_
  walk_at "in"
  walk_at "w"
  rw [show (1 : Int) + (many : Int) = ((1 + many : Nat) : Int) by push_cast; rfl]
  refine p_mull' sub_one (rep_okn (by omega) _) fun k1 => ?_
  rw [show rep [Val.tup [Val.str "number"]] ((1 + many : Nat) : Int) = _ from rep_kinds (1 + many)]
  walk_at "w"
  refine sl_state (ks := List.replicate (1 + many) .num) hP (by rw [List.length_replicate]; omega) (by walk_at "subs") (.inr ⟨k1, _, rfl, by walk_at "sub"⟩) fun a b r e f n nx P1 hP1 h0 h1 => ?_
  have z0 := Sz.first (ks := List.replicate (1 + many) Kd.num) h0 h1 (by rw [List.length_replicate]; omega)
  have O0 := first_open (T := T) (nx := nx) (ks := List.replicate (1 + many) Kd.num) 5 (by rw [List.length_replicate]; omega)
  have n0 : ∀ i : Nat, i < 1 + many → (nx + i, Kd.num) ∈ (Gs.first nx (List.replicate (1 + many) Kd.num)).env := fun i hi => mem_named (1 + many) nx i hi
  have b0 : (Gs.first nx (List.replicate (1 + many) Kd.num)).blocks.length = 1 := rfl
  rw [List.length_replicate, rangeL_rI]
  have at0 : L2.atI ((rI nx (1 + many)).map Val.int) 0 = some (.int nx) := by have := rI_at (k := 1 + many) (n := nx) (i := 0) (by omega); simpa using this
  have at1 : L2.atI ((rI nx (1 + many)).map Val.int) 1 = some (.int (nx + 1)) := rI_at (k := 1 + many) (n := nx) (i := 1) (by omega)
  have c2 : cutL ((rI nx (1 + many)).map Val.int) (some 2) none = (rI (nx + 2) (many - 1)).map Val.int := by
    rw [show cutL ((rI nx (1 + many)).map Val.int) (some 2) none = _ from cut_from _ 2, ← List.map_drop, show 1 + many = 2 + (many - 1) by omega, rI_drop 2]; rfl
  have c1 : cutL ((rI nx (1 + many)).map Val.int) (some 1) (some 2) = [.int (nx + 1)] := by
    obtain ⟨m, rfl⟩ : ∃ m, many = m + 1 := ⟨many - 1, by omega⟩
    unfold cutL
    rw [show HT.sIx ((rI nx (1 + (m + 1))).map Val.int).length 0 (some 1) = 1 by have := HT.sIx_nat ((rI nx (1 + (m + 1))).map Val.int).length 0 1; rw [List.length_map, rI_len] at this ⊢; rw [Nat.min_eq_left (by omega)] at this; exact this, show HT.sIx ((rI nx (1 + (m + 1))).map Val.int).length ((rI nx (1 + (m + 1))).map Val.int).length (some 2) = 2 by have := HT.sIx_nat ((rI nx (1 + (m + 1))).map Val.int).length ((rI nx (1 + (m + 1))).map Val.int).length 2; rw [List.length_map, rI_len] at this ⊢; rw [Nat.min_eq_left (by omega)] at this; exact this]
    rw [show 1 + (m + 1) = (m + 1) + 1 by omega, rI, rI]
    simp
  generalize hN : rI nx (1 + many) = names at *
  generalize Gs.first nx (List.replicate (1 + many) Kd.num) = S0 at z0 O0 n0 b0 ⊢
  walk_at "w"
  refine sl_number (S := S0) (v := 0) (z0.ok (by decide)) (by walk_at "subs") ?_
  have O1 := O0.put1 (k := .num) (op := .number) (more := .num 0) .nil (.number (num_of (by omega) (by omega))) (by decide)
  have z1 := z0.put (some .num) .number [] (.num 0)
  have e1 : ∀ {x k}, (x, k) ∈ S0.env → (x, k) ∈ (S0.put (some .num) .number [] (.num 0)).env := env_put1
  have m1 : (S0.next, Kd.num) ∈ (S0.put (some .num) .number [] (.num 0)).env := Gs.put_mem
  have b1 : (S0.put (some .num) .number [] (.num 0)).blocks.length = 1 := b0
  generalize S0.put (some .num) .number [] (.num 0) = S1 at O1 z1 e1 m1 b1 ⊢
  walk_at "w"
  refine x_lst (by walk_at "sub") at0 ?_
  walk_at "w"
  have nx0 : (nx, Kd.num) ∈ S0.env := by have := n0 0 (by omega); simpa using this
  have nx1 : (nx + 1, Kd.num) ∈ S0.env := n0 1 (by omega)
  refine sl_put1 (S := S1) (k := .tru) (op := .lt) (args := [S0.next, nx]) (more := .no) (z1.ok (by decide)) (by walk_at "subs") (.inl rfl) ?_
  have O2 := O1.put1 (k := .tru) (op := .lt) (args := [S0.next, nx]) (more := .no) (.cons m1 (.cons (e1 nx0) .nil)) (.cmps (.inl rfl)) (Nat.le_of_ble_eq_true rfl)
  have z2 := z1.put (some .tru) .lt [S0.next, nx] .no
  have e2 : ∀ {x k}, (x, k) ∈ S1.env → (x, k) ∈ (S1.put (some .tru) .lt [S0.next, nx] .no).env := env_put1
  have m2 : (S1.next, Kd.tru) ∈ (S1.put (some .tru) .lt [S0.next, nx] .no).env := Gs.put_mem
  have b2 : (S1.put (some .tru) .lt [S0.next, nx] .no).blocks.length = 1 := b1
  generalize S1.put (some .tru) .lt [S0.next, nx] .no = S2 at O2 z2 e2 m2 b2 ⊢
  walk_at "w"
  refine sl_open (S := S2) (z2.ok (by decide)) (by walk_at "subs") ?_
  walk_at "w"
  have b3 : S2.opn.blocks.length = 2 := by show (S2.blocks ++ [none]).length = 2; simp [b2]
  refine sl_open (S := S2.opn) (z2.opn.ok (by decide)) (by walk_at "subs") ?_
  walk_at "w"
  rw [b2, b3]
  have b4 : S2.opn.opn.blocks.length = 3 := by show (S2.opn.blocks ++ [none]).length = 3; simp [b3]
  have O4 := O2.opn.opn
  rw [b2, b3] at O4
  have n1 : (plan 0 ⟨[], List.replicate (1 + many) Kd.num, 5, true⟩ fun _ => none) 1 = none := rfl
  have O5 := (O4.plan (i := 1) (p := ⟨S2.env, [], 1, false⟩) n1 (by rw [b4]; decide)).plan (i := 2) (p := ⟨S2.env, [], 1, false⟩) rfl (by rw [b4]; decide)
  generalize hpl : plan 2 ⟨S2.env, [], 1, false⟩ (plan 1 ⟨S2.env, [], 1, false⟩ (plan 0 ⟨[], List.replicate (1 + many) Kd.num, 5, true⟩ fun _ => none)) = pl at O5
  have p0 : pl 0 = some ⟨[], List.replicate (1 + many) Kd.num, 5, true⟩ := by rw [← hpl]; rfl
  have p1 : pl 1 = some ⟨S2.env, [], 1, false⟩ := by rw [← hpl]; rfl
  have p2 : pl 2 = some ⟨S2.env, [], 1, false⟩ := by rw [← hpl]; rfl
  have z5 := z2.opn.opn
  have en5 : S2.opn.opn.env = S2.env := rfl
  generalize S2.opn.opn = S5 at O5 z5 en5 b4 ⊢
  refine sl_end (S := S5) (en := .branch S1.next 1 2) O5.now (by walk_at "subs") ?_
  have U6 := O5.fin_ (en := .branch S1.next 1 2) (.branch (by rw [en5]; exact m2) ⟨_, p1, rfl, fun q hq => by rw [en5]; exact hq, .inr (Nat.le_of_ble_eq_true rfl)⟩ ⟨_, p2, rfl, fun q hq => by rw [en5]; exact hq, .inr (Nat.le_of_ble_eq_true rfl)⟩) (fun c args z => by cases z)
  have z6 := z5.fin (.branch S1.next 1 2)
  have en6 : (S5.fin (.branch S1.next 1 2)).env = S2.env := en5
  generalize S5.fin (.branch S1.next 1 2) = S6 at U6 z6 en6 ⊢
  walk_at "w"
  refine sl_begin (S := S6) (at' := 1) (ks := []) (z6.ok (by decide)) (by decide) (by walk_at "subs") (.inl rfl) fun l1 r1 q1 f1 => ?_
  have O7 := (U6.beg (i := 1) (p := ⟨S2.env, [], 1, false⟩) (U' := [2]) p1 en6 (fun j hj => by simp at hj ⊢; omega) (Nat.le_of_ble_eq_true rfl)).open rfl
  have z7 := z6.beg 1 []
  have e7 : ∀ {x k}, (x, k) ∈ S2.env → (x, k) ∈ (S6.beg 1 []).env := fun {x k} h => by show (x, k) ∈ S6.env ++ []; rw [List.append_nil, en6]; exact h
  have O7 : (S6.beg 1 []).Open T pl 1 [2] := O7
  generalize S6.beg 1 [] = S7 at O7 z7 e7 ⊢
  walk_at "w"
  refine x_lst (by walk_at "sub") at0 ?_
  walk_at "w"
  refine sl_number (S := S7) (v := 1) (z7.ok (by decide)) (by walk_at "subs") ?_
  have O8 := O7.put1 (k := .num) (op := .number) (more := .num 1) .nil (.number (num_of (by omega) (by omega))) (by decide)
  have z8 := z7.put (some .num) .number [] (.num 1)
  have e8 : ∀ {x k}, (x, k) ∈ S7.env → (x, k) ∈ (S7.put (some .num) .number [] (.num 1)).env := env_put1
  have m8 : (S7.next, Kd.num) ∈ (S7.put (some .num) .number [] (.num 1)).env := Gs.put_mem
  generalize S7.put (some .num) .number [] (.num 1) = S8 at O8 z8 e8 m8 ⊢
  walk_at "w"
  refine sl_put1 (S := S8) (k := .num) (op := .sub) (args := [nx, S7.next]) (more := .no) (z8.ok (by decide)) (by walk_at "subs") (.inl rfl) ?_
  have O9 := O8.put1 (k := .num) (op := .sub) (args := [nx, S7.next]) (more := .no) (.cons (e8 (e7 (e2 (e1 nx0)))) (.cons m8 .nil)) (.nums (by simp)) (Nat.le_of_ble_eq_true rfl)
  have z9 := z8.put (some .num) .sub [nx, S7.next] .no
  have e9 : ∀ {x k}, (x, k) ∈ S8.env → (x, k) ∈ (S8.put (some .num) .sub [nx, S7.next] .no).env := env_put1
  have m9 : (S8.next, Kd.num) ∈ (S8.put (some .num) .sub [nx, S7.next] .no).env := Gs.put_mem
  generalize S8.put (some .num) .sub [nx, S7.next] .no = S9 at O9 z9 e9 m9 ⊢
  walk_at "w"
  rw [c2]
  refine p_addl' (by walk_at "sub") (by walk_at "sub") (fits_small (by simp [rI_len]; omega)) fun l2 => ?_
  walk_at "w"
  rw [c1]
  refine p_addl' (by walk_at "sub") (by walk_at "sub") (fits_small (by simp [rI_len]; omega)) fun l3 => ?_
  rw [show ([Val.int S8.next] ++ (rI (nx + 2) (many - 1)).map Val.int) ++ [Val.int (nx + 1)] = (S8.next :: (rI (nx + 2) (many - 1) ++ [nx + 1])).map Val.int by simp]
  have old : ∀ {x k}, (x, k) ∈ S0.env → (x, k) ∈ S9.env := fun h => e9 (e8 (e7 (e2 (e1 h))))
  have A9 : ArgsT S9.env (S8.next :: (rI (nx + 2) (many - 1) ++ [nx + 1])) (List.replicate (1 + many) .num) := by
    have := args_nums (Γ := S9.env) (xs := S8.next :: (rI (nx + 2) (many - 1) ++ [nx + 1])) fun x hx => by
      rcases List.mem_cons.mp hx with rfl | hx
      · exact m9
      · rcases List.mem_append.mp hx with hx | hx
        · obtain ⟨i, hi, rfl⟩ := rI_mem _ _ _ hx
          have := n0 (i + 2) (by omega)
          rw [show nx + ((i + 2 : Nat) : Int) = nx + 2 + i by push_cast; omega] at this
          exact old this
        · cases List.mem_singleton.mp hx; exact old nx1
    have hl : (S8.next :: (rI (nx + 2) (many - 1) ++ [nx + 1])).length = 1 + many := by simp [rI_len]; omega
    rw [hl] at this; exact this
  have hal : (S8.next :: (rI (nx + 2) (many - 1) ++ [nx + 1])).length ≤ 100 := by simp [rI_len]; omega
  generalize S8.next :: (rI (nx + 2) (many - 1) ++ [nx + 1]) = args at A9 hal ⊢
  walk_at "w"
  refine sl_put1 (S := S9) (k := .num) (op := .call) (args := args) (more := .nm "again") (z9.ok (by decide)) (by walk_at "subs") (.inr ⟨l3, _, rfl, by walk_at "sub"⟩) ?_
  have O10 := O9.put1 (k := .num) (op := .call) (more := .nm "again") A9 (.call hT) hal
  have z10 := z9.put (some .num) .call args (.nm "again")
  have e10 : ∀ {x k}, (x, k) ∈ S9.env → (x, k) ∈ (S9.put (some .num) .call args (.nm "again")).env := env_put1
  have m10 : (S9.next, Kd.num) ∈ (S9.put (some .num) .call args (.nm "again")).env := Gs.put_mem
  generalize S9.put (some .num) .call args (.nm "again") = S10 at O10 z10 e10 m10 ⊢
  walk_at "w"
  refine x_lst (by walk_at "sub") at0 ?_
  walk_at "w"
  refine sl_put0 (S := S10) (op := .tell) (args := [nx]) (more := .no) (z10.ok (by decide)) (by walk_at "subs") (.inl rfl) ?_
  have O11 := O10.put0 (op := .tell) (more := .no) (.cons (e10 (old nx0)) .nil) .tell (Nat.le_of_ble_eq_true rfl)
  have z11 := z10.put none .tell [nx] .no
  have e11 : ∀ {x k}, (x, k) ∈ S10.env → (x, k) ∈ (S10.put none .tell [nx] .no).env := fun h => h
  generalize S10.put none .tell [nx] .no = S11 at O11 z11 e11 ⊢
  walk_at "w"
  refine x_lst (by walk_at "sub") at1 ?_
  walk_at "w"
  refine sl_put1 (S := S11) (k := .num) (op := .sub) (args := [S9.next, nx + 1]) (more := .no) (z11.ok (by decide)) (by walk_at "subs") (.inl rfl) ?_
  have O12 := O11.put1 (k := .num) (op := .sub) (args := [S9.next, nx + 1]) (more := .no) (.cons (e11 m10) (.cons (e11 (e10 (old nx1))) .nil)) (.nums (by simp)) (Nat.le_of_ble_eq_true rfl)
  have z12 := z11.put (some .num) .sub [S9.next, nx + 1] .no
  have m12 : (S11.next, Kd.num) ∈ (S11.put (some .num) .sub [S9.next, nx + 1] .no).env := Gs.put_mem
  have h12 : ∀ {x k}, (x, k) ∈ S11.env → (x, k) ∈ (S11.put (some .num) .sub [S9.next, nx + 1] .no).env := env_put1
  generalize S11.put (some .num) .sub [S9.next, nx + 1] .no = S12 at O12 z12 m12 h12 ⊢
  walk_at "w"
  refine sl_end (S := S12) (en := .give S11.next) O12.now (by walk_at "subs") ?_
  have U13 := O12.fin_ (en := .give S11.next) (.give m12) (fun c args z => by cases z)
  have z13 := z12.fin (.give S11.next)
  have e12 : ∀ {x k}, (x, k) ∈ S11.env → (x, k) ∈ S12.env := h12
  have hlt : ∀ q ∈ S2.env, q.1 < (S12.fin (.give S11.next)).next := fun q hq => U13.env q (show (q.1, q.2) ∈ S12.env from e12 (e11 (e10 (e9 (e8 (e7 hq))))))
  have U14 := U13.env_ (Γ := S2.env) hlt
  generalize S12.fin (.give S11.next) = S13 at U14 z13 ⊢
  walk_at "w"
  refine sl_begin (S := S13) (at' := 2) (ks := []) (z13.ok (by decide)) (by decide) (by walk_at "subs") (.inl rfl) fun l4 r4 q4 f4 => ?_
  have O15 := (U14.beg (i := 2) (p := ⟨S2.env, [], 1, false⟩) (U' := []) p2 rfl (fun j hj => by simp at hj ⊢; omega) (Nat.le_of_ble_eq_true rfl)).open rfl
  walk_at "w"
  refine x_lst (by walk_at "sub") at1 ?_
  walk_at "w"
  refine sl_ended (S := S13.beg 2 []) (Γ := S2.env ++ named S13.next []) (ks := List.replicate (1 + many) .num) O15 p0 (List.mem_append_left _ (e2 (e1 nx1))) (z13.beg 2 []) (by decide) (by walk_at "subs") fun bs hbs => ?_
  exact conv (by walk_at "subs") (q bs P1 hP1 hbs)
end
section
variable {B H R R' : HL} {d : Nat} {Q : Val → HL → Prop}
structure Gd (T : Sg) (pl : Plan) (rk : Nat) (S : Gs) (m : Nat) : Prop where
  O : S.Open T pl rk []
  z : Sz S m
def Le (S S' : Gs) : Prop := ∀ q ∈ S.env, q ∈ S'.env
theorem Le.refl (S : Gs) : Le S S := fun _ h => h
theorem Le.trans {A B C : Gs} (h : Le A B) (k : Le B C) : Le A C := fun q hq => k q (h q hq)
theorem Le.put1 {S : Gs} {k : Kd} {op : Op} {args : List Int} {more : More} : Le S (S.put (some k) op args more) := fun q hq => List.mem_append_left _ hq
theorem Le.put0 {S : Gs} {op : Op} {args : List Int} {more : More} : Le S (S.put none op args more) := fun q hq => hq
theorem Gd.put1 {T : Sg} {pl : Plan} {rk : Nat} {S : Gs} {m : Nat} {k : Kd} {op : Op} {args : List Int} {more : More} {ks : List Kd} (g : Gd T pl rk S m) (a : ArgsT S.env args ks) (o : OpT T op more ks (some k)) (hl : args.length ≤ 100) : Gd T pl rk (S.put (some k) op args more) (m + 1) := ⟨g.O.put1 a o hl, g.z.put _ _ _ _⟩
theorem Gd.put0 {T : Sg} {pl : Plan} {rk : Nat} {S : Gs} {m : Nat} {op : Op} {args : List Int} {more : More} {ks : List Kd} (g : Gd T pl rk S m) (a : ArgsT S.env args ks) (o : OpT T op more ks none) (hl : args.length ≤ 100) : Gd T pl rk (S.put none op args more) (m + 1) := ⟨g.O.put0 a o hl, g.z.put _ _ _ _⟩
theorem Gd.ok {T : Sg} {pl : Plan} {rk : Nat} {S : Gs} {m : Nat} (g : Gd T pl rk S m) (h : m ≤ 1000) : SOk S := g.z.ok (by omega)
/-- [number(state, 10 + k) for k in range(..)] -/
theorem sl_things {a b r p e D : Nat} {T : Sg} {pl : Plan} {rk : Nat} {s0 s1 s2 s3 s4 s5 s6 s7 s9 s10 s11 s12 s13 s14 s16 s17 s18 s19 : Option Val} : ∀ (n k0 : Nat) (S : Gs) (m : Nat) (ys : List Int) (s8 : Option Val), Gd T pl rk S m → m + n ≤ 900 → k0 + n ≤ 100 → ys.length + n ≤ 100 → (∀ y ∈ ys, (y, Kd.num) ∈ S.env) →
    (∀ (S' : Gs) (ys' : List Int), Gd T pl rk S' (m + n) → ys'.length = ys.length + n → (∀ y ∈ ys', (y, Kd.num) ∈ S'.env) → Le S S' → Q (.ref D) ((D, .lst (ys'.map .int)) :: stH a b r p e S' R)) →
    WL B (cxN G fuel (d + 2)) (.one 8) .yes (.call f_l_number (.cons (.v 15) (.cons (.bin .add (.int 10) (.v 8)) .nil))) [s0, s1, s2, s3, s4, s5, s6, s7, s8, s9, s10, s11, s12, s13, s14, some (.ref a), s16, s17, s18, s19] D [] (rangeL k0 n) ((D, .lst (ys.map .int)) :: stH a b r p e S R) Q
  | 0, k0, S, m, ys, s8, g, hm, hk, hl, hy, q => by
    rw [rangeL]
    exact lc_nil sees_nil (q S ys g rfl hy (.refl S))
  | n + 1, k0, S, m, ys, s8, g, hm, hk, hl, hy, q => by
    rw [rangeL]
    refine lc_cons sees_nil rfl ?_
    walk_at "w"
    refine sl_number (S := S) (v := 10 + (k0 : Int)) (g.ok (by omega)) (by walk_at "subs") ?_
    have g1 := g.put1 (k := .num) (op := .number) (more := .num (10 + (k0 : Int))) .nil (.number (num_of (by omega) (by omega))) (by decide)
    have l1 : Le S (S.put (some .num) .number [] (.num (10 + (k0 : Int)))) := .put1
    have m1 : (S.next, Kd.num) ∈ (S.put (some .num) .number [] (.num (10 + (k0 : Int)))).env := Gs.put_mem
    generalize S.put (some .num) .number [] (.num (10 + (k0 : Int))) = S1 at g1 l1 m1 ⊢
    refine ⟨ys.map .int, _, by walk_at "upd", by rw [List.length_map]; omega, ?_⟩
    rw [show ys.map Val.int ++ [.int S.next] = (ys ++ [S.next]).map Val.int by simp]
    refine wl_perm (K := (D, .lst ((ys ++ [S.next]).map .int)) :: stH a b r p e S1 R) (show Sub _ [_] _ from (by walk_at "sub")) ?_
    refine sl_things n (k0 + 1) S1 (m + 1) (ys ++ [S.next]) s8 g1 (by omega) (by omega) (by simp; omega) (fun y hy' => ?_) fun S' ys' h1 h2 h3 h4 => ?_
    · rcases List.mem_append.mp hy' with h | h
      · exact l1 _ (hy y h)
      · cases List.mem_singleton.mp h; exact m1
    · exact q S' ys' (by rw [show m + (n + 1) = m + 1 + n by omega]; exact h1) (by rw [h2]; simp; omega) h3 (l1.trans h4)
/-- [things[take(pot, len(things))] for place in range(..)] -/
theorem sl_held {p c D tl : Nat} {ts : List Int} {s1 s2 s3 s4 s6 s7 s8 s9 s10 s11 s12 s13 s14 s15 s16 s17 s18 : Option Val} {R0 : HL} (ht : Sub R [(tl, .lst (ts.map .int))] R0) (htn : ts ≠ []) (htl : ts.length ≤ 100) : ∀ (n k0 : Nat) (P : Pot) (ys : List Int) (s19 : Option Val), P.ok → ys.length + n ≤ 100 → (∀ y ∈ ys, y ∈ ts) →
    (∀ (P' : Pot) (ys' : List Int), P'.ok → ys'.length = ys.length + n → (∀ y ∈ ys', y ∈ ts) → Q (.ref D) ((D, .lst (ys'.map .int)) :: (p, potD c P') :: (c, potL P') :: R)) →
    WL B (cxN G fuel (d + 2)) (.one 19) .yes (.sub (.v 5) (.call f_l_take (.cons (.v 0) (.cons (.bf .len (.cons (.v 5) .nil)) .nil)))) [some (.ref p), s1, s2, s3, s4, some (.ref tl), s6, s7, s8, s9, s10, s11, s12, s13, s14, s15, s16, s17, s18, s19] D [] (rangeL k0 n) ((D, .lst (ys.map .int)) :: (p, potD c P) :: (c, potL P) :: R) Q
  | 0, k0, P, ys, s19, hP, hl, hy, q => by
    rw [rangeL]
    exact lc_nil sees_nil (q P ys hP rfl hy)
  | n + 1, k0, P, ys, s19, hP, hl, hy, q => by
    rw [rangeL]
    refine lc_cons sees_nil rfl ?_
    have hpos : 0 < ts.length := List.length_pos_iff.mpr htn
    walk_at "w"
    rw [List.length_map]
    refine sl_take (n := (ts.length : Int)) hP (by omega) (by omega) (by walk_at "subs") fun w P1 hP1 g0 g1 => ?_
    obtain ⟨i, rfl⟩ : ∃ i : Nat, w = (i : Int) := ⟨w.toNat, by omega⟩
    have hi : i < ts.length := by omega
    refine x_lst (v := .int ts[i]) (sub_cons (sub_cons (sub_cons ht))) (atI_nat (by rw [List.getElem?_map, List.getElem?_eq_getElem hi]; rfl)) ?_
    refine ⟨ys.map .int, _, by walk_at "upd", by rw [List.length_map]; omega, ?_⟩
    rw [show ys.map Val.int ++ [.int ts[i]] = (ys ++ [ts[i]]).map Val.int by simp]
    refine wl_perm (K := (D, .lst ((ys ++ [ts[i]]).map .int)) :: (p, potD c P1) :: (c, potL P1) :: R) (show Sub _ [_] _ from (by walk_at "sub")) ?_
    refine sl_held ht htn htl n (k0 + 1) P1 (ys ++ [ts[i]]) s19 hP1 (by simp; omega) (fun y hy' => ?_) fun P' ys' h1 h2 h3 => ?_
    · rcases List.mem_append.mp hy' with h | h
      · exact hy y h
      · cases List.mem_singleton.mp h; exact List.getElem_mem hi
    · exact q P' ys' h1 (by rw [h2]; simp; omega) h3
end
def mainFors : List Ss := 
  let rec go : Ss → List Ss
    | .nil => []
    | .cons (.for _ _ b) r => b :: go r
    | .cons _ r => go r
  go d_l_main.body
def closeB : Ss := mainFors.getD 0 .nil
def setB : Ss := mainFors.getD 1 .nil
def askB : Ss := mainFors.getD 2 .nil
section
variable {B H R R' : HL} {d : Nat} {Q : Val → HL → Prop}
theorem rep_add (m n : Nat) : List.replicate m Kd.num ++ List.replicate n Kd.num = List.replicate (m + n) Kd.num := by rw [List.replicate_append_replicate]
theorem sl_closes {a b r e f p c tl cl many last : Nat} {ts : List Int} {T : Sg} {pl : Plan} {rk : Nat} {s3 s6 s9 s10 s11 s12 s13 s14 s16 s18 : Option Val} {N : Env → HL → Prop} {T' : Val → HL → Prop} (hT : (("teller" : PySem.Str), List.replicate many Kd.num, Kd.num) ∈ T.fn) (hml : last ≤ many) (hm10 : many ≤ 10) (htn : ts ≠ []) (htl : ts.length ≤ 100) : ∀ (n k0 : Nat) (S : Gs) (m : Nat) (P : Pot) (cs : List Int) (s8 s17 s19 : Option Val), Gd T pl rk S m → m + n ≤ 900 → cs.length + n ≤ 100 → P.ok → (∀ t ∈ ts, (t, Kd.num) ∈ S.env) → (∀ x ∈ cs, (x, fnK last) ∈ S.env) →
    (∀ (S' : Gs) (P' : Pot) (cs' : List Int) s8 s17 s19, Gd T pl rk S' (m + n) → P'.ok → cs'.length = cs.length + n → (∀ x ∈ cs', (x, fnK last) ∈ S'.env) → Le S S' → N [some (.ref p), some (.int many), some (.int last), s3, some (fnK last).v, some (.ref tl), s6, some (.ref cl), s8, s9, s10, s11, s12, s13, s14, some (.ref a), s16, s17, s18, s19] (stH a b r e f S' ((p, potD c P') :: (c, potL P') :: (tl, .lst (ts.map .int)) :: (cl, .lst (cs'.map .int)) :: R))) →
    WF B (cxN G fuel (d + 2)) (.one 8) closeB [] (rangeL k0 n) [some (.ref p), some (.int many), some (.int last), s3, some (fnK last).v, some (.ref tl), s6, some (.ref cl), s8, s9, s10, s11, s12, s13, s14, some (.ref a), s16, s17, s18, s19] (stH a b r e f S ((p, potD c P) :: (c, potL P) :: (tl, .lst (ts.map .int)) :: (cl, .lst (cs.map .int)) :: R)) N T'
  | 0, k0, S, m, P, cs, s8, s17, s19, g, hm, hl, hP, ht, hc, q => by
    rw [rangeL]
    exact for_nil sees_nil (q S P cs s8 s17 s19 g hP rfl hc (.refl S))
  | n + 1, k0, S, m, P, cs, s8, s17, s19, g, hm, hl, hP, ht, hc, q => by
    rw [rangeL]
    refine for_cons sees_nil rfl ?_
    unfold closeB mainFors d_l_main
    simp only [mainFors.go, List.getD_cons_zero]
    walk_at "w"
    rw [show ((many : Int) - (last : Int)).toNat = many - last by omega]
    rename_i D
    refine wl_perm (K := (D, .lst []) :: (p, potD c P) :: (c, potL P) :: ((tl, .lst (ts.map .int)) :: stH a b r e f S ((cl, .lst (cs.map .int)) :: R))) ?_ ?_
    · show Sub _ [_, _, _, _, _, _, _, _, _, _] R
      walk_at "subs"
    refine sl_held (tl := tl) (ts := ts) sub_one htn htl (many - last) 0 P [] _ hP (by simp; omega) (fun y hy => by cases hy) fun P1 hs hP1 hlen hhs => ?_
    simp only [List.length_nil, Nat.zero_add] at hlen
    have A1 : ArgsT S.env hs (List.replicate (many - last) .num) := by
      have := args_nums (Γ := S.env) (xs := hs) fun x hx => ht x (hhs x hx)
      rw [hlen] at this; exact this
    walk_at "w"
    refine sl_put1 (S := S) (k := fnK last) (op := .close) (args := hs) (more := .nm "teller") (g.ok (by omega)) (by walk_at "subs") (.inr ⟨D, _, rfl, by walk_at "sub"⟩) ?_
    have g1 := g.put1 (k := fnK last) (op := .close) (args := hs) (more := .nm "teller") A1 (.close (by rw [rep_add, show many - last + last = many by omega]; exact hT) (by rw [List.length_replicate]; omega)) (by omega)
    have l1 : Le S (S.put (some (fnK last)) .close hs (.nm "teller")) := .put1
    have m1 : (S.next, fnK last) ∈ (S.put (some (fnK last)) .close hs (.nm "teller")).env := Gs.put_mem
    generalize S.put (some (fnK last)) .close hs (.nm "teller") = S1 at g1 l1 m1 ⊢
    walk_at "w"
    refine m_app (by walk_at "upd") (by rw [List.length_map]; omega) ?_
    rw [show cs.map Val.int ++ [.int S.next] = (cs ++ [S.next]).map Val.int by simp]
    walk_at "w"
    refine wf_sub (K := stH a b r e f S1 ((p, potD c P1) :: (c, potL P1) :: (tl, .lst (ts.map .int)) :: (cl, .lst ((cs ++ [S.next]).map .int)) :: R)) (X := _) (by walk_at "subs") ?_
    refine sl_closes hT hml hm10 htn htl n (k0 + 1) S1 (m + 1) P1 (cs ++ [S.next]) _ _ _ g1 (by omega) (by simp; omega) hP1 (fun t h => l1 _ (ht t h)) (fun x hx => ?_) fun S' P' cs' s8 s17 s19 h1 h2 h3 h4 h5 => ?_
    · rcases List.mem_append.mp hx with h | h
      · exact l1 _ (hc x h)
      · cases List.mem_singleton.mp h; exact m1
    · exact q S' P' cs' s8 s17 s19 (by rw [show m + (n + 1) = m + 1 + n by omega]; exact h1) h2 (by rw [h3]; simp; omega) h4 (l1.trans h5)
theorem sl_sets {a b r e f cl last : Nat} {T : Sg} {pl : Plan} {rk : Nat} {row turn : Int} {cs : List Int} {s0 s1 s2 s3 s4 s5 s6 s11 s12 s13 s14 s16 s17 s18 s19 : Option Val} {N : Env → HL → Prop} {T' : Val → HL → Prop} (hcl : cs.length ≤ 100) : ∀ (n k0 : Nat) (S : Gs) (m : Nat) (s8 : Option Val), Gd T pl rk S m → m + 2 * n ≤ 900 → k0 + n ≤ cs.length → (row, Kd.row (fnK last)) ∈ S.env → (∀ x ∈ cs, (x, fnK last) ∈ S.env) →
    (∀ (S' : Gs) s8, Gd T pl rk S' (m + 2 * n) → Le S S' → N [s0, s1, s2, s3, s4, s5, s6, some (.ref cl), s8, some (.int row), some (.int turn), s11, s12, s13, s14, some (.ref a), s16, s17, s18, s19] (stH a b r e f S' ((cl, .lst (cs.map .int)) :: R))) →
    WF B (cxN G fuel (d + 2)) (.one 8) setB [] (rangeL k0 n) [s0, s1, s2, s3, s4, s5, s6, some (.ref cl), s8, some (.int row), some (.int turn), s11, s12, s13, s14, some (.ref a), s16, s17, s18, s19] (stH a b r e f S ((cl, .lst (cs.map .int)) :: R)) N T'
  | 0, k0, S, m, s8, g, hm, hl, hr, hc, q => by
    rw [rangeL]
    exact for_nil sees_nil (q S s8 g (.refl S))
  | n + 1, k0, S, m, s8, g, hm, hl, hr, hc, q => by
    rw [rangeL]
    refine for_cons sees_nil rfl ?_
    unfold setB mainFors d_l_main
    simp only [mainFors.go, List.getD_cons_zero, List.getD_cons_succ]
    have hk : k0 < cs.length := by omega
    walk_at "w"
    rw [List.length_map]
    refine p_mod' (by omega) ?_
    walk_at "w"
    have hb := fm_bd (i := (k0 : Int) + turn) (j := (cs.length : Int)) (by omega)
    refine sl_number (S := S) (v := ((k0 : Int) + turn).fmod (cs.length : Int)) (g.ok (by omega)) (by walk_at "subs") ?_
    have g1 := g.put1 (k := .num) (op := .number) (more := .num (((k0 : Int) + turn).fmod (cs.length : Int))) .nil (.number (num_of (by omega) (by omega))) (by decide)
    have l1 : Le S (S.put (some .num) .number [] (.num (((k0 : Int) + turn).fmod (cs.length : Int)))) := .put1
    have m1 : (S.next, Kd.num) ∈ (S.put (some .num) .number [] (.num (((k0 : Int) + turn).fmod (cs.length : Int)))).env := Gs.put_mem
    generalize S.put (some .num) .number [] (.num (((k0 : Int) + turn).fmod (cs.length : Int))) = S1 at g1 l1 m1 ⊢
    walk_at "w"
    refine x_lst (v := .int cs[k0]) (by walk_at "sub") (atI_nat (by rw [List.getElem?_map, List.getElem?_eq_getElem hk]; rfl)) ?_
    walk_at "w"
    refine sl_put0 (S := S1) (op := .set) (args := [row, S.next, cs[k0]]) (more := .no) (g1.ok (by omega)) (by walk_at "subs") (.inl rfl) ?_
    have g2 := g1.put0 (op := .set) (args := [row, S.next, cs[k0]]) (more := .no) (.cons (l1 _ hr) (.cons m1 (.cons (l1 _ (hc _ (List.getElem_mem hk))) .nil))) .set (Nat.le_of_ble_eq_true rfl)
    have l2 : Le S1 (S1.put none .set [row, S.next, cs[k0]] .no) := .put0
    generalize S1.put none .set [row, S.next, cs[k0]] .no = S2 at g2 l2 ⊢
    walk_at "w"
    refine sl_sets hcl n (k0 + 1) S2 (m + 1 + 1) _ g2 (by omega) (by omega) (l2 _ (l1 _ hr)) (fun x hx => l2 _ (l1 _ (hc x hx))) fun S' s8 h1 h2 => ?_
    exact q S' s8 (by rw [show m + 2 * (n + 1) = m + 1 + 1 + 2 * n by omega]; exact h1) ((l1.trans l2).trans h2)
end
section
variable {B H R R' : HL} {d : Nat} {Q : Val → HL → Prop}
theorem cut_ints (ts : List Int) (n : Nat) : cutL (ts.map Val.int) none (some (n : Int)) = (ts.take n).map Val.int := by rw [cut_to, List.map_take]
theorem sl_asks {a b r e f tl last : Nat} {T : Sg} {pl : Plan} {rk : Nat} {row : Int} {ts : List Int} {s0 s1 s7 s8 s10 s13 s14 s16 s17 s19 : Option Val} {N : Env → HL → Prop} {T' : Val → HL → Prop} (hlt : last ≤ ts.length) (hl10 : last ≤ 10) : ∀ (ats : List Int) (S : Gs) (m : Nat) (called : Int) (s11 s12 s18 : Option Val), Gd T pl rk S m → m + 5 * ats.length ≤ 900 → (∀ x ∈ ats, 0 ≤ x ∧ x ≤ 100) → (row, Kd.row (fnK last)) ∈ S.env → (∀ t ∈ ts, (t, Kd.num) ∈ S.env) → (called, Kd.num) ∈ S.env →
    (∀ (S' : Gs) (called' : Int) s11 s12 s18, Gd T pl rk S' (m + 5 * ats.length) → Le S S' → (called', Kd.num) ∈ S'.env → N [s0, s1, some (.int last), some (.tup [.str "number"]), some (fnK last).v, some (.ref tl), some (.int called'), s7, s8, some (.int row), s10, s11, s12, s13, s14, some (.ref a), s16, s17, s18, s19] (stH a b r e f S' ((tl, .lst (ts.map .int)) :: R))) →
    WF B (cxN G fuel (d + 2)) (.one 11) askB [] (ats.map .int) [s0, s1, some (.int last), some (.tup [.str "number"]), some (fnK last).v, some (.ref tl), some (.int called), s7, s8, some (.int row), s10, s11, s12, s13, s14, some (.ref a), s16, s17, s18, s19] (stH a b r e f S ((tl, .lst (ts.map .int)) :: R)) N T'
  | [], S, m, called, s11, s12, s18, g, hm, ha, hr, ht, hc, q => for_nil sees_nil (q S called s11 s12 s18 g (.refl S) hc)
  | x :: ats, S, m, called, s11, s12, s18, g, hm, ha, hr, ht, hc, q => by
    simp only [List.length_cons] at hm
    rw [List.map_cons]
    refine for_cons sees_nil rfl ?_
    unfold askB mainFors d_l_main
    simp only [mainFors.go, List.getD_cons_zero, List.getD_cons_succ]
    have hx := ha x (by simp)
    walk_at "w"
    refine sl_number (S := S) (v := x) (g.ok (by omega)) (by walk_at "subs") ?_
    have g1 := g.put1 (k := .num) (op := .number) (more := .num x) .nil (.number (num_of (by omega) (by omega))) (by decide)
    have l1 : Le S (S.put (some .num) .number [] (.num x)) := .put1
    have m1 : (S.next, Kd.num) ∈ (S.put (some .num) .number [] (.num x)).env := Gs.put_mem
    generalize S.put (some .num) .number [] (.num x) = S1 at g1 l1 m1 ⊢
    walk_at "w"
    refine sl_put1 (S := S1) (k := fnK last) (op := .get) (args := [row, S.next]) (more := .no) (g1.ok (by omega)) (by walk_at "subs") (.inl rfl) ?_
    have g2 := g1.put1 (k := fnK last) (op := .get) (args := [row, S.next]) (more := .no) (.cons (l1 _ hr) (.cons m1 .nil)) .get (Nat.le_of_ble_eq_true rfl)
    have l2 : Le S1 (S1.put (some (fnK last)) .get [row, S.next] .no) := .put1
    have m2 : (S1.next, fnK last) ∈ (S1.put (some (fnK last)) .get [row, S.next] .no).env := Gs.put_mem
    generalize S1.put (some (fnK last)) .get [row, S.next] .no = S2 at g2 l2 m2 ⊢
    walk_at "w"
    rw [cut_ints]
    refine p_addl' (by walk_at "sub") (by walk_at "sub") (fits_small (by simp; omega)) fun l3 => ?_
    rw [show [Val.int S1.next] ++ (ts.take last).map Val.int = (S1.next :: ts.take last).map Val.int from rfl]
    walk_at "w"
    rename_i q1 q2
    have A3 : ArgsT S2.env (S1.next :: ts.take last) (fnK last :: List.replicate last .num) := by
      refine .cons m2 ?_
      have := args_nums (Γ := S2.env) (xs := ts.take last) fun y hy => l2 _ (l1 _ (ht y (List.mem_of_mem_take hy)))
      rw [List.length_take, Nat.min_eq_left hlt] at this; exact this
    have hal : (S1.next :: ts.take last).length ≤ 100 := by simp; omega
    generalize S1.next :: ts.take last = args at A3 hal ⊢
    refine sl_put1 (S := S2) (k := .num) (op := .ask) (args := args) (more := .no) (g2.ok (by omega)) (by walk_at "subs") (.inr ⟨l3, _, rfl, by walk_at "sub"⟩) ?_
    have g3 := g2.put1 (k := .num) (op := .ask) (args := args) (more := .no) A3 .ask hal
    have l4 : Le S2 (S2.put (some .num) .ask args .no) := .put1
    have m3 : (S2.next, Kd.num) ∈ (S2.put (some .num) .ask args .no).env := Gs.put_mem
    generalize S2.put (some .num) .ask args .no = S3 at g3 l4 m3 ⊢
    walk_at "w"
    refine sl_put0 (S := S3) (op := .tell) (args := [S2.next]) (more := .no) (g3.ok (by omega)) (by walk_at "subs") (.inl rfl) ?_
    have g4 := g3.put0 (op := .tell) (args := [S2.next]) (more := .no) (.cons m3 .nil) .tell (Nat.le_of_ble_eq_true rfl)
    have l5 : Le S3 (S3.put none .tell [S2.next] .no) := .put0
    generalize S3.put none .tell [S2.next] .no = S4 at g4 l5 ⊢
    walk_at "w"
    refine sl_put1 (S := S4) (k := .num) (op := .add) (args := [called, S2.next]) (more := .no) (g4.ok (by omega)) (by walk_at "subs") (.inl rfl) ?_
    have le04 : Le S S4 := (((l1.trans l2).trans l4).trans l5)
    have g5 := g4.put1 (k := .num) (op := .add) (args := [called, S2.next]) (more := .no) (.cons (le04 _ hc) (.cons (l5 _ m3) .nil)) (.nums (by simp)) (Nat.le_of_ble_eq_true rfl)
    have l6 : Le S4 (S4.put (some .num) .add [called, S2.next] .no) := .put1
    have m5 : (S4.next, Kd.num) ∈ (S4.put (some .num) .add [called, S2.next] .no).env := Gs.put_mem
    generalize S4.put (some .num) .add [called, S2.next] .no = S5 at g5 l6 m5 ⊢
    walk_at "w"
    have le05 : Le S S5 := le04.trans l6
    refine wf_sub (K := stH a b r e f S5 ((tl, .lst (ts.map .int)) :: R)) (X := _) (by walk_at "subs") ?_
    refine sl_asks hlt hl10 ats S5 (m + 1 + 1 + 1 + 1 + 1) _ _ _ _ g5 (by omega) (fun y hy => ha y (by simp [hy])) (le05 _ hr) (fun t h => le05 _ (ht t h)) m5 fun S' called' s11 s12 s18 h1 h2 h3 => ?_
    exact q S' called' s11 s12 s18 (by rw [List.length_cons, show m + 5 * (ats.length + 1) = m + 1 + 1 + 1 + 1 + 1 + 5 * ats.length by omega]; exact h1) (le05.trans h2) h3
end
section
variable {B H R R' : HL} {d : Nat} {Q : Val → HL → Prop}
def dropS : Nat → Ss → Ss
  | 0, s => s
  | n + 1, .cons _ r => dropS n r
  | _, .nil => .nil
def mainT : Ss := dropS 4 d_l_main.body
theorem wl_sub {c : Ctx} {t : Tg} {k : CL.B} {e : E} {s : Env} {D : Nat} {w : Watch} {xs : List Val} {K X : HL} {Q : Val → HL → Prop} (p : Sub H K X) (h : WL B c t k e s D w xs K Q) : WL B c t k e s D w xs H Q := wp_less p h
theorem cut_mid (ts : List Int) (n : Nat) : cutL (ts.map Val.int) (some 1) (some ((1 + n : Nat) : Int)) = ((ts.drop 1).take n).map Val.int := by
  unfold cutL
  rw [List.length_map]
  have h1 := HT.sIx_nat ts.length 0 1
  have h2 := HT.sIx_nat ts.length ts.length (1 + n)
  rw [show ((1 : Nat) : Int) = 1 from rfl] at h1
  rw [h1, h2, ← List.map_drop, ← List.map_take]
  congr 1
  by_cases h : 1 ≤ ts.length
  · rw [Nat.min_eq_left h]
    by_cases h3 : 1 + n ≤ ts.length
    · rw [Nat.min_eq_left h3, show 1 + n - 1 = n by omega]
    · rw [Nat.min_eq_right (by omega), List.take_of_length_le (by simp), List.take_of_length_le (by simp; omega)]
  · have : ts = [] := List.eq_nil_of_length_eq_zero (by omega)
    subst this; simp
theorem sl_mainT {p c a b r e f n tl many last : Nat} {P : Pot} {T : Sg} {pl : Plan} {rk0 m : Nat} {S : Gs} {ts : List Int} {s6 s7 s8 s9 s10 s11 s12 s13 s14 s17 s18 s19 : Option Val} {N K' C : Env → HL → Prop} {X : HL} (h1 : (("teller" : PySem.Str), List.replicate many Kd.num, Kd.num) ∈ T.fn) (h2 : (("asker" : PySem.Str), fnK last :: List.replicate last Kd.num, Kd.num) ∈ T.fn) (h3 : (("again" : PySem.Str), List.replicate (1 + (last + 2)) Kd.num, Kd.num) ∈ T.fn)
    (hm : 1 ≤ many ∧ many ≤ 10) (hl : last ≤ many) (hP : P.ok) (g : Gd T pl 5 S m) (hm2 : m ≤ 70) (h0 : pl 0 = some ⟨[], [.num, .num], rk0, true⟩) (hts : ts.length = 2 + many) (ht : ∀ t ∈ ts, (t, Kd.num) ∈ S.env) (hp : Sub H (stH a b r e f S ((p, potD c P) :: (c, potL P) :: (tl, .lst (ts.map .int)) :: R)) X)
    (q : ∀ bs P', P'.ok → FunOk T "main" [.num, .num] bs → Q (Fun.v ⟨"main", .num, bs⟩) ((p, potD c P') :: (c, potL P') :: R)) :
    WSs B (cxN G fuel (d + 3)) mainT [some (.ref p), some (.int many), some (.int last), some (.tup [.str "number"]), some (fnK last).v, some (.ref tl), s6, s7, s8, s9, s10, s11, s12, s13, s14, some (.ref a), some (.ref n), s17, s18, s19] H N (Conv Q) K' C := by
  refine wss_sub hp ?_
  show WSs B _ mainT _ _ _ _ _ _
  unfold mainT
  show WSs B _ (.cons _ (.cons _ (.cons (.for _ _ closeB) (.cons _ (.cons _ (.cons (.for _ _ setB) (.cons (.for _ _ askB) _))))))) _ _ _ _ _ _
  have htn : ts ≠ [] := fun z => by rw [z] at hts; simp at hts; omega
  walk_at "w"
  rw [cut_ints]
  have A1 : ArgsT S.env (ts.take many) (List.replicate many .num) := by
    have := args_nums (Γ := S.env) (xs := ts.take many) fun y hy => ht y (List.mem_of_mem_take hy)
    rw [List.length_take, Nat.min_eq_left (by omega)] at this; exact this
  have hal : (ts.take many).length ≤ 100 := by simp; omega
  generalize hA : ts.take many = args1 at A1 hal ⊢
  rename_i l1
  refine sl_put1 (S := S) (k := .num) (op := .call) (args := args1) (more := .nm "teller") (g.ok (by omega)) (by walk_at "subs") (.inr ⟨l1, _, rfl, by walk_at "sub"⟩) ?_
  have g1 := g.put1 (k := .num) (op := .call) (args := args1) (more := .nm "teller") A1 (.call h1) hal
  have le1 : Le S (S.put (some .num) .call args1 (.nm "teller")) := .put1
  have m1 : (S.next, Kd.num) ∈ (S.put (some .num) .call args1 (.nm "teller")).env := Gs.put_mem
  generalize S.put (some .num) .call args1 (.nm "teller") = S1 at g1 le1 m1 ⊢
  walk_at "w"
  rename_i cl
  refine sl_take (n := 7) hP (by decide) (by decide) (by walk_at "subs") fun w P1 hP1 w0 w1 => ?_
  walk_at "w"
  rw [show (2 + w).toNat = 2 + w.toNat by omega]
  refine wf_sub (K := stH a b r e f S1 ((p, potD c P1) :: (c, potL P1) :: (tl, .lst (ts.map .int)) :: (cl, .lst []) :: R)) (X := _) (by walk_at "subs") ?_
  refine sl_closes h1 hl hm.2 htn (by omega) (2 + w.toNat) 0 S1 (m + 1) P1 [] _ _ _ g1 (by omega) (by simp; omega) hP1 (fun t h => le1 _ (ht t h)) (fun x hx => by cases hx) fun S2 P2 cs s8 s17 s19 g2 hP2 hcs hcm le2 => ?_
  simp only [List.length_nil, Nat.zero_add] at hcs
  have hc2 : 2 ≤ cs.length ∧ cs.length ≤ 8 := by omega
  walk_at "w"
  rw [List.length_map]
  refine sl_number (S := S2) (v := (cs.length : Int)) (g2.ok (by omega)) (by walk_at "subs") ?_
  have g3 := g2.put1 (k := .num) (op := .number) (more := .num (cs.length : Int)) .nil (.number (num_of (by omega) (by omega))) (by decide)
  have le3 : Le S2 (S2.put (some .num) .number [] (.num (cs.length : Int))) := .put1
  have m3 : (S2.next, Kd.num) ∈ (S2.put (some .num) .number [] (.num (cs.length : Int))).env := Gs.put_mem
  generalize S2.put (some .num) .number [] (.num (cs.length : Int)) = S3 at g3 le3 m3 ⊢
  walk_at "w"
  have c0 : 0 < cs.length := by omega
  have atc : L2.atI (cs.map Val.int) 0 = some (.int cs[0]) := atI_nat (i := 0) (by rw [List.getElem?_map, List.getElem?_eq_getElem c0]; rfl)
  refine x_lst (by walk_at "sub") atc ?_
  walk_at "w"
  refine sl_put1 (S := S3) (k := .row (fnK last)) (op := .fill) (args := [S2.next, cs[0]]) (more := .no) (g3.ok (by omega)) (by walk_at "subs") (.inl rfl) ?_
  have g4 := g3.put1 (k := .row (fnK last)) (op := .fill) (args := [S2.next, cs[0]]) (more := .no) (.cons m3 (.cons (le3 _ (hcm _ (List.getElem_mem c0))) .nil)) .fill (Nat.le_of_ble_eq_true rfl)
  have le4 : Le S3 (S3.put (some (.row (fnK last))) .fill [S2.next, cs[0]] .no) := .put1
  have m4 : (S3.next, Kd.row (fnK last)) ∈ (S3.put (some (.row (fnK last))) .fill [S2.next, cs[0]] .no).env := Gs.put_mem
  generalize S3.put (some (.row (fnK last))) .fill [S2.next, cs[0]] .no = S4 at g4 le4 m4 ⊢
  walk_at "w"
  rw [List.length_map]
  refine sl_take (n := (cs.length : Int)) hP2 (by omega) (by omega) (by walk_at "subs") fun turn P3 hP3 t0 t1 => ?_
  walk_at "w"
  refine ⟨1, (cs.length : Int), rfl, by rw [List.length_map], by rw [small62_of (by omega), small62_of (by omega)]; rfl, ?_⟩
  rw [show ((cs.length : Int) - 1).toNat = cs.length - 1 by omega]
  refine wf_sub (K := stH a b r e f S4 ((cl, .lst (cs.map .int)) :: (p, potD c P3) :: (c, potL P3) :: (tl, .lst (ts.map .int)) :: R)) (X := _) (by walk_at "subs") ?_
  refine sl_sets (turn := turn) (by omega) (cs.length - 1) 1 S4 (m + 1 + (2 + w.toNat) + 1 + 1) _ g4 (by omega) (by omega) m4 (fun x hx => le4 _ (le3 _ (hcm x hx))) fun S5 s8 g5 le5 => ?_
  walk_at "w"
  rw [List.length_map]
  refine p_fdiv' (by decide) ?_
  walk_at "w"
  rw [List.length_map]
  have hd : 0 ≤ (cs.length : Int).fdiv 2 ∧ (cs.length : Int).fdiv 2 ≤ 100 := by rw [fdiv_pos (by decide)]; omega
  refine wf_sub (K := stH a b r e f S5 ((tl, .lst (ts.map .int)) :: (cl, .lst (cs.map .int)) :: (p, potD c P3) :: (c, potL P3) :: R)) (X := _) (by walk_at "subs") ?_
  have le25 : Le S2 S5 := (le3.trans le4).trans le5
  have le05 : Le S S5 := (le1.trans le2).trans le25
  refine sl_asks (row := S3.next) (ts := ts) (by omega) (by omega) [0, (cs.length : Int).fdiv 2, (cs.length : Int) - 1] S5 _ S.next _ _ _ g5 (by simp; omega) (fun x hx => ?_) (le5 _ m4) (fun t h => le05 _ (ht t h)) (le25 _ (le2 _ m1)) fun S6 called s11 s12 s18 g6 le6 hc6 => ?_
  · simp only [List.mem_cons, List.not_mem_nil, or_false] at hx
    rcases hx with rfl | rfl | rfl
    · omega
    · exact hd
    · omega
  have le06 : Le S S6 := le05.trans le6
  obtain ⟨z, hz, atz⟩ : ∃ z ∈ cs, L2.atI (cs.map Val.int) (-1) = some (.int z) := by
    have hne : cs ≠ [] := fun z => by rw [z] at hc2; simp at hc2
    refine ⟨cs.getLast hne, List.getLast_mem hne, ?_⟩
    have e := (List.dropLast_concat_getLast hne).symm
    generalize cs.getLast hne = y at e
    rw [e, List.map_append]
    exact atI_last
  have fz : (z, fnK last) ∈ S6.env := le6 _ (le25 _ (hcm z hz))
  walk_at "w"
  refine x_lst (by walk_at "sub") atz ?_
  walk_at "w"
  rw [show (1 : Int) + (last : Int) = ((1 + last : Nat) : Int) by push_cast; rfl, cut_mid]
  have hmid : ((ts.drop 1).take last).length = last := by rw [List.length_take, List.length_drop]; omega
  have tmid : ∀ t ∈ (ts.drop 1).take last, (t, Kd.num) ∈ S6.env := fun t h => le06 _ (ht t (List.mem_of_mem_drop (List.mem_of_mem_take h)))
  generalize hM : (ts.drop 1).take last = mid at hmid tmid ⊢
  refine p_addl' (by walk_at "sub") (by walk_at "sub") (fits_small (by simp; omega)) fun l3 => ?_
  rw [show [Val.int z] ++ mid.map Val.int = (z :: mid).map Val.int from rfl]
  walk_at "w"
  have A6 : ArgsT S6.env (z :: mid) (fnK last :: List.replicate last .num) := by
    refine .cons fz ?_
    have := args_nums (Γ := S6.env) (xs := mid) tmid
    rw [hmid] at this; exact this
  refine sl_put1 (S := S6) (k := .num) (op := .call) (args := z :: mid) (more := .nm "asker") (g6.ok (by simp; omega)) (by walk_at "subs") (.inr ⟨l3, _, rfl, by walk_at "sub"⟩) ?_
  have g7 := g6.put1 (k := .num) (op := .call) (args := z :: mid) (more := .nm "asker") A6 (.call h2) (by simp; omega)
  have le7 : Le S6 (S6.put (some .num) .call (z :: mid) (.nm "asker")) := .put1
  have m7 : (S6.next, Kd.num) ∈ (S6.put (some .num) .call (z :: mid) (.nm "asker")).env := Gs.put_mem
  generalize S6.put (some .num) .call (z :: mid) (.nm "asker") = S7 at g7 le7 m7 ⊢
  walk_at "w"
  refine sl_take (n := 12) hP3 (by decide) (by decide) (by walk_at "subs") fun deep P4 hP4 d0 d1 => ?_
  walk_at "w"
  refine sl_number (S := S7) (v := deep) (g7.ok (by simp; omega)) (by walk_at "subs") ?_
  have g8 := g7.put1 (k := .num) (op := .number) (more := .num deep) .nil (.number (num_of (by omega) (by omega))) (by decide)
  have le8 : Le S7 (S7.put (some .num) .number [] (.num deep)) := .put1
  have m8 : (S7.next, Kd.num) ∈ (S7.put (some .num) .number [] (.num deep)).env := Gs.put_mem
  generalize S7.put (some .num) .number [] (.num deep) = S8 at g8 le8 m8 ⊢
  walk_at "w"
  rw [show (1 : Int) + (last : Int) = ((1 + last : Nat) : Int) by push_cast; rfl, cut_mid, hM]
  refine p_addl' (by walk_at "sub") (by walk_at "sub") (fits_small (by simp; omega)) fun l5 => ?_
  rw [show [Val.int S7.next, Val.int called] ++ mid.map Val.int = (S7.next :: called :: mid).map Val.int from rfl]
  walk_at "w"
  refine p_addl' (by walk_at "sub") (by walk_at "sub") (fits_small (by simp; omega)) fun l6 => ?_
  rw [show (S7.next :: called :: mid).map Val.int ++ [Val.int S6.next] = (S7.next :: called :: mid ++ [S6.next]).map Val.int by simp]
  walk_at "w"
  have A8 : ArgsT S8.env (S7.next :: called :: mid ++ [S6.next]) (List.replicate (1 + (last + 2)) .num) := by
    have := args_nums (Γ := S8.env) (xs := S7.next :: called :: mid ++ [S6.next]) fun y hy => by
      simp only [List.cons_append, List.mem_cons, List.mem_append, List.not_mem_nil, or_false] at hy
      rcases hy with rfl | rfl | hy | rfl
      · exact m8
      · exact le8 _ (le7 _ hc6)
      · exact le8 _ (le7 _ (tmid y hy))
      · exact le8 _ m7
    rw [show (S7.next :: called :: mid ++ [S6.next]).length = 1 + (last + 2) by simp; omega] at this; exact this
  have hal8 : (S7.next :: called :: mid ++ [S6.next]).length ≤ 100 := by simp; omega
  generalize S7.next :: called :: mid ++ [S6.next] = args8 at A8 hal8 ⊢
  refine sl_put1 (S := S8) (k := .num) (op := .call) (args := args8) (more := .nm "again") (g8.ok (by simp; omega)) (by walk_at "subs") (.inr ⟨l6, _, rfl, by walk_at "sub"⟩) ?_
  have g9 := g8.put1 (k := .num) (op := .call) (args := args8) (more := .nm "again") A8 (.call h3) hal8
  have m9 : (S8.next, Kd.num) ∈ (S8.put (some .num) .call args8 (.nm "again")).env := Gs.put_mem
  generalize S8.put (some .num) .call args8 (.nm "again") = S9 at g9 m9 ⊢
  walk_at "w"
  refine sl_ended (S := S9) (Γ := S9.env) (ks := [.num, .num]) g9.O h0 m9 g9.z (by simp; omega) (by walk_at "subs") fun bs hbs => ?_
  exact conv (by walk_at "subs") (q bs P4 hP4 hbs)
theorem sl_main {p c many last : Nat} {P : Pot} {T : Sg} (h1 : (("teller" : PySem.Str), List.replicate many Kd.num, Kd.num) ∈ T.fn) (h2 : (("asker" : PySem.Str), fnK last :: List.replicate last Kd.num, Kd.num) ∈ T.fn) (h3 : (("again" : PySem.Str), List.replicate (1 + (last + 2)) Kd.num, Kd.num) ∈ T.fn)
    (hm : 1 ≤ many ∧ many ≤ 10) (hl : last ≤ many) (hP : P.ok) (hp : Sub H [(p, potD c P), (c, potL P)] R)
    (q : ∀ bs P', P'.ok → FunOk T "main" [.num, .num] bs → Q (Fun.v ⟨"main", .num, bs⟩) ((p, potD c P') :: (c, potL P') :: R)) :
    WP B (callN G fuel (d + 4) f_l_main [.ref p, .int many, .int last]) H Q := by
  refine wp_perm (show H.Perm ((p, potD c P) :: (c, potL P) :: R) from hp) ?_
  walk_at "in"
  show WSs B _ (.cons _ (.cons _ (.cons _ (.cons _ mainT)))) _ _ _ _ _ _
  walk_at "w"
  refine p_mult' ⟨by simp, by omega, by omega, by simp⟩ ?_
  walk_at "w"
  rw [fnK_v]
  rename_i k1
  show WP B _ ((k1, .lst ([Kd.num, Kd.num].map Kd.v)) :: (p, potD c P) :: (c, potL P) :: R) _
  refine sl_state (ks := [.num, .num]) hP (by decide) (by walk_at "subs") (.inr ⟨k1, _, rfl, by walk_at "sub"⟩) fun a b r e f n nx P1 hP1 g0 g1 => ?_
  have z0 := Sz.first (ks := [.num, .num]) g0 g1 (by decide)
  have O0 := first_open (T := T) (nx := nx) (ks := [.num, .num]) 5 (by decide)
  have n0 : (nx, Kd.num) ∈ (Gs.first nx [.num, .num]).env := by rw [first_env]; simp [named]
  have n1 : (nx + 1, Kd.num) ∈ (Gs.first nx [.num, .num]).env := by rw [first_env]; simp [named]
  have gd : Gd T (plan 0 ⟨[], [.num, .num], 5, true⟩ fun _ => none) 5 (Gs.first nx [.num, .num]) 50 := ⟨O0, z0⟩
  generalize Gs.first nx [.num, .num] = S0 at gd n0 n1 ⊢
  rw [show rangeL nx [Kd.num, Kd.num].length = [.int nx, .int (nx + 1)] from rfl]
  walk_at "w"
  rw [Int.toNat_natCast]
  rename_i l1 D
  refine wl_sub (K := (D, .lst []) :: stH a b r e f S0 ((l1, .lst [.int nx, .int (nx + 1)]) :: (p, potD c P1) :: (c, potL P1) :: R)) (X := _) (by walk_at "subs") ?_
  refine sl_things many 0 S0 50 [] _ gd (by omega) (by omega) (by simp; omega) (fun y hy => by cases hy) fun S1 ys gd1 hlen hys le1 => ?_
  simp only [List.length_nil, Nat.zero_add] at hlen
  walk_at "w"
  refine p_addl' (by walk_at "sub") (by walk_at "sub") (fits_small (by simp; omega)) fun tl => ?_
  rw [show [Val.int nx, Val.int (nx + 1)] ++ ys.map Val.int = (nx :: (nx + 1) :: ys).map Val.int from rfl]
  walk_at "w"
  refine sl_mainT (n := n) (ts := nx :: (nx + 1) :: ys) (m := 50 + many) h1 h2 h3 hm hl hP1 gd1 (by omega) plan_at (by simp; omega) (fun t ht => ?_) (by walk_at "subs") q
  rcases List.mem_cons.mp ht with rfl | ht
  · exact le1 _ n0
  · rcases List.mem_cons.mp ht with rfl | ht
    · exact le1 _ n1
    · exact hys t ht
end
section
variable {B H R R' : HL} {d : Nat} {Q : Val → HL → Prop}
theorem sl_potB {l : Nat} {ns : List Int} (hl : (l, .lst (ns.map .int)) ∈ B) (hn : ns.length ≤ 63) (q : ∀ p c P, P.ok → Q (.ref p) ((p, potD c P) :: (c, potL P) :: H)) : WP B (callN G fuel (d + 1) f_l_pot [.ref l]) H Q := by
  walk_at "in"
  walk_at "w"
  refine f_lenB hl ?_
  rw [List.length_map]
  walk_at "w"
  cases ns with
  | nil =>
    walk_at "w"
    refine f_listB hl fun c => ?_
    walk_at "w"
    rename_i p
    show Conv Q _ ((c, potL ⟨[], 0, 0, 0, false⟩) :: (p, potD c ⟨[], 0, 0, 0, false⟩) :: H)
    exact conv_perm (.swap _ _ _) (q p c ⟨[], 0, 0, 0, _⟩ ⟨by show (0 : Int) ≤ 0; omega, by show (0 : Int) ≤ 0; omega, by show (0 : Int) ≤ 0; omega, fun z => (by cases z), (by show (0 : Nat) ≤ 100; omega)⟩)
  | cons x r =>
    refine br_t (by simp) ?_
    walk_at "w"
    refine x_lstB hl (show L2.atI ((x :: r).map Val.int) 0 = some (.int x) from atI_nat (i := 0) rfl) ?_
    walk_at "w"
    refine p_mod' (by decide) ?_
    walk_at "w"
    refine f_listB hl fun c => ?_
    walk_at "w"
    rename_i p
    show Conv Q _ ((c, potL ⟨x :: r, 0, 0, 0, decide (x.fmod 2 = 1)⟩) :: (p, potD c ⟨x :: r, 0, 0, 0, decide (x.fmod 2 = 1)⟩) :: H)
    exact conv_perm (.swap _ _ _) (q p c ⟨x :: r, 0, 0, 0, _⟩ ⟨by show (0 : Int) ≤ 0; omega, by show (0 : Int) ≤ 0; omega, by show (0 : Int) ≤ 0; omega, fun _ => by simp, by show (x :: r).length ≤ 100; omega⟩)
theorem FunOk.ne {T : Sg} {nm : PySem.Str} {ks : List Kd} {bs : List Block} (h : FunOk T nm ks bs) : bs ≠ [] := fun z => by
  obtain ⟨pl, hb, rg, hp0⟩ := h.ty.ex
  obtain ⟨k0, hk0, _⟩ := hb _ _ hp0
  rw [z] at hk0; cases hk0
theorem whole_ok {many last : Nat} {gs : List Fun} {b1 b2 b3 b4 : List Block} (T : Sg) (hT : T = ⟨[("main", [.num, .num], .num), ("teller", List.replicate many .num, .num), ("asker", fnK last :: List.replicate last .num, .num), ("again", List.replicate (1 + (last + 2)) .num, .num)], []⟩)
    (h1 : FunOk T "main" [.num, .num] b1) (h2 : FunOk T "teller" (List.replicate many .num) b2) (h3 : FunOk T "asker" (fnK last :: List.replicate last .num) b3) (h4 : FunOk T "again" (List.replicate (1 + (last + 2)) .num) b4)
    (hp : gs.Perm [⟨"main", .num, b1⟩, ⟨"teller", .num, b2⟩, ⟨"asker", .num, b3⟩, ⟨"again", .num, b4⟩]) : Whole ⟨[], gs⟩ 501 14 2 := by
  have nd : (gs.map (·.name)).Nodup := by
    rw [(hp.map _).nodup_iff]
    show ([("main" : PySem.Str), "teller", "asker", "again"]).Nodup
    decide
  have fd : ∀ g ∈ ([⟨"main", .num, b1⟩, ⟨"teller", .num, b2⟩, ⟨"asker", .num, b3⟩, ⟨"again", .num, b4⟩] : List Fun), (gs.find? fun h => decide (h.name = g.name)) = some g := fun g hg => find_name nd (hp.mem_iff.mpr hg)
  have all : ∀ g ∈ gs, ∃ nm ks, FunOk T nm ks g.blocks := fun g hg => by
    have := hp.mem_iff.mp hg
    simp only [List.mem_cons, List.not_mem_nil, or_false] at this
    rcases this with rfl | rfl | rfl | rfl
    · exact ⟨_, _, h1⟩
    · exact ⟨_, _, h2⟩
    · exact ⟨_, _, h3⟩
    · exact ⟨_, _, h4⟩
  refine ⟨⟨T, ⟨"main", .num, b1⟩, ⟨fun f ps k hm => ?_, fun g hg => ?_⟩, fun r ks ks' hr => ?_, fd ⟨"main", .num, b1⟩ (by simp), rfl, h1.ty⟩, ⟨by decide, fun g hg => ?_, fun g hg k hk => ?_, fun g hg k hk r hr => ?_, fun g hg k hk b args e => ?_⟩, ?_⟩
  · rw [hT] at hm
    simp only [List.mem_cons, List.not_mem_nil, or_false, Prod.mk.injEq] at hm
    rcases hm with ⟨rfl, rfl, rfl⟩ | ⟨rfl, rfl, rfl⟩ | ⟨rfl, rfl, rfl⟩ | ⟨rfl, rfl, rfl⟩
    · exact ⟨_, fd ⟨"main", .num, b1⟩ (by simp), rfl, h1.ty⟩
    · exact ⟨_, fd ⟨"teller", .num, b2⟩ (by simp), rfl, h2.ty⟩
    · exact ⟨_, fd ⟨"asker", .num, b3⟩ (by simp), rfl, h3.ty⟩
    · exact ⟨_, fd ⟨"again", .num, b4⟩ (by simp), rfl, h4.ty⟩
  · obtain ⟨nm, ks, h⟩ := all g hg
    have := h.sz; omega
  · rw [hT] at hr; cases hr
  · obtain ⟨nm, ks, h⟩ := all g hg
    exact h.ne
  · obtain ⟨nm, ks, h⟩ := all g hg
    exact (h.bl k hk).par
  · obtain ⟨nm, ks, h⟩ := all g hg
    exact Nat.le_trans ((h.bl k hk).row r hr) (by decide)
  · obtain ⟨nm, ks, h⟩ := all g hg
    exact Nat.le_trans ((h.bl k hk).jmp b args e) (by decide)
  · show gs.length ≤ 1000
    rw [hp.length_eq]; exact Nat.le_of_ble_eq_true rfl
theorem turned (f1 f2 f3 f4 : Fun) {w : Int} (h0 : 0 ≤ w) (h1 : w < 4) : ∃ gs : List Fun, gs.Perm [f1, f2, f3, f4] ∧ cutL ([f1, f2, f3, f4].map Fun.v) (some w) none ++ cutL ([f1, f2, f3, f4].map Fun.v) none (some w) = gs.map Fun.v := by
  have : w = 0 ∨ w = 1 ∨ w = 2 ∨ w = 3 := by omega
  rcases this with rfl | rfl | rfl | rfl
  · exact ⟨[f1, f2, f3, f4], .refl _, rfl⟩
  · exact ⟨[f2, f3, f4, f1], (List.perm_append_comm (l₁ := [f1]) (l₂ := [f2, f3, f4])).symm, rfl⟩
  · exact ⟨[f3, f4, f1, f2], (List.perm_append_comm (l₁ := [f1, f2]) (l₂ := [f3, f4])).symm, rfl⟩
  · exact ⟨[f4, f1, f2, f3], (List.perm_append_comm (l₁ := [f1, f2, f3]) (l₂ := [f4])).symm, rfl⟩
theorem sl_whole {p c : Nat} {P : Pot} (hP : P.ok) (hp : Sub H [(p, potD c P), (c, potL P)] R)
    (q : ∀ m, Whole m 501 14 2 → Q m.v R) :
    WP B (callN G fuel (d + 5) f_l_whole [.ref p]) H Q := by
  refine wp_perm (show H.Perm ((p, potD c P) :: (c, potL P) :: R) from hp) ?_
  walk_at "in"
  walk_at "w"
  refine sl_take (n := 5) hP (by decide) (by decide) (by walk_at "subs") fun w1 P1 hP1 a0 a1 => ?_
  walk_at "w"
  refine sl_take (n := 8) hP1 (by decide) (by decide) (by walk_at "subs") fun w2 P2 hP2 b0 b1 => ?_
  walk_at "w"
  refine p_fdiv' (by decide) ?_
  walk_at "w"
  have hw : 0 ≤ w2.fdiv 7 ∧ w2.fdiv 7 ≤ 1 := by rw [fdiv_pos (by decide)]; omega
  refine p_mul' (mulOk_right (by decide)) ?_
  walk_at "w"
  obtain ⟨many, hm⟩ : ∃ n : Nat, (1 + w1 + w2.fdiv 7 * 5) = (n : Int) := ⟨(1 + w1 + w2.fdiv 7 * 5).toNat, by omega⟩
  rw [hm]
  have hm1 : 1 ≤ many ∧ many ≤ 10 := by omega
  walk_at "w"
  refine sl_take (n := (many : Int) + 1) hP2 (by omega) (by omega) (by walk_at "subs") fun w3 P3 hP3 c0 c1 => ?_
  obtain ⟨last, rfl⟩ : ∃ n : Nat, w3 = (n : Int) := ⟨w3.toNat, by omega⟩
  have hl : last ≤ many := by omega
  obtain ⟨T, hT⟩ : ∃ T : Sg, T = ⟨[("main", [.num, .num], .num), ("teller", List.replicate many .num, .num), ("asker", fnK last :: List.replicate last .num, .num), ("again", List.replicate (1 + (last + 2)) .num, .num)], []⟩ := ⟨_, rfl⟩
  have t2 : (("teller" : PySem.Str), List.replicate many Kd.num, Kd.num) ∈ T.fn := by rw [hT]; simp
  have t3 : (("asker" : PySem.Str), fnK last :: List.replicate last Kd.num, Kd.num) ∈ T.fn := by rw [hT]; simp
  have t4 : (("again" : PySem.Str), List.replicate (1 + (last + 2)) Kd.num, Kd.num) ∈ T.fn := by rw [hT]; simp
  walk_at "w"
  refine sl_main t2 t3 t4 hm1 hl hP3 (by walk_at "subs") fun bs1 P4 hP4 k1 => ?_
  walk_at "w"
  refine sl_teller (T := T) hP4 hm1 (by walk_at "subs") fun bs2 P5 hP5 k2 => ?_
  walk_at "w"
  refine sl_asker (T := T) hP5 (by omega) (by walk_at "subs") fun bs3 P6 hP6 k3 => ?_
  walk_at "w"
  rw [show (last : Int) + 2 = ((last + 2 : Nat) : Int) by push_cast; rfl]
  refine sl_again (T := T) t4 hP6 (by omega) (by walk_at "subs") fun bs4 P7 hP7 k4 => ?_
  walk_at "w"
  rename_i l1
  refine sl_take (n := 4) hP7 (by decide) (by decide) (by walk_at "subs") fun w4 P8 hP8 e0 e1 => ?_
  obtain ⟨gs, hgs, hcut⟩ := turned ⟨"main", .num, bs1⟩ ⟨"teller", .num, bs2⟩ ⟨"asker", .num, bs3⟩ ⟨"again", .num, bs4⟩ e0 e1
  have hW := whole_ok (gs := gs) T hT k1 k2 k3 k4 hgs
  generalize hfs : ([⟨"main", .num, bs1⟩, ⟨"teller", .num, bs2⟩, ⟨"asker", .num, bs3⟩, ⟨"again", .num, bs4⟩] : List Fun).map Fun.v = fs at hcut
  have hfs' : [Fun.v ⟨"main", .num, bs1⟩, Fun.v ⟨"teller", .num, bs2⟩, Fun.v ⟨"asker", .num, bs3⟩, Fun.v ⟨"again", .num, bs4⟩] = fs := hfs
  rw [hfs']
  have hlen : (cutL fs (some w4) none).length + (cutL fs none (some w4)).length = gs.length := by
    rw [← List.length_append, hcut, List.length_map]
  have hg4 : gs.length ≤ 1000 := hW.len
  walk_at "w"
  refine p_addl' (by walk_at "sub") (by walk_at "sub") (fits_small (by omega)) fun l5 => ?_
  rw [hcut]
  walk_at "w"
  exact conv (by walk_at "subs") (q ⟨[], gs⟩ hW)
end
section
variable {B H R R' : HL} {d : Nat} {Q : Val → HL → Prop}
theorem rels_ints {φ : List Nat} : ∀ {ns : List Int} {ws : List Val}, Rels φ (ns.map .int) ws → ws = ns.map .int
  | [], _, h => by cases h; rfl
  | n :: r, _, .cons h t => by rw [rels_ints t]; cases h; rfl
theorem outR_end {φ : List Nat} {o : Out} {v : Val} (ho : OutOk o) (h : OutR φ (some o) v) : v = endV o := by
  cases o with
  | done x =>
    cases x with
    | int i => obtain ⟨w, rfl, hw⟩ := h; cases hw; rfl
    | _ => exact ho.elim
  | fault w l => exact h
  | tired => exact h
/-- what a run of a middle tells -/
structure RunOk (m : Mid) (ins : List Int) (ti : Int) (ns : List Int) (o : Out) : Prop where
  ok : OutOk o
  len : ns.length ≤ 100000
  run : ∃ T g k C P n S PP s', (m.funs.find? fun g => decide (g.name = ("main" : PySem.Str))) = some g ∧ g.blocks[0]? = some k ∧ ins.length = k.params.length ∧ Small m P ∧ MidT T m C ∧ (∀ r ks ks', (r, ks) ∈ T.rc → (r, ks') ∈ T.rc → ks = ks') ∧ m.funs.length ≤ 1000 ∧ StT T C S ⟨[], [], ti, [⟨g.blocks, binds [] k.params (ins.map .int), none, k, 0⟩]⟩ PP ∧ (n + 2) * P ≤ 800000 ∧ n < 800000 ∧
    Runs m n ⟨[], [], ti, [⟨g.blocks, binds [] k.params (ins.map .int), none, k, 0⟩]⟩ s' o ∧ s'.told = ns.map .int
theorem run_ok {m : Mid} {C P i : Nat} (W : Whole m C P i) {ins : List Int} (hi : ins.length = i) (hn : ∀ x ∈ ins, Num x) {ti : Int} (h0 : 0 ≤ ti) (h1 : (ti.toNat * C + 3) * P ≤ 800000) (h2 : ti.toNat * C + 1 ≤ 100000) : ∃ ns o, RunOk m ins ti ns o := by
  obtain ⟨T, g, M, rcF, hg, hk, F⟩ := W.ex
  obtain ⟨k, hb, hl, st⟩ := main_st M hg hk F (fun k hk => List.eq_of_mem_replicate hk) (ins := ins) (by rw [hi, List.length_replicate]) hn h0
  obtain ⟨n, s', o, hn1, hr, ho, ht⟩ := runs_ok M rcF _ _ _ st
  obtain ⟨ns, hns⟩ := told_ints _ ht
  have hlen := runs_told hr
  rw [hns, List.length_map] at hlen
  have hlen : ns.length ≤ 0 + n := hlen
  have hP := W.small.P1
  have hb2 : (n + 2) * P ≤ (ti.toNat * C + 3) * P := Nat.mul_le_mul_right _ (by omega)
  exact ⟨ns, o, ho, by omega, T, g, k, C, P, n, _, _, s', hg, hb, hl, W.small, M, rcF, W.len, st, by omega, by omega, hr, hns⟩
theorem sl_own {m : Mid} {ins ns : List Int} {o : Out} {p : Nat} {ti : Int} (h : RunOk m ins ti ns o) (hl : Sub H [(p, .lst (ins.map .int))] R)
    (q : ∀ t, Q (.tup [.ref t, endV o]) ((t, .lst (ns.map .int)) :: H)) : WP B (callN G fuel (d + 6) f_l_run [m.v, .ref p, .int ti]) H Q := by
  obtain ⟨T, g, k, C, P, n, S, PP, s', hg, hb, hi, sm, M, rcF, hm, st, hP, hn, hr, ht⟩ := h.run
  refine sl_run hg hb sm M rcF hm st hP hn hr hl fun t φ tw ov rt ro => ?_
  rw [ht] at rt
  rw [rels_ints rt, outR_end h.ok ro]
  exact q t
theorem sl_mine {m : Mid} {ins ns : List Int} {o : Out} {p : Nat} {ti : Int} (h : RunOk m ins ti ns o) (hl : Sub H [(p, .lst (ins.map .int))] R)
    (q : ∀ t, Q (.tup [.ref t, endV o]) ((t, .lst (ns.map .int)) :: H)) : WP B (callN G fuel (d + 8) f_run_middle [m.v, .ref p, .int ti]) H Q := by
  obtain ⟨T, g, k, C, P, n, S, PP, s', hg, hb, hi, sm, M, rcF, hm, st, hP, hn, hr, ht⟩ := h.run
  refine sp_run hg hb hi sm hP hn hr hl fun t φ tw ov rt ro => ?_
  rw [ht] at rt
  rw [rels_ints rt, outR_end h.ok ro]
  exact q t
def noStr : Val → Option Val
  | .str _ => none
  | v => some v
theorem all_int : ∀ (D : Nat) (ns : List Val) , (∀ v ∈ ns, ∃ i : Int, v = .int i) → bools ((ns.filterMap fun _ => some (Val.bl true))) = some (ns.map fun _ => true)
  | _, [], _ => rfl
  | D, v :: r, h => by
    have ih := all_int D r fun u hu => h u (by simp [hu])
    rw [List.filterMap_cons, List.map_cons]
    show (match bools (r.filterMap fun _ => some (Val.bl true)) with | some bs => some (true :: bs) | none => none) = _
    rw [ih]
theorem sl_same {t u : Nat} {ns : List Int} {o : Out} {R1 R2 : HL} (ho : OutOk o) (hn : ns.length ≤ 100000) (h1 : Sub H [(t, .lst (ns.map .int))] R1) (h2 : Sub H [(u, .lst (ns.map .int))] R2) (q : Q (.bl true) H) : WP B (callN G fuel (d + 1) f_l_same [.tup [.ref t, endV o], .tup [.ref u, endV o]]) H Q := by
  have he : ∃ xs, endV o = .tup xs ∧ xs.length ≤ 3 ∧ ∀ v ∈ xs, (∃ s, v = .str s) ∨ ∃ i : Int, v = .int i := by
    cases o with
    | done x =>
      cases x with
      | int i => exact ⟨_, rfl, by simp, by simp⟩
      | _ => exact ho.elim
    | fault w l => exact ⟨_, rfl, by simp, by simp⟩
    | tired => exact ⟨_, rfl, by simp, by simp⟩
  obtain ⟨xs, ex, hx, hv⟩ := he
  have eqd : ∀ st F, Sep B st (H ++ F) → eqV st (.tup [.ref t, endV o]) (.tup [.ref u, endV o]) = some true := fun st F s => eq_told ho (sub_at h1 s) (sub_at h2 s)
  rw [ex] at eqd ⊢
  walk_at "in"
  walk_at "w"
  refine c_ned eqd ?_
  walk_at "w"
  rename_i D
  refine lc_pure noStr H xs [] (fun y hy => ?_) sees_nil (by simp; omega) ?_
  · refine ⟨_, rfl, fun zs => ?_⟩
    rcases hv y hy with ⟨s, rfl⟩ | ⟨i, rfl⟩
    · walk_at "w"
      rfl
    · walk_at "w"
      rfl
  rw [List.nil_append]
  walk_at "w"
  have hl3 : (xs.filterMap noStr).length ≤ xs.length := List.length_filterMap_le _ _
  refine p_addl' (sub_cons h1) sub_one (fits_small (by rw [List.length_map]; omega)) fun N => ?_
  have hi : ∀ y ∈ ns.map Val.int ++ xs.filterMap noStr, ∃ i : Int, y = .int i := fun y hy => by
    rcases List.mem_append.mp hy with hy | hy
    · obtain ⟨i, _, rfl⟩ := List.mem_map.mp hy; exact ⟨i, rfl⟩
    · obtain ⟨v, hv1, hv2⟩ := List.mem_filterMap.mp hy
      rcases hv v hv1 with ⟨s, rfl⟩ | ⟨i, rfl⟩
      · cases hv2
      · cases hv2; exact ⟨i, rfl⟩
  walk_at "w"
  rename_i D2
  refine lc_pure (fun _ => some (.bl true)) ((N, .lst (ns.map Val.int ++ xs.filterMap noStr)) :: (D, .lst (xs.filterMap noStr)) :: H) (ns.map Val.int ++ xs.filterMap noStr) [] (fun y hy => ?_) (sees_sub sub_one sees_nil) (by simp; omega) ?_
  · refine ⟨_, rfl, fun zs => ?_⟩
    obtain ⟨i, rfl⟩ := hi y hy
    walk_at "w"
    rfl
  rw [List.nil_append]
  walk_at "w"
  refine f_all sub_one (all_int 0 _ hi) ?_
  have e : ((ns.map Val.int ++ xs.filterMap noStr).map fun _ => true).all id = true := by
    rw [List.all_eq_true]
    intro b hb
    obtain ⟨_, _, rfl⟩ := List.mem_map.mp hb; rfl
  rw [e]
  exact conv (by walk_at "subs") q
end
def cellB : Ss := match d_law.body with
  | .cons _ (.cons _ (.cons (.for _ _ b) _)) => b
  | _ => .nil
def turnB : Ss := match cellB with
  | .cons _ (.cons _ (.cons _ (.cons (.for _ _ b) _))) => b
  | _ => .nil
section
variable {B H R R' : HL} {d : Nat} {Q : Val → HL → Prop}
theorem sl_turn {m : Mid} {ins ns : List Int} {o : Out} {ti : Int} {il tl : Nat} {a0 a1 a3 a7 a8 : Option Val} {N K C : Env → HL → Prop} {T : Val → HL → Prop} {R1 R2 : HL} (h : RunOk m ins ti ns o) (h1 : Sub H [(il, .lst (ins.map .int))] R1) (h2 : Sub H [(tl, .lst (ns.map .int))] R2)
    (q : ∀ a8 X, N [a0, a1, some m.v, a3, some (.ref il), some (.int ti), some (.tup [.ref tl, endV o]), a7, a8] (X ++ H)) :
    WSs B (cxN G fuel (d + 8)) turnB [a0, a1, some m.v, a3, some (.ref il), some (.int ti), some (.tup [.ref tl, endV o]), a7, a8] H N T K C := by
  have hlen := h.len
  unfold turnB cellB d_law
  dsimp only
  walk_at "w"
  rename_i hl
  refine sl_mine h sub_one fun t => ?_
  walk_at "w"
  refine sl_same h.ok h.len sub_one (sub_cons (sub_cons h2)) ?_
  walk_at "w"
  refine m_app (by walk_at "upd") (by rw [List.length_map]; omega) ?_
  walk_at "w"
  exact q _ [_, _]
theorem ticks_at {a b : Int} {c : Prop} [Decidable c] : L2.atI [Val.int a, Val.int b] (if decide c = true then 1 else 0) = some (.int (if c then b else a)) := by
  by_cases h : c
  · rw [if_pos (decide_eq_true h), if_pos h]; exact atI_nat (i := 1) rfl
  · rw [if_neg (by simpa using h), if_neg h]; exact atI_nat (i := 0) rfl
theorem sl_cell {m : Mid} {x : Int} {a0 a1 a4 a5 a6 a7 a8 : Option Val} {N K C : Env → HL → Prop} {T : Val → HL → Prop} (W : Whole m 501 14 2)
    (q : ∀ a4 a5 a6 a7 a8 X, N [a0, a1, some m.v, some (.int x), a4, a5, a6, a7, a8] (X ++ H)) :
    WSs B (cxN G fuel (d + 8)) cellB [a0, a1, some m.v, some (.int x), a4, a5, a6, a7, a8] H N T K C := by
  show WSs B _ (.cons _ (.cons _ (.cons _ (.cons (.for _ _ turnB) _)))) _ _ _ _ _ _
  walk_at "w"
  refine p_mod' (by decide) ?_
  walk_at "w"
  refine p_fdiv' (by decide) ?_
  walk_at "w"
  refine p_mod' (by decide) ?_
  walk_at "w"
  rename_i il
  refine p_fdiv' (by decide) ?_
  walk_at "w"
  refine p_mod' (by decide) ?_
  walk_at "w"
  refine p_fdiv' (by decide) ?_
  walk_at "w"
  refine p_mod' (by decide) ?_
  walk_at "w"
  refine p_mod' (by decide) ?_
  walk_at "w"
  rename_i p0
  refine f_intb ?_
  refine x_lst sub_one ticks_at ?_
  have hi : ∀ y ∈ [x.fmod 4001 - 2000, (x.fdiv 4001).fmod 4294967296 - 2147483648], Num y := fun y hy => by
    simp only [List.mem_cons, List.not_mem_nil, or_false] at hy
    have h1 := fm_bd (i := x) (j := 4001) (by decide)
    have h2 := fm_bd (i := x.fdiv 4001) (j := 4294967296) (by decide)
    rcases hy with rfl | rfl
    · exact num_of (by omega) (by omega)
    · exact num_of (by omega) (by omega)
  have ht : 0 ≤ (if x.fmod 3 = 0 then 20 + (x.fdiv 7).fmod 40 else (x.fdiv 7).fmod 6) ∧ (if x.fmod 3 = 0 then 20 + (x.fdiv 7).fmod 40 else (x.fdiv 7).fmod 6) ≤ 59 := by
    have h1 := fm_bd (i := x.fdiv 7) (j := 40) (by decide)
    have h2 := fm_bd (i := x.fdiv 7) (j := 6) (by decide)
    split <;> omega
  generalize (if x.fmod 3 = 0 then 20 + (x.fdiv 7).fmod 40 else (x.fdiv 7).fmod 6) = ti at ht ⊢
  generalize hins : [x.fmod 4001 - 2000, (x.fdiv 4001).fmod 4294967296 - 2147483648] = ins at hi
  have hil : [Val.int (x.fmod 4001 - 2000), Val.int ((x.fdiv 4001).fmod 4294967296 - 2147483648)] = ins.map .int := by rw [← hins]; rfl
  rw [hil]
  obtain ⟨ns, o, hr⟩ := run_ok W (ins := ins) (by rw [← hins]; rfl) hi ht.1 (by omega) (by omega)
  walk_at "w"
  refine sl_own hr (by walk_at "sub") fun tl => ?_
  walk_at "w"
  refine for_cons sees_nil rfl (sl_turn hr (by walk_at "sub") (by walk_at "sub") fun a8 X => ?_)
  refine for_cons sees_nil rfl (sl_turn hr (sub_there (by walk_at "sub")) (sub_there (by walk_at "sub")) fun a8 X2 => ?_)
  refine for_nil sees_nil ?_
  walk_at "w"
  have := q (some (.ref il)) (some (.int ti)) (some (.tup [.ref tl, endV o])) (some (.int 1)) a8 (X2 ++ (X ++ [(tl, .lst (ns.map .int)), (p0, .lst [.int ((x.fdiv 7).fmod 6), .int (20 + (x.fdiv 7).fmod 40)]), (il, .lst (ins.map .int))]))
  simp only [List.append_assoc, List.cons_append, List.nil_append] at this
  exact this
theorem sl_cells {m : Mid} {w : Watch} {a0 a1 : Option Val} {N : Env → HL → Prop} {T : Val → HL → Prop} (W : Whole m 501 14 2) (hw : ∀ X, Sees B (X ++ H) w) (q : ∀ s X, N (a0 :: s) (X ++ H)) : ∀ (xs : List Int) (a3 a4 a5 a6 a7 a8 : Option Val) (Y : HL),
    WF B (cxN G fuel (d + 8)) (.one 3) cellB w (xs.map .int) [a0, a1, some m.v, a3, a4, a5, a6, a7, a8] (Y ++ H) N T
  | [], a3, a4, a5, a6, a7, a8, Y => for_nil (hw Y) (q _ Y)
  | x :: xs, a3, a4, a5, a6, a7, a8, Y => by
    rw [List.map_cons]
    refine for_cons (hw Y) rfl (sl_cell W fun a4 a5 a6 a7 a8 X => ?_)
    rw [← List.append_assoc]
    exact sl_cells W hw q xs _ _ _ _ _ _ (X ++ Y)
end
abbrev depth : Nat := 20
theorem runs : ∀ ns : List Int, ns.length ≤ 63 → ∃ st', CL.callN G fuel depth f_law [.ref 0] (CL.st0 ns) = .ok (.bl true) st' := by
  intro ns hl
  have main : WP [(0, .lst (ns.map .int))] (callN G fuel (11 + 8 + 1) f_law [.ref 0]) [] (fun v _ => v = .bl true) := by
    walk_at "in"
    show WSs _ _ (.cons _ (.cons _ (.cons (.for _ _ cellB) _))) _ _ _ _ _ _
    walk_at "w"
    refine sl_potB (ns := ns) (by simp) hl fun p c P hP => ?_
    walk_at "w"
    refine sl_whole hP (by walk_at "subs") fun m W => ?_
    walk_at "w"
    refine x_cutB (xs := ns.map .int) (by simp) rfl rfl fun p1 => ?_
    rw [cut63 (by rw [List.length_map]; exact hl)]
    walk_at "w"
    refine f_lenB (xs := ns.map .int) (by simp) ?_
    walk_at "w"
    rename_i p2
    refine p_addl' (by walk_at "sub") (by walk_at "sub") (fits_small (by simp; omega)) fun p3 => ?_
    walk_at "w"
    rw [show ns.map Val.int ++ [Val.int ((ns.map Val.int).length : Nat)] = (ns ++ [(ns.length : Int)]).map Val.int by simp]
    refine sl_cells (H := [(p3, _), _, _]) W (fun X i xs h => ?_) (fun s X => ?_) (ns ++ [(ns.length : Int)]) _ _ _ _ _ _ []
    · cases List.mem_singleton.mp h
      exact .inl (by simp)
    · walk_at "w"
      exact conv0 rfl
  obtain ⟨v, K, st', e, rfl, _⟩ := main (st0 ns) [] ⟨fun a o m => by simp at m, by simp, fun a o m => by simp at m, fun a o m => by simp at m, fun a o m => (by
    cases List.mem_singleton.mp m
    exact ⟨rfl, (by show 0 < 1; decide), rfl⟩)⟩
  exact ⟨st', e⟩
end LK28

namespace LK28
open PySem
def psns : List (List Str) := (([["n"], ["word", "one", "other"], ["word", "one", "other"], ["row"], ["middle", "name"], ["function"], ["self", "held"], ["self", "name", "things"], ["self", "function", "things", "target"], ["self", "number", "things"], ["self", "names"], ["word", "things"], ["op", "things", "more"], ["self", "middle", "ticks"], ["self", "name", "things", "target"], ["self"], ["self", "row", "things"], ["self", "frame", "row"], ["self", "value"], ["self", "frame", "end"]] : List (List Str)) ++ ([["self"], ["middle", "ins", "ticks"], ["_law_cells"], ["_law_number_here", "_law_turn"], ["_law_pot_here", "_law_many"], ["_law_state_here", "_law_kind", "_law_op", "_law_args", "_law_more"], ["_law_state_here"], ["_law_state_here", "_law_at", "_law_kinds"], ["_law_state_here", "_law_end_here"], ["_law_number_here"], ["_law_op", "_law_one", "_law_other"], ["_law_row", "_law_things"], ["_law_row", "_law_things"], ["_law_middle", "_law_name", "_law_things", "_law_target"], ["_law_run_here", "_law_row", "_law_things"], ["_law_run_here", "_law_row"], ["_law_frame_here", "_law_goal", "_law_things"], ["_law_run_here", "_law_end_here"], ["_law_middle", "_law_ins", "_law_ticks"], ["_law_pot_here", "_law_kinds"]] : List (List Str)) ++ ([["_law_state_here", "_law_told"], ["_law_state_here", "_law_name", "_law_x"], ["_law_pot_here", "_law_many"], ["_law_pot_here", "_law_many"], ["_law_pot_here", "_law_many"], ["_law_pot_here", "_law_many", "_law_last"], ["_law_pot_here"], ["_law_found", "_law_due"], ["_law_script"]] : List (List Str)))
set_option maxHeartbeats 0 in
theorem all_mk {K : PySem.W.Frag} {h : Heap} {mg : Str → Option Value} {fa : Addr} (X : K.In h) (Gg : h.Ns mainGlobals mg) (hfa : mg "law" = some (.ref fa))
    {C0 : Addr} {C1 : Addr} {C2 : Addr} {C3 : Addr} {a0 : Addr} {od0 an0 : Option Addr} {sl0 : Array (Option Value)} {oc0 kV0 dc0 pm0 cd0 ct0 : Value} {a1 : Addr} {od1 an1 : Option Addr} {sl1 : Array (Option Value)} {oc1 kV1 dc1 pm1 cd1 ct1 : Value} {a2 : Addr} {od2 an2 : Option Addr} {sl2 : Array (Option Value)} {oc2 kV2 dc2 pm2 cd2 ct2 : Value} {a3 : Addr} {od3 an3 : Option Addr} {sl3 : Array (Option Value)} {oc3 kV3 dc3 pm3 cd3 ct3 : Value} {a4 : Addr} {od4 an4 : Option Addr} {sl4 : Array (Option Value)} {oc4 kV4 dc4 pm4 cd4 ct4 : Value} {a5 : Addr} {od5 an5 : Option Addr} {sl5 : Array (Option Value)} {oc5 kV5 dc5 pm5 cd5 ct5 : Value} {a6 : Addr} {od6 an6 : Option Addr} {sl6 : Array (Option Value)} {oc6 kV6 dc6 pm6 cd6 ct6 : Value} {a7 : Addr} {od7 an7 : Option Addr} {sl7 : Array (Option Value)} {oc7 kV7 dc7 pm7 cd7 ct7 : Value} {a8 : Addr} {od8 an8 : Option Addr} {sl8 : Array (Option Value)} {oc8 kV8 dc8 pm8 cd8 ct8 : Value} {a9 : Addr} {od9 an9 : Option Addr} {sl9 : Array (Option Value)} {oc9 kV9 dc9 pm9 cd9 ct9 : Value} {a10 : Addr} {od10 an10 : Option Addr} {sl10 : Array (Option Value)} {oc10 kV10 dc10 pm10 cd10 ct10 : Value} {a11 : Addr} {od11 an11 : Option Addr} {sl11 : Array (Option Value)} {oc11 kV11 dc11 pm11 cd11 ct11 : Value} {a12 : Addr} {od12 an12 : Option Addr} {sl12 : Array (Option Value)} {oc12 kV12 dc12 pm12 cd12 ct12 : Value} {a13 : Addr} {od13 an13 : Option Addr} {sl13 : Array (Option Value)} {oc13 kV13 dc13 pm13 cd13 ct13 : Value} {a14 : Addr} {od14 an14 : Option Addr} {sl14 : Array (Option Value)} {oc14 kV14 dc14 pm14 cd14 ct14 : Value} {a15 : Addr} {od15 an15 : Option Addr} {sl15 : Array (Option Value)} {oc15 kV15 dc15 pm15 cd15 ct15 : Value} {a16 : Addr} {od16 an16 : Option Addr} {sl16 : Array (Option Value)} {oc16 kV16 dc16 pm16 cd16 ct16 : Value} {a17 : Addr} {od17 an17 : Option Addr} {sl17 : Array (Option Value)} {oc17 kV17 dc17 pm17 cd17 ct17 : Value} {a18 : Addr} {od18 an18 : Option Addr} {sl18 : Array (Option Value)} {oc18 kV18 dc18 pm18 cd18 ct18 : Value} {a19 : Addr} {od19 an19 : Option Addr} {sl19 : Array (Option Value)} {oc19 kV19 dc19 pm19 cd19 ct19 : Value} {a20 : Addr} {od20 an20 : Option Addr} {sl20 : Array (Option Value)} {oc20 kV20 dc20 pm20 cd20 ct20 : Value} {a21 : Addr} {od21 an21 : Option Addr} {sl21 : Array (Option Value)} {oc21 kV21 dc21 pm21 cd21 ct21 : Value} {a22 : Addr} {od22 an22 : Option Addr} {sl22 : Array (Option Value)} {oc22 kV22 dc22 pm22 cd22 ct22 : Value} {a23 : Addr} {od23 an23 : Option Addr} {sl23 : Array (Option Value)} {oc23 kV23 dc23 pm23 cd23 ct23 : Value} {a24 : Addr} {od24 an24 : Option Addr} {sl24 : Array (Option Value)} {oc24 kV24 dc24 pm24 cd24 ct24 : Value} {a25 : Addr} {od25 an25 : Option Addr} {sl25 : Array (Option Value)} {oc25 kV25 dc25 pm25 cd25 ct25 : Value} {a26 : Addr} {od26 an26 : Option Addr} {sl26 : Array (Option Value)} {oc26 kV26 dc26 pm26 cd26 ct26 : Value} {a27 : Addr} {od27 an27 : Option Addr} {sl27 : Array (Option Value)} {oc27 kV27 dc27 pm27 cd27 ct27 : Value} {a28 : Addr} {od28 an28 : Option Addr} {sl28 : Array (Option Value)} {oc28 kV28 dc28 pm28 cd28 ct28 : Value} {a29 : Addr} {od29 an29 : Option Addr} {sl29 : Array (Option Value)} {oc29 kV29 dc29 pm29 cd29 ct29 : Value} {a30 : Addr} {od30 an30 : Option Addr} {sl30 : Array (Option Value)} {oc30 kV30 dc30 pm30 cd30 ct30 : Value} {a31 : Addr} {od31 an31 : Option Addr} {sl31 : Array (Option Value)} {oc31 kV31 dc31 pm31 cd31 ct31 : Value} {a32 : Addr} {od32 an32 : Option Addr} {sl32 : Array (Option Value)} {oc32 kV32 dc32 pm32 cd32 ct32 : Value} {a33 : Addr} {od33 an33 : Option Addr} {sl33 : Array (Option Value)} {oc33 kV33 dc33 pm33 cd33 ct33 : Value} {a34 : Addr} {od34 an34 : Option Addr} {sl34 : Array (Option Value)} {oc34 kV34 dc34 pm34 cd34 ct34 : Value} {a35 : Addr} {od35 an35 : Option Addr} {sl35 : Array (Option Value)} {oc35 kV35 dc35 pm35 cd35 ct35 : Value} {a36 : Addr} {od36 an36 : Option Addr} {sl36 : Array (Option Value)} {oc36 kV36 dc36 pm36 cd36 ct36 : Value} {a37 : Addr} {od37 an37 : Option Addr} {sl37 : Array (Option Value)} {oc37 kV37 dc37 pm37 cd37 ct37 : Value} {a38 : Addr} {od38 an38 : Option Addr} {sl38 : Array (Option Value)} {oc38 kV38 dc38 pm38 cd38 ct38 : Value} {a39 : Addr} {od39 an39 : Option Addr} {sl39 : Array (Option Value)} {oc39 kV39 dc39 pm39 cd39 ct39 : Value} {a40 : Addr} {od40 an40 : Option Addr} {sl40 : Array (Option Value)} {oc40 kV40 dc40 pm40 cd40 ct40 : Value} {a41 : Addr} {od41 an41 : Option Addr} {sl41 : Array (Option Value)} {oc41 kV41 dc41 pm41 cd41 ct41 : Value} {a42 : Addr} {od42 an42 : Option Addr} {sl42 : Array (Option Value)} {oc42 kV42 dc42 pm42 cd42 ct42 : Value} {a43 : Addr} {od43 an43 : Option Addr} {sl43 : Array (Option Value)} {oc43 kV43 dc43 pm43 cd43 ct43 : Value} {a44 : Addr} {od44 an44 : Option Addr} {sl44 : Array (Option Value)} {oc44 kV44 dc44 pm44 cd44 ct44 : Value} {a45 : Addr} {od45 an45 : Option Addr} {sl45 : Array (Option Value)} {oc45 kV45 dc45 pm45 cd45 ct45 : Value} {a46 : Addr} {od46 an46 : Option Addr} {sl46 : Array (Option Value)} {oc46 kV46 dc46 pm46 cd46 ct46 : Value} {a47 : Addr} {od47 an47 : Option Addr} {sl47 : Array (Option Value)} {oc47 kV47 dc47 pm47 cd47 ct47 : Value} {a48 : Addr} {od48 an48 : Option Addr} {sl48 : Array (Option Value)} {oc48 kV48 dc48 pm48 cd48 ct48 : Value} {t0 : Tok} {t1 : Tok} {t2 : Tok}
    (n_0 : PySem.W.nsIn K mainGlobals "Cells" = some (some (.ref C0)))
    (n_1 : PySem.W.nsIn K mainGlobals "Closed" = some (some (.ref C1)))
    (n_2 : PySem.W.nsIn K mainGlobals "Level" = some (some (.ref C2)))
    (n_3 : PySem.W.nsIn K mainGlobals "Run" = some (some (.ref C3)))
    (m0 : PySem.W.nsIn K mainGlobals "brought" = some (some (.ref a0)))
    (l0 : K.lookup a0 = some ⟨oc0, od0, .func (PySem.W.fnOf "brought" "brought" (L2.defArgs (top 6)) (L2.defBody (top 6)) (L2.defScope (top 6)) .none kV0 dc0 pm0 an0 cd0 ct0), sl0⟩)
    (c0 : PySem.W.codeIn K cd0 "brought" = true)
    (k0 : PySem.W.keepIn K (.ref a0) = true)
    (m1 : PySem.W.nsIn K mainGlobals "parted" = some (some (.ref a1)))
    (l1 : K.lookup a1 = some ⟨oc1, od1, .func (PySem.W.fnOf "parted" "parted" (L2.defArgs (top 7)) (L2.defBody (top 7)) (L2.defScope (top 7)) .none kV1 dc1 pm1 an1 cd1 ct1), sl1⟩)
    (c1 : PySem.W.codeIn K cd1 "parted" = true)
    (k1 : PySem.W.keepIn K (.ref a1) = true)
    (m2 : PySem.W.nsIn K mainGlobals "worked" = some (some (.ref a2)))
    (l2 : K.lookup a2 = some ⟨oc2, od2, .func (PySem.W.fnOf "worked" "worked" (L2.defArgs (top 8)) (L2.defBody (top 8)) (L2.defScope (top 8)) .none kV2 dc2 pm2 an2 cd2 ct2), sl2⟩)
    (c2 : PySem.W.codeIn K cd2 "worked" = true)
    (k2 : PySem.W.keepIn K (.ref a2) = true)
    (m3 : PySem.W.nsIn K mainGlobals "guard_of" = some (some (.ref a3)))
    (l3 : K.lookup a3 = some ⟨oc3, od3, .func (PySem.W.fnOf "guard_of" "guard_of" (L2.defArgs (top 10)) (L2.defBody (top 10)) (L2.defScope (top 10)) .none kV3 dc3 pm3 an3 cd3 ct3), sl3⟩)
    (c3 : PySem.W.codeIn K cd3 "guard_of" = true)
    (k3 : PySem.W.keepIn K (.ref a3) = true)
    (m4 : PySem.W.nsIn K mainGlobals "row_named" = some (some (.ref a4)))
    (l4 : K.lookup a4 = some ⟨oc4, od4, .func (PySem.W.fnOf "row_named" "row_named" (L2.defArgs (top 11)) (L2.defBody (top 11)) (L2.defScope (top 11)) .none kV4 dc4 pm4 an4 cd4 ct4), sl4⟩)
    (c4 : PySem.W.codeIn K cd4 "row_named" = true)
    (k4 : PySem.W.keepIn K (.ref a4) = true)
    (m5 : PySem.W.nsIn K mainGlobals "params_of" = some (some (.ref a5)))
    (l5 : K.lookup a5 = some ⟨oc5, od5, .func (PySem.W.fnOf "params_of" "params_of" (L2.defArgs (top 12)) (L2.defBody (top 12)) (L2.defScope (top 12)) .none kV5 dc5 pm5 an5 cd5 ct5), sl5⟩)
    (c5 : PySem.W.codeIn K cd5 "params_of" = true)
    (k5 : PySem.W.keepIn K (.ref a5) = true)
    (m6 : PySem.W.findIn K (.ref C0) "__init__" = some (some (.ref a6)))
    (i6 : PySem.W.isFn K (.ref a6) = true)
    (l6 : K.lookup a6 = some ⟨oc6, od6, .func (PySem.W.fnOf "__init__" "Cells.__init__" (L2.defArgs (L2.inClass (top 15) 0)) (L2.defBody (L2.inClass (top 15) 0)) (L2.defScope (L2.inClass (top 15) 0)) .none kV6 dc6 pm6 an6 cd6 ct6), sl6⟩)
    (c6 : PySem.W.codeIn K cd6 "Cells.__init__" = true)
    (k6 : PySem.W.keepIn K (.ref a6) = true)
    (m7 : PySem.W.findIn K (.ref C1) "__init__" = some (some (.ref a7)))
    (i7 : PySem.W.isFn K (.ref a7) = true)
    (l7 : K.lookup a7 = some ⟨oc7, od7, .func (PySem.W.fnOf "__init__" "Closed.__init__" (L2.defArgs (L2.inClass (top 16) 0)) (L2.defBody (L2.inClass (top 16) 0)) (L2.defScope (L2.inClass (top 16) 0)) .none kV7 dc7 pm7 an7 cd7 ct7), sl7⟩)
    (c7 : PySem.W.codeIn K cd7 "Closed.__init__" = true)
    (k7 : PySem.W.keepIn K (.ref a7) = true)
    (m8 : PySem.W.findIn K (.ref C2) "__init__" = some (some (.ref a8)))
    (i8 : PySem.W.isFn K (.ref a8) = true)
    (l8 : K.lookup a8 = some ⟨oc8, od8, .func (PySem.W.fnOf "__init__" "Level.__init__" (L2.defArgs (L2.inClass (top 17) 0)) (L2.defBody (L2.inClass (top 17) 0)) (L2.defScope (L2.inClass (top 17) 0)) .none kV8 dc8 pm8 an8 cd8 ct8), sl8⟩)
    (c8 : PySem.W.codeIn K cd8 "Level.__init__" = true)
    (k8 : PySem.W.keepIn K (.ref a8) = true)
    (m9 : PySem.W.findIn K (.ref C2) "enter" = some (some (.ref a9)))
    (i9 : PySem.W.isFn K (.ref a9) = true)
    (l9 : K.lookup a9 = some ⟨oc9, od9, .func (PySem.W.fnOf "enter" "Level.enter" (L2.defArgs (L2.inClass (top 17) 1)) (L2.defBody (L2.inClass (top 17) 1)) (L2.defScope (L2.inClass (top 17) 1)) .none kV9 dc9 pm9 an9 cd9 ct9), sl9⟩)
    (c9 : PySem.W.codeIn K cd9 "Level.enter" = true)
    (k9 : PySem.W.keepIn K (.ref a9) = true)
    (m10 : PySem.W.findIn K (.ref C2) "worths_of" = some (some (.ref a10)))
    (i10 : PySem.W.isFn K (.ref a10) = true)
    (l10 : K.lookup a10 = some ⟨oc10, od10, .func (PySem.W.fnOf "worths_of" "Level.worths_of" (L2.defArgs (L2.inClass (top 17) 2)) (L2.defBody (L2.inClass (top 17) 2)) (L2.defScope (L2.inClass (top 17) 2)) .none kV10 dc10 pm10 an10 cd10 ct10), sl10⟩)
    (c10 : PySem.W.codeIn K cd10 "Level.worths_of" = true)
    (k10 : PySem.W.keepIn K (.ref a10) = true)
    (m11 : PySem.W.nsIn K mainGlobals "lets_by" = some (some (.ref a11)))
    (l11 : K.lookup a11 = some ⟨oc11, od11, .func (PySem.W.fnOf "lets_by" "lets_by" (L2.defArgs (top 18)) (L2.defBody (top 18)) (L2.defScope (top 18)) .none kV11 dc11 pm11 an11 cd11 ct11), sl11⟩)
    (c11 : PySem.W.codeIn K cd11 "lets_by" = true)
    (k11 : PySem.W.keepIn K (.ref a11) = true)
    (m12 : PySem.W.nsIn K mainGlobals "told_by" = some (some (.ref a12)))
    (l12 : K.lookup a12 = some ⟨oc12, od12, .func (PySem.W.fnOf "told_by" "told_by" (L2.defArgs (top 19)) (L2.defBody (top 19)) (L2.defScope (top 19)) .none kV12 dc12 pm12 an12 cd12 ct12), sl12⟩)
    (c12 : PySem.W.codeIn K cd12 "told_by" = true)
    (k12 : PySem.W.keepIn K (.ref a12) = true)
    (m13 : PySem.W.findIn K (.ref C3) "__init__" = some (some (.ref a13)))
    (i13 : PySem.W.isFn K (.ref a13) = true)
    (l13 : K.lookup a13 = some ⟨oc13, od13, .func (PySem.W.fnOf "__init__" "Run.__init__" (L2.defArgs (L2.inClass (top 20) 0)) (L2.defBody (L2.inClass (top 20) 0)) (L2.defScope (L2.inClass (top 20) 0)) .none kV13 dc13 pm13 an13 cd13 ct13), sl13⟩)
    (c13 : PySem.W.codeIn K cd13 "Run.__init__" = true)
    (k13 : PySem.W.keepIn K (.ref a13) = true)
    (m14 : PySem.W.findIn K (.ref C3) "begin" = some (some (.ref a14)))
    (i14 : PySem.W.isFn K (.ref a14) = true)
    (l14 : K.lookup a14 = some ⟨oc14, od14, .func (PySem.W.fnOf "begin" "Run.begin" (L2.defArgs (L2.inClass (top 20) 1)) (L2.defBody (L2.inClass (top 20) 1)) (L2.defScope (L2.inClass (top 20) 1)) .none kV14 dc14 pm14 an14 cd14 ct14), sl14⟩)
    (c14 : PySem.W.codeIn K cd14 "Run.begin" = true)
    (k14 : PySem.W.keepIn K (.ref a14) = true)
    (m15 : PySem.W.findIn K (.ref C3) "ticked" = some (some (.ref a15)))
    (i15 : PySem.W.isFn K (.ref a15) = true)
    (l15 : K.lookup a15 = some ⟨oc15, od15, .func (PySem.W.fnOf "ticked" "Run.ticked" (L2.defArgs (L2.inClass (top 20) 2)) (L2.defBody (L2.inClass (top 20) 2)) (L2.defScope (L2.inClass (top 20) 2)) .none kV15 dc15 pm15 an15 cd15 ct15), sl15⟩)
    (c15 : PySem.W.codeIn K cd15 "Run.ticked" = true)
    (k15 : PySem.W.keepIn K (.ref a15) = true)
    (m16 : PySem.W.findIn K (.ref C3) "called" = some (some (.ref a16)))
    (i16 : PySem.W.isFn K (.ref a16) = true)
    (l16 : K.lookup a16 = some ⟨oc16, od16, .func (PySem.W.fnOf "called" "Run.called" (L2.defArgs (L2.inClass (top 20) 3)) (L2.defBody (L2.inClass (top 20) 3)) (L2.defScope (L2.inClass (top 20) 3)) .none kV16 dc16 pm16 an16 cd16 ct16), sl16⟩)
    (c16 : PySem.W.codeIn K cd16 "Run.called" = true)
    (k16 : PySem.W.keepIn K (.ref a16) = true)
    (m17 : PySem.W.findIn K (.ref C3) "row_done" = some (some (.ref a17)))
    (i17 : PySem.W.isFn K (.ref a17) = true)
    (l17 : K.lookup a17 = some ⟨oc17, od17, .func (PySem.W.fnOf "row_done" "Run.row_done" (L2.defArgs (L2.inClass (top 20) 4)) (L2.defBody (L2.inClass (top 20) 4)) (L2.defScope (L2.inClass (top 20) 4)) .none kV17 dc17 pm17 an17 cd17 ct17), sl17⟩)
    (c17 : PySem.W.codeIn K cd17 "Run.row_done" = true)
    (k17 : PySem.W.keepIn K (.ref a17) = true)
    (m18 : PySem.W.findIn K (.ref C3) "given" = some (some (.ref a18)))
    (i18 : PySem.W.isFn K (.ref a18) = true)
    (l18 : K.lookup a18 = some ⟨oc18, od18, .func (PySem.W.fnOf "given" "Run.given" (L2.defArgs (L2.inClass (top 20) 5)) (L2.defBody (L2.inClass (top 20) 5)) (L2.defScope (L2.inClass (top 20) 5)) .none kV18 dc18 pm18 an18 cd18 ct18), sl18⟩)
    (c18 : PySem.W.codeIn K cd18 "Run.given" = true)
    (k18 : PySem.W.keepIn K (.ref a18) = true)
    (m19 : PySem.W.findIn K (.ref C3) "end_done" = some (some (.ref a19)))
    (i19 : PySem.W.isFn K (.ref a19) = true)
    (l19 : K.lookup a19 = some ⟨oc19, od19, .func (PySem.W.fnOf "end_done" "Run.end_done" (L2.defArgs (L2.inClass (top 20) 6)) (L2.defBody (L2.inClass (top 20) 6)) (L2.defScope (L2.inClass (top 20) 6)) .none kV19 dc19 pm19 an19 cd19 ct19), sl19⟩)
    (c19 : PySem.W.codeIn K cd19 "Run.end_done" = true)
    (k19 : PySem.W.keepIn K (.ref a19) = true)
    (m20 : PySem.W.findIn K (.ref C3) "ended" = some (some (.ref a20)))
    (i20 : PySem.W.isFn K (.ref a20) = true)
    (l20 : K.lookup a20 = some ⟨oc20, od20, .func (PySem.W.fnOf "ended" "Run.ended" (L2.defArgs (L2.inClass (top 20) 7)) (L2.defBody (L2.inClass (top 20) 7)) (L2.defScope (L2.inClass (top 20) 7)) .none kV20 dc20 pm20 an20 cd20 ct20), sl20⟩)
    (c20 : PySem.W.codeIn K cd20 "Run.ended" = true)
    (k20 : PySem.W.keepIn K (.ref a20) = true)
    (m21 : PySem.W.nsIn K mainGlobals "run_middle" = some (some (.ref a21)))
    (l21 : K.lookup a21 = some ⟨oc21, od21, .func (PySem.W.fnOf "run_middle" "run_middle" (L2.defArgs (top 21)) (L2.defBody (top 21)) (L2.defScope (top 21)) .none kV21 dc21 pm21 an21 cd21 ct21), sl21⟩)
    (c21 : PySem.W.codeIn K cd21 "run_middle" = true)
    (k21 : PySem.W.keepIn K (.ref a21) = true)
    (m22 : PySem.W.nsIn K mainGlobals "_law_pot" = some (some (.ref a22)))
    (l22 : K.lookup a22 = some ⟨oc22, od22, .func (PySem.W.fnOf "_law_pot" "_law_pot" (L2.defArgs (top 23)) (L2.defBody (top 23)) (L2.defScope (top 23)) .none kV22 dc22 pm22 an22 cd22 ct22), sl22⟩)
    (c22 : PySem.W.codeIn K cd22 "_law_pot" = true)
    (k22 : PySem.W.keepIn K (.ref a22) = true)
    (m23 : PySem.W.nsIn K mainGlobals "_law_mix" = some (some (.ref a23)))
    (l23 : K.lookup a23 = some ⟨oc23, od23, .func (PySem.W.fnOf "_law_mix" "_law_mix" (L2.defArgs (top 24)) (L2.defBody (top 24)) (L2.defScope (top 24)) .none kV23 dc23 pm23 an23 cd23 ct23), sl23⟩)
    (c23 : PySem.W.codeIn K cd23 "_law_mix" = true)
    (k23 : PySem.W.keepIn K (.ref a23) = true)
    (m24 : PySem.W.nsIn K mainGlobals "_law_take" = some (some (.ref a24)))
    (l24 : K.lookup a24 = some ⟨oc24, od24, .func (PySem.W.fnOf "_law_take" "_law_take" (L2.defArgs (top 25)) (L2.defBody (top 25)) (L2.defScope (top 25)) .none kV24 dc24 pm24 an24 cd24 ct24), sl24⟩)
    (c24 : PySem.W.codeIn K cd24 "_law_take" = true)
    (k24 : PySem.W.keepIn K (.ref a24) = true)
    (m25 : PySem.W.nsIn K mainGlobals "_law_put" = some (some (.ref a25)))
    (l25 : K.lookup a25 = some ⟨oc25, od25, .func (PySem.W.fnOf "_law_put" "_law_put" (L2.defArgs (top 26)) (L2.defBody (top 26)) (L2.defScope (top 26)) .none kV25 dc25 pm25 an25 cd25 ct25), sl25⟩)
    (c25 : PySem.W.codeIn K cd25 "_law_put" = true)
    (k25 : PySem.W.keepIn K (.ref a25) = true)
    (m26 : PySem.W.nsIn K mainGlobals "_law_open" = some (some (.ref a26)))
    (l26 : K.lookup a26 = some ⟨oc26, od26, .func (PySem.W.fnOf "_law_open" "_law_open" (L2.defArgs (top 27)) (L2.defBody (top 27)) (L2.defScope (top 27)) .none kV26 dc26 pm26 an26 cd26 ct26), sl26⟩)
    (c26 : PySem.W.codeIn K cd26 "_law_open" = true)
    (k26 : PySem.W.keepIn K (.ref a26) = true)
    (m27 : PySem.W.nsIn K mainGlobals "_law_begin" = some (some (.ref a27)))
    (l27 : K.lookup a27 = some ⟨oc27, od27, .func (PySem.W.fnOf "_law_begin" "_law_begin" (L2.defArgs (top 28)) (L2.defBody (top 28)) (L2.defScope (top 28)) .none kV27 dc27 pm27 an27 cd27 ct27), sl27⟩)
    (c27 : PySem.W.codeIn K cd27 "_law_begin" = true)
    (k27 : PySem.W.keepIn K (.ref a27) = true)
    (m28 : PySem.W.nsIn K mainGlobals "_law_end" = some (some (.ref a28)))
    (l28 : K.lookup a28 = some ⟨oc28, od28, .func (PySem.W.fnOf "_law_end" "_law_end" (L2.defArgs (top 29)) (L2.defBody (top 29)) (L2.defScope (top 29)) .none kV28 dc28 pm28 an28 cd28 ct28), sl28⟩)
    (c28 : PySem.W.codeIn K cd28 "_law_end" = true)
    (k28 : PySem.W.keepIn K (.ref a28) = true)
    (m29 : PySem.W.nsIn K mainGlobals "_law_brought" = some (some (.ref a29)))
    (l29 : K.lookup a29 = some ⟨oc29, od29, .func (PySem.W.fnOf "_law_brought" "_law_brought" (L2.defArgs (top 30)) (L2.defBody (top 30)) (L2.defScope (top 30)) .none kV29 dc29 pm29 an29 cd29 ct29), sl29⟩)
    (c29 : PySem.W.codeIn K cd29 "_law_brought" = true)
    (k29 : PySem.W.keepIn K (.ref a29) = true)
    (m30 : PySem.W.nsIn K mainGlobals "_law_two" = some (some (.ref a30)))
    (l30 : K.lookup a30 = some ⟨oc30, od30, .func (PySem.W.fnOf "_law_two" "_law_two" (L2.defArgs (top 31)) (L2.defBody (top 31)) (L2.defScope (top 31)) .none kV30 dc30 pm30 an30 cd30 ct30), sl30⟩)
    (c30 : PySem.W.codeIn K cd30 "_law_two" = true)
    (k30 : PySem.W.keepIn K (.ref a30) = true)
    (m31 : PySem.W.nsIn K mainGlobals "_law_fault" = some (some (.ref a31)))
    (l31 : K.lookup a31 = some ⟨oc31, od31, .func (PySem.W.fnOf "_law_fault" "_law_fault" (L2.defArgs (top 32)) (L2.defBody (top 32)) (L2.defScope (top 32)) .none kV31 dc31 pm31 an31 cd31 ct31), sl31⟩)
    (c31 : PySem.W.codeIn K cd31 "_law_fault" = true)
    (k31 : PySem.W.keepIn K (.ref a31) = true)
    (m32 : PySem.W.nsIn K mainGlobals "_law_worth" = some (some (.ref a32)))
    (l32 : K.lookup a32 = some ⟨oc32, od32, .func (PySem.W.fnOf "_law_worth" "_law_worth" (L2.defArgs (top 33)) (L2.defBody (top 33)) (L2.defScope (top 33)) .none kV32 dc32 pm32 an32 cd32 ct32), sl32⟩)
    (c32 : PySem.W.codeIn K cd32 "_law_worth" = true)
    (k32 : PySem.W.keepIn K (.ref a32) = true)
    (m33 : PySem.W.nsIn K mainGlobals "_law_frame" = some (some (.ref a33)))
    (l33 : K.lookup a33 = some ⟨oc33, od33, .func (PySem.W.fnOf "_law_frame" "_law_frame" (L2.defArgs (top 34)) (L2.defBody (top 34)) (L2.defScope (top 34)) .none kV33 dc33 pm33 an33 cd33 ct33), sl33⟩)
    (c33 : PySem.W.codeIn K cd33 "_law_frame" = true)
    (k33 : PySem.W.keepIn K (.ref a33) = true)
    (m34 : PySem.W.nsIn K mainGlobals "_law_change" = some (some (.ref a34)))
    (l34 : K.lookup a34 = some ⟨oc34, od34, .func (PySem.W.fnOf "_law_change" "_law_change" (L2.defArgs (top 35)) (L2.defBody (top 35)) (L2.defScope (top 35)) .none kV34 dc34 pm34 an34 cd34 ct34), sl34⟩)
    (c34 : PySem.W.codeIn K cd34 "_law_change" = true)
    (k34 : PySem.W.keepIn K (.ref a34) = true)
    (m35 : PySem.W.nsIn K mainGlobals "_law_row_done" = some (some (.ref a35)))
    (l35 : K.lookup a35 = some ⟨oc35, od35, .func (PySem.W.fnOf "_law_row_done" "_law_row_done" (L2.defArgs (top 36)) (L2.defBody (top 36)) (L2.defScope (top 36)) .none kV35 dc35 pm35 an35 cd35 ct35), sl35⟩)
    (c35 : PySem.W.codeIn K cd35 "_law_row_done" = true)
    (k35 : PySem.W.keepIn K (.ref a35) = true)
    (m36 : PySem.W.nsIn K mainGlobals "_law_went" = some (some (.ref a36)))
    (l36 : K.lookup a36 = some ⟨oc36, od36, .func (PySem.W.fnOf "_law_went" "_law_went" (L2.defArgs (top 37)) (L2.defBody (top 37)) (L2.defScope (top 37)) .none kV36 dc36 pm36 an36 cd36 ct36), sl36⟩)
    (c36 : PySem.W.codeIn K cd36 "_law_went" = true)
    (k36 : PySem.W.keepIn K (.ref a36) = true)
    (m37 : PySem.W.nsIn K mainGlobals "_law_end_done" = some (some (.ref a37)))
    (l37 : K.lookup a37 = some ⟨oc37, od37, .func (PySem.W.fnOf "_law_end_done" "_law_end_done" (L2.defArgs (top 38)) (L2.defBody (top 38)) (L2.defScope (top 38)) .none kV37 dc37 pm37 an37 cd37 ct37), sl37⟩)
    (c37 : PySem.W.codeIn K cd37 "_law_end_done" = true)
    (k37 : PySem.W.keepIn K (.ref a37) = true)
    (m38 : PySem.W.nsIn K mainGlobals "_law_run" = some (some (.ref a38)))
    (l38 : K.lookup a38 = some ⟨oc38, od38, .func (PySem.W.fnOf "_law_run" "_law_run" (L2.defArgs (top 39)) (L2.defBody (top 39)) (L2.defScope (top 39)) .none kV38 dc38 pm38 an38 cd38 ct38), sl38⟩)
    (c38 : PySem.W.codeIn K cd38 "_law_run" = true)
    (k38 : PySem.W.keepIn K (.ref a38) = true)
    (m39 : PySem.W.nsIn K mainGlobals "_law_state" = some (some (.ref a39)))
    (l39 : K.lookup a39 = some ⟨oc39, od39, .func (PySem.W.fnOf "_law_state" "_law_state" (L2.defArgs (top 40)) (L2.defBody (top 40)) (L2.defScope (top 40)) .none kV39 dc39 pm39 an39 cd39 ct39), sl39⟩)
    (c39 : PySem.W.codeIn K cd39 "_law_state" = true)
    (k39 : PySem.W.keepIn K (.ref a39) = true)
    (m40 : PySem.W.nsIn K mainGlobals "_law_number" = some (some (.ref a40)))
    (l40 : K.lookup a40 = some ⟨oc40, od40, .func (PySem.W.fnOf "_law_number" "_law_number" (L2.defArgs (top 41)) (L2.defBody (top 41)) (L2.defScope (top 41)) .none kV40 dc40 pm40 an40 cd40 ct40), sl40⟩)
    (c40 : PySem.W.codeIn K cd40 "_law_number" = true)
    (k40 : PySem.W.keepIn K (.ref a40) = true)
    (m41 : PySem.W.nsIn K mainGlobals "_law_ended" = some (some (.ref a41)))
    (l41 : K.lookup a41 = some ⟨oc41, od41, .func (PySem.W.fnOf "_law_ended" "_law_ended" (L2.defArgs (top 42)) (L2.defBody (top 42)) (L2.defScope (top 42)) .none kV41 dc41 pm41 an41 cd41 ct41), sl41⟩)
    (c41 : PySem.W.codeIn K cd41 "_law_ended" = true)
    (k41 : PySem.W.keepIn K (.ref a41) = true)
    (m42 : PySem.W.nsIn K mainGlobals "_law_teller" = some (some (.ref a42)))
    (l42 : K.lookup a42 = some ⟨oc42, od42, .func (PySem.W.fnOf "_law_teller" "_law_teller" (L2.defArgs (top 43)) (L2.defBody (top 43)) (L2.defScope (top 43)) .none kV42 dc42 pm42 an42 cd42 ct42), sl42⟩)
    (c42 : PySem.W.codeIn K cd42 "_law_teller" = true)
    (k42 : PySem.W.keepIn K (.ref a42) = true)
    (m43 : PySem.W.nsIn K mainGlobals "_law_asker" = some (some (.ref a43)))
    (l43 : K.lookup a43 = some ⟨oc43, od43, .func (PySem.W.fnOf "_law_asker" "_law_asker" (L2.defArgs (top 44)) (L2.defBody (top 44)) (L2.defScope (top 44)) .none kV43 dc43 pm43 an43 cd43 ct43), sl43⟩)
    (c43 : PySem.W.codeIn K cd43 "_law_asker" = true)
    (k43 : PySem.W.keepIn K (.ref a43) = true)
    (m44 : PySem.W.nsIn K mainGlobals "_law_again" = some (some (.ref a44)))
    (l44 : K.lookup a44 = some ⟨oc44, od44, .func (PySem.W.fnOf "_law_again" "_law_again" (L2.defArgs (top 45)) (L2.defBody (top 45)) (L2.defScope (top 45)) .none kV44 dc44 pm44 an44 cd44 ct44), sl44⟩)
    (c44 : PySem.W.codeIn K cd44 "_law_again" = true)
    (k44 : PySem.W.keepIn K (.ref a44) = true)
    (m45 : PySem.W.nsIn K mainGlobals "_law_main" = some (some (.ref a45)))
    (l45 : K.lookup a45 = some ⟨oc45, od45, .func (PySem.W.fnOf "_law_main" "_law_main" (L2.defArgs (top 46)) (L2.defBody (top 46)) (L2.defScope (top 46)) .none kV45 dc45 pm45 an45 cd45 ct45), sl45⟩)
    (c45 : PySem.W.codeIn K cd45 "_law_main" = true)
    (k45 : PySem.W.keepIn K (.ref a45) = true)
    (m46 : PySem.W.nsIn K mainGlobals "_law_whole" = some (some (.ref a46)))
    (l46 : K.lookup a46 = some ⟨oc46, od46, .func (PySem.W.fnOf "_law_whole" "_law_whole" (L2.defArgs (top 47)) (L2.defBody (top 47)) (L2.defScope (top 47)) .none kV46 dc46 pm46 an46 cd46 ct46), sl46⟩)
    (c46 : PySem.W.codeIn K cd46 "_law_whole" = true)
    (k46 : PySem.W.keepIn K (.ref a46) = true)
    (m47 : PySem.W.nsIn K mainGlobals "_law_same" = some (some (.ref a47)))
    (l47 : K.lookup a47 = some ⟨oc47, od47, .func (PySem.W.fnOf "_law_same" "_law_same" (L2.defArgs (top 48)) (L2.defBody (top 48)) (L2.defScope (top 48)) .none kV47 dc47 pm47 an47 cd47 ct47), sl47⟩)
    (c47 : PySem.W.codeIn K cd47 "_law_same" = true)
    (k47 : PySem.W.keepIn K (.ref a47) = true)
    (m48 : PySem.W.nsIn K mainGlobals "law" = some (some (.ref a48)))
    (l48 : K.lookup a48 = some ⟨oc48, od48, .func (PySem.W.fnOf "law" "law" (L2.defArgs (top 49)) (L2.defBody (top 49)) (L2.defScope (top 49)) .none kV48 dc48 pm48 an48 cd48 ct48), sl48⟩)
    (c48 : PySem.W.codeIn K cd48 "law" = true)
    (k48 : PySem.W.keepIn K (.ref a48) = true)
    (z_len : PySem.W.nsIn K mainGlobals "len" = some none)
    (z_abs : PySem.W.nsIn K mainGlobals "abs" = some none)
    (z_list : PySem.W.nsIn K mainGlobals "list" = some none)
    (z_tuple : PySem.W.nsIn K mainGlobals "tuple" = some none)
    (z_int : PySem.W.nsIn K mainGlobals "int" = some none)
    (z_any : PySem.W.nsIn K mainGlobals "any" = some none)
    (z_all : PySem.W.nsIn K mainGlobals "all" = some none)
    (z_min : PySem.W.nsIn K mainGlobals "min" = some none)
    (z_max : PySem.W.nsIn K mainGlobals "max" = some none)
    (z_isinstance : PySem.W.nsIn K mainGlobals "isinstance" = some none)
    (z_bool : PySem.W.nsIn K mainGlobals "bool" = some none)
    (z_str : PySem.W.nsIn K mainGlobals "str" = some none)
    (z_dict : PySem.W.nsIn K mainGlobals "dict" = some none)
    (z_range : PySem.W.nsIn K mainGlobals "range" = some none)
    (z_enumerate : PySem.W.nsIn K mainGlobals "enumerate" = some none)
    (z_zip : PySem.W.nsIn K mainGlobals "zip" = some none)
    (z_sorted : PySem.W.nsIn K mainGlobals "sorted" = some none)
    (g0 : PySem.W.nsIn K mainGlobals "HALF" = some (some (.int 2147483648 t0)))
    (g1 : PySem.W.nsIn K mainGlobals "WHOLE" = some (some (.int 4294967296 t1)))
    (g2 : PySem.W.nsIn K mainGlobals "LONGEST" = some (some (.int 60 t2)))
    (pg0 : PySem.W.plainGet K C0 Str.empty = true)
    (hd0 : PySem.W.hasDictIn K C0 = true)
    (po0 : PySem.W.plainOver K C0 = true)
    (sa0 : PySem.W.findIn K (.ref C0) "__setattr__" = some (some (.builtin "object.__setattr__")))
    (mk0 : PySem.W.makesIn K C0 = true)
    (kc0 : PySem.W.keepIn K (.ref C0) = true)
    (na0_held : PySem.W.findIn K (.ref C0) "held" = some none)
    (pg1 : PySem.W.plainGet K C1 Str.empty = true)
    (hd1 : PySem.W.hasDictIn K C1 = true)
    (po1 : PySem.W.plainOver K C1 = true)
    (sa1 : PySem.W.findIn K (.ref C1) "__setattr__" = some (some (.builtin "object.__setattr__")))
    (mk1 : PySem.W.makesIn K C1 = true)
    (kc1 : PySem.W.keepIn K (.ref C1) = true)
    (na1_name : PySem.W.findIn K (.ref C1) "name" = some none)
    (na1_things : PySem.W.findIn K (.ref C1) "things" = some none)
    (pg2 : PySem.W.plainGet K C2 Str.empty = true)
    (hd2 : PySem.W.hasDictIn K C2 = true)
    (po2 : PySem.W.plainOver K C2 = true)
    (sa2 : PySem.W.findIn K (.ref C2) "__setattr__" = some (some (.builtin "object.__setattr__")))
    (mk2 : PySem.W.makesIn K C2 = true)
    (kc2 : PySem.W.keepIn K (.ref C2) = true)
    (na2_at : PySem.W.findIn K (.ref C2) "at" = some none)
    (na2_block : PySem.W.findIn K (.ref C2) "block" = some none)
    (na2_blocks : PySem.W.findIn K (.ref C2) "blocks" = some none)
    (na2_target : PySem.W.findIn K (.ref C2) "target" = some none)
    (na2_worth_by : PySem.W.findIn K (.ref C2) "worth_by" = some none)
    (pg3 : PySem.W.plainGet K C3 Str.empty = true)
    (hd3 : PySem.W.hasDictIn K C3 = true)
    (po3 : PySem.W.plainOver K C3 = true)
    (sa3 : PySem.W.findIn K (.ref C3) "__setattr__" = some (some (.builtin "object.__setattr__")))
    (mk3 : PySem.W.makesIn K C3 = true)
    (kc3 : PySem.W.keepIn K (.ref C3) = true)
    (na3_frames : PySem.W.findIn K (.ref C3) "frames" = some none)
    (na3_middle : PySem.W.findIn K (.ref C3) "middle" = some none)
    (na3_ticks : PySem.W.findIn K (.ref C3) "ticks" = some none)
    (na3_told : PySem.W.findIn K (.ref C3) "told" = some none) :
    ∃ T : CL.Tab, CL.Laid G fuel f_law "_law_script" K mg fa T := by
  obtain rfl : a48 = fa := by have e := hfa.symm.trans (PySem.W.mg_of X Gg m48); injection e with e; injection e with e; exact e.symm
  refine ⟨⟨G, fuel, nm, fun c => ([C0, C1, C2, C3] : List Addr).getD c 0, fun f => (([a0, a1, a2, a3, a4, a5, a6, a7, a8, a9, a10, a11, a12, a13, a14, a15, a16, a17, a18, a19] : List Addr) ++ ([a20, a21, a22, a23, a24, a25, a26, a27, a28, a29, a30, a31, a32, a33, a34, a35, a36, a37, a38, a39] : List Addr) ++ ([a40, a41, a42, a43, a44, a45, a46, a47, a48] : List Addr)).getD f 0, fun f => (([PySem.W.fnOf "brought" "brought" (L2.defArgs (top 6)) (L2.defBody (top 6)) (L2.defScope (top 6)) .none kV0 dc0 pm0 an0 cd0 ct0, PySem.W.fnOf "parted" "parted" (L2.defArgs (top 7)) (L2.defBody (top 7)) (L2.defScope (top 7)) .none kV1 dc1 pm1 an1 cd1 ct1, PySem.W.fnOf "worked" "worked" (L2.defArgs (top 8)) (L2.defBody (top 8)) (L2.defScope (top 8)) .none kV2 dc2 pm2 an2 cd2 ct2, PySem.W.fnOf "guard_of" "guard_of" (L2.defArgs (top 10)) (L2.defBody (top 10)) (L2.defScope (top 10)) .none kV3 dc3 pm3 an3 cd3 ct3, PySem.W.fnOf "row_named" "row_named" (L2.defArgs (top 11)) (L2.defBody (top 11)) (L2.defScope (top 11)) .none kV4 dc4 pm4 an4 cd4 ct4, PySem.W.fnOf "params_of" "params_of" (L2.defArgs (top 12)) (L2.defBody (top 12)) (L2.defScope (top 12)) .none kV5 dc5 pm5 an5 cd5 ct5, PySem.W.fnOf "__init__" "Cells.__init__" (L2.defArgs (L2.inClass (top 15) 0)) (L2.defBody (L2.inClass (top 15) 0)) (L2.defScope (L2.inClass (top 15) 0)) .none kV6 dc6 pm6 an6 cd6 ct6, PySem.W.fnOf "__init__" "Closed.__init__" (L2.defArgs (L2.inClass (top 16) 0)) (L2.defBody (L2.inClass (top 16) 0)) (L2.defScope (L2.inClass (top 16) 0)) .none kV7 dc7 pm7 an7 cd7 ct7, PySem.W.fnOf "__init__" "Level.__init__" (L2.defArgs (L2.inClass (top 17) 0)) (L2.defBody (L2.inClass (top 17) 0)) (L2.defScope (L2.inClass (top 17) 0)) .none kV8 dc8 pm8 an8 cd8 ct8, PySem.W.fnOf "enter" "Level.enter" (L2.defArgs (L2.inClass (top 17) 1)) (L2.defBody (L2.inClass (top 17) 1)) (L2.defScope (L2.inClass (top 17) 1)) .none kV9 dc9 pm9 an9 cd9 ct9, PySem.W.fnOf "worths_of" "Level.worths_of" (L2.defArgs (L2.inClass (top 17) 2)) (L2.defBody (L2.inClass (top 17) 2)) (L2.defScope (L2.inClass (top 17) 2)) .none kV10 dc10 pm10 an10 cd10 ct10, PySem.W.fnOf "lets_by" "lets_by" (L2.defArgs (top 18)) (L2.defBody (top 18)) (L2.defScope (top 18)) .none kV11 dc11 pm11 an11 cd11 ct11, PySem.W.fnOf "told_by" "told_by" (L2.defArgs (top 19)) (L2.defBody (top 19)) (L2.defScope (top 19)) .none kV12 dc12 pm12 an12 cd12 ct12, PySem.W.fnOf "__init__" "Run.__init__" (L2.defArgs (L2.inClass (top 20) 0)) (L2.defBody (L2.inClass (top 20) 0)) (L2.defScope (L2.inClass (top 20) 0)) .none kV13 dc13 pm13 an13 cd13 ct13, PySem.W.fnOf "begin" "Run.begin" (L2.defArgs (L2.inClass (top 20) 1)) (L2.defBody (L2.inClass (top 20) 1)) (L2.defScope (L2.inClass (top 20) 1)) .none kV14 dc14 pm14 an14 cd14 ct14, PySem.W.fnOf "ticked" "Run.ticked" (L2.defArgs (L2.inClass (top 20) 2)) (L2.defBody (L2.inClass (top 20) 2)) (L2.defScope (L2.inClass (top 20) 2)) .none kV15 dc15 pm15 an15 cd15 ct15, PySem.W.fnOf "called" "Run.called" (L2.defArgs (L2.inClass (top 20) 3)) (L2.defBody (L2.inClass (top 20) 3)) (L2.defScope (L2.inClass (top 20) 3)) .none kV16 dc16 pm16 an16 cd16 ct16, PySem.W.fnOf "row_done" "Run.row_done" (L2.defArgs (L2.inClass (top 20) 4)) (L2.defBody (L2.inClass (top 20) 4)) (L2.defScope (L2.inClass (top 20) 4)) .none kV17 dc17 pm17 an17 cd17 ct17, PySem.W.fnOf "given" "Run.given" (L2.defArgs (L2.inClass (top 20) 5)) (L2.defBody (L2.inClass (top 20) 5)) (L2.defScope (L2.inClass (top 20) 5)) .none kV18 dc18 pm18 an18 cd18 ct18, PySem.W.fnOf "end_done" "Run.end_done" (L2.defArgs (L2.inClass (top 20) 6)) (L2.defBody (L2.inClass (top 20) 6)) (L2.defScope (L2.inClass (top 20) 6)) .none kV19 dc19 pm19 an19 cd19 ct19] : List FuncData) ++ ([PySem.W.fnOf "ended" "Run.ended" (L2.defArgs (L2.inClass (top 20) 7)) (L2.defBody (L2.inClass (top 20) 7)) (L2.defScope (L2.inClass (top 20) 7)) .none kV20 dc20 pm20 an20 cd20 ct20, PySem.W.fnOf "run_middle" "run_middle" (L2.defArgs (top 21)) (L2.defBody (top 21)) (L2.defScope (top 21)) .none kV21 dc21 pm21 an21 cd21 ct21, PySem.W.fnOf "_law_pot" "_law_pot" (L2.defArgs (top 23)) (L2.defBody (top 23)) (L2.defScope (top 23)) .none kV22 dc22 pm22 an22 cd22 ct22, PySem.W.fnOf "_law_mix" "_law_mix" (L2.defArgs (top 24)) (L2.defBody (top 24)) (L2.defScope (top 24)) .none kV23 dc23 pm23 an23 cd23 ct23, PySem.W.fnOf "_law_take" "_law_take" (L2.defArgs (top 25)) (L2.defBody (top 25)) (L2.defScope (top 25)) .none kV24 dc24 pm24 an24 cd24 ct24, PySem.W.fnOf "_law_put" "_law_put" (L2.defArgs (top 26)) (L2.defBody (top 26)) (L2.defScope (top 26)) .none kV25 dc25 pm25 an25 cd25 ct25, PySem.W.fnOf "_law_open" "_law_open" (L2.defArgs (top 27)) (L2.defBody (top 27)) (L2.defScope (top 27)) .none kV26 dc26 pm26 an26 cd26 ct26, PySem.W.fnOf "_law_begin" "_law_begin" (L2.defArgs (top 28)) (L2.defBody (top 28)) (L2.defScope (top 28)) .none kV27 dc27 pm27 an27 cd27 ct27, PySem.W.fnOf "_law_end" "_law_end" (L2.defArgs (top 29)) (L2.defBody (top 29)) (L2.defScope (top 29)) .none kV28 dc28 pm28 an28 cd28 ct28, PySem.W.fnOf "_law_brought" "_law_brought" (L2.defArgs (top 30)) (L2.defBody (top 30)) (L2.defScope (top 30)) .none kV29 dc29 pm29 an29 cd29 ct29, PySem.W.fnOf "_law_two" "_law_two" (L2.defArgs (top 31)) (L2.defBody (top 31)) (L2.defScope (top 31)) .none kV30 dc30 pm30 an30 cd30 ct30, PySem.W.fnOf "_law_fault" "_law_fault" (L2.defArgs (top 32)) (L2.defBody (top 32)) (L2.defScope (top 32)) .none kV31 dc31 pm31 an31 cd31 ct31, PySem.W.fnOf "_law_worth" "_law_worth" (L2.defArgs (top 33)) (L2.defBody (top 33)) (L2.defScope (top 33)) .none kV32 dc32 pm32 an32 cd32 ct32, PySem.W.fnOf "_law_frame" "_law_frame" (L2.defArgs (top 34)) (L2.defBody (top 34)) (L2.defScope (top 34)) .none kV33 dc33 pm33 an33 cd33 ct33, PySem.W.fnOf "_law_change" "_law_change" (L2.defArgs (top 35)) (L2.defBody (top 35)) (L2.defScope (top 35)) .none kV34 dc34 pm34 an34 cd34 ct34, PySem.W.fnOf "_law_row_done" "_law_row_done" (L2.defArgs (top 36)) (L2.defBody (top 36)) (L2.defScope (top 36)) .none kV35 dc35 pm35 an35 cd35 ct35, PySem.W.fnOf "_law_went" "_law_went" (L2.defArgs (top 37)) (L2.defBody (top 37)) (L2.defScope (top 37)) .none kV36 dc36 pm36 an36 cd36 ct36, PySem.W.fnOf "_law_end_done" "_law_end_done" (L2.defArgs (top 38)) (L2.defBody (top 38)) (L2.defScope (top 38)) .none kV37 dc37 pm37 an37 cd37 ct37, PySem.W.fnOf "_law_run" "_law_run" (L2.defArgs (top 39)) (L2.defBody (top 39)) (L2.defScope (top 39)) .none kV38 dc38 pm38 an38 cd38 ct38, PySem.W.fnOf "_law_state" "_law_state" (L2.defArgs (top 40)) (L2.defBody (top 40)) (L2.defScope (top 40)) .none kV39 dc39 pm39 an39 cd39 ct39] : List FuncData) ++ ([PySem.W.fnOf "_law_number" "_law_number" (L2.defArgs (top 41)) (L2.defBody (top 41)) (L2.defScope (top 41)) .none kV40 dc40 pm40 an40 cd40 ct40, PySem.W.fnOf "_law_ended" "_law_ended" (L2.defArgs (top 42)) (L2.defBody (top 42)) (L2.defScope (top 42)) .none kV41 dc41 pm41 an41 cd41 ct41, PySem.W.fnOf "_law_teller" "_law_teller" (L2.defArgs (top 43)) (L2.defBody (top 43)) (L2.defScope (top 43)) .none kV42 dc42 pm42 an42 cd42 ct42, PySem.W.fnOf "_law_asker" "_law_asker" (L2.defArgs (top 44)) (L2.defBody (top 44)) (L2.defScope (top 44)) .none kV43 dc43 pm43 an43 cd43 ct43, PySem.W.fnOf "_law_again" "_law_again" (L2.defArgs (top 45)) (L2.defBody (top 45)) (L2.defScope (top 45)) .none kV44 dc44 pm44 an44 cd44 ct44, PySem.W.fnOf "_law_main" "_law_main" (L2.defArgs (top 46)) (L2.defBody (top 46)) (L2.defScope (top 46)) .none kV45 dc45 pm45 an45 cd45 ct45, PySem.W.fnOf "_law_whole" "_law_whole" (L2.defArgs (top 47)) (L2.defBody (top 47)) (L2.defScope (top 47)) .none kV46 dc46 pm46 an46 cd46 ct46, PySem.W.fnOf "_law_same" "_law_same" (L2.defArgs (top 48)) (L2.defBody (top 48)) (L2.defScope (top 48)) .none kV47 dc47 pm47 an47 cd47 ct47, PySem.W.fnOf "law" "law" (L2.defArgs (top 49)) (L2.defBody (top 49)) (L2.defScope (top 49)) .none kV48 dc48 pm48 an48 cd48 ct48] : List FuncData)).getD f default, fun f => psns.getD f []⟩, rfl, rfl, rfl, rfl, ?top, ?defs, fun s u => .of_eq rfl⟩
  case defs =>
    intro f fd hf
    refine CL.allI0 (P := fun f fd => CL.DefOk _ K f fd) (l := fns) ?_ f fd hf
    exact ⟨⟨"brought", "brought", (top 6), n_brought, L2.fun_mk l0 c0 k0, sc_brought, rfl, ch_brought⟩, ⟨"parted", "parted", (top 7), n_parted, L2.fun_mk l1 c1 k1, sc_parted, rfl, ch_parted⟩, ⟨"worked", "worked", (top 8), n_worked, L2.fun_mk l2 c2 k2, sc_worked, rfl, ch_worked⟩, ⟨"guard_of", "guard_of", (top 10), n_guard_of, L2.fun_mk l3 c3 k3, sc_guard_of, rfl, ch_guard_of⟩, ⟨"row_named", "row_named", (top 11), n_row_named, L2.fun_mk l4 c4 k4, sc_row_named, rfl, ch_row_named⟩, ⟨"params_of", "params_of", (top 12), n_params_of, L2.fun_mk l5 c5 k5, sc_params_of, rfl, ch_params_of⟩, ⟨"__init__", "Cells.__init__", (L2.inClass (top 15) 0), n_Cells_init, L2.fun_mk l6 c6 k6, sc_Cells_init, rfl, ch_Cells_init⟩, ⟨"__init__", "Closed.__init__", (L2.inClass (top 16) 0), n_Closed_init, L2.fun_mk l7 c7 k7, sc_Closed_init, rfl, ch_Closed_init⟩, ⟨"__init__", "Level.__init__", (L2.inClass (top 17) 0), n_Level_init, L2.fun_mk l8 c8 k8, sc_Level_init, rfl, ch_Level_init⟩, ⟨"enter", "Level.enter", (L2.inClass (top 17) 1), n_Level_enter, L2.fun_mk l9 c9 k9, sc_Level_enter, rfl, ch_Level_enter⟩, ⟨"worths_of", "Level.worths_of", (L2.inClass (top 17) 2), n_Level_worths_of, L2.fun_mk l10 c10 k10, sc_Level_worths_of, rfl, ch_Level_worths_of⟩, ⟨"lets_by", "lets_by", (top 18), n_lets_by, L2.fun_mk l11 c11 k11, sc_lets_by, rfl, ch_lets_by⟩, ⟨"told_by", "told_by", (top 19), n_told_by, L2.fun_mk l12 c12 k12, sc_told_by, rfl, ch_told_by⟩, ⟨"__init__", "Run.__init__", (L2.inClass (top 20) 0), n_Run_init, L2.fun_mk l13 c13 k13, sc_Run_init, rfl, ch_Run_init⟩, ⟨"begin", "Run.begin", (L2.inClass (top 20) 1), n_Run_begin, L2.fun_mk l14 c14 k14, sc_Run_begin, rfl, ch_Run_begin⟩, ⟨"ticked", "Run.ticked", (L2.inClass (top 20) 2), n_Run_ticked, L2.fun_mk l15 c15 k15, sc_Run_ticked, rfl, ch_Run_ticked⟩, ⟨"called", "Run.called", (L2.inClass (top 20) 3), n_Run_called, L2.fun_mk l16 c16 k16, sc_Run_called, rfl, ch_Run_called⟩, ⟨"row_done", "Run.row_done", (L2.inClass (top 20) 4), n_Run_row_done, L2.fun_mk l17 c17 k17, sc_Run_row_done, rfl, ch_Run_row_done⟩, ⟨"given", "Run.given", (L2.inClass (top 20) 5), n_Run_given, L2.fun_mk l18 c18 k18, sc_Run_given, rfl, ch_Run_given⟩, ⟨"end_done", "Run.end_done", (L2.inClass (top 20) 6), n_Run_end_done, L2.fun_mk l19 c19 k19, sc_Run_end_done, rfl, ch_Run_end_done⟩, ⟨"ended", "Run.ended", (L2.inClass (top 20) 7), n_Run_ended, L2.fun_mk l20 c20 k20, sc_Run_ended, rfl, ch_Run_ended⟩, ⟨"run_middle", "run_middle", (top 21), n_run_middle, L2.fun_mk l21 c21 k21, sc_run_middle, rfl, ch_run_middle⟩, ⟨"_law_pot", "_law_pot", (top 23), n_l_pot, L2.fun_mk l22 c22 k22, sc_l_pot, rfl, ch_l_pot⟩, ⟨"_law_mix", "_law_mix", (top 24), n_l_mix, L2.fun_mk l23 c23 k23, sc_l_mix, rfl, ch_l_mix⟩, ⟨"_law_take", "_law_take", (top 25), n_l_take, L2.fun_mk l24 c24 k24, sc_l_take, rfl, ch_l_take⟩, ⟨"_law_put", "_law_put", (top 26), n_l_put, L2.fun_mk l25 c25 k25, sc_l_put, rfl, ch_l_put⟩, ⟨"_law_open", "_law_open", (top 27), n_l_open, L2.fun_mk l26 c26 k26, sc_l_open, rfl, ch_l_open⟩, ⟨"_law_begin", "_law_begin", (top 28), n_l_begin, L2.fun_mk l27 c27 k27, sc_l_begin, rfl, ch_l_begin⟩, ⟨"_law_end", "_law_end", (top 29), n_l_end, L2.fun_mk l28 c28 k28, sc_l_end, rfl, ch_l_end⟩, ⟨"_law_brought", "_law_brought", (top 30), n_l_brought, L2.fun_mk l29 c29 k29, sc_l_brought, rfl, ch_l_brought⟩, ⟨"_law_two", "_law_two", (top 31), n_l_two, L2.fun_mk l30 c30 k30, sc_l_two, rfl, ch_l_two⟩, ⟨"_law_fault", "_law_fault", (top 32), n_l_fault, L2.fun_mk l31 c31 k31, sc_l_fault, rfl, ch_l_fault⟩, ⟨"_law_worth", "_law_worth", (top 33), n_l_worth, L2.fun_mk l32 c32 k32, sc_l_worth, rfl, ch_l_worth⟩, ⟨"_law_frame", "_law_frame", (top 34), n_l_frame, L2.fun_mk l33 c33 k33, sc_l_frame, rfl, ch_l_frame⟩, ⟨"_law_change", "_law_change", (top 35), n_l_change, L2.fun_mk l34 c34 k34, sc_l_change, rfl, ch_l_change⟩, ⟨"_law_row_done", "_law_row_done", (top 36), n_l_row_done, L2.fun_mk l35 c35 k35, sc_l_row_done, rfl, ch_l_row_done⟩, ⟨"_law_went", "_law_went", (top 37), n_l_went, L2.fun_mk l36 c36 k36, sc_l_went, rfl, ch_l_went⟩, ⟨"_law_end_done", "_law_end_done", (top 38), n_l_end_done, L2.fun_mk l37 c37 k37, sc_l_end_done, rfl, ch_l_end_done⟩, ⟨"_law_run", "_law_run", (top 39), n_l_run, L2.fun_mk l38 c38 k38, sc_l_run, rfl, ch_l_run⟩, ⟨"_law_state", "_law_state", (top 40), n_l_state, L2.fun_mk l39 c39 k39, sc_l_state, rfl, ch_l_state⟩, ⟨"_law_number", "_law_number", (top 41), n_l_number, L2.fun_mk l40 c40 k40, sc_l_number, rfl, ch_l_number⟩, ⟨"_law_ended", "_law_ended", (top 42), n_l_ended, L2.fun_mk l41 c41 k41, sc_l_ended, rfl, ch_l_ended⟩, ⟨"_law_teller", "_law_teller", (top 43), n_l_teller, L2.fun_mk l42 c42 k42, sc_l_teller, rfl, ch_l_teller⟩, ⟨"_law_asker", "_law_asker", (top 44), n_l_asker, L2.fun_mk l43 c43 k43, sc_l_asker, rfl, ch_l_asker⟩, ⟨"_law_again", "_law_again", (top 45), n_l_again, L2.fun_mk l44 c44 k44, sc_l_again, rfl, ch_l_again⟩, ⟨"_law_main", "_law_main", (top 46), n_l_main, L2.fun_mk l45 c45 k45, sc_l_main, rfl, ch_l_main⟩, ⟨"_law_whole", "_law_whole", (top 47), n_l_whole, L2.fun_mk l46 c46 k46, sc_l_whole, rfl, ch_l_whole⟩, ⟨"_law_same", "_law_same", (top 48), n_l_same, L2.fun_mk l47 c47 k47, sc_l_same, rfl, ch_l_same⟩, ⟨"law", "law", (top 49), n_law, L2.fun_mk l48 c48 k48, sc_law, rfl, ch_law⟩, trivial⟩
  case top =>
    refine { bf := ?bf, isi := PySem.W.mg_none_of X Gg z_isinstance, ty := ?ty, rng := PySem.W.mg_none_of X Gg z_range, enu := PySem.W.mg_none_of X Gg z_enumerate, zip := PySem.W.mg_none_of X Gg z_zip, gl := ?gl, fn := ?fn, mt := ?mt, ini := ?ini, fl := ?fl }
    case bf => intro b; cases b; exact PySem.W.mg_none_of X Gg z_len; exact PySem.W.mg_none_of X Gg z_abs; exact PySem.W.mg_none_of X Gg z_list; exact PySem.W.mg_none_of X Gg z_tuple; exact PySem.W.mg_none_of X Gg z_int; exact PySem.W.mg_none_of X Gg z_any; exact PySem.W.mg_none_of X Gg z_all; exact PySem.W.mg_none_of X Gg z_min; exact PySem.W.mg_none_of X Gg z_max; exact PySem.W.mg_none_of X Gg z_str; exact PySem.W.mg_none_of X Gg z_sorted; exact PySem.W.mg_none_of X Gg z_dict
    case ty => intro t ht; cases t; exact PySem.W.mg_none_of X Gg z_int; exact PySem.W.mg_none_of X Gg z_bool; exact PySem.W.mg_none_of X Gg z_str; exact PySem.W.mg_none_of X Gg z_list; exact PySem.W.mg_none_of X Gg z_tuple; exact PySem.W.mg_none_of X Gg z_dict; cases ht
    case gl =>
      intro g v hg
      refine CL.allI0 (P := fun g v => ∃ u w, mg (nm.gl g) = some u ∧ L2.RelV w u ∧ ∀ io n H, CL.RV K G.kt io n H v w) (l := gls) ?_ g v hg
      exact ⟨⟨_, (.int 2147483648), PySem.W.mg_of X Gg g0, ⟨_, rfl⟩, fun _ _ _ => .int _⟩, ⟨_, (.int 4294967296), PySem.W.mg_of X Gg g1, ⟨_, rfl⟩, fun _ _ _ => .int _⟩, ⟨_, (.int 60), PySem.W.mg_of X Gg g2, ⟨_, rfl⟩, fun _ _ _ => .int _⟩, trivial⟩
    case fn =>
      intro f fd hf
      refine CL.allI0 (P := fun f fd => L2.Binds K ((([PySem.W.fnOf "brought" "brought" (L2.defArgs (top 6)) (L2.defBody (top 6)) (L2.defScope (top 6)) .none kV0 dc0 pm0 an0 cd0 ct0, PySem.W.fnOf "parted" "parted" (L2.defArgs (top 7)) (L2.defBody (top 7)) (L2.defScope (top 7)) .none kV1 dc1 pm1 an1 cd1 ct1, PySem.W.fnOf "worked" "worked" (L2.defArgs (top 8)) (L2.defBody (top 8)) (L2.defScope (top 8)) .none kV2 dc2 pm2 an2 cd2 ct2, PySem.W.fnOf "guard_of" "guard_of" (L2.defArgs (top 10)) (L2.defBody (top 10)) (L2.defScope (top 10)) .none kV3 dc3 pm3 an3 cd3 ct3, PySem.W.fnOf "row_named" "row_named" (L2.defArgs (top 11)) (L2.defBody (top 11)) (L2.defScope (top 11)) .none kV4 dc4 pm4 an4 cd4 ct4, PySem.W.fnOf "params_of" "params_of" (L2.defArgs (top 12)) (L2.defBody (top 12)) (L2.defScope (top 12)) .none kV5 dc5 pm5 an5 cd5 ct5, PySem.W.fnOf "__init__" "Cells.__init__" (L2.defArgs (L2.inClass (top 15) 0)) (L2.defBody (L2.inClass (top 15) 0)) (L2.defScope (L2.inClass (top 15) 0)) .none kV6 dc6 pm6 an6 cd6 ct6, PySem.W.fnOf "__init__" "Closed.__init__" (L2.defArgs (L2.inClass (top 16) 0)) (L2.defBody (L2.inClass (top 16) 0)) (L2.defScope (L2.inClass (top 16) 0)) .none kV7 dc7 pm7 an7 cd7 ct7, PySem.W.fnOf "__init__" "Level.__init__" (L2.defArgs (L2.inClass (top 17) 0)) (L2.defBody (L2.inClass (top 17) 0)) (L2.defScope (L2.inClass (top 17) 0)) .none kV8 dc8 pm8 an8 cd8 ct8, PySem.W.fnOf "enter" "Level.enter" (L2.defArgs (L2.inClass (top 17) 1)) (L2.defBody (L2.inClass (top 17) 1)) (L2.defScope (L2.inClass (top 17) 1)) .none kV9 dc9 pm9 an9 cd9 ct9, PySem.W.fnOf "worths_of" "Level.worths_of" (L2.defArgs (L2.inClass (top 17) 2)) (L2.defBody (L2.inClass (top 17) 2)) (L2.defScope (L2.inClass (top 17) 2)) .none kV10 dc10 pm10 an10 cd10 ct10, PySem.W.fnOf "lets_by" "lets_by" (L2.defArgs (top 18)) (L2.defBody (top 18)) (L2.defScope (top 18)) .none kV11 dc11 pm11 an11 cd11 ct11, PySem.W.fnOf "told_by" "told_by" (L2.defArgs (top 19)) (L2.defBody (top 19)) (L2.defScope (top 19)) .none kV12 dc12 pm12 an12 cd12 ct12, PySem.W.fnOf "__init__" "Run.__init__" (L2.defArgs (L2.inClass (top 20) 0)) (L2.defBody (L2.inClass (top 20) 0)) (L2.defScope (L2.inClass (top 20) 0)) .none kV13 dc13 pm13 an13 cd13 ct13, PySem.W.fnOf "begin" "Run.begin" (L2.defArgs (L2.inClass (top 20) 1)) (L2.defBody (L2.inClass (top 20) 1)) (L2.defScope (L2.inClass (top 20) 1)) .none kV14 dc14 pm14 an14 cd14 ct14, PySem.W.fnOf "ticked" "Run.ticked" (L2.defArgs (L2.inClass (top 20) 2)) (L2.defBody (L2.inClass (top 20) 2)) (L2.defScope (L2.inClass (top 20) 2)) .none kV15 dc15 pm15 an15 cd15 ct15, PySem.W.fnOf "called" "Run.called" (L2.defArgs (L2.inClass (top 20) 3)) (L2.defBody (L2.inClass (top 20) 3)) (L2.defScope (L2.inClass (top 20) 3)) .none kV16 dc16 pm16 an16 cd16 ct16, PySem.W.fnOf "row_done" "Run.row_done" (L2.defArgs (L2.inClass (top 20) 4)) (L2.defBody (L2.inClass (top 20) 4)) (L2.defScope (L2.inClass (top 20) 4)) .none kV17 dc17 pm17 an17 cd17 ct17, PySem.W.fnOf "given" "Run.given" (L2.defArgs (L2.inClass (top 20) 5)) (L2.defBody (L2.inClass (top 20) 5)) (L2.defScope (L2.inClass (top 20) 5)) .none kV18 dc18 pm18 an18 cd18 ct18, PySem.W.fnOf "end_done" "Run.end_done" (L2.defArgs (L2.inClass (top 20) 6)) (L2.defBody (L2.inClass (top 20) 6)) (L2.defScope (L2.inClass (top 20) 6)) .none kV19 dc19 pm19 an19 cd19 ct19] : List FuncData) ++ ([PySem.W.fnOf "ended" "Run.ended" (L2.defArgs (L2.inClass (top 20) 7)) (L2.defBody (L2.inClass (top 20) 7)) (L2.defScope (L2.inClass (top 20) 7)) .none kV20 dc20 pm20 an20 cd20 ct20, PySem.W.fnOf "run_middle" "run_middle" (L2.defArgs (top 21)) (L2.defBody (top 21)) (L2.defScope (top 21)) .none kV21 dc21 pm21 an21 cd21 ct21, PySem.W.fnOf "_law_pot" "_law_pot" (L2.defArgs (top 23)) (L2.defBody (top 23)) (L2.defScope (top 23)) .none kV22 dc22 pm22 an22 cd22 ct22, PySem.W.fnOf "_law_mix" "_law_mix" (L2.defArgs (top 24)) (L2.defBody (top 24)) (L2.defScope (top 24)) .none kV23 dc23 pm23 an23 cd23 ct23, PySem.W.fnOf "_law_take" "_law_take" (L2.defArgs (top 25)) (L2.defBody (top 25)) (L2.defScope (top 25)) .none kV24 dc24 pm24 an24 cd24 ct24, PySem.W.fnOf "_law_put" "_law_put" (L2.defArgs (top 26)) (L2.defBody (top 26)) (L2.defScope (top 26)) .none kV25 dc25 pm25 an25 cd25 ct25, PySem.W.fnOf "_law_open" "_law_open" (L2.defArgs (top 27)) (L2.defBody (top 27)) (L2.defScope (top 27)) .none kV26 dc26 pm26 an26 cd26 ct26, PySem.W.fnOf "_law_begin" "_law_begin" (L2.defArgs (top 28)) (L2.defBody (top 28)) (L2.defScope (top 28)) .none kV27 dc27 pm27 an27 cd27 ct27, PySem.W.fnOf "_law_end" "_law_end" (L2.defArgs (top 29)) (L2.defBody (top 29)) (L2.defScope (top 29)) .none kV28 dc28 pm28 an28 cd28 ct28, PySem.W.fnOf "_law_brought" "_law_brought" (L2.defArgs (top 30)) (L2.defBody (top 30)) (L2.defScope (top 30)) .none kV29 dc29 pm29 an29 cd29 ct29, PySem.W.fnOf "_law_two" "_law_two" (L2.defArgs (top 31)) (L2.defBody (top 31)) (L2.defScope (top 31)) .none kV30 dc30 pm30 an30 cd30 ct30, PySem.W.fnOf "_law_fault" "_law_fault" (L2.defArgs (top 32)) (L2.defBody (top 32)) (L2.defScope (top 32)) .none kV31 dc31 pm31 an31 cd31 ct31, PySem.W.fnOf "_law_worth" "_law_worth" (L2.defArgs (top 33)) (L2.defBody (top 33)) (L2.defScope (top 33)) .none kV32 dc32 pm32 an32 cd32 ct32, PySem.W.fnOf "_law_frame" "_law_frame" (L2.defArgs (top 34)) (L2.defBody (top 34)) (L2.defScope (top 34)) .none kV33 dc33 pm33 an33 cd33 ct33, PySem.W.fnOf "_law_change" "_law_change" (L2.defArgs (top 35)) (L2.defBody (top 35)) (L2.defScope (top 35)) .none kV34 dc34 pm34 an34 cd34 ct34, PySem.W.fnOf "_law_row_done" "_law_row_done" (L2.defArgs (top 36)) (L2.defBody (top 36)) (L2.defScope (top 36)) .none kV35 dc35 pm35 an35 cd35 ct35, PySem.W.fnOf "_law_went" "_law_went" (L2.defArgs (top 37)) (L2.defBody (top 37)) (L2.defScope (top 37)) .none kV36 dc36 pm36 an36 cd36 ct36, PySem.W.fnOf "_law_end_done" "_law_end_done" (L2.defArgs (top 38)) (L2.defBody (top 38)) (L2.defScope (top 38)) .none kV37 dc37 pm37 an37 cd37 ct37, PySem.W.fnOf "_law_run" "_law_run" (L2.defArgs (top 39)) (L2.defBody (top 39)) (L2.defScope (top 39)) .none kV38 dc38 pm38 an38 cd38 ct38, PySem.W.fnOf "_law_state" "_law_state" (L2.defArgs (top 40)) (L2.defBody (top 40)) (L2.defScope (top 40)) .none kV39 dc39 pm39 an39 cd39 ct39] : List FuncData) ++ ([PySem.W.fnOf "_law_number" "_law_number" (L2.defArgs (top 41)) (L2.defBody (top 41)) (L2.defScope (top 41)) .none kV40 dc40 pm40 an40 cd40 ct40, PySem.W.fnOf "_law_ended" "_law_ended" (L2.defArgs (top 42)) (L2.defBody (top 42)) (L2.defScope (top 42)) .none kV41 dc41 pm41 an41 cd41 ct41, PySem.W.fnOf "_law_teller" "_law_teller" (L2.defArgs (top 43)) (L2.defBody (top 43)) (L2.defScope (top 43)) .none kV42 dc42 pm42 an42 cd42 ct42, PySem.W.fnOf "_law_asker" "_law_asker" (L2.defArgs (top 44)) (L2.defBody (top 44)) (L2.defScope (top 44)) .none kV43 dc43 pm43 an43 cd43 ct43, PySem.W.fnOf "_law_again" "_law_again" (L2.defArgs (top 45)) (L2.defBody (top 45)) (L2.defScope (top 45)) .none kV44 dc44 pm44 an44 cd44 ct44, PySem.W.fnOf "_law_main" "_law_main" (L2.defArgs (top 46)) (L2.defBody (top 46)) (L2.defScope (top 46)) .none kV45 dc45 pm45 an45 cd45 ct45, PySem.W.fnOf "_law_whole" "_law_whole" (L2.defArgs (top 47)) (L2.defBody (top 47)) (L2.defScope (top 47)) .none kV46 dc46 pm46 an46 cd46 ct46, PySem.W.fnOf "_law_same" "_law_same" (L2.defArgs (top 48)) (L2.defBody (top 48)) (L2.defScope (top 48)) .none kV47 dc47 pm47 an47 cd47 ct47, PySem.W.fnOf "law" "law" (L2.defArgs (top 49)) (L2.defBody (top 49)) (L2.defScope (top 49)) .none kV48 dc48 pm48 an48 cd48 ct48] : List FuncData)).getD f default) (psns.getD f []) [] ∧ (psns.getD f []).length = fd.np ∧ (nm.isG f = true → mg (nm.fn f) = some (.ref ((([a0, a1, a2, a3, a4, a5, a6, a7, a8, a9, a10, a11, a12, a13, a14, a15, a16, a17, a18, a19] : List Addr) ++ ([a20, a21, a22, a23, a24, a25, a26, a27, a28, a29, a30, a31, a32, a33, a34, a35, a36, a37, a38, a39] : List Addr) ++ ([a40, a41, a42, a43, a44, a45, a46, a47, a48] : List Addr)).getD f 0)) ∧ PySem.W.keepIn K (.ref ((([a0, a1, a2, a3, a4, a5, a6, a7, a8, a9, a10, a11, a12, a13, a14, a15, a16, a17, a18, a19] : List Addr) ++ ([a20, a21, a22, a23, a24, a25, a26, a27, a28, a29, a30, a31, a32, a33, a34, a35, a36, a37, a38, a39] : List Addr) ++ ([a40, a41, a42, a43, a44, a45, a46, a47, a48] : List Addr)).getD f 0)) = true)) (l := fns) ?_ f fd hf
      exact ⟨⟨(L2.fun_mk (st := (top 6)) l0 c0 k0).binds (ps := ["n"]) fun _ _ _ _ _ _ us hl => match us, hl with | [_], _ => rfl, rfl, fun _ => ⟨PySem.W.mg_of X Gg m0, k0⟩⟩,
        ⟨(L2.fun_mk (st := (top 7)) l1 c1 k1).binds (ps := ["word", "one", "other"]) fun _ _ _ _ _ _ us hl => match us, hl with | [_, _, _], _ => rfl, rfl, fun _ => ⟨PySem.W.mg_of X Gg m1, k1⟩⟩,
        ⟨(L2.fun_mk (st := (top 8)) l2 c2 k2).binds (ps := ["word", "one", "other"]) fun _ _ _ _ _ _ us hl => match us, hl with | [_, _, _], _ => rfl, rfl, fun _ => ⟨PySem.W.mg_of X Gg m2, k2⟩⟩,
        ⟨(L2.fun_mk (st := (top 10)) l3 c3 k3).binds (ps := ["row"]) fun _ _ _ _ _ _ us hl => match us, hl with | [_], _ => rfl, rfl, fun _ => ⟨PySem.W.mg_of X Gg m3, k3⟩⟩,
        ⟨(L2.fun_mk (st := (top 11)) l4 c4 k4).binds (ps := ["middle", "name"]) fun _ _ _ _ _ _ us hl => match us, hl with | [_, _], _ => rfl, rfl, fun _ => ⟨PySem.W.mg_of X Gg m4, k4⟩⟩,
        ⟨(L2.fun_mk (st := (top 12)) l5 c5 k5).binds (ps := ["function"]) fun _ _ _ _ _ _ us hl => match us, hl with | [_], _ => rfl, rfl, fun _ => ⟨PySem.W.mg_of X Gg m5, k5⟩⟩,
        ⟨(L2.fun_mk (st := (L2.inClass (top 15) 0)) l6 c6 k6).binds (ps := ["self", "held"]) fun _ _ _ _ _ _ us hl => match us, hl with | [_, _], _ => rfl, rfl, fun z => nomatch z⟩,
        ⟨(L2.fun_mk (st := (L2.inClass (top 16) 0)) l7 c7 k7).binds (ps := ["self", "name", "things"]) fun _ _ _ _ _ _ us hl => match us, hl with | [_, _, _], _ => rfl, rfl, fun z => nomatch z⟩,
        ⟨(L2.fun_mk (st := (L2.inClass (top 17) 0)) l8 c8 k8).binds (ps := ["self", "function", "things", "target"]) fun _ _ _ _ _ _ us hl => match us, hl with | [_, _, _, _], _ => rfl, rfl, fun z => nomatch z⟩,
        ⟨(L2.fun_mk (st := (L2.inClass (top 17) 1)) l9 c9 k9).binds (ps := ["self", "number", "things"]) fun _ _ _ _ _ _ us hl => match us, hl with | [_, _, _], _ => rfl, rfl, fun z => nomatch z⟩,
        ⟨(L2.fun_mk (st := (L2.inClass (top 17) 2)) l10 c10 k10).binds (ps := ["self", "names"]) fun _ _ _ _ _ _ us hl => match us, hl with | [_, _], _ => rfl, rfl, fun z => nomatch z⟩,
        ⟨(L2.fun_mk (st := (top 18)) l11 c11 k11).binds (ps := ["word", "things"]) fun _ _ _ _ _ _ us hl => match us, hl with | [_, _], _ => rfl, rfl, fun _ => ⟨PySem.W.mg_of X Gg m11, k11⟩⟩,
        ⟨(L2.fun_mk (st := (top 19)) l12 c12 k12).binds (ps := ["op", "things", "more"]) fun _ _ _ _ _ _ us hl => match us, hl with | [_, _, _], _ => rfl, rfl, fun _ => ⟨PySem.W.mg_of X Gg m12, k12⟩⟩,
        ⟨(L2.fun_mk (st := (L2.inClass (top 20) 0)) l13 c13 k13).binds (ps := ["self", "middle", "ticks"]) fun _ _ _ _ _ _ us hl => match us, hl with | [_, _, _], _ => rfl, rfl, fun z => nomatch z⟩,
        ⟨(L2.fun_mk (st := (L2.inClass (top 20) 1)) l14 c14 k14).binds (ps := ["self", "name", "things", "target"]) fun _ _ _ _ _ _ us hl => match us, hl with | [_, _, _, _], _ => rfl, rfl, fun z => nomatch z⟩,
        ⟨(L2.fun_mk (st := (L2.inClass (top 20) 2)) l15 c15 k15).binds (ps := ["self"]) fun _ _ _ _ _ _ us hl => match us, hl with | [_], _ => rfl, rfl, fun z => nomatch z⟩,
        ⟨(L2.fun_mk (st := (L2.inClass (top 20) 3)) l16 c16 k16).binds (ps := ["self", "row", "things"]) fun _ _ _ _ _ _ us hl => match us, hl with | [_, _, _], _ => rfl, rfl, fun z => nomatch z⟩,
        ⟨(L2.fun_mk (st := (L2.inClass (top 20) 4)) l17 c17 k17).binds (ps := ["self", "frame", "row"]) fun _ _ _ _ _ _ us hl => match us, hl with | [_, _, _], _ => rfl, rfl, fun z => nomatch z⟩,
        ⟨(L2.fun_mk (st := (L2.inClass (top 20) 5)) l18 c18 k18).binds (ps := ["self", "value"]) fun _ _ _ _ _ _ us hl => match us, hl with | [_, _], _ => rfl, rfl, fun z => nomatch z⟩,
        ⟨(L2.fun_mk (st := (L2.inClass (top 20) 6)) l19 c19 k19).binds (ps := ["self", "frame", "end"]) fun _ _ _ _ _ _ us hl => match us, hl with | [_, _, _], _ => rfl, rfl, fun z => nomatch z⟩,
        ⟨(L2.fun_mk (st := (L2.inClass (top 20) 7)) l20 c20 k20).binds (ps := ["self"]) fun _ _ _ _ _ _ us hl => match us, hl with | [_], _ => rfl, rfl, fun z => nomatch z⟩,
        ⟨(L2.fun_mk (st := (top 21)) l21 c21 k21).binds (ps := ["middle", "ins", "ticks"]) fun _ _ _ _ _ _ us hl => match us, hl with | [_, _, _], _ => rfl, rfl, fun _ => ⟨PySem.W.mg_of X Gg m21, k21⟩⟩,
        ⟨(L2.fun_mk (st := (top 23)) l22 c22 k22).binds (ps := ["_law_cells"]) fun _ _ _ _ _ _ us hl => match us, hl with | [_], _ => rfl, rfl, fun _ => ⟨PySem.W.mg_of X Gg m22, k22⟩⟩,
        ⟨(L2.fun_mk (st := (top 24)) l23 c23 k23).binds (ps := ["_law_number_here", "_law_turn"]) fun _ _ _ _ _ _ us hl => match us, hl with | [_, _], _ => rfl, rfl, fun _ => ⟨PySem.W.mg_of X Gg m23, k23⟩⟩,
        ⟨(L2.fun_mk (st := (top 25)) l24 c24 k24).binds (ps := ["_law_pot_here", "_law_many"]) fun _ _ _ _ _ _ us hl => match us, hl with | [_, _], _ => rfl, rfl, fun _ => ⟨PySem.W.mg_of X Gg m24, k24⟩⟩,
        ⟨(L2.fun_mk (st := (top 26)) l25 c25 k25).binds (ps := ["_law_state_here", "_law_kind", "_law_op", "_law_args", "_law_more"]) fun _ _ _ _ _ _ us hl => match us, hl with | [_, _, _, _, _], _ => rfl, rfl, fun _ => ⟨PySem.W.mg_of X Gg m25, k25⟩⟩,
        ⟨(L2.fun_mk (st := (top 27)) l26 c26 k26).binds (ps := ["_law_state_here"]) fun _ _ _ _ _ _ us hl => match us, hl with | [_], _ => rfl, rfl, fun _ => ⟨PySem.W.mg_of X Gg m26, k26⟩⟩,
        ⟨(L2.fun_mk (st := (top 28)) l27 c27 k27).binds (ps := ["_law_state_here", "_law_at", "_law_kinds"]) fun _ _ _ _ _ _ us hl => match us, hl with | [_, _, _], _ => rfl, rfl, fun _ => ⟨PySem.W.mg_of X Gg m27, k27⟩⟩,
        ⟨(L2.fun_mk (st := (top 29)) l28 c28 k28).binds (ps := ["_law_state_here", "_law_end_here"]) fun _ _ _ _ _ _ us hl => match us, hl with | [_, _], _ => rfl, rfl, fun _ => ⟨PySem.W.mg_of X Gg m28, k28⟩⟩,
        ⟨(L2.fun_mk (st := (top 30)) l29 c29 k29).binds (ps := ["_law_number_here"]) fun _ _ _ _ _ _ us hl => match us, hl with | [_], _ => rfl, rfl, fun _ => ⟨PySem.W.mg_of X Gg m29, k29⟩⟩,
        ⟨(L2.fun_mk (st := (top 31)) l30 c30 k30).binds (ps := ["_law_op", "_law_one", "_law_other"]) fun _ _ _ _ _ _ us hl => match us, hl with | [_, _, _], _ => rfl, rfl, fun _ => ⟨PySem.W.mg_of X Gg m30, k30⟩⟩,
        ⟨(L2.fun_mk (st := (top 32)) l31 c31 k31).binds (ps := ["_law_row", "_law_things"]) fun _ _ _ _ _ _ us hl => match us, hl with | [_, _], _ => rfl, rfl, fun _ => ⟨PySem.W.mg_of X Gg m31, k31⟩⟩,
        ⟨(L2.fun_mk (st := (top 33)) l32 c32 k32).binds (ps := ["_law_row", "_law_things"]) fun _ _ _ _ _ _ us hl => match us, hl with | [_, _], _ => rfl, rfl, fun _ => ⟨PySem.W.mg_of X Gg m32, k32⟩⟩,
        ⟨(L2.fun_mk (st := (top 34)) l33 c33 k33).binds (ps := ["_law_middle", "_law_name", "_law_things", "_law_target"]) fun _ _ _ _ _ _ us hl => match us, hl with | [_, _, _, _], _ => rfl, rfl, fun _ => ⟨PySem.W.mg_of X Gg m33, k33⟩⟩,
        ⟨(L2.fun_mk (st := (top 35)) l34 c34 k34).binds (ps := ["_law_run_here", "_law_row", "_law_things"]) fun _ _ _ _ _ _ us hl => match us, hl with | [_, _, _], _ => rfl, rfl, fun _ => ⟨PySem.W.mg_of X Gg m34, k34⟩⟩,
        ⟨(L2.fun_mk (st := (top 36)) l35 c35 k35).binds (ps := ["_law_run_here", "_law_row"]) fun _ _ _ _ _ _ us hl => match us, hl with | [_, _], _ => rfl, rfl, fun _ => ⟨PySem.W.mg_of X Gg m35, k35⟩⟩,
        ⟨(L2.fun_mk (st := (top 37)) l36 c36 k36).binds (ps := ["_law_frame_here", "_law_goal", "_law_things"]) fun _ _ _ _ _ _ us hl => match us, hl with | [_, _, _], _ => rfl, rfl, fun _ => ⟨PySem.W.mg_of X Gg m36, k36⟩⟩,
        ⟨(L2.fun_mk (st := (top 38)) l37 c37 k37).binds (ps := ["_law_run_here", "_law_end_here"]) fun _ _ _ _ _ _ us hl => match us, hl with | [_, _], _ => rfl, rfl, fun _ => ⟨PySem.W.mg_of X Gg m37, k37⟩⟩,
        ⟨(L2.fun_mk (st := (top 39)) l38 c38 k38).binds (ps := ["_law_middle", "_law_ins", "_law_ticks"]) fun _ _ _ _ _ _ us hl => match us, hl with | [_, _, _], _ => rfl, rfl, fun _ => ⟨PySem.W.mg_of X Gg m38, k38⟩⟩,
        ⟨(L2.fun_mk (st := (top 40)) l39 c39 k39).binds (ps := ["_law_pot_here", "_law_kinds"]) fun _ _ _ _ _ _ us hl => match us, hl with | [_, _], _ => rfl, rfl, fun _ => ⟨PySem.W.mg_of X Gg m39, k39⟩⟩,
        ⟨(L2.fun_mk (st := (top 41)) l40 c40 k40).binds (ps := ["_law_state_here", "_law_told"]) fun _ _ _ _ _ _ us hl => match us, hl with | [_, _], _ => rfl, rfl, fun _ => ⟨PySem.W.mg_of X Gg m40, k40⟩⟩,
        ⟨(L2.fun_mk (st := (top 42)) l41 c41 k41).binds (ps := ["_law_state_here", "_law_name", "_law_x"]) fun _ _ _ _ _ _ us hl => match us, hl with | [_, _, _], _ => rfl, rfl, fun _ => ⟨PySem.W.mg_of X Gg m41, k41⟩⟩,
        ⟨(L2.fun_mk (st := (top 43)) l42 c42 k42).binds (ps := ["_law_pot_here", "_law_many"]) fun _ _ _ _ _ _ us hl => match us, hl with | [_, _], _ => rfl, rfl, fun _ => ⟨PySem.W.mg_of X Gg m42, k42⟩⟩,
        ⟨(L2.fun_mk (st := (top 44)) l43 c43 k43).binds (ps := ["_law_pot_here", "_law_many"]) fun _ _ _ _ _ _ us hl => match us, hl with | [_, _], _ => rfl, rfl, fun _ => ⟨PySem.W.mg_of X Gg m43, k43⟩⟩,
        ⟨(L2.fun_mk (st := (top 45)) l44 c44 k44).binds (ps := ["_law_pot_here", "_law_many"]) fun _ _ _ _ _ _ us hl => match us, hl with | [_, _], _ => rfl, rfl, fun _ => ⟨PySem.W.mg_of X Gg m44, k44⟩⟩,
        ⟨(L2.fun_mk (st := (top 46)) l45 c45 k45).binds (ps := ["_law_pot_here", "_law_many", "_law_last"]) fun _ _ _ _ _ _ us hl => match us, hl with | [_, _, _], _ => rfl, rfl, fun _ => ⟨PySem.W.mg_of X Gg m45, k45⟩⟩,
        ⟨(L2.fun_mk (st := (top 47)) l46 c46 k46).binds (ps := ["_law_pot_here"]) fun _ _ _ _ _ _ us hl => match us, hl with | [_], _ => rfl, rfl, fun _ => ⟨PySem.W.mg_of X Gg m46, k46⟩⟩,
        ⟨(L2.fun_mk (st := (top 48)) l47 c47 k47).binds (ps := ["_law_found", "_law_due"]) fun _ _ _ _ _ _ us hl => match us, hl with | [_, _], _ => rfl, rfl, fun _ => ⟨PySem.W.mg_of X Gg m47, k47⟩⟩,
        ⟨(L2.fun_mk (st := (top 49)) l48 c48 k48).binds (ps := ["_law_script"]) fun _ _ _ _ _ _ us hl => match us, hl with | [_], _ => rfl, rfl, fun _ => ⟨PySem.W.mg_of X Gg m48, k48⟩⟩, trivial⟩
    case mt =>
      intro c m f hm
      refine CL.allM (P := fun c m f => L2.Cls K (([C0, C1, C2, C3] : List Addr).getD c 0) ∧ L2.Meth K (([C0, C1, C2, C3] : List Addr).getD c 0) m ((([a0, a1, a2, a3, a4, a5, a6, a7, a8, a9, a10, a11, a12, a13, a14, a15, a16, a17, a18, a19] : List Addr) ++ ([a20, a21, a22, a23, a24, a25, a26, a27, a28, a29, a30, a31, a32, a33, a34, a35, a36, a37, a38, a39] : List Addr) ++ ([a40, a41, a42, a43, a44, a45, a46, a47, a48] : List Addr)).getD f 0) ∧ ∃ fd, G.fn f = some fd) (l := mts) ?_ c m f hm
      exact ⟨⟨⟨pg0, hd0, po0, sa0⟩, ⟨m6, i6, k6⟩, _, rfl⟩, ⟨⟨pg1, hd1, po1, sa1⟩, ⟨m7, i7, k7⟩, _, rfl⟩, ⟨⟨pg2, hd2, po2, sa2⟩, ⟨m8, i8, k8⟩, _, rfl⟩, ⟨⟨pg2, hd2, po2, sa2⟩, ⟨m9, i9, k9⟩, _, rfl⟩, ⟨⟨pg2, hd2, po2, sa2⟩, ⟨m10, i10, k10⟩, _, rfl⟩, ⟨⟨pg3, hd3, po3, sa3⟩, ⟨m13, i13, k13⟩, _, rfl⟩, ⟨⟨pg3, hd3, po3, sa3⟩, ⟨m14, i14, k14⟩, _, rfl⟩, ⟨⟨pg3, hd3, po3, sa3⟩, ⟨m15, i15, k15⟩, _, rfl⟩, ⟨⟨pg3, hd3, po3, sa3⟩, ⟨m16, i16, k16⟩, _, rfl⟩, ⟨⟨pg3, hd3, po3, sa3⟩, ⟨m17, i17, k17⟩, _, rfl⟩, ⟨⟨pg3, hd3, po3, sa3⟩, ⟨m18, i18, k18⟩, _, rfl⟩, ⟨⟨pg3, hd3, po3, sa3⟩, ⟨m19, i19, k19⟩, _, rfl⟩, ⟨⟨pg3, hd3, po3, sa3⟩, ⟨m20, i20, k20⟩, _, rfl⟩, trivial⟩
    case ini =>
      intro c f hm
      refine CL.allN (P := fun c f => mg (nm.cl c) = some (.ref (([C0, C1, C2, C3] : List Addr).getD c 0)) ∧ L2.Mk K (([C0, C1, C2, C3] : List Addr).getD c 0) ((([a0, a1, a2, a3, a4, a5, a6, a7, a8, a9, a10, a11, a12, a13, a14, a15, a16, a17, a18, a19] : List Addr) ++ ([a20, a21, a22, a23, a24, a25, a26, a27, a28, a29, a30, a31, a32, a33, a34, a35, a36, a37, a38, a39] : List Addr) ++ ([a40, a41, a42, a43, a44, a45, a46, a47, a48] : List Addr)).getD f 0) ∧ ∃ fd, G.fn f = some fd) (l := mts) ?_ c f hm
      exact ⟨fun _ => ⟨PySem.W.mg_of X Gg n_0, ⟨mk0, m6, i6, kc0⟩, _, rfl⟩, fun _ => ⟨PySem.W.mg_of X Gg n_1, ⟨mk1, m7, i7, kc1⟩, _, rfl⟩, fun _ => ⟨PySem.W.mg_of X Gg n_2, ⟨mk2, m8, i8, kc2⟩, _, rfl⟩, fun z => absurd z (by decide), fun z => absurd z (by decide), fun _ => ⟨PySem.W.mg_of X Gg n_3, ⟨mk3, m13, i13, kc3⟩, _, rfl⟩, fun z => absurd z (by decide), fun z => absurd z (by decide), fun z => absurd z (by decide), fun z => absurd z (by decide), fun z => absurd z (by decide), fun z => absurd z (by decide), fun z => absurd z (by decide), trivial⟩
    case fl =>
      intro c f hm
      refine CL.allF (P := fun c f => L2.Cls K (([C0, C1, C2, C3] : List Addr).getD c 0) ∧ L2.NoAttr K (([C0, C1, C2, C3] : List Addr).getD c 0) f) (l := flds) ?_ c f hm
      exact ⟨⟨⟨pg0, hd0, po0, sa0⟩, na0_held⟩, ⟨⟨pg1, hd1, po1, sa1⟩, na1_name⟩, ⟨⟨pg1, hd1, po1, sa1⟩, na1_things⟩, ⟨⟨pg2, hd2, po2, sa2⟩, na2_at⟩, ⟨⟨pg2, hd2, po2, sa2⟩, na2_block⟩, ⟨⟨pg2, hd2, po2, sa2⟩, na2_blocks⟩, ⟨⟨pg2, hd2, po2, sa2⟩, na2_target⟩, ⟨⟨pg2, hd2, po2, sa2⟩, na2_worth_by⟩, ⟨⟨pg3, hd3, po3, sa3⟩, na3_frames⟩, ⟨⟨pg3, hd3, po3, sa3⟩, na3_middle⟩, ⟨⟨pg3, hd3, po3, sa3⟩, na3_ticks⟩, ⟨⟨pg3, hd3, po3, sa3⟩, na3_told⟩, trivial⟩
end LK28
open PySem PySem.W PyProof.Rows
set_option maxRecDepth 100000 in
set_option maxHeartbeats 0 in
theorem PySem.Challenge.cw_chainwright_k28_calls_asks_holds : PySem.Challenge.rw_chainwright_k28_calls_asks.Holds := by
  w_on; o_law; k_head; (case hw => w_witness2)
  k_fill
  refine CL.law_walk (l := PySem.Challenge.rw_chainwright_k28_calls_asks) (n := 63) (x := "_law_script") (k := LK28.depth) LK28.G LK28.fuel LK28.f_law LK28.d_law rfl rfl (by decide) rfl ⟨rfl, by decide, by decide⟩ (fun w h Y => PySem.W.kIn_of Y) LK28.runs ?F
  case F =>
    intro w mg fa h KX Gg hmg
    refine' LK28.all_mk KX Gg hmg ?xxn_0 ?xxn_1 ?xxn_2 ?xxn_3 ?xxm0 ?xxl0 ?xxc0 ?xxk0 ?xxm1 ?xxl1 ?xxc1 ?xxk1 ?xxm2 ?xxl2 ?xxc2 ?xxk2 ?xxm3 ?xxl3 ?xxc3 ?xxk3 ?xxm4 ?xxl4 ?xxc4 ?xxk4 ?xxm5 ?xxl5 ?xxc5 ?xxk5 ?xxm6 ?xxi6 ?xxl6 ?xxc6 ?xxk6 ?xxm7 ?xxi7 ?xxl7 ?xxc7 ?xxk7 ?xxm8 ?xxi8 ?xxl8 ?xxc8 ?xxk8 ?xxm9 ?xxi9 ?xxl9 ?xxc9 ?xxk9 ?xxm10 ?xxi10 ?xxl10 ?xxc10 ?xxk10 ?xxm11 ?xxl11 ?xxc11 ?xxk11 ?xxm12 ?xxl12 ?xxc12 ?xxk12 ?xxm13 ?xxi13 ?xxl13 ?xxc13 ?xxk13 ?xxm14 ?xxi14 ?xxl14 ?xxc14 ?xxk14 ?xxm15 ?xxi15 ?xxl15 ?xxc15 ?xxk15 ?xxm16 ?xxi16 ?xxl16 ?xxc16 ?xxk16 ?xxm17 ?xxi17 ?xxl17 ?xxc17 ?xxk17 ?xxm18 ?xxi18 ?xxl18 ?xxc18 ?xxk18 ?xxm19 ?xxi19 ?xxl19 ?xxc19 ?xxk19 ?xxm20 ?xxi20 ?xxl20 ?xxc20 ?xxk20 ?xxm21 ?xxl21 ?xxc21 ?xxk21 ?xxm22 ?xxl22 ?xxc22 ?xxk22 ?xxm23 ?xxl23 ?xxc23 ?xxk23 ?xxm24 ?xxl24 ?xxc24 ?xxk24 ?xxm25 ?xxl25 ?xxc25 ?xxk25 ?xxm26 ?xxl26 ?xxc26 ?xxk26 ?xxm27 ?xxl27 ?xxc27 ?xxk27 ?xxm28 ?xxl28 ?xxc28 ?xxk28 ?xxm29 ?xxl29 ?xxc29 ?xxk29 ?xxm30 ?xxl30 ?xxc30 ?xxk30 ?xxm31 ?xxl31 ?xxc31 ?xxk31 ?xxm32 ?xxl32 ?xxc32 ?xxk32 ?xxm33 ?xxl33 ?xxc33 ?xxk33 ?xxm34 ?xxl34 ?xxc34 ?xxk34 ?xxm35 ?xxl35 ?xxc35 ?xxk35 ?xxm36 ?xxl36 ?xxc36 ?xxk36 ?xxm37 ?xxl37 ?xxc37 ?xxk37 ?xxm38 ?xxl38 ?xxc38 ?xxk38 ?xxm39 ?xxl39 ?xxc39 ?xxk39 ?xxm40 ?xxl40 ?xxc40 ?xxk40 ?xxm41 ?xxl41 ?xxc41 ?xxk41 ?xxm42 ?xxl42 ?xxc42 ?xxk42 ?xxm43 ?xxl43 ?xxc43 ?xxk43 ?xxm44 ?xxl44 ?xxc44 ?xxk44 ?xxm45 ?xxl45 ?xxc45 ?xxk45 ?xxm46 ?xxl46 ?xxc46 ?xxk46 ?xxm47 ?xxl47 ?xxc47 ?xxk47 ?xxm48 ?xxl48 ?xxc48 ?xxk48 ?xxz_len ?xxz_abs ?xxz_list ?xxz_tuple ?xxz_int ?xxz_any ?xxz_all ?xxz_min ?xxz_max ?xxz_isinstance ?xxz_bool ?xxz_str ?xxz_dict ?xxz_range ?xxz_enumerate ?xxz_zip ?xxz_sorted ?xxg0 ?xxg1 ?xxg2 ?xxpg0 ?xxhd0 ?xxpo0 ?xxsa0 ?xxmk0 ?xxkc0 ?xxna0_held ?xxpg1 ?xxhd1 ?xxpo1 ?xxsa1 ?xxmk1 ?xxkc1 ?xxna1_name ?xxna1_things ?xxpg2 ?xxhd2 ?xxpo2 ?xxsa2 ?xxmk2 ?xxkc2 ?xxna2_at ?xxna2_block ?xxna2_blocks ?xxna2_target ?xxna2_worth_by ?xxpg3 ?xxhd3 ?xxpo3 ?xxsa3 ?xxmk3 ?xxkc3 ?xxna3_frames ?xxna3_middle ?xxna3_ticks ?xxna3_told
    (case xxn_0 => k_is); (case xxn_1 => k_is); (case xxn_2 => k_is); (case xxn_3 => k_is); (case xxm0 => k_is); (case xxl0 => k_is)
    (case xxc0 => k_is); (case xxk0 => k_is); (case xxm1 => k_is); (case xxl1 => k_is); (case xxc1 => k_is); (case xxk1 => k_is)
    (case xxm2 => k_is); (case xxl2 => k_is); (case xxc2 => k_is); (case xxk2 => k_is); (case xxm3 => k_is); (case xxl3 => k_is)
    (case xxc3 => k_is); (case xxk3 => k_is); (case xxm4 => k_is); (case xxl4 => k_is); (case xxc4 => k_is); (case xxk4 => k_is)
    (case xxm5 => k_is); (case xxl5 => k_is); (case xxc5 => k_is); (case xxk5 => k_is); (case xxm6 => k_is); (case xxi6 => k_is)
    (case xxl6 => k_is); (case xxc6 => k_is); (case xxk6 => k_is); (case xxm7 => k_is); (case xxi7 => k_is); (case xxl7 => k_is)
    (case xxc7 => k_is); (case xxk7 => k_is); (case xxm8 => k_is); (case xxi8 => k_is); (case xxl8 => k_is); (case xxc8 => k_is)
    (case xxk8 => k_is); (case xxm9 => k_is); (case xxi9 => k_is); (case xxl9 => k_is); (case xxc9 => k_is); (case xxk9 => k_is)
    (case xxm10 => k_is); (case xxi10 => k_is); (case xxl10 => k_is); (case xxc10 => k_is); (case xxk10 => k_is); (case xxm11 => k_is)
    (case xxl11 => k_is); (case xxc11 => k_is); (case xxk11 => k_is); (case xxm12 => k_is); (case xxl12 => k_is); (case xxc12 => k_is)
    (case xxk12 => k_is); (case xxm13 => k_is); (case xxi13 => k_is); (case xxl13 => k_is); (case xxc13 => k_is); (case xxk13 => k_is)
    (case xxm14 => k_is); (case xxi14 => k_is); (case xxl14 => k_is); (case xxc14 => k_is); (case xxk14 => k_is); (case xxm15 => k_is)
    (case xxi15 => k_is); (case xxl15 => k_is); (case xxc15 => k_is); (case xxk15 => k_is); (case xxm16 => k_is); (case xxi16 => k_is)
    (case xxl16 => k_is); (case xxc16 => k_is); (case xxk16 => k_is); (case xxm17 => k_is); (case xxi17 => k_is); (case xxl17 => k_is)
    (case xxc17 => k_is); (case xxk17 => k_is); (case xxm18 => k_is); (case xxi18 => k_is); (case xxl18 => k_is); (case xxc18 => k_is)
    (case xxk18 => k_is); (case xxm19 => k_is); (case xxi19 => k_is); (case xxl19 => k_is); (case xxc19 => k_is); (case xxk19 => k_is)
    (case xxm20 => k_is); (case xxi20 => k_is); (case xxl20 => k_is); (case xxc20 => k_is); (case xxk20 => k_is); (case xxm21 => k_is)
    (case xxl21 => k_is); (case xxc21 => k_is); (case xxk21 => k_is); (case xxm22 => k_is); (case xxl22 => k_is); (case xxc22 => k_is)
    (case xxk22 => k_is); (case xxm23 => k_is); (case xxl23 => k_is); (case xxc23 => k_is); (case xxk23 => k_is); (case xxm24 => k_is)
    (case xxl24 => k_is); (case xxc24 => k_is); (case xxk24 => k_is); (case xxm25 => k_is); (case xxl25 => k_is); (case xxc25 => k_is)
    (case xxk25 => k_is); (case xxm26 => k_is); (case xxl26 => k_is); (case xxc26 => k_is); (case xxk26 => k_is); (case xxm27 => k_is)
    (case xxl27 => k_is); (case xxc27 => k_is); (case xxk27 => k_is); (case xxm28 => k_is); (case xxl28 => k_is); (case xxc28 => k_is)
    (case xxk28 => k_is); (case xxm29 => k_is); (case xxl29 => k_is); (case xxc29 => k_is); (case xxk29 => k_is); (case xxm30 => k_is)
    (case xxl30 => k_is); (case xxc30 => k_is); (case xxk30 => k_is); (case xxm31 => k_is); (case xxl31 => k_is); (case xxc31 => k_is)
    (case xxk31 => k_is); (case xxm32 => k_is); (case xxl32 => k_is); (case xxc32 => k_is); (case xxk32 => k_is); (case xxm33 => k_is)
    (case xxl33 => k_is); (case xxc33 => k_is); (case xxk33 => k_is); (case xxm34 => k_is); (case xxl34 => k_is); (case xxc34 => k_is)
    (case xxk34 => k_is); (case xxm35 => k_is); (case xxl35 => k_is); (case xxc35 => k_is); (case xxk35 => k_is); (case xxm36 => k_is)
    (case xxl36 => k_is); (case xxc36 => k_is); (case xxk36 => k_is); (case xxm37 => k_is); (case xxl37 => k_is); (case xxc37 => k_is)
    (case xxk37 => k_is); (case xxm38 => k_is); (case xxl38 => k_is); (case xxc38 => k_is); (case xxk38 => k_is); (case xxm39 => k_is)
    (case xxl39 => k_is); (case xxc39 => k_is); (case xxk39 => k_is); (case xxm40 => k_is); (case xxl40 => k_is); (case xxc40 => k_is)
    (case xxk40 => k_is); (case xxm41 => k_is); (case xxl41 => k_is); (case xxc41 => k_is); (case xxk41 => k_is); (case xxm42 => k_is)
    (case xxl42 => k_is); (case xxc42 => k_is); (case xxk42 => k_is); (case xxm43 => k_is); (case xxl43 => k_is); (case xxc43 => k_is)
    (case xxk43 => k_is); (case xxm44 => k_is); (case xxl44 => k_is); (case xxc44 => k_is); (case xxk44 => k_is); (case xxm45 => k_is)
    (case xxl45 => k_is); (case xxc45 => k_is); (case xxk45 => k_is); (case xxm46 => k_is); (case xxl46 => k_is); (case xxc46 => k_is)
    (case xxk46 => k_is); (case xxm47 => k_is); (case xxl47 => k_is); (case xxc47 => k_is); (case xxk47 => k_is); (case xxm48 => k_is)
    (case xxl48 => k_is); (case xxc48 => k_is); (case xxk48 => k_is); (case xxz_len => k_is); (case xxz_abs => k_is); (case xxz_list => k_is)
    (case xxz_tuple => k_is); (case xxz_int => k_is); (case xxz_any => k_is); (case xxz_all => k_is); (case xxz_min => k_is); (case xxz_max => k_is)
    (case xxz_isinstance => k_is); (case xxz_bool => k_is); (case xxz_str => k_is); (case xxz_dict => k_is); (case xxz_range => k_is); (case xxz_enumerate => k_is)
    (case xxz_zip => k_is); (case xxz_sorted => k_is); (case xxg0 => k_is); (case xxg1 => k_is); (case xxg2 => k_is); (case xxpg0 => k_is)
    (case xxhd0 => k_is); (case xxpo0 => k_is); (case xxsa0 => k_is); (case xxmk0 => k_is); (case xxkc0 => k_is); (case xxna0_held => k_is)
    (case xxpg1 => k_is); (case xxhd1 => k_is); (case xxpo1 => k_is); (case xxsa1 => k_is); (case xxmk1 => k_is); (case xxkc1 => k_is)
    (case xxna1_name => k_is); (case xxna1_things => k_is); (case xxpg2 => k_is); (case xxhd2 => k_is); (case xxpo2 => k_is); (case xxsa2 => k_is)
    (case xxmk2 => k_is); (case xxkc2 => k_is); (case xxna2_at => k_is); (case xxna2_block => k_is); (case xxna2_blocks => k_is); (case xxna2_target => k_is)
    (case xxna2_worth_by => k_is); (case xxpg3 => k_is); (case xxhd3 => k_is); (case xxpo3 => k_is); (case xxsa3 => k_is); (case xxmk3 => k_is)
    (case xxkc3 => k_is); (case xxna3_frames => k_is); (case xxna3_middle => k_is); (case xxna3_ticks => k_is); (case xxna3_told => k_is)
