import PyProof.Rows.All
import Wide.All
import OpenK.AllK
import Wide.FinOn
import HandS.ForMost
import HandS.TupAny
import HandS.TupMul
import HandS.Deep
import HandS.IsInst
import HandS.TryOnly
import HandS.Zip
import HandS.Small
import HandS.Style
import PySem.Challenge.RW_chainwright_k02_worked
set_option Elab.async false
set_option linter.all false
set_option maxRecDepth 100000
/-! CL, part a: a small language, its values, its store, its run -/
namespace CL
open PySem L2

/-- a value: tuples are plain data, lists, dicts and instances stand in the store -/
inductive Val where
  | non | bl (b : Bool) | int (i : Int) | str (x : Str) | tup (xs : List Val) | ref (i : Nat)
  deriving Inhabited
mutual
def veq : Val → Val → Bool
  | .non, .non => true
  | .bl a, .bl b => a == b
  | .int a, .int b => decide (a = b)
  | .str a, .str b => decide (a = b)
  | .tup a, .tup b => veqs a b
  | .ref i, .ref j => decide (i = j)
  | _, _ => false
def veqs : List Val → List Val → Bool
  | [], [] => true
  | x :: r, y :: t => veq x y && veqs r t
  | _, _ => false
end
mutual
theorem veq_iff : ∀ a b : Val, veq a b = true ↔ a = b
  | .non, b => by cases b <;> simp [veq]
  | .bl a, b => by cases b <;> simp [veq]
  | .int a, b => by cases b <;> simp [veq]
  | .str a, b => by cases b <;> simp [veq]
  | .ref a, b => by cases b <;> simp [veq]
  | .tup a, b => by
    cases b with
    | tup b => rw [veq, veqs_iff a b]; simp
    | _ => simp [veq]
theorem veqs_iff : ∀ a b : List Val, veqs a b = true ↔ a = b
  | [], b => by cases b <;> simp [veqs]
  | x :: r, b => by
    cases b with
    | nil => simp [veqs]
    | cons y t => rw [veqs, Bool.and_eq_true, veq_iff x y, veqs_iff r t]; simp
end
instance : DecidableEq Val := fun a b => decidable_of_iff (veq a b = true) (veq_iff a b)
inductive Ob where
  | lst (xs : List Val) | dK (kvs : List (Key × Val)) | dT (kvs : List (List Key × Val)) | ins (c : Nat) (fs : List (Str × Val))
  deriving DecidableEq
structure Store where
  n : Nat
  m : Nat → Option Ob
  ro : Nat → Bool
abbrev Env := List (Option Val)
/-- how a run ends: not told; an error (class, fields); a value -/
inductive Res (α : Type) where
  | fail | ex (c : Nat) (fs : List (Str × Val)) (st : Store) | ok (a : α) (st : Store)
def Res.bind {α β : Type} : Res α → (α → Store → Res β) → Res β
  | .fail, _ => .fail
  | .ex c fs st, _ => .ex c fs st
  | .ok a st, k => k a st
@[simp] theorem bind_ok {α β : Type} (a : α) (st : Store) (k : α → Store → Res β) : (Res.ok a st).bind k = k a st := rfl
@[simp] theorem bind_fail {α β : Type} (k : α → Store → Res β) : (Res.fail : Res α).bind k = .fail := rfl
@[simp] theorem bind_ex {α β : Type} (c : Nat) (fs : List (Str × Val)) (st : Store) (k : α → Store → Res β) : (Res.ex c fs st : Res α).bind k = .ex c fs st := rfl
theorem bind_eq_ok {α β : Type} {r : Res α} {k : α → Store → Res β} {b : β} {s : Store} : r.bind k = .ok b s ↔ ∃ a t, r = .ok a t ∧ k a t = .ok b s := by
  cases r with
  | fail => constructor <;> intro h <;> simp at h
  | ex c fs st => constructor <;> intro h <;> simp at h
  | ok a st =>
    constructor
    · intro h; exact ⟨a, st, rfl, h⟩
    · rintro ⟨a', t, e, h⟩; cases e; exact h
theorem bind_assoc {α β γ : Type} (r : Res α) (k : α → Store → Res β) (j : β → Store → Res γ) : (r.bind k).bind j = r.bind fun a s => (k a s).bind j := by
  cases r <;> rfl

def Store.set (st : Store) (i : Nat) (o : Ob) : Store := { st with m := fun j => if j = i then some o else st.m j }
def Store.new (st : Store) (o : Ob) : Store := { n := st.n + 1, m := fun j => if j = st.n then some o else st.m j, ro := fun j => if j = st.n then false else st.ro j }
/-- a new thing -/
def mk (o : Ob) (st : Store) : Res Val := .ok (.ref st.n) (st.new o)
/-- a thing written -/
def wr (i : Nat) (o : Ob) (st : Store) : Res Val := if st.ro i then .fail else .ok .non (st.set i o)
def Store.lst (st : Store) (i : Nat) : Option (List Val) := match st.m i with
  | some (.lst xs) => some xs
  | _ => none
def fits (n : Nat) : Bool := decide (n ≤ sizeLine)
def mkL (xs : List Val) (st : Store) : Res Val := if fits xs.length then mk (.lst xs) st else .fail
def mkT (xs : List Val) (st : Store) : Res Val := if fits xs.length then .ok (.tup xs) st else .fail

/-! ### data, ==, in -/
def allO {α : Type} : List (Option α) → Option (List α)
  | [] => some []
  | some x :: r => match allO r with
    | some xs => some (x :: xs)
    | none => none
  | none :: _ => none
/-- what a value is as data, lists as they stand now; k bounds the depth -/
def dat (st : Store) : Nat → Val → Option PyData
  | 0, _ => none
  | k + 1, v => match v with
    | .non => some .none
    | .bl b => some (.bool b)
    | .int i => some (.int i)
    | .str x => some (.str x)
    | .tup xs => (allO (xs.map (dat st k))).map .tuple
    | .ref i => match st.m i with
      | some (.lst xs) => (allO (xs.map (dat st k))).map .list
      | _ => none
/-- the depth that is looked at -/
def deep : Nat := 70
def scalar : Val → Bool
  | .non | .bl _ | .int _ | .str _ => true
  | _ => false
/-- == of two plain values; None: not told here -/
def eq0 : Val → Val → Option Bool
  | .non, .non => some true
  | .bl a, .bl b => some (a == b)
  | .bl a, .int b => some ((if a then 1 else 0) == b)
  | .int a, .bl b => some (a == (if b then 1 else 0))
  | .int a, .int b => some (decide (a = b))
  | .str a, .str b => some (decide (a = b))
  | .non, .bl _ | .non, .int _ | .non, .str _ => some false
  | .bl _, .non | .bl _, .str _ => some false
  | .int _, .non | .int _, .str _ => some false
  | .str _, .non | .str _, .bl _ | .str _, .int _ => some false
  | _, _ => none
def eqV (st : Store) (x y : Val) : Option Bool := match eq0 x y with
  | some b => some b
  | none => match dat st deep x, dat st deep y with
    | some d, some e => if SeqAt.shaped d && SeqAt.shaped e then some (PyData.eqv d e) else none
    | _, _ => none
def okB (o : Option Bool) (st : Store) : Res Val := match o with
  | some b => .ok (.bl b) st
  | none => .fail
def notO : Option Bool → Option Bool
  | some b => some (!b)
  | none => none
/-- a dict's key -/
def key1 : Val → Option Key
  | .int i => some (.inl i)
  | .str x => some (.inr x)
  | _ => none
/-- kt: what the module's own tuples hold: no keys -/
def keyT (kt : List (List Val)) : Val → Option (List Key)
  | .tup xs => if xs ∈ kt then none else allO (xs.map key1)
  | _ => none
def look {κ : Type} [DecidableEq κ] (kvs : List (κ × Val)) (k : κ) : Option Val := (kvs.find? fun kv => decide (kv.1 = k)).map (·.2)
def put {κ : Type} [DecidableEq κ] (kvs : List (κ × Val)) (k : κ) (v : Val) : List (κ × Val) :=
  if kvs.any (fun kv => decide (kv.1 = k)) then kvs.map fun kv => if kv.1 = k then (kv.1, v) else kv else kvs ++ [(k, v)]
/-- d[k]: none: not told; some none: not there -/
def dget (kt : List (List Val)) (o : Option Ob) (k : Val) : Option (Option Val) := match o with
  | some (.dK kvs) => match key1 k with
    | some k => some (look kvs k)
    | none => none
  | some (.dT kvs) => match keyT kt k with
    | some k => some (look kvs k)
    | none => none
  | _ => none
/-- all == x -/
def anyEq (st : Store) (x : Val) : List Val → Option Bool
  | [] => some false
  | y :: r => match eqV st y x with
    | some true => some true
    | some false => anyEq st x r
    | none => none
/-- in, of flat things -/
def eqF : Val → Val → Bool
  | .non, .non => true
  | .bl a, .bl b => a == b
  | .bl a, .int b => (if a then 1 else 0) == b
  | .int a, .bl b => a == (if b then 1 else 0)
  | .int a, .int b => a == b
  | .str a, .str b => a == b
  | _, _ => false
def inFlat (x : Val) (ys : List Val) : Option Bool := if scalar x && ys.all scalar then some (ys.any fun y => eqF y x) else none
def inV (kt : List (List Val)) (st : Store) (x y : Val) : Option Bool := match y with
  | .tup ys => inFlat x ys
  | .str z => match x with
    | .str w => some (!(Builtin.Str.occurrences z w 0 z.length 1).isEmpty)
    | _ => none
  | .ref i => match st.m i with
    | some (.lst ys) => match inFlat x ys with
      | some b => some b
      | none => match dat st deep x, dat st deep (.ref i) with
        | some d, some (.list ds) => if SeqAt.shaped d && SeqAt.shaped (.list ds) then some (ds.any fun z => PyData.eqv z d) else none
        | _, _ => none
    | some (.dK kvs) => (dget kt (some (.dK kvs)) x).map Option.isSome
    | some (.dT kvs) => (dget kt (some (.dT kvs)) x).map Option.isSome
    | _ => none
  | _ => none
def tru (st : Store) : Val → Option Bool
  | .non => some false
  | .bl b => some b
  | .int i => some (i != 0)
  | .str x => if fits x.length then some (x.length != 0) else none
  | .tup xs => some (!xs.isEmpty)
  | .ref i => match st.m i with
    | some (.lst xs) => some (!xs.isEmpty)
    | some (.dK kvs) => if st.ro i then none else some (!kvs.isEmpty)
    | _ => none

/-! ### operators -/
inductive Bop where
  | add | sub | mul | fdiv | mod | pow
  deriving DecidableEq
inductive Cop where
  | eq | ne | lt | le | gt | ge | has | hasnt
  deriving DecidableEq
def mulOk (i j : Int) : Bool := (decide (-(2 ^ 64) < i) && decide (i < 2 ^ 64)) || (decide (-(2 ^ 64) < j) && decide (j < 2 ^ 64))
def rep (xs : List Val) (k : Int) : List Val := (List.replicate k.toNat xs).flatten
def repOk (xs : List Val) (k : Int) : Bool := decide (-(2 ^ 63) ≤ k) && decide (k < 2 ^ 63) && fits (xs.length * k.toNat)
def bop (o : Bop) (x y : Val) (st : Store) : Res Val := match o, x, y with
  | .add, .int i, .int j => .ok (.int (i + j)) st
  | .add, .str a, .str b => if fits (a.length + b.length) then .ok (.str (a ++ b)) st else .fail
  | .add, .tup a, .tup b => if fits (a.length + b.length) then .ok (.tup (a ++ b)) st else .fail
  | .add, .ref a, .ref b => match st.m a, st.m b with
    | some (.lst xs), some (.lst ys) => if st.ro a || st.ro b then .fail else if fits (xs.length + ys.length) then mk (.lst (xs ++ ys)) st else .fail
    | _, _ => .fail
  | .sub, .int i, .int j => .ok (.int (i - j)) st
  | .mul, .int i, .int j => if mulOk i j then .ok (.int (i * j)) st else .fail
  | .mul, .ref a, .int k => match st.m a with
    | some (.lst xs) => if !st.ro a && repOk xs k then mk (.lst (rep xs k)) st else .fail
    | _ => .fail
  | .mul, .tup xs, .int k => if xs ≠ [] ∧ 2 ≤ k ∧ k ≤ 1000 ∧ xs.length ≤ 1000 then .ok (.tup (rep xs k)) st else .fail
  | .fdiv, .int i, .int j => if j ≠ 0 ∧ j.natAbs.log2 < 9000 then .ok (.int (i.fdiv j)) st else .fail
  | .mod, .int i, .int j => if j ≠ 0 then .ok (.int (i.fmod j)) st else .fail
  | .pow, .int i, .int j => if 0 ≤ j ∧ j ≤ 1000000 ∧ i.natAbs < 2 ^ 64 then .ok (.int (i ^ j.toNat)) st else .fail
  | _, _, _ => .fail
def cop (kt : List (List Val)) (o : Cop) (x y : Val) (st : Store) : Res Val := match o with
  | .eq => okB (eqV st x y) st
  | .ne => okB (notO (eqV st x y)) st
  | .has => okB (inV kt st x y) st
  | .hasnt => okB (notO (inV kt st x y)) st
  | .lt => match x, y with
    | .int i, .int j => .ok (.bl (decide (i < j))) st
    | _, _ => .fail
  | .le => match x, y with
    | .int i, .int j => .ok (.bl (decide (i ≤ j))) st
    | _, _ => .fail
  | .gt => match x, y with
    | .int i, .int j => .ok (.bl (decide (j < i))) st
    | _, _ => .fail
  | .ge => match x, y with
    | .int i, .int j => .ok (.bl (decide (j ≤ i))) st
    | _, _ => .fail
/-- a[i] -/
def subV (kt : List (List Val)) (x y : Val) (st : Store) : Res Val := match x with
  | .tup xs => match y with
    | .int i => match atI xs i with
      | some v => .ok v st
      | none => .fail
    | _ => .fail
  | .str z => match y with
    | .int i => if fits z.length then match atI z.cps.toList i with
      | some c => .ok (.str ⟨#[c]⟩) st
      | none => .fail else .fail
    | _ => .fail
  | .ref a => match st.m a with
    | some (.lst xs) => match y with
      | .int i => match atI xs i with
        | some v => .ok v st
        | none => .fail
      | _ => .fail
    | o => match dget kt o y with
      | some (some v) => .ok v st
      | _ => .fail
  | _ => .fail
def cutL {α : Type} (xs : List α) (lo hi : Option Int) : List α := (xs.drop (HT.sIx xs.length 0 lo)).take (HT.sIx xs.length xs.length hi - HT.sIx xs.length 0 lo)
def part : Option Val → Option (Option Int)
  | none => some none
  | some (.int i) => some (some i)
  | _ => none
/-- a[lo:hi] -/
def cutV (x : Val) (lo hi : Option Val) (st : Store) : Res Val := match part lo, part hi with
  | some l, some h => match x with
    | .tup xs => .ok (.tup (cutL xs l h)) st
    | .str z => if fits z.length then .ok (.str (cutS z l h)) st else .fail
    | .ref a => match st.m a with
      | some (.lst xs) => mk (.lst (cutL xs l h)) st
      | _ => .fail
    | _ => .fail
  | _, _ => .fail
/-- o[i] = v -/
def putV (kt : List (List Val)) (x y v : Val) (st : Store) : Res Val := match x with
  | .ref a => match st.m a with
    | some (.lst xs) => match y with
      | .int i => match ixN xs.length i with
        | some j => wr a (.lst (xs.set j v)) st
        | none => .fail
      | _ => .fail
    | some (.dK kvs) => match key1 y with
      | some k => if kvs.length < sizeLine then wr a (.dK (put kvs k v)) st else .fail
      | none => match keyT kt y with
        | some k => if kvs.isEmpty then wr a (.dT [(k, v)]) st else .fail
        | none => .fail
    | some (.dT kvs) => match keyT kt y with
      | some k => if kvs.length < sizeLine then wr a (.dT (put kvs k v)) st else .fail
      | none => .fail
    | _ => .fail
  | _ => .fail
def getF (fl : Nat → Str → Bool) (x : Val) (f : Str) (st : Store) : Res Val := match x with
  | .ref a => match st.m a with
    | some (.ins c fs) => if fl c f then match fs.lookup f with
      | some v => .ok v st
      | none => .fail else .fail
    | _ => .fail
  | _ => .fail
def setF (f : Str) (v : Val) : List (Str × Val) → List (Str × Val)
  | [] => [(f, v)]
  | (g, w) :: r => if g = f then (f, v) :: r else (g, w) :: setF f v r
def putF (fl : Nat → Str → Bool) (x : Val) (f : Str) (v : Val) (st : Store) : Res Val := match x with
  | .ref a => match st.m a with
    | some (.ins c fs) => if fl c f ∧ fs.length < 1000 then wr a (.ins c (setF f v fs)) st else .fail
    | _ => .fail
  | _ => .fail

/-! ### built-in functions and methods -/
inductive Bf where
  | len | abs | list | tuple | int | any | all | min2 | max2
  deriving DecidableEq
inductive Bm where
  | append | pop | count | index
  deriving DecidableEq
def bools : List Val → Option (List Bool)
  | [] => some []
  | .bl b :: r => match bools r with
    | some bs => some (b :: bs)
    | none => none
  | _ => none
def bfn (b : Bf) (vs : List Val) (st : Store) : Res Val := match b, vs with
  | .len, [.str z] => if fits z.length then .ok (.int z.length) st else .fail
  | .len, [.tup xs] => .ok (.int xs.length) st
  | .len, [.ref a] => match st.m a with
    | some (.lst xs) => .ok (.int xs.length) st
    | some (.dK kvs) => if st.ro a then .fail else .ok (.int kvs.length) st
    | _ => .fail
  | .abs, [.int i] => .ok (.int (if i < 0 then -i else i)) st
  | .list, [.tup xs] => mk (.lst xs) st
  | .list, [.ref a] => match st.m a with
    | some (.lst xs) => mk (.lst xs) st
    | _ => .fail
  | .tuple, [.tup xs] => .ok (.tup xs) st
  | .tuple, [.ref a] => match st.m a with
    | some (.lst xs) => .ok (.tup xs) st
    | _ => .fail
  | .int, [.int i] => .ok (.int i) st
  | .int, [.bl k] => .ok (.int (if k then 1 else 0)) st
  | .any, [.ref a] => match st.m a with
    | some (.lst xs) => match bools xs with
      | some bs => .ok (.bl (bs.any id)) st
      | none => .fail
    | _ => .fail
  | .all, [.ref a] => match st.m a with
    | some (.lst xs) => match bools xs with
      | some bs => .ok (.bl (bs.all id)) st
      | none => .fail
    | _ => .fail
  | .min2, [.int i, .int j] => .ok (.int (if j < i then j else i)) st
  | .max2, [.int i, .int j] => .ok (.int (if j > i then j else i)) st
  | _, _ => .fail
def bmt (b : Bm) (x : Val) (vs : List Val) (st : Store) : Res Val := match x with
  | .ref a => match b, vs, st.m a with
    | .append, [v], some (.lst xs) => if xs.length < sizeLine then wr a (.lst (xs ++ [v])) st else .fail
    | .pop, [], some (.lst xs) => match xs.getLast? with
      | some v => (wr a (.lst xs.dropLast) st).bind fun _ st => .ok v st
      | none => .fail
    | .count, [v], some (.lst _) => match dat st deep v, dat st deep (.ref a) with
      | some d, some (.list ds) => if SeqAt.shaped d && SeqAt.shaped (.list ds) then .ok (.int (ds.countP fun z => PyData.eqv z d : Nat)) st else .fail
      | _, _ => .fail
    | .index, [v], some (.lst _) => match dat st deep v, dat st deep (.ref a) with
      | some d, some (.list ds) => if SeqAt.shaped d && SeqAt.shaped (.list ds) then match ds.findIdx? fun z => PyData.eqv z d with
        | some j => .ok (.int (j : Nat)) st
        | none => .fail else .fail
      | _, _ => .fail
    | _, _, _ => .fail
  | _ => .fail
/-- kinds for isinstance -/
inductive Ty where
  | int | bool | str | list | tuple | dict | cls (c : Nat)
  deriving DecidableEq
def isT (st : Store) (v : Val) (t : Ty) : Option Bool := match v with
  | .non => some false
  | .bl _ => some (t = .int || t = .bool)
  | .int _ => some (t = .int)
  | .str _ => some (t = .str)
  | .tup _ => some (t = .tuple)
  | .ref i => match st.m i with
    | some (.lst _) => some (t = .list)
    | some (.dK _) => some (t = .dict)
    | some (.dT _) => if st.ro i then none else some (t = .dict)
    | _ => none

/-! ### the text -/
/-- a comprehension's or for's target -/
inductive Tg where
  | one (i : Nat) | many (is : List Nat)
mutual
inductive E where
  | v (i : Nat) | int (i : Int) | str (x : Str) | bl (b : Bool) | non
  | gl (g : Nat)
  | tup (es : Es) | lst (es : Es) | dic (ps : Ps)
  | neg (a : E)
  | bin (o : Bop) (a b : E)
  | cmp (o : Cop) (a b : E)
  | cm2 (o p : Cop) (a b c : E)
  | isN (a : E) | noN (a : E)
  | and (a b : E) | or (a b : E) | not (a : E)
  | ite (c : B) (a b : E)
  | sub (a i : E)
  | cut (a : E) (lo hi : Eo)
  | fld (a : E) (f : Str)
  | call (f : Nat) (es : Es)
  | make (c : Nat) (es : Es)
  | met (a : E) (m : Str) (es : Es)
  | bm (b : Bm) (a : E) (es : Es)
  | bf (b : Bf) (es : Es)
  | isi (a : E) (t : Ty)
  | lc (t : Tg) (w : I) (c : B) (e : E)
  | bad
inductive Es where
  | nil | cons (e : E) (es : Es)
inductive Eo where
  | no | so (e : E)
inductive Ps where
  | nil | cons (k v : E) (ps : Ps)
/-- a test -/
inductive B where
  | yes | of (e : E) | and (a b : B) | or (a b : B) | not (a : B)
inductive I where
  | of (e : E) | rg1 (a : E) | rg2 (a b : E) | enu (e : E) | zip (a b : E)
end
/-- a target of an assignment -/
inductive T where
  | one (i : Nat) | sub (o i : E) | fld (o : E) (f : Str)
mutual
inductive S where
  | asg (t : T) (e : E)
  | asT (ts : List T) (e : E)
  | par (is : List Nat) (es : Es)
  | aug (i : Nat) (o : Bop) (e : E)
  | aus (a i : E) (o : Bop) (e : E)
  | auf (a : E) (f : Str) (o : Bop) (e : E)
  | ex (e : E)
  | ret (e : E) | rtN
  | cond (c : B) (a b : Ss)
  | whl (c : B) (b : Ss)
  | for (t : Tg) (w : I) (b : Ss)
  | pass | brk | cnt | bad
inductive Ss where
  | nil | cons (s : S) (ss : Ss)
end
structure FDef where
  np : Nat
  nl : Nat
  body : Ss
structure Prog where
  fn : Nat → Option FDef
  /-- a class's method -/
  mt : Nat → Str → Option Nat
  /-- its __init__ -/
  ini : Nat → Option Nat
  gl : Nat → Option Val
  /-- a class's fields -/
  fl : Nat → Str → Bool
  /-- what the module's own tuples hold -/
  kt : List (List Val)

/-! ### the run -/
structure Ctx where
  G : Prog
  call : Nat → List Val → Store → Res Val
  init : Nat → List Val → Store → Res Val
  fuel : Nat
inductive Fl where
  | nx (s : Env) | rt (v : Val) | bk (s : Env) | ct (s : Env)
/-- what is watched through a walk: lists that must stay as they were -/
abbrev Watch := List (Nat × List Val)
def Store.sees (st : Store) : Watch → Bool
  | [] => true
  | (i, xs) :: r => decide (st.m i = some (.lst xs)) && st.sees r
def lcLoop (D : Nat) (w : Watch) (f : Val → Store → Res (Option Val)) : List Val → Store → Res Val
  | [], st => if st.sees w then .ok (.ref D) st else .fail
  | x :: r, st => if st.sees w then (f x st).bind fun o st => match o with
      | none => lcLoop D w f r st
      | some v => (bmt .append (.ref D) [v] st).bind fun _ st => lcLoop D w f r st
    else .fail
def forLoop (w : Watch) (f : Val → Env → Store → Res Fl) : List Val → Env → Store → Res Fl
  | [], s, st => if st.sees w then .ok (.nx s) st else .fail
  | x :: r, s, st => if st.sees w then (f x s st).bind fun fl st => match fl with
      | .nx s => forLoop w f r s st
      | .ct s => forLoop w f r s st
      | .bk s => .ok (.nx s) st
      | .rt v => .ok (.rt v) st
    else .fail
def whlLoop (t : Env → Store → Res Bool) (b : Env → Store → Res Fl) : Nat → Env → Store → Res Fl
  | 0, _, _ => .fail
  | n + 1, s, st => (t s st).bind fun c st => if c then (b s st).bind fun fl st => match fl with
      | .nx s => whlLoop t b n s st
      | .ct s => whlLoop t b n s st
      | .bk s => .ok (.nx s) st
      | .rt v => .ok (.rt v) st
    else .ok (.nx s) st
def setAll : List Nat → List Val → Env → Option Env
  | [], [], s => some s
  | i :: is, v :: vs, s => setAll is vs (s.set i (some v))
  | _, _, _ => none
/-- the items of a tuple or list -/
def itemsOf (v : Val) (st : Store) : Option (List Val) := match v with
  | .tup xs => some xs
  | .ref i => st.lst i
  | _ => none
def setTg (t : Tg) (v : Val) (s : Env) : Option Env := match t with
  | .one i => some (s.set i (some v))
  | .many is => match v with
    | .tup xs => setAll is xs s
    | _ => none
/-- a loop's turn: the target, then the rest -/
def onTg (t : Tg) (k : Env → Store → Res Fl) (x : Val) (s : Env) (st : Store) : Res Fl := match setTg t x s with
  | some s => k s st
  | none => .fail
/-- a comprehension's turn: the target, the test, the element -/
def onLc (t : Tg) (b : Env → Store → Res Bool) (e : Env → Store → Res Val) (s : Env) (x : Val) (st : Store) : Res (Option Val) := match setTg t x s with
  | none => .fail
  | some s' => (b s' st).bind fun k st => if k then (e s' st).bind fun v st => .ok (some v) st else .ok none st
/-- the next statement, if there is one to come -/
def thenF (k : Env → Store → Res Fl) (fl : Fl) (st : Store) : Res Fl := match fl with
  | .nx s => k s st
  | fl => .ok fl st
def endF (fl : Fl) (st : Store) : Res Val := match fl with
  | .nx _ => .ok .non st
  | .rt v => .ok v st
  | _ => .fail
def rangeL (lo : Int) : Nat → List Val
  | 0 => []
  | n + 1 => .int lo :: rangeL (lo + 1) n
def enumL (k : Int) : List Val → List Val
  | [] => []
  | x :: r => .tup [.int k, x] :: enumL (k + 1) r
def zipL : List Val → List Val → List Val
  | x :: r, y :: s => .tup [x, y] :: zipL r s
  | _, _ => []
def small62 (i : Int) : Bool := decide (-(2 ^ 62) ≤ i) && decide (i < 2 ^ 62)
def okO (o : Option Bool) (st : Store) : Res Bool := match o with
  | some b => .ok b st
  | none => .fail
def keyed : List (Val × Val) → Option (List (Key × Val))
  | [] => some []
  | (k, v) :: r => match key1 k, keyed r with
    | some k, some r => some ((k, v) :: r)
    | _, _ => none
def merge (kvs more : List (Key × Val)) : List (Key × Val) := more.foldl (fun acc kv => put acc kv.1 kv.2) kvs
/-- what a walk over a value goes through -/
def walkOf (v : Val) (st : Store) : Res (List Val × Watch) := match v with
  | .tup xs => .ok (xs, []) st
  | .str z => .ok (z.cps.toList.map fun c => .str ⟨#[c]⟩, []) st
  | .ref i => match st.m i with
    | some (.lst xs) => .ok (xs, [(i, xs)]) st
    | _ => .fail
  | _ => .fail
mutual
def ev (c : Ctx) : E → Env → Store → Res Val
  | .v i, s, st => match s[i]? with
    | some (some v) => .ok v st
    | _ => .fail
  | .int i, _, st => .ok (.int i) st
  | .str x, _, st => .ok (.str x) st
  | .bl b, _, st => .ok (.bl b) st
  | .non, _, st => .ok .non st
  | .gl g, _, st => match c.G.gl g with
    | some v => .ok v st
    | none => .fail
  | .tup es, s, st => (evs c es s st).bind mkT
  | .lst es, s, st => (evs c es s st).bind mkL
  | .dic ps, s, st => (evp c ps s (st.new (.dK []))).bind fun ps st' => match keyed ps with
    | some kvs => if st'.m st.n = some (.dK []) ∧ kvs.length ≤ 15 then (wr st.n (.dK (merge [] kvs)) st').bind fun _ st2 => .ok (.ref st.n) st2 else .fail
    | none => .fail
  | .neg a, s, st => (ev c a s st).bind fun x st => match x with
    | .int i => .ok (.int (-i)) st
    | _ => .fail
  | .bin o a b, s, st => (ev c a s st).bind fun x st => (ev c b s st).bind fun y st => bop o x y st
  | .cmp o a b, s, st => (ev c a s st).bind fun x st => (ev c b s st).bind fun y st => cop c.G.kt o x y st
  | .cm2 o p a b d, s, st => (ev c a s st).bind fun x st => (ev c b s st).bind fun y st => (cop c.G.kt o x y st).bind fun z st => match z with
    | .bl true => (ev c d s st).bind fun u st => cop c.G.kt p y u st
    | .bl false => .ok (.bl false) st
    | _ => .fail
  | .isN a, s, st => (ev c a s st).bind fun x st => .ok (.bl (match x with | .non => true | _ => false)) st
  | .noN a, s, st => (ev c a s st).bind fun x st => .ok (.bl (match x with | .non => false | _ => true)) st
  | .and a b, s, st => (ev c a s st).bind fun x st => match x with
    | .bl true => ev c b s st
    | .bl false => .ok (.bl false) st
    | _ => .fail
  | .or a b, s, st => (ev c a s st).bind fun x st => match x with
    | .bl true => .ok (.bl true) st
    | .bl false => ev c b s st
    | _ => .fail
  | .not a, s, st => (ev c a s st).bind fun x st => match x with
    | .bl b => .ok (.bl (!b)) st
    | _ => .fail
  | .ite t a b, s, st => (ts c t s st).bind fun k st => if k then ev c a s st else ev c b s st
  | .sub a i, s, st => (ev c a s st).bind fun x st => (ev c i s st).bind fun y st => subV c.G.kt x y st
  | .cut a lo hi, s, st => (ev c a s st).bind fun x st => (evo c lo s st).bind fun l st => (evo c hi s st).bind fun h st => cutV x l h st
  | .fld a f, s, st => (ev c a s st).bind fun x st => getF c.G.fl x f st
  | .call f es, s, st => (evs c es s st).bind fun vs st => c.call f vs st
  | .make k es, s, st => (evs c es s st).bind fun vs st => match c.G.ini k with
    | some f => (c.init f (.ref st.n :: vs) (st.new (.ins k []))).bind fun v st' => match v with
      | .non => .ok (.ref st.n) st'
      | _ => .fail
    | none => .fail
  | .met a m es, s, st => (ev c a s st).bind fun x st => match x with
    | .ref i => match st.m i with
      | some (.ins k fs) => if fs.lookup m = none then match c.G.mt k m with
        | some f => (evs c es s st).bind fun vs st => c.call f (.ref i :: vs) st
        | none => .fail else .fail
      | _ => .fail
    | _ => .fail
  | .bm b a es, s, st => (ev c a s st).bind fun x st => match x with
    | .ref i => match st.m i with
      | some (.lst _) => (evs c es s st).bind fun vs st => bmt b x vs st
      | _ => .fail
    | _ => .fail
  | .bf b es, s, st => (evs c es s st).bind fun vs st => bfn b vs st
  | .isi a t, s, st => (ev c a s st).bind fun x st => okB (isT st x t) st
  | .lc t w k e, s, st => (evw c w s st).bind fun p st => lcLoop st.n p.2 (onLc t (fun s st => ts c k s st) (fun s st => ev c e s st) s) p.1 (st.new (.lst []))
  | .bad, _, _ => .fail
def evs (c : Ctx) : Es → Env → Store → Res (List Val)
  | .nil, _, st => .ok [] st
  | .cons e es, s, st => (ev c e s st).bind fun v st => (evs c es s st).bind fun vs st => .ok (v :: vs) st
def evo (c : Ctx) : Eo → Env → Store → Res (Option Val)
  | .no, _, st => .ok none st
  | .so e, s, st => (ev c e s st).bind fun v st => .ok (some v) st
/-- a dict display, pair by pair -/
def evp (c : Ctx) : Ps → Env → Store → Res (List (Val × Val))
  | .nil, _, st => .ok [] st
  | .cons k v ps, s, st => (ev c k s st).bind fun x st => (ev c v s st).bind fun y st => (evp c ps s st).bind fun r st => .ok ((x, y) :: r) st
/-- a test -/
def ts (c : Ctx) : B → Env → Store → Res Bool
  | .yes, _, st => .ok true st
  | .and a b, s, st => (ts c a s st).bind fun k st => if k then ts c b s st else .ok false st
  | .or a b, s, st => (ts c a s st).bind fun k st => if k then .ok true st else ts c b s st
  | .not a, s, st => (ts c a s st).bind fun k st => .ok (!k) st
  | .of e, s, st => (ev c e s st).bind fun v st => okO (tru st v) st
def evw (c : Ctx) : I → Env → Store → Res (List Val × Watch)
  | .of e, s, st => (ev c e s st).bind fun v st => walkOf v st
  | .rg1 a, s, st => (ev c a s st).bind fun x st => match x with
    | .int j => if small62 j then .ok (rangeL 0 j.toNat, []) st else .fail
    | _ => .fail
  | .rg2 a b, s, st => (ev c a s st).bind fun x st => (ev c b s st).bind fun y st => match x, y with
    | .int i, .int j => if small62 i && small62 j then .ok (rangeL i (j - i).toNat, []) st else .fail
    | _, _ => .fail
  | .enu e, s, st => (ev c e s st).bind fun v st => match v with
    | .ref i => match st.m i with
      | some (.lst xs) => .ok (enumL 0 xs, [(i, xs)]) st
      | _ => .fail
    | _ => .fail
  | .zip a b, s, st => (ev c a s st).bind fun x st => (ev c b s st).bind fun y st => match x, y with
    | .ref i, .ref j => match st.m i, st.m j with
      | some (.lst xs), some (.lst ys) => .ok (zipL xs ys, [(i, xs), (j, ys)]) st
      | _, _ => .fail
    | .tup xs, .tup ys => .ok (zipL xs ys, []) st
    | _, _ => .fail
end

/-- one target gets a value -/
def asg1 (c : Ctx) (t : T) (v : Val) (s : Env) (st : Store) : Res Env := match t with
  | .one i => .ok (s.set i (some v)) st
  | .sub o i => (ev c o s st).bind fun x st => (ev c i s st).bind fun y st => (putV c.G.kt x y v st).bind fun _ st => .ok s st
  | .fld o f => (ev c o s st).bind fun x st => (putF c.G.fl x f v st).bind fun _ st => .ok s st
def asgs (c : Ctx) : List T → List Val → Env → Store → Res Env
  | [], [], s, st => .ok s st
  | t :: ts, v :: vs, s, st => (asg1 c t v s st).bind fun s st => asgs c ts vs s st
  | _, _, _, _ => .fail
def clsOf (x : Val) (st : Store) : Option Nat := match x with
  | .ref a => match st.m a with
    | some (.ins c _) => some c
    | _ => none
  | _ => none
/-- a dict's item, got and put -/
def getD (kt : List (List Val)) (x y : Val) (st : Store) : Res Val := match x with
  | .ref a => match dget kt (st.m a) y with
    | some (some v) => .ok v st
    | _ => .fail
  | _ => .fail
def putD (kt : List (List Val)) (x y v : Val) (st : Store) : Res Val := match x with
  | .ref a => match st.m a with
    | some (.dK kvs) => match key1 y with
      | some k => if kvs.length < sizeLine then wr a (.dK (put kvs k v)) st else .fail
      | none => .fail
    | some (.dT kvs) => match keyT kt y with
      | some k => if kvs.length < sizeLine then wr a (.dT (put kvs k v)) st else .fail
      | none => .fail
    | _ => .fail
  | _ => .fail
/-- x op= y -/
def iop (o : Bop) (x y : Val) (st : Store) : Res Val := match o, x, y with
  | .add, .int i, .int j => .ok (.int (i + j)) st
  | .sub, .int i, .int j => .ok (.int (i - j)) st
  | _, _, _ => .fail
mutual
def exec (c : Ctx) : S → Env → Store → Res Fl
  | .asg t e, s, st => (ev c e s st).bind fun v st => (asg1 c t v s st).bind fun s st => .ok (.nx s) st
  | .asT ts e, s, st => (ev c e s st).bind fun v st => match itemsOf v st with
    | some xs => (asgs c ts xs s st).bind fun s st => .ok (.nx s) st
    | none => .fail
  | .par is es, s, st => (evs c es s st).bind fun vs st => match setAll is vs s with
    | some s => .ok (.nx s) st
    | none => .fail
  | .aug i o e, s, st => match s[i]? with
    | some (some x) => (ev c e s st).bind fun y st => (iop o x y st).bind fun z st => .ok (.nx (s.set i (some z))) st
    | _ => .fail
  | .aus a i o e, s, st => (ev c a s st).bind fun x st => (ev c i s st).bind fun y st => (getD c.G.kt x y st).bind fun old st => (ev c e s st).bind fun v st =>
      (iop o old v st).bind fun z st => (putD c.G.kt x y z st).bind fun _ st => .ok (.nx s) st
  | .auf a f o e, s, st => (ev c a s st).bind fun x st1 => (getF c.G.fl x f st1).bind fun old st => (ev c e s st).bind fun v st =>
      (iop o old v st).bind fun z st => if clsOf x st = clsOf x st1 then (putF c.G.fl x f z st).bind fun _ st => .ok (.nx s) st else .fail
  | .ex e, s, st => (ev c e s st).bind fun _ st => .ok (.nx s) st
  | .ret e, s, st => (ev c e s st).bind fun v st => .ok (.rt v) st
  | .rtN, _, st => .ok (.rt .non) st
  | .cond t a b, s, st => (ts c t s st).bind fun k st => if k then execs c a s st else execs c b s st
  | .whl t b, s, st => whlLoop (ts c t) (fun s st => execs c b s st) c.fuel s st
  | .for t w b, s, st => (evw c w s st).bind fun p st => forLoop p.2 (onTg t fun s st => execs c b s st) p.1 s st
  | .pass, s, st => .ok (.nx s) st
  | .brk, s, st => .ok (.bk s) st
  | .cnt, s, st => .ok (.ct s) st
  | .bad, _, _ => .fail
def execs (c : Ctx) : Ss → Env → Store → Res Fl
  | .nil, s, st => .ok (.nx s) st
  | .cons x r, s, st => (exec c x s st).bind (thenF fun s st => execs c r s st)
end
/-- a def's run -/
def runF (c : Ctx) (d : FDef) (vs : List Val) (st : Store) : Res Val :=
  if vs.length = d.np then (execs c d.body (vs.map some ++ List.replicate (d.nl - d.np) none) st).bind endF
  else .fail
/-- the calls, at most d and d - 1 calls deep -/
def calls (G : Prog) (fuel : Nat) : Nat → (Nat → List Val → Store → Res Val) × (Nat → List Val → Store → Res Val)
  | 0 => (fun _ _ _ => .fail, fun _ _ _ => .fail)
  | d + 1 => (fun f vs st => match G.fn f with
    | some fd => runF ⟨G, (calls G fuel d).1, (calls G fuel d).2, fuel⟩ fd vs st
    | none => .fail, (calls G fuel d).1)
/-- a call, at most d calls deep -/
def callN (G : Prog) (fuel d : Nat) : Nat → List Val → Store → Res Val := (calls G fuel d).1
/-- what a def of d more calls runs with -/
def cxN (G : Prog) (fuel d : Nat) : Ctx := ⟨G, (calls G fuel d).1, (calls G fuel d).2, fuel⟩
theorem callN_succ (G : Prog) (fuel d f : Nat) (vs : List Val) (st : Store) : callN G fuel (d + 1) f vs st = match G.fn f with
    | some fd => runF (cxN G fuel d) fd vs st
    | none => .fail := rfl
end CL

/-! CL, part b: what a value and a store stand for -/
namespace CL
open PySem L2

/-- a tuple's place: tracked, or the module's own -/
def SqW (K : PySem.W.Frag) (kt : List (List Val)) (H : Hp) (a : Addr) (xs : List Val) (ys : List V) : Prop :=
  H a = some (.tup ys) ∨ (xs ∈ kt ∧ ∃ (o : Obj) (its : Array Value) (n : Nat), K.lookup a = some o ∧ o.cls = .type "tuple" ∧ o.data = .seq its n ∧ its.size ≤ sizeLine ∧ Vals ys its.toList)
section
variable (K : PySem.W.Frag) (kt : List (List Val)) (io : Nat → Addr) (n : Nat) (H : Hp)
mutual
inductive RV : Val → V → Prop
  | non : RV .non .non
  | bl (b : Bool) : RV (.bl b) (.bl b)
  | int (i : Int) : RV (.int i) (.int i)
  | str (x : Str) : RV (.str x) (.str x)
  | tup {xs : List Val} {a : Addr} {ys : List V} : SqW K kt H a xs ys → RVs xs ys → RV (.tup xs) (.ref a)
  | ref {i : Nat} : i < n → RV (.ref i) (.ref (io i))
inductive RVs : List Val → List V → Prop
  | nil : RVs [] []
  | cons {x : Val} {y : V} {xs : List Val} {ys : List V} : RV x y → RVs xs ys → RVs (x :: xs) (y :: ys)
end
/-- dicts' pairs, instances' fields -/
inductive RKs {κ : Type} : List (κ × Val) → List (κ × V) → Prop
  | nil : RKs [] []
  | cons {k : κ} {x : Val} {y : V} {xs : List (κ × Val)} {ys : List (κ × V)} : RV K kt io n H x y → RKs xs ys → RKs ((k, x) :: xs) ((k, y) :: ys)
/-- a list that is read alone -/
def SqR (K : PySem.W.Frag) (H : Hp) (a : Addr) (xs : List V) : Prop :=
  (∃ o, H a = some (.frz o (.lst xs))) ∨
    ∃ (o : Obj) (its : Array Value) (n : Nat), K.lookup a = some o ∧ o.cls = .type "list" ∧ o.dict = none ∧ o.data = .seq its n ∧ its.size ≤ sizeLine ∧ Vals xs its.toList
inductive RO (ca : Nat → Addr) : Bool → Addr → Ob → Prop
  | lst {a : Addr} {xs : List Val} {ys : List V} : H a = some (.lst ys) → RVs K kt io n H xs ys → RO ca false a (.lst xs)
  | lstR {a : Addr} {xs : List Val} {ys : List V} : SqR K H a ys → RVs K kt io n H xs ys → RO ca true a (.lst xs)
  | dK {a : Addr} {kvs : List (Key × Val)} {kws : List (Key × V)} : H a = some (.dK kws) → RKs K kt io n H kvs kws → RO ca false a (.dK kvs)
  | dKR {a : Addr} {o : Obj} {kvs : List (Key × Val)} {kws : List (Key × V)} : H a = some (.frz o (.dK kws)) → RKs K kt io n H kvs kws → RO ca true a (.dK kvs)
  | dT {a : Addr} {kvs : List (List Key × Val)} {kws : List (List Key × V)} : H a = some (.dT kws) → RKs K kt io n H kvs kws → RO ca false a (.dT kvs)
  | dTR {a : Addr} {o : Obj} {kvs : List (List Key × Val)} {kws : List (List Key × V)} : H a = some (.frz o (.dT kws)) → RKs K kt io n H kvs kws → RO ca true a (.dT kvs)
  | ins {a dx : Addr} {c : Nat} {fs : List (Str × Val)} {gs : List (Str × V)} : H a = some (.ins (ca c) dx gs) → RKs K kt io n H fs gs → RO ca false a (.ins c fs)
end
structure Rl (K : PySem.W.Frag) (kt : List (List Val)) (ca io : Nat → Addr) (st : Store) (H : Hp) : Prop where
  ob : ∀ i, i < st.n → ∃ o, st.m i = some o ∧ RO K kt io st.n H ca (st.ro i) (io i) o
  no : ∀ i, st.n ≤ i → st.m i = none
  inj : ∀ i j, i < st.n → j < st.n → st.ro i = false → st.ro j = false → io i = io j → i = j
/-- what stays -/
structure Ext (H H' : Hp) : Prop where
  tup : ∀ a xs, H a = some (.tup xs) → H' a = some (.tup xs)
  frz : ∀ a o u, H a = some (.frz o u) → H' a = some (.frz o u)
theorem Ext.refl (H : Hp) : Ext H H := ⟨fun _ _ h => h, fun _ _ _ h => h⟩
theorem Ext.trans {H H1 H2 : Hp} (a : Ext H H1) (b : Ext H1 H2) : Ext H H2 := ⟨fun c xs h => b.tup c xs (a.tup c xs h), fun c o u h => b.frz c o u (a.frz c o u h)⟩
theorem Ext.new {H : Hp} {p : Addr} (o : HO) (h : H p = none) : Ext H (upd H p o) :=
  ⟨fun a xs e => by rw [upd_ne (ne_of_none e h)]; exact e, fun a q u e => by rw [upd_ne (ne_of_none e h)]; exact e⟩
/-- a thing that may be written -/
def MutO : HO → Prop
  | .lst _ => True
  | .dK _ => True
  | .dT _ => True
  | .ins _ _ _ => True
  | _ => False
theorem Ext.wr {H : Hp} {p : Addr} {o : HO} (u : HO) (h : H p = some o) (m : MutO o) : Ext H (upd H p u) :=
  ⟨fun a xs e => by rw [upd_ne (ne_of e h (fun z => by subst z; exact m))]; exact e, fun a q v e => by rw [upd_ne (ne_of e h (fun z => by subst z; exact m))]; exact e⟩
theorem Ext.sqT {K : PySem.W.Frag} {H H' : Hp} {a : Addr} {xs : List V} (e : Ext H H') (h : SqT K H a xs) : SqT K H' a xs := by
  rcases h with (h | ⟨o, h⟩) | h
  · exact .inl (.inl (e.tup _ _ h))
  · exact .inl (.inr ⟨o, e.frz _ _ _ h⟩)
  · exact .inr h
theorem Ext.sqW {K : PySem.W.Frag} {kt : List (List Val)} {H H' : Hp} {a : Addr} {xs : List Val} {ys : List V} (e : Ext H H') (h : SqW K kt H a xs ys) : SqW K kt H' a xs ys := by
  rcases h with h | h
  · exact .inl (e.tup _ _ h)
  · exact .inr h
theorem SqW.sqT {K : PySem.W.Frag} {kt : List (List Val)} {H : Hp} {a : Addr} {xs : List Val} {ys : List V} (h : SqW K kt H a xs ys) : SqT K H a ys := by
  rcases h with h | ⟨_, h⟩
  · exact .inl (.inl h)
  · exact .inr h
theorem Ext.sqR {K : PySem.W.Frag} {H H' : Hp} {a : Addr} {xs : List V} (e : Ext H H') (h : SqR K H a xs) : SqR K H' a xs := by
  rcases h with ⟨o, h⟩ | h
  · exact .inl ⟨o, e.frz _ _ _ h⟩
  · exact .inr h
theorem SqR.sqL {K : PySem.W.Frag} {H : Hp} {a : Addr} {xs : List V} (h : SqR K H a xs) : SqL K H a xs := by
  rcases h with ⟨o, h⟩ | h
  · exact .inl (.inr ⟨o, h⟩)
  · exact .inr h
/-- a later state -/
structure Up (io : Nat → Addr) (n : Nat) (H : Hp) (io' : Nat → Addr) (n' : Nat) (H' : Hp) : Prop where
  le : n ≤ n'
  io : ∀ i, i < n → io' i = io i
  ext : Ext H H'
theorem Up.refl (io : Nat → Addr) (n : Nat) (H : Hp) : Up io n H io n H := ⟨Nat.le_refl _, fun _ _ => rfl, .refl H⟩
theorem Up.trans {io io1 io2 : Nat → Addr} {n n1 n2 : Nat} {H H1 H2 : Hp} (a : Up io n H io1 n1 H1) (b : Up io1 n1 H1 io2 n2 H2) : Up io n H io2 n2 H2 :=
  ⟨Nat.le_trans a.le b.le, fun i h => (b.io i (Nat.lt_of_lt_of_le h a.le)).trans (a.io i h), a.ext.trans b.ext⟩
section
variable {K : PySem.W.Frag} {kt : List (List Val)} {io io' : Nat → Addr} {n n' : Nat} {H H' : Hp}
mutual
theorem RV.up (u : Up io n H io' n' H') : ∀ {v : Val} {w : V}, RV K kt io n H v w → RV K kt io' n' H' v w
  | _, _, .non => .non
  | _, _, .bl b => .bl b
  | _, _, .int i => .int i
  | _, _, .str x => .str x
  | _, _, .tup h r => .tup (u.ext.sqW h) (RVs.up u r)
  | _, _, .ref h => by rw [← u.io _ h]; exact .ref (Nat.lt_of_lt_of_le h u.le)
theorem RVs.up (u : Up io n H io' n' H') : ∀ {vs : List Val} {ws : List V}, RVs K kt io n H vs ws → RVs K kt io' n' H' vs ws
  | _, _, .nil => .nil
  | _, _, .cons h r => .cons (RV.up u h) (RVs.up u r)
end
theorem RKs.up {κ : Type} (u : Up io n H io' n' H') : ∀ {vs : List (κ × Val)} {ws : List (κ × V)}, RKs K kt io n H vs ws → RKs K kt io' n' H' vs ws
  | _, _, .nil => .nil
  | _, _, .cons h r => .cons (h.up u) (RKs.up u r)
theorem RVs.length : ∀ {vs : List Val} {ws : List V}, RVs K kt io n H vs ws → vs.length = ws.length
  | _, _, .nil => rfl
  | _, _, .cons _ r => by rw [List.length_cons, List.length_cons, RVs.length r]
theorem RKs.length {κ : Type} : ∀ {vs : List (κ × Val)} {ws : List (κ × V)}, RKs K kt io n H vs ws → vs.length = ws.length
  | _, _, .nil => rfl
  | _, _, .cons _ r => by rw [List.length_cons, List.length_cons, RKs.length r]
theorem RVs.append : ∀ {vs vs' : List Val} {ws ws' : List V}, RVs K kt io n H vs ws → RVs K kt io n H vs' ws' → RVs K kt io n H (vs ++ vs') (ws ++ ws')
  | _, _, _, _, .nil, q => q
  | _, _, _, _, .cons h r, q => .cons h (RVs.append r q)
theorem RVs.get : ∀ {vs : List Val} {ws : List V} {i : Nat} {v : Val}, RVs K kt io n H vs ws → vs[i]? = some v → ∃ w, ws[i]? = some w ∧ RV K kt io n H v w
  | _, _, _, _, .nil, e => by simp at e
  | _, _, 0, _, .cons h r, e => by simp at e; subst e; exact ⟨_, rfl, h⟩
  | _, _, i + 1, v, .cons h r, e => by
    obtain ⟨w, e1, e2⟩ := RVs.get (i := i) (v := v) r (by simpa using e)
    exact ⟨w, by simpa using e1, e2⟩
theorem RVs.set {v : Val} {w : V} (q : RV K kt io n H v w) : ∀ {vs : List Val} {ws : List V} (i : Nat), RVs K kt io n H vs ws → RVs K kt io n H (vs.set i v) (ws.set i w)
  | _, _, _, .nil => .nil
  | _, _, 0, .cons _ r => .cons q r
  | _, _, i + 1, .cons h r => .cons h (RVs.set q i r)
theorem RVs.drop : ∀ {vs : List Val} {ws : List V} (k : Nat), RVs K kt io n H vs ws → RVs K kt io n H (vs.drop k) (ws.drop k)
  | _, _, 0, r => r
  | _, _, _ + 1, .nil => .nil
  | _, _, k + 1, .cons _ r => RVs.drop k r
theorem RVs.take : ∀ {vs : List Val} {ws : List V} (k : Nat), RVs K kt io n H vs ws → RVs K kt io n H (vs.take k) (ws.take k)
  | _, _, 0, _ => .nil
  | _, _, _ + 1, .nil => .nil
  | _, _, k + 1, .cons h r => .cons h (RVs.take k r)
theorem RVs.dropLast : ∀ {vs : List Val} {ws : List V}, RVs K kt io n H vs ws → RVs K kt io n H vs.dropLast ws.dropLast := fun {vs ws} r => by
  rw [List.dropLast_eq_take, List.dropLast_eq_take, r.length]
  exact r.take _
theorem RVs.rep {vs : List Val} {ws : List V} (h : RVs K kt io n H vs ws) : ∀ k : Nat, RVs K kt io n H (List.replicate k vs).flatten (List.replicate k ws).flatten
  | 0 => .nil
  | k + 1 => by
    rw [List.replicate_succ, List.replicate_succ, List.flatten_cons, List.flatten_cons]
    exact h.append (RVs.rep h k)
theorem RVs.one {v : Val} {ws : List V} (h : RVs K kt io n H [v] ws) : ∃ w, ws = [w] ∧ RV K kt io n H v w := by
  cases h with
  | cons a b => cases b; exact ⟨_, rfl, a⟩
theorem RVs.two {v u : Val} {ws : List V} (h : RVs K kt io n H [v, u] ws) : ∃ w x, ws = [w, x] ∧ RV K kt io n H v w ∧ RV K kt io n H u x := by
  cases h with
  | cons a b => obtain ⟨x, rfl, q⟩ := b.one; exact ⟨_, x, rfl, a, q⟩
theorem RVs.empty {vs : List Val} {ws : List V} (h : RVs K kt io n H vs ws) : vs.isEmpty = ws.isEmpty := by cases h <;> rfl
theorem RKs.empty {κ : Type} {vs : List (κ × Val)} {ws : List (κ × V)} (h : RKs K kt io n H vs ws) : vs.isEmpty = ws.isEmpty := by cases h <;> rfl
theorem RKs.look {κ : Type} [DecidableEq κ] (k : κ) : ∀ {vs : List (κ × Val)} {ws : List (κ × V)}, RKs K kt io n H vs ws →
    (look vs k = none ∧ valV ws k = none) ∨ ∃ v w, look vs k = some v ∧ valV ws k = some w ∧ RV K kt io n H v w
  | _, _, .nil => .inl ⟨rfl, rfl⟩
  | _, _, @RKs.cons _ _ _ _ _ _ j x y xs ys h r => by
    by_cases e : j = k
    · refine .inr ⟨x, y, ?_, ?_, h⟩
      · simp [CL.look, List.find?_cons, e]
      · exact valV_pos e
    · have ih := RKs.look k r
      have e1 : CL.look ((j, x) :: xs) k = CL.look xs k := by simp [CL.look, List.find?_cons, e]
      have e2 : valV ((j, y) :: ys) k = valV ys k := valV_neg (p := (j, y)) e
      rw [e1, e2]; exact ih
theorem RKs.any {κ : Type} [DecidableEq κ] (k : κ) : ∀ {vs : List (κ × Val)} {ws : List (κ × V)}, RKs K kt io n H vs ws → (vs.any fun kv => decide (kv.1 = k)) = ws.any fun kv => decide (kv.1 = k)
  | _, _, .nil => rfl
  | _, _, .cons h r => by rw [List.any_cons, List.any_cons, RKs.any k r]
theorem RKs.repl {κ : Type} [DecidableEq κ] (k : κ) {v : Val} {w : V} (q : RV K kt io n H v w) : ∀ {vs : List (κ × Val)} {ws : List (κ × V)}, RKs K kt io n H vs ws →
    RKs K kt io n H (vs.map fun kv => if kv.1 = k then (kv.1, v) else kv) (ws.map fun kv => if kv.1 = k then (kv.1, w) else kv)
  | _, _, .nil => .nil
  | _, _, @RKs.cons _ _ _ _ _ _ j x y xs ys h r => by
    rw [List.map_cons, List.map_cons]
    by_cases e : j = k
    · rw [if_pos e, if_pos e]; exact .cons q (RKs.repl k q r)
    · rw [if_neg e, if_neg e]; exact .cons h (RKs.repl k q r)
theorem RKs.snoc {κ : Type} (k : κ) {v : Val} {w : V} (q : RV K kt io n H v w) : ∀ {vs : List (κ × Val)} {ws : List (κ × V)}, RKs K kt io n H vs ws → RKs K kt io n H (vs ++ [(k, v)]) (ws ++ [(k, w)])
  | _, _, .nil => .cons q .nil
  | _, _, .cons h r => .cons h (RKs.snoc k q r)
theorem RKs.put {κ : Type} [DecidableEq κ] (k : κ) {v : Val} {w : V} (q : RV K kt io n H v w) {vs : List (κ × Val)} {ws : List (κ × V)} (r : RKs K kt io n H vs ws) : RKs K kt io n H (put vs k v) (putK ws k w) := by
  unfold CL.put putK
  rw [r.any k]
  split
  · exact r.repl k q
  · exact r.snoc k q
theorem RKs.merge {ms : List (Key × Val)} {ns : List (Key × V)} (h : RKs K kt io n H ms ns) : ∀ {vs : List (Key × Val)} {ws : List (Key × V)}, RKs K kt io n H vs ws → RKs K kt io n H (merge vs ms) (mergeK ws ns) := by
  induction h with
  | nil => intro vs ws r; exact r
  | cons h t ih => intro vs ws r; exact ih (r.put _ h)
theorem RKs.lookup (f : Str) : ∀ {vs : List (Str × Val)} {ws : List (Str × V)}, RKs K kt io n H vs ws →
    (vs.lookup f = none ∧ ws.lookup f = none) ∨ ∃ v w, vs.lookup f = some v ∧ ws.lookup f = some w ∧ RV K kt io n H v w
  | _, _, .nil => .inl ⟨rfl, rfl⟩
  | _, _, @RKs.cons _ _ _ _ _ _ j x y xs ys h r => by
    have ih := RKs.lookup f r
    rw [List.lookup_cons, List.lookup_cons]
    cases f == j with
    | true => exact .inr ⟨x, y, rfl, rfl, h⟩
    | false => exact ih
theorem RKs.setF (f : Str) {v : Val} {w : V} (q : RV K kt io n H v w) : ∀ {vs : List (Str × Val)} {ws : List (Str × V)}, RKs K kt io n H vs ws → RKs K kt io n H (setF f v vs) (L2.putF f w ws)
  | _, _, .nil => .cons q .nil
  | _, _, @RKs.cons _ _ _ _ _ _ j x y xs ys h r => by
    unfold CL.setF L2.putF
    by_cases e : j = f
    · rw [if_pos e, if_pos e, e]; exact .cons q r
    · rw [if_neg e, if_neg e]; exact .cons h (RKs.setF f q r)
theorem RO.up {ca : Nat → Addr} {a : Addr} {b : Bool} {o : Ob} (u : Up io n H io' n' H') (e : b = false → H' a = H a) (h : RO K kt io n H ca b a o) : RO K kt io' n' H' ca b a o := by
  cases h with
  | lst h r => exact .lst ((e rfl).trans h) (r.up u)
  | lstR h r => exact .lstR (u.ext.sqR h) (r.up u)
  | dK h r => exact .dK ((e rfl).trans h) (r.up u)
  | dKR h r => exact .dKR (u.ext.frz _ _ _ h) (r.up u)
  | dT h r => exact .dT ((e rfl).trans h) (r.up u)
  | dTR h r => exact .dTR (u.ext.frz _ _ _ h) (r.up u)
  | ins h r => exact .ins ((e rfl).trans h) (r.up u)
theorem RO.mutO {ca : Nat → Addr} {a : Addr} {o : Ob} (h : RO K kt io n H ca false a o) : ∃ x, H a = some x ∧ MutO x := by
  cases h with
  | lst h r => exact ⟨_, h, trivial⟩
  | dK h r => exact ⟨_, h, trivial⟩
  | dT h r => exact ⟨_, h, trivial⟩
  | ins h r => exact ⟨_, h, trivial⟩
end

section
variable {K : PySem.W.Frag} {kt : List (List Val)} {ca io : Nat → Addr} {st : Store} {H : Hp}
theorem Rl.at (R : Rl K kt ca io st H) {i : Nat} {o : Ob} (e : st.m i = some o) : i < st.n ∧ RO K kt io st.n H ca (st.ro i) (io i) o := by
  by_cases h : i < st.n
  · obtain ⟨o', e', r⟩ := R.ob i h
    rw [e] at e'; cases e'
    exact ⟨h, r⟩
  · rw [R.no i (Nat.le_of_not_lt h)] at e; cases e
/-- the map behind a new thing -/
def ioNew (io : Nat → Addr) (n : Nat) (p : Addr) : Nat → Addr := fun i => if i = n then p else io i
theorem ioNew_at (io : Nat → Addr) (n : Nat) (p : Addr) : ioNew io n p n = p := if_pos rfl
theorem ioNew_ne {io : Nat → Addr} {n i : Nat} {p : Addr} (h : i ≠ n) : ioNew io n p i = io i := if_neg h
theorem Up.new {p : Addr} (o : HO) (h : H p = none) : Up io st.n H (ioNew io st.n p) (st.n + 1) (upd H p o) :=
  ⟨Nat.le_succ _, fun i hi => ioNew_ne (Nat.ne_of_lt hi), .new o h⟩
theorem Rl.new (R : Rl K kt ca io st H) {p : Addr} {o : Ob} {u : HO} (h : H p = none) (r : RO K kt (ioNew io st.n p) (st.n + 1) (upd H p u) ca false p o) :
    Rl K kt ca (ioNew io st.n p) (st.new o) (upd H p u) := by
  have up := Up.new (io := io) (st := st) u h
  have old : ∀ i, i < st.n → ∃ q, st.m i = some q ∧ RO K kt (ioNew io st.n p) (st.n + 1) (upd H p u) ca (st.ro i) (io i) q := fun i hi => by
    obtain ⟨q, e, rq⟩ := R.ob i hi
    refine ⟨q, e, rq.up up fun hr => ?_⟩
    rw [hr] at rq
    obtain ⟨x, ex, _⟩ := rq.mutO
    exact upd_ne (ne_of_none ex h)
  refine ⟨fun i hi => ?_, fun i hi => ?_, fun i j hi hj ri rj e => ?_⟩
  · by_cases e : i = st.n
    · subst e
      refine ⟨o, if_pos rfl, ?_⟩
      show RO K kt (ioNew io st.n p) (st.n + 1) (upd H p u) ca (if st.n = st.n then false else st.ro st.n) (ioNew io st.n p st.n) o
      rw [if_pos rfl, ioNew_at]; exact r
    · have hi' : i < st.n + 1 := hi
      obtain ⟨q, eq, rq⟩ := old i (by omega)
      refine ⟨q, (if_neg e).trans eq, ?_⟩
      show RO K kt (ioNew io st.n p) (st.n + 1) (upd H p u) ca (if i = st.n then false else st.ro i) (ioNew io st.n p i) q
      rw [if_neg e, ioNew_ne e]; exact rq
  · have hi' : st.n + 1 ≤ i := hi
    exact (if_neg (by omega)).trans (R.no i (by omega))
  · have hi' : i < st.n + 1 := hi
    have hj' : j < st.n + 1 := hj
    have apart : ∀ k, k < st.n → (st.new o).ro k = false → io k ≠ p := fun k hk rk => by
      have rk' : st.ro k = false := by
        have : (if k = st.n then false else st.ro k) = false := rk
        rw [if_neg (Nat.ne_of_lt hk)] at this; exact this
      obtain ⟨q, _, rq⟩ := R.ob k hk
      rw [rk'] at rq
      obtain ⟨x, ex, _⟩ := rq.mutO
      exact ne_of_none ex h
    by_cases ei : i = st.n
    · by_cases ej : j = st.n
      · rw [ei, ej]
      · rw [ei, ioNew_at, ioNew_ne ej] at e
        exact absurd e.symm (apart j (by omega) rj)
    · by_cases ej : j = st.n
      · rw [ej, ioNew_at, ioNew_ne ei] at e
        exact absurd e (apart i (by omega) ri)
      · rw [ioNew_ne ei, ioNew_ne ej] at e
        have r1 : (if i = st.n then false else st.ro i) = false := ri
        have r2 : (if j = st.n then false else st.ro j) = false := rj
        rw [if_neg ei] at r1; rw [if_neg ej] at r2
        exact R.inj i j (by omega) (by omega) r1 r2 e
theorem Up.wr {i : Nat} {x : HO} (u : HO) (h : H (io i) = some x) (m : MutO x) : Up io st.n H io st.n (upd H (io i) u) := ⟨Nat.le_refl _, fun _ _ => rfl, .wr u h m⟩
theorem Rl.wr (R : Rl K kt ca io st H) {i : Nat} {o : Ob} {u : HO} (hi : i < st.n) (hr : st.ro i = false) (r : RO K kt io st.n (upd H (io i) u) ca false (io i) o) :
    Rl K kt ca io (st.set i o) (upd H (io i) u) := by
  obtain ⟨q, _, rq⟩ := R.ob i hi
  rw [hr] at rq
  obtain ⟨x, ex, mx⟩ := rq.mutO
  have up := Up.wr (io := io) (st := st) u ex mx
  refine ⟨fun j hj => ?_, fun j hj => ?_, R.inj⟩
  · by_cases e : j = i
    · subst e
      refine ⟨o, if_pos rfl, ?_⟩
      show RO K kt io st.n (upd H (io j) u) ca (st.ro j) (io j) o
      rw [hr]; exact r
    · obtain ⟨p, ep, rp⟩ := R.ob j hj
      refine ⟨p, (if_neg e).trans ep, rp.up up fun hj' => upd_ne fun z => e (R.inj j i hj hi hj' hr z)⟩
  · have hj' : st.n ≤ j := hj
    exact (if_neg (by omega)).trans (R.no j hj')
end
end CL

/-! CL, part c: operators, subscripts, built-ins: what the store's run says holds of the model -/
namespace CL
open PySem L2

/-- what is wanted behind a run that gave v and left st' -/
def Post (K : PySem.W.Frag) (kt : List (List Val)) (ca io : Nat → Addr) (st : Store) (H : Hp) (v : Val) (st' : Store) (Q : VK) : Prop :=
  ∀ (io' : Nat → Addr) (H' : Hp) (w : V), Up io st.n H io' st'.n H' → Rl K kt ca io' st' H' → RV K kt io' st'.n H' v w → Q w H'
section
variable {K : PySem.W.Frag} {kt : List (List Val)} {ca io : Nat → Addr} {st st' : Store} {H : Hp} {v : Val} {w : V} {Q : VK}
theorem Post.here (p : Post K kt ca io st H v st Q) (R : Rl K kt ca io st H) (r : RV K kt io st.n H v w) : Q w H := p io H w (.refl _ _ _) R r
/-- a new list, dict -/
theorem Post.made {o : Ob} {u : HO} (p : Post K kt ca io st H (.ref st.n) (st.new o) Q) (R : Rl K kt ca io st H)
    (r : ∀ a, H a = none → RO K kt (ioNew io st.n a) (st.n + 1) (upd H a u) ca false a o) (a : Addr) (ha : H a = none) : Q (.ref a) (upd H a u) := by
  refine p (ioNew io st.n a) _ _ (Up.new u ha) (R.new ha (r a ha)) ?_
  have h : RV K kt (ioNew io st.n a) (st.n + 1) (upd H a u) (.ref st.n) (.ref (ioNew io st.n a st.n)) := .ref (Nat.lt_succ_self _)
  rw [ioNew_at] at h; exact h
theorem Post.list {xs : List Val} {ys : List V} (p : Post K kt ca io st H (.ref st.n) (st.new (.lst xs)) Q) (R : Rl K kt ca io st H) (r : RVs K kt io st.n H xs ys) (a : Addr) (ha : H a = none) :
    Q (.ref a) (upd H a (.lst ys)) := p.made R (fun a ha => .lst upd_same (r.up (Up.new _ ha))) a ha
/-- a new tuple -/
theorem Post.tup {xs : List Val} {ys : List V} (p : Post K kt ca io st H (.tup xs) st Q) (R : Rl K kt ca io st H) (r : RVs K kt io st.n H xs ys) (a : Addr) (ha : H a = none) :
    Q (.ref a) (upd H a (.tup ys)) := by
  have up : Up io st.n H io st.n (upd H a (.tup ys)) := ⟨Nat.le_refl _, fun _ _ => rfl, .new _ ha⟩
  refine p io _ _ up ⟨fun i hi => ?_, R.no, R.inj⟩ (.tup (.inl upd_same) (r.up up))
  obtain ⟨q, e, rq⟩ := R.ob i hi
  refine ⟨q, e, rq.up up fun hr => ?_⟩
  rw [hr] at rq
  obtain ⟨x, ex, _⟩ := rq.mutO
  exact upd_ne (ne_of_none ex ha)
/-- a thing written -/
theorem Post.wrote {i : Nat} {o : Ob} {u : HO} (p : Post K kt ca io st H v (st.set i o) Q) (R : Rl K kt ca io st H) (hi : i < st.n) (hr : st.ro i = false)
    (r : Up io st.n H io st.n (upd H (io i) u) → RO K kt io st.n (upd H (io i) u) ca false (io i) o ∧ RV K kt io st.n (upd H (io i) u) v w) : Q w (upd H (io i) u) := by
  obtain ⟨q, _, rq⟩ := R.ob i hi
  rw [hr] at rq
  obtain ⟨x, ex, mx⟩ := rq.mutO
  have up := Up.wr (io := io) (st := st) u ex mx
  obtain ⟨r1, r2⟩ := r up
  exact p io _ _ up (R.wr hi hr r1) r2
end

/-! ### the model's own readings, by what they are -/
section
variable {X : Cx}
def tSem (X : Cx) (e : Expr) : TE := fun σ H Q => ∀ (pins : List (Addr × Obj)) (s : Shared), Inv X pins σ H s → wpAny (model X.prog X.w) X.A (eval e X.env) (EP X pins σ Q) X.xe s
theorem pe_sem {e : Expr} : PE X e (tSem X e) := ⟨fun pins s σ H Q I h => h pins s I⟩
def bSem (X : Cx) (e : Expr) : TT := fun σ H Q => ∀ (pins : List (Addr × Obj)) (s : Shared), Inv X pins σ H s → wpAny (model X.prog X.w) X.A (isTrue e X.env (eval e X.env)) (TP X pins σ Q) X.xe s
theorem pt_sem {e : Expr} : PT X e (bSem X e) := ⟨fun pins s σ H Q I h => h pins s I⟩
def oSem (X : Cx) (f : Value → Value → Sem Value) : R2 := fun x y H Q => ∀ (pins : List (Addr × Obj)) (s : Shared) (σ : St) (v u : Value), Inv X pins σ H s → RelV x v → RelV y u → wpAny (model X.prog X.w) X.A (f v u) (EP X pins σ Q) X.xe s
theorem op_sem {f : Value → Value → Sem Value} : OpR X f (oSem X f) := fun pins s σ H x y v u Q I rx ry h => h pins s σ v u I rx ry
theorem oSem.of {f : Value → Value → Sem Value} {r : R2} (ho : OpR X f r) {x y : V} {H : Hp} {Q : VK} (h : r x y H Q) : oSem X f x y H Q := fun pins s σ v u I rx ry => ho pins s σ H x y v u Q I rx ry h
def cSem (X : Cx) (f : Value) : List V → Hp → VK → Prop := fun xs H Q => ∀ (pins : List (Addr × Obj)) (s : Shared) (σ : St) (us : List Value), Inv X pins σ H s → Vals xs us → wpAny (model X.prog X.w) X.A (call f us) (EP X pins σ Q) X.xe s
theorem call_sem {f : Value} : CallR X f (cSem X f) := fun pins s σ H xs us Q I r h => h pins s σ us I r
theorem cSem.of {f : Value} {r : List V → Hp → VK → Prop} (ho : CallR X f r) {xs : List V} {H : Hp} {Q : VK} (h : r xs H Q) : cSem X f xs H Q := fun pins s σ us I rv => ho pins s σ H xs us Q I rv h
def mSem (X : Cx) (id : String) : V → List V → Hp → VK → Prop := fun x xs H Q => ∀ (pins : List (Addr × Obj)) (s : Shared) (σ : St) (v : Value) (us : List Value), Inv X pins σ H s → RelV x v → Vals xs us → wpAny (model X.prog X.w) X.A (call (.builtin id) (v :: us)) (EP X pins σ Q) X.xe s
theorem mt_sem {id : String} : MtR X id (mSem X id) := fun pins s σ H x xs v us Q I r rs h => h pins s σ v us I r rs
theorem mSem.of {id : String} {r : V → List V → Hp → VK → Prop} (ho : MtR X id r) {x : V} {xs : List V} {H : Hp} {Q : VK} (h : r x xs H Q) : mSem X id x xs H Q := fun pins s σ v us I rx rs => ho pins s σ H x xs v us Q I rx rs h
def gSem (X : Cx) : TSet := fun o i v H Q => ∀ (pins : List (Addr × Obj)) (s : Shared) (σ : St) (ov iv u : Value), Inv X pins σ H s → RelV o ov → RelV i iv → RelV v u → wpAny (model X.prog X.w) X.A (setItem ov iv u) (fun _ s' => ∃ H', Inv X pins σ H' s' ∧ Q H') X.xe s
theorem set_sem : PSet X (gSem X) := fun pins s σ H o i v ov iv u Q I ro ri rv h => h pins s σ ov iv u I ro ri rv
theorem gSem.of {t : TSet} (ho : PSet X t) {o i v : V} {H : Hp} {Q : Hp → Prop} (h : t o i v H Q) : gSem X o i v H Q := fun pins s σ ov iv u I r1 r2 r3 => ho pins s σ H o i v ov iv u Q I r1 r2 r3 h
end

/-! ### a list's place -/
section
variable {K : PySem.W.Frag} {kt : List (List Val)} {ca io : Nat → Addr} {st st' : Store} {H : Hp}
theorem Rl.list (R : Rl K kt ca io st H) {i : Nat} {xs : List Val} (e : st.m i = some (.lst xs)) : ∃ ys, SqL K H (io i) ys ∧ RVs K kt io st.n H xs ys ∧ (st.ro i = false → H (io i) = some (.lst ys)) := by
  obtain ⟨hi, r⟩ := R.at e
  generalize st.ro i = b at r ⊢
  cases r with
  | lst h q => exact ⟨_, .of h, q, fun _ => h⟩
  | lstR h q => exact ⟨_, h.sqL, q, fun z => by cases z⟩
theorem Rl.dictK (R : Rl K kt ca io st H) {i : Nat} {kvs : List (Key × Val)} (e : st.m i = some (.dK kvs)) : ∃ kws, Rd H (io i) (.dK kws) ∧ RKs K kt io st.n H kvs kws ∧ (st.ro i = false → H (io i) = some (.dK kws)) := by
  obtain ⟨hi, r⟩ := R.at e
  generalize st.ro i = b at r ⊢
  cases r with
  | dK h q => exact ⟨_, .inl h, q, fun _ => h⟩
  | dKR h q => exact ⟨_, .inr ⟨_, h⟩, q, fun z => by cases z⟩
theorem Rl.dictT (R : Rl K kt ca io st H) {i : Nat} {kvs : List (List Key × Val)} (e : st.m i = some (.dT kvs)) : ∃ kws, Rd H (io i) (.dT kws) ∧ RKs K kt io st.n H kvs kws ∧ (st.ro i = false → H (io i) = some (.dT kws)) := by
  obtain ⟨hi, r⟩ := R.at e
  generalize st.ro i = b at r ⊢
  cases r with
  | dT h q => exact ⟨_, .inl h, q, fun _ => h⟩
  | dTR h q => exact ⟨_, .inr ⟨_, h⟩, q, fun z => by cases z⟩
theorem Rl.inst (R : Rl K kt ca io st H) {i c : Nat} {fs : List (Str × Val)} (e : st.m i = some (.ins c fs)) : i < st.n ∧ st.ro i = false ∧ ∃ dx gs, H (io i) = some (.ins (ca c) dx gs) ∧ RKs K kt io st.n H fs gs := by
  obtain ⟨hi, r⟩ := R.at e
  refine ⟨hi, ?_⟩
  generalize st.ro i = b at r ⊢
  cases r with
  | ins h q => exact ⟨rfl, _, _, h, q⟩
theorem RV.iref {i : Nat} {n : Nat} {w : V} (h : RV K kt io n H (.ref i) w) : w = .ref (io i) ∧ i < n := by cases h with | ref h => exact ⟨rfl, h⟩
theorem RV.iint {i : Int} {n : Nat} {w : V} (h : RV K kt io n H (.int i) w) : w = .int i := by cases h; rfl
theorem RV.istr {x : Str} {n : Nat} {w : V} (h : RV K kt io n H (.str x) w) : w = .str x := by cases h; rfl
theorem RV.ibl {b : Bool} {n : Nat} {w : V} (h : RV K kt io n H (.bl b) w) : w = .bl b := by cases h; rfl
theorem RV.inon {n : Nat} {w : V} (h : RV K kt io n H .non w) : w = .non := by cases h; rfl
theorem RV.itup {xs : List Val} {n : Nat} {w : V} (h : RV K kt io n H (.tup xs) w) : ∃ a ys, w = .ref a ∧ SqW K kt H a xs ys ∧ RVs K kt io n H xs ys := by cases h with | tup h r => exact ⟨_, _, rfl, h, r⟩
theorem RVs.atI {xs : List Val} {ys : List V} {n : Nat} (r : RVs K kt io n H xs ys) {i : Int} {v : Val} (h : atI xs i = some v) : ∃ w, atI ys i = some w ∧ RV K kt io n H v w := by
  unfold L2.atI at h ⊢
  rw [← r.length]
  cases q : ixN xs.length i with
  | none => rw [q] at h; cases h
  | some j =>
    rw [q] at h
    exact r.get (show xs[j]? = some v from h)
theorem RVs.cut {xs : List Val} {ys : List V} {n : Nat} (r : RVs K kt io n H xs ys) (lo hi : Option Int) : RVs K kt io n H (cutL xs lo hi) (L2.cutV ys lo hi) := by
  unfold cutL L2.cutV
  rw [r.length]
  exact (r.drop _).take _
end
theorem fits_le {n : Nat} (h : fits n = true) : n ≤ sizeLine := of_decide_eq_true h

/-! ### + - * // % ** -/
section
variable {X : Cx} {kt : List (List Val)} {ca io : Nat → Addr} {st st' : Store} {H : Hp}
def CDivL (_ j : Int) : Prop := j ≠ 0 ∧ j.natAbs.log2 < 9000
theorem op_fdivL : OpR X (binaryOp .FloorDiv) (rI CDivL fun i j => .int (i.fdiv j)) := opI fun _ _ _ _ _ _ _ hc q => PyProof.Rows.floordiv_int hc.1 q (.inl (PyProof.noPylong_of_log2 hc.2))
def opOf : Bop → Operator
  | .add => .Add | .sub => .Sub | .mul => .Mult | .fdiv => .FloorDiv | .mod => .Mod | .pow => .Pow
theorem bop_ok {o : Bop} {a b v : Val} {x y : V} {Q : VK} (R : Rl X.K kt ca io st H) (ra : RV X.K kt io st.n H a x) (rb : RV X.K kt io st.n H b y) (e : bop o a b st = .ok v st') (p : Post X.K kt ca io st H v st' Q) :
    oSem X (binaryOp (opOf o)) x y H Q := by
  unfold bop at e
  split at e
  · cases e
    obtain rfl := ra.iint
    obtain rfl := rb.iint
    exact oSem.of op_add ⟨_, _, rfl, rfl, p.here R (.int _)⟩
  · split at e
    · rename_i hf
      cases e
      obtain rfl := ra.istr
      obtain rfl := rb.istr
      exact oSem.of op_add_str ⟨_, _, rfl, rfl, fits_le hf, p.here R (.str _)⟩
    · cases e
  · split at e
    · rename_i hf
      cases e
      obtain ⟨a1, ys, rfl, s1, r1⟩ := ra.itup
      obtain ⟨a2, zs, rfl, s2, r2⟩ := rb.itup
      refine oSem.of op_catA ⟨_, _, ys, zs, rfl, rfl, s1.sqT, s2.sqT, by rw [← r1.length, ← r2.length]; exact fits_le hf, fun h => ?_, fun _ h => ?_, fun _ _ q hq => p.tup R (r1.append r2) q hq⟩
      · subst h
        cases r1
        exact p.here R (.tup s2 r2)
      · subst h
        cases r2
        rw [List.append_nil] at p
        exact p.here R (.tup s1 r1)
    · cases e
  · split at e
    · rename_i xs ys e1 e2
      split at e
      · cases e
      · rename_i hro
        split at e
        · rename_i hf
          cases e
          obtain ⟨rfl, _⟩ := ra.iref
          obtain ⟨rfl, _⟩ := rb.iref
          obtain ⟨us, s1, r1, h1⟩ := R.list e1
          obtain ⟨ws, s2, r2, h2⟩ := R.list e2
          simp only [Bool.or_eq_true, not_or, Bool.not_eq_true] at hro
          exact oSem.of op_cat ⟨_, _, us, ws, rfl, rfl, h1 hro.1, h2 hro.2, by rw [← r1.length, ← r2.length]; exact fits_le hf, fun q hq => p.list R (r1.append r2) q hq⟩
        · cases e
    · cases e
  · cases e
    obtain rfl := ra.iint
    obtain rfl := rb.iint
    exact oSem.of op_sub ⟨_, _, rfl, rfl, p.here R (.int _)⟩
  · split at e
    · rename_i hm
      cases e
      obtain rfl := ra.iint
      obtain rfl := rb.iint
      refine oSem.of op_mul ⟨_, _, rfl, rfl, ?_, p.here R (.int _)⟩
      unfold mulOk at hm
      simp only [Bool.or_eq_true, Bool.and_eq_true, decide_eq_true_eq] at hm
      exact hm
    · cases e
  · split at e
    · rename_i xs e1
      split at e
      · rename_i hm
        cases e
        obtain ⟨rfl, _⟩ := ra.iref
        obtain rfl := rb.iint
        obtain ⟨us, s1, r1, h1⟩ := R.list e1
        unfold repOk at hm
        simp only [Bool.and_eq_true, decide_eq_true_eq, Bool.not_eq_true'] at hm
        obtain ⟨hro, ⟨h2, h3⟩, h4⟩ := hm
        exact oSem.of op_rep ⟨_, _, us, rfl, rfl, h1 hro, h2, h3, by rw [← r1.length]; exact fits_le h4, fun q hq => p.list R (r1.rep _) q hq⟩
      · cases e
    · cases e
  · split at e
    · rename_i hm
      cases e
      obtain ⟨a1, ys, rfl, s1, r1⟩ := ra.itup
      obtain rfl := rb.iint
      obtain ⟨h1, h2, h3, h4⟩ := hm
      refine oSem.of op_repT ⟨_, _, ys, rfl, rfl, s1.sqT, fun z => ?_, h2, h3, by rw [← r1.length]; exact h4, fun q hq => p.tup R (r1.rep _) q hq⟩
      subst z
      cases r1
      exact h1 rfl
    · cases e
  · split at e
    · rename_i hm
      cases e
      obtain rfl := ra.iint
      obtain rfl := rb.iint
      exact oSem.of op_fdivL ⟨_, _, rfl, rfl, hm, p.here R (.int _)⟩
    · cases e
  · split at e
    · rename_i hm
      cases e
      obtain rfl := ra.iint
      obtain rfl := rb.iint
      exact oSem.of op_modN ⟨_, _, rfl, rfl, hm, p.here R (.int _)⟩
    · cases e
  · split at e
    · rename_i hm
      cases e
      obtain rfl := ra.iint
      obtain rfl := rb.iint
      exact oSem.of op_pow ⟨_, _, rfl, rfl, hm, p.here R (.int _)⟩
    · cases e
  · cases e

/-! ### == != -/
theorem allO_cons {α : Type} {x : Option α} {r : List (Option α)} {ys : List α} (h : allO (x :: r) = some ys) : ∃ y zs, x = some y ∧ allO r = some zs ∧ ys = y :: zs := by
  cases x with
  | none => cases h
  | some y =>
    unfold allO at h
    split at h
    · rename_i zs e; cases h; exact ⟨y, zs, rfl, e, rfl⟩
    · cases h
theorem dats_dp {K : PySem.W.Frag} {k : Nat} (ih : ∀ v d w, dat st k v = some d → RV K kt io st.n H v w → Dp K H w d) :
    ∀ (xs : List Val) (ds : List PyData) (ws : List V), allO (xs.map (dat st k)) = some ds → RVs K kt io st.n H xs ws → DpAll K H ws ds
  | [], ds, ws, h, r => by cases r; cases h; exact .nil
  | x :: xs, ds, ws, h, r => by
    cases r with
    | cons a b =>
      obtain ⟨y, zs, e1, e2, rfl⟩ := allO_cons h
      exact .cons (ih _ _ _ e1 a) (dats_dp ih xs zs _ e2 b)
theorem dat_dp {K : PySem.W.Frag} (R : Rl K kt ca io st H) : ∀ (k : Nat) (v : Val) (d : PyData) (w : V), dat st k v = some d → RV K kt io st.n H v w → Dp K H w d
  | 0, _, _, _, h, _ => by cases h
  | k + 1, v, d, w, h, r => by
    have ih := dat_dp R k
    cases r with
    | non => cases h; exact .non
    | bl b => cases h; exact .bl b
    | int i => cases h; exact .int i
    | str x => cases h; exact .str x
    | @tup xs _ _ s q =>
      unfold dat at h
      simp only at h
      cases e : allO (List.map (dat st k) xs) with
      | none => rw [e] at h; cases h
      | some ds =>
        rw [e] at h; cases h
        exact .tup s.sqT (dats_dp ih _ _ _ e q)
    | @ref i hi =>
      unfold dat at h
      simp only at h
      split at h
      · rename_i xs em
        obtain ⟨ys, sl, q, _⟩ := R.list em
        cases e : allO (List.map (dat st k) xs) with
        | none => rw [e] at h; cases h
        | some ds =>
          rw [e] at h; cases h
          exact .lst sl (dats_dp ih _ _ _ e q)
      · cases h
theorem eq_ok {a b : Val} {x y : V} {k : Bool} {Q : VK} (hu : X.A.units + 64 < cLine) (R : Rl X.K kt ca io st H) (ra : RV X.K kt io st.n H a x) (rb : RV X.K kt io st.n H b y) (e : eqV st a b = some k) (q : Q (.bl k) H) : oSem X (compareOp .Eq) x y H Q := by
  unfold eqV at e
  split at e
  · rename_i b0 e0
    cases e
    cases ra <;> cases rb <;> simp only [eq0, Option.some.injEq, reduceCtorEq] at e0 <;> subst e0
    · exact oSem.of op_eq ⟨rfl, q⟩
    · exact oSem.of op_eq ⟨rfl, q⟩
    · exact oSem.of op_eq ⟨rfl, q⟩
    · exact oSem.of op_eq ⟨rfl, q⟩
    · exact oSem.of op_eq ⟨rfl, q⟩
    · exact oSem.of op_eq ⟨rfl, by rw [dec_bl]; exact q⟩
    · exact oSem.of (op_eqD hu) ⟨_, _, .bl _, .int _, rfl, rfl, q⟩
    · exact oSem.of op_eq ⟨rfl, q⟩
    · exact oSem.of op_eq ⟨rfl, q⟩
    · exact oSem.of (op_eqD hu) ⟨_, _, .int _, .bl _, rfl, rfl, q⟩
    · exact oSem.of op_eq ⟨rfl, by rw [dec_int, Bool.beq_eq_decide_eq]; exact q⟩
    · exact oSem.of op_eq ⟨rfl, q⟩
    · exact oSem.of op_eq ⟨rfl, q⟩
    · exact oSem.of op_eq ⟨rfl, q⟩
    · exact oSem.of op_eq ⟨rfl, q⟩
    · exact oSem.of op_eq ⟨rfl, by rw [dec_str, Bool.beq_eq_decide_eq]; exact q⟩
  · split at e
    · rename_i d1 d2 e1 e2
      split at e
      · rename_i hs
        cases e
        rw [Bool.and_eq_true] at hs
        exact oSem.of (op_eqD hu) ⟨_, _, dat_dp R _ _ _ _ e1 ra, dat_dp R _ _ _ _ e2 rb, hs.1, hs.2, q⟩
      · cases e
    · cases e
theorem ne_ok {a b : Val} {x y : V} {k : Bool} {Q : VK} (hu : X.A.units + 64 < cLine) (R : Rl X.K kt ca io st H) (ra : RV X.K kt io st.n H a x) (rb : RV X.K kt io st.n H b y) (e : eqV st a b = some k) (q : Q (.bl (!k)) H) : oSem X (compareOp .NotEq) x y H Q := by
  unfold eqV at e
  split at e
  · rename_i b0 e0
    cases e
    cases ra <;> cases rb <;> simp only [eq0, Option.some.injEq, reduceCtorEq] at e0 <;> subst e0
    · exact oSem.of op_ne ⟨rfl, q⟩
    · exact oSem.of op_ne ⟨rfl, q⟩
    · exact oSem.of op_ne ⟨rfl, q⟩
    · exact oSem.of op_ne ⟨rfl, q⟩
    · exact oSem.of op_ne ⟨rfl, q⟩
    · exact oSem.of op_ne ⟨rfl, by rw [dec_bl]; exact q⟩
    · exact oSem.of (op_neD hu) ⟨_, _, .bl _, .int _, rfl, rfl, q⟩
    · exact oSem.of op_ne ⟨rfl, q⟩
    · exact oSem.of op_ne ⟨rfl, q⟩
    · exact oSem.of (op_neD hu) ⟨_, _, .int _, .bl _, rfl, rfl, q⟩
    · exact oSem.of op_ne ⟨rfl, by rw [dec_int, Bool.beq_eq_decide_eq]; exact q⟩
    · exact oSem.of op_ne ⟨rfl, q⟩
    · exact oSem.of op_ne ⟨rfl, q⟩
    · exact oSem.of op_ne ⟨rfl, q⟩
    · exact oSem.of op_ne ⟨rfl, q⟩
    · exact oSem.of op_ne ⟨rfl, by rw [dec_str, Bool.beq_eq_decide_eq]; exact q⟩
  · split at e
    · rename_i d1 d2 e1 e2
      split at e
      · rename_i hs
        cases e
        rw [Bool.and_eq_true] at hs
        exact oSem.of (op_neD hu) ⟨_, _, dat_dp R _ _ _ _ e1 ra, dat_dp R _ _ _ _ e2 rb, hs.1, hs.2, q⟩
      · cases e
    · cases e

/-! ### in, < -/
theorem scalar_flat {K : PySem.W.Frag} {n : Nat} {a : Val} {x : V} (r : RV K kt io n H a x) (h : scalar a = true) : flatV x = true := by
  cases r <;> first | rfl | cases h
theorem scalars_flat {K : PySem.W.Frag} {n : Nat} : ∀ {xs : List Val} {ys : List V}, RVs K kt io n H xs ys → xs.all scalar = true → ys.all flatV = true
  | _, _, .nil, _ => rfl
  | _, _, .cons a b, h => by
    rw [List.all_cons, Bool.and_eq_true] at h ⊢
    exact ⟨scalar_flat a h.1, scalars_flat b h.2⟩
theorem eqF_eqV {K : PySem.W.Frag} {n : Nat} {a b : Val} {x y : V} (ra : RV K kt io n H a x) (rb : RV K kt io n H b y) (h : scalar a = true) (h' : scalar b = true) : L2.eqV x y = eqF a b := by
  cases ra <;> first | (cases h; done) | (cases rb <;> first | (cases h'; done) | rfl)
theorem any_eqF {K : PySem.W.Frag} {n : Nat} {a : Val} {x : V} (ra : RV K kt io n H a x) (h : scalar a = true) : ∀ {xs : List Val} {ys : List V}, RVs K kt io n H xs ys → xs.all scalar = true → (ys.any fun y => L2.eqV y x) = xs.any fun y => eqF y a
  | _, _, .nil, _ => rfl
  | _, _, .cons r t, q => by
    rw [List.all_cons, Bool.and_eq_true] at q
    rw [List.any_cons, List.any_cons, eqF_eqV r ra q.1 h, any_eqF ra h t q.2]
theorem in_flat {K : PySem.W.Frag} {n : Nat} {a : Val} {x : V} {xs : List Val} {ys : List V} {k : Bool} (ra : RV K kt io n H a x) (r : RVs K kt io n H xs ys) (e : inFlat a xs = some k) :
    flatV x = true ∧ ys.all flatV = true ∧ L2.inV x ys = k := by
  unfold inFlat at e
  split at e
  · rename_i h
    cases e
    rw [Bool.and_eq_true] at h
    exact ⟨scalar_flat ra h.1, scalars_flat r h.2, any_eqF ra h.1 r h.2⟩
  · cases e
theorem key1_kV {K : PySem.W.Frag} {n : Nat} {a : Val} {x : V} {k : Key} (ra : RV K kt io n H a x) (e : key1 a = some k) : x = kV k := by
  cases ra <;> cases e <;> rfl
theorem keys_kV {K : PySem.W.Frag} {n : Nat} : ∀ {xs : List Val} {ys : List V} {ks : List Key}, RVs K kt io n H xs ys → allO (xs.map key1) = some ks → ys = ks.map kV
  | _, _, _, .nil, e => by cases e; rfl
  | _, _, _, .cons r t, e => by
    obtain ⟨k, ks, e1, e2, rfl⟩ := allO_cons e
    rw [List.map_cons, ← key1_kV r e1, ← keys_kV t e2]
/-- what a store's and a heap's dict say of a key -/
def RVo (K : PySem.W.Frag) (kt : List (List Val)) (io : Nat → Addr) (n : Nat) (H : Hp) : Option Val → Option V → Prop
  | none, none => True
  | some v, some w => RV K kt io n H v w
  | _, _ => False
theorem look_o {κ : Type} [DecidableEq κ] {K : PySem.W.Frag} {n : Nat} {vs : List (κ × Val)} {ws : List (κ × V)} (q : RKs K kt io n H vs ws) (k : κ) : RVo K kt io n H (look vs k) (valV ws k) := by
  rcases q.look k with ⟨e1, e2⟩ | ⟨v, w, e1, e2, r⟩
  · rw [e1, e2]; exact trivial
  · rw [e1, e2]; exact r
theorem keyT_ok {K : PySem.W.Frag} {n : Nat} {a : Val} {x : V} {ks : List Key} (ra : RV K kt io n H a x) (e : keyT kt a = some ks) : ∃ b, x = .ref b ∧ H b = some (.tup (ks.map kV)) := by
  unfold keyT at e
  split at e
  · split at e
    · cases e
    · rename_i hn
      obtain ⟨b, ys, rfl, s, rs⟩ := ra.itup
      have := keys_kV rs e
      subst this
      rcases s with s | ⟨s, _⟩
      · exact ⟨b, rfl, s⟩
      · exact absurd s hn
  · cases e
theorem dget_ok {K : PySem.W.Frag} {o : Option Ob} {i : Nat} {k : Val} {x : V} {r : Option Val} (R : Rl K kt ca io st H) (ei : st.m i = o) (rk : RV K kt io st.n H k x) (e : dget kt o k = some r) :
    ∃ rw, DGet H (io i) x rw ∧ RVo K kt io st.n H r rw := by
  unfold dget at e
  split at e
  · split at e
    · rename_i kvs k' e1
      cases e
      obtain ⟨kws, h, q, _⟩ := R.dictK ei
      exact ⟨_, .inl ⟨kws, k', h, key1_kV rk e1, rfl⟩, look_o q k'⟩
    · cases e
  · split at e
    · rename_i kvs ks e1
      cases e
      obtain ⟨kws, h, q, _⟩ := R.dictT ei
      obtain ⟨b, rfl, hb⟩ := keyT_ok rk e1
      exact ⟨_, .inr ⟨kws, ks, b, h, rfl, hb, rfl⟩, look_o q ks⟩
    · cases e
  · cases e
theorem RVo.isSome {K : PySem.W.Frag} {n : Nat} {r : Option Val} {w : Option V} (h : RVo K kt io n H r w) : w.isSome = r.isSome := by
  cases r <;> cases w <;> first | rfl | cases h
theorem din_ok {k : Val} {x : V} {i : Nat} {o : Option Ob} {r : Option Val} {neg : Bool} {Q : VK} (hu : X.A.units + 1 < cLine) (R : Rl X.K kt ca io st H) (ei : st.m i = o) (rk : RV X.K kt io st.n H k x) (e : dget kt o k = some r) (q : Q (.bl (if neg then !r.isSome else r.isSome)) H) :
    oSem X (compareOp (if neg then .NotIn else .In)) x (.ref (io i)) H Q := by
  obtain ⟨rw', g, rr⟩ := dget_ok R ei rk e
  intro pins s σ v u I rx ry
  cases ry
  cases neg with
  | false => exact d_in hu I g rx fun s' I' => ⟨.bl rw'.isSome, H, I', rfl, by rw [rr.isSome]; exact q⟩
  | true => exact d_notIn hu I g rx fun s' I' => ⟨.bl (!rw'.isSome), H, I', rfl, by rw [rr.isSome]; exact q⟩
theorem in_ok {a b : Val} {x y : V} {k : Bool} {Q : VK} (hu : X.A.units + 65 < cLine) (R : Rl X.K kt ca io st H) (ra : RV X.K kt io st.n H a x) (rb : RV X.K kt io st.n H b y) (e : inV kt st a b = some k) :
    (Q (.bl k) H → oSem X (compareOp .In) x y H Q) ∧ (Q (.bl (!k)) H → oSem X (compareOp .NotIn) x y H Q) := by
  unfold inV at e
  split at e
  · obtain ⟨b1, ys, rfl, s, rs⟩ := rb.itup
    obtain ⟨f1, f2, rfl⟩ := in_flat ra rs e
    exact ⟨fun q => oSem.of op_in_seq ⟨_, ys, rfl, .inr s.sqT, f1, f2, q⟩, fun q => oSem.of op_notIn_seq ⟨_, ys, rfl, .inr s.sqT, f1, f2, q⟩⟩
  · split at e
    · cases e
      obtain rfl := ra.istr
      obtain rfl := rb.istr
      exact ⟨fun q => oSem.of op_in_str ⟨_, _, rfl, rfl, q⟩, fun q => oSem.of op_notin_str ⟨_, _, rfl, rfl, q⟩⟩
    · cases e
  · obtain ⟨rfl, hi⟩ := rb.iref
    split at e
    · rename_i ys em
      obtain ⟨ws, sl, rs, _⟩ := R.list em
      split at e
      · rename_i bb eb
        cases e
        obtain ⟨f1, f2, rfl⟩ := in_flat ra rs eb
        exact ⟨fun q => oSem.of op_in_seq ⟨_, ws, rfl, .inl sl, f1, f2, q⟩, fun q => oSem.of op_notIn_seq ⟨_, ws, rfl, .inl sl, f1, f2, q⟩⟩
      · split at e
        · rename_i d ds e1 e2
          split at e
          · rename_i hs
            cases e
            rw [Bool.and_eq_true] at hs
            exact ⟨fun q => oSem.of (op_inD hu) ⟨_, _, dat_dp R _ _ _ _ e1 ra, dat_dp R _ _ _ _ e2 rb, hs.1, hs.2, q⟩, fun q => oSem.of (op_notInD hu) ⟨_, _, dat_dp R _ _ _ _ e1 ra, dat_dp R _ _ _ _ e2 rb, hs.1, hs.2, q⟩⟩
          · cases e
        · cases e
    · rename_i kvs em
      cases e1 : dget kt (some (.dK kvs)) a with
      | none => rw [e1] at e; cases e
      | some r =>
        rw [e1] at e; cases e
        exact ⟨fun q => din_ok (neg := false) (by omega) R em ra e1 q, fun q => din_ok (neg := true) (by omega) R em ra e1 q⟩
    · rename_i kvs em
      cases e1 : dget kt (some (.dT kvs)) a with
      | none => rw [e1] at e; cases e
      | some r =>
        rw [e1] at e; cases e
        exact ⟨fun q => din_ok (neg := false) (by omega) R em ra e1 q, fun q => din_ok (neg := true) (by omega) R em ra e1 q⟩
    · cases e
  · cases e
def copOf : Cop → CmpOp
  | .eq => .Eq | .ne => .NotEq | .lt => .Lt | .le => .LtE | .gt => .Gt | .ge => .GtE | .has => .In | .hasnt => .NotIn
theorem okB_inv {o : Option Bool} {v : Val} (h : okB o st = .ok v st') : ∃ k, o = some k ∧ v = .bl k ∧ st' = st := by
  cases o with
  | none => cases h
  | some k => cases h; exact ⟨k, rfl, rfl, rfl⟩
theorem notO_inv {o : Option Bool} {k : Bool} (h : notO o = some k) : ∃ j, o = some j ∧ k = !j := by
  cases o with
  | none => cases h
  | some j => cases h; exact ⟨j, rfl, rfl⟩
theorem cop_ok {o : Cop} {a b v : Val} {x y : V} {Q : VK} (hu : X.A.units + 65 < cLine) (R : Rl X.K kt ca io st H) (ra : RV X.K kt io st.n H a x) (rb : RV X.K kt io st.n H b y) (e : cop kt o a b st = .ok v st') (p : Post X.K kt ca io st H v st' Q) :
    oSem X (compareOp (copOf o)) x y H Q := by
  unfold cop at e
  split at e
  · obtain ⟨k, e1, rfl, rfl⟩ := okB_inv e
    exact eq_ok (by omega) R ra rb e1 (p.here R (.bl _))
  · obtain ⟨k, e1, rfl, rfl⟩ := okB_inv e
    obtain ⟨j, e2, rfl⟩ := notO_inv e1
    exact ne_ok (by omega) R ra rb e2 (p.here R (.bl _))
  · obtain ⟨k, e1, rfl, rfl⟩ := okB_inv e
    exact (in_ok hu R ra rb e1).1 (p.here R (.bl _))
  · obtain ⟨k, e1, rfl, rfl⟩ := okB_inv e
    obtain ⟨j, e2, rfl⟩ := notO_inv e1
    exact (in_ok hu R ra rb e2).2 (p.here R (.bl _))
  · split at e
    · cases e; obtain rfl := ra.iint; obtain rfl := rb.iint
      exact oSem.of op_lt ⟨_, _, rfl, rfl, p.here R (.bl _)⟩
    · cases e
  · split at e
    · cases e; obtain rfl := ra.iint; obtain rfl := rb.iint
      exact oSem.of op_le ⟨_, _, rfl, rfl, p.here R (.bl _)⟩
    · cases e
  · split at e
    · cases e; obtain rfl := ra.iint; obtain rfl := rb.iint
      exact oSem.of op_gt ⟨_, _, rfl, rfl, p.here R (.bl _)⟩
    · cases e
  · split at e
    · cases e; obtain rfl := ra.iint; obtain rfl := rb.iint
      exact oSem.of op_ge ⟨_, _, rfl, rfl, p.here R (.bl _)⟩
    · cases e
end
end CL

/-! CL, part d: subscripts, cuts, stores, built-ins -/
namespace CL
open PySem PySem.Spec PyProof.Rows L2
section
variable {X : Cx} {kt : List (List Val)} {ca io : Nat → Addr} {st st' : Store} {H : Hp}

/-! ### a[i] -/
/-- what a plain subscript of values must do -/
def iSem (X : Cx) : R2 := fun x y H Q => ∀ (value slice : Expr) (pins : List (Addr × Obj)) (s : Shared) (σ : L2.St) (v u : Value), Inv X pins σ H s → RelV x v → RelV y u →
    subscripted slice false v u = operate [v, u] (getItem v u) → wpAny (model X.prog X.w) X.A (subscriptTail value slice v u) (EP X pins σ Q) X.xe s
theorem ix_sem : IxR X (iSem X) := fun value slice pins s σ H x y v u Q I rx ry h hs => h value slice pins s σ v u I rx ry hs
theorem iSem.of {r : R2} (ho : IxR X r) {x y : V} {H : Hp} {Q : VK} (h : r x y H Q) : iSem X x y H Q := fun value slice pins s σ v u I rx ry hs => ho value slice pins s σ H x y v u Q I rx ry h hs
def rDGet : R2 := fun x y H Q => ∃ a v, x = .ref a ∧ DGet H a y (some v) ∧ Q v H
theorem ix_dict (hu : X.A.units + 1 < cLine) : IxR X rDGet := by
  intro value slice pins s σ H x y v u Q I rx ry h hs
  obtain ⟨a, w, rfl, g, q⟩ := h
  cases rx
  exact tail_any (dict_typeIs I g) PySem.F.slot_dict_getitem.lookup (d_getItem hu I g ry fun w' s' I' r => ⟨w, H, I', r, q⟩) hs
theorem sub_ok {a b v : Val} {x y : V} {Q : VK} (hu : X.A.units + 65 < cLine) (R : Rl X.K kt ca io st H) (ra : RV X.K kt io st.n H a x) (rb : RV X.K kt io st.n H b y) (e : subV kt a b st = .ok v st') (p : Post X.K kt ca io st H v st' Q) :
    iSem X x y H Q := by
  unfold subV at e
  split at e
  · split at e
    · split at e
      · rename_i w e1
        cases e
        obtain ⟨a1, ys, rfl, s, rs⟩ := ra.itup
        obtain rfl := rb.iint
        obtain ⟨z, e2, rz⟩ := rs.atI e1
        exact iSem.of ix_tup ⟨_, ys, _, z, rfl, rfl, s.sqT, e2, p.here R rz⟩
      · cases e
    · cases e
  · split at e
    · split at e
      · rename_i hf
        split at e
        · rename_i c e1
          cases e
          obtain rfl := ra.istr
          obtain rfl := rb.iint
          exact iSem.of ix_str ⟨_, _, c, rfl, rfl, fits_le hf, e1, p.here R (.str _)⟩
        · cases e
      · cases e
    · cases e
  · obtain ⟨rfl, hi⟩ := ra.iref
    split at e
    · rename_i xs em
      split at e
      · split at e
        · rename_i w e1
          cases e
          obtain rfl := rb.iint
          obtain ⟨ys, sl, rs, _⟩ := R.list em
          obtain ⟨z, e2, rz⟩ := rs.atI e1
          exact iSem.of ix_list ⟨_, ys, _, z, rfl, rfl, sl, e2, p.here R rz⟩
        · cases e
      · cases e
    · split at e
      · rename_i w e1
        cases e
        obtain ⟨rw', g, rr⟩ := dget_ok R rfl rb e1
        cases rw' with
        | none => cases rr
        | some z => exact iSem.of (ix_dict (by omega)) ⟨_, z, rfl, g, p.here R rr⟩
      · cases e
  · cases e

/-! ### a[lo:hi] -/
def sSem (X : Cx) : V → Option Int → Option Int → Hp → VK → Prop := fun x lo hi H Q => ∀ (pins : List (Addr × Obj)) (s : Shared) (σ : L2.St) (v vl vu : Value) (sl : Addr), Inv X pins σ H s → RelV x v → s.heap.IsSliceOf sl vl vu .none → IsPart vl lo → IsPart vu hi →
    ∃ T id, typeLookup (.type T) "__getitem__" = pure (some (.builtin id)) ∧ s.TypeIs v T ∧ wpAny (model X.prog X.w) X.A (getItem v (.ref sl)) (EP X pins σ Q) X.xe s
theorem sl_sem : SlR X (sSem X) := fun pins s σ H x v vl vu lo hi sl Q I rx hs pl pu h => h pins s σ v vl vu sl I rx hs pl pu
theorem sSem.of {r : V → Option Int → Option Int → Hp → VK → Prop} (ho : SlR X r) {x : V} {lo hi : Option Int} {H : Hp} {Q : VK} (h : r x lo hi H Q) : sSem X x lo hi H Q := fun pins s σ v vl vu sl I rx hs pl pu => ho pins s σ H x v vl vu lo hi sl Q I rx hs pl pu h
theorem cutL_all {α : Type} {xs : List α} {lo hi : Option Int} (h : HT.sIx xs.length 0 lo = 0 ∧ HT.sIx xs.length xs.length hi = xs.length) : cutL xs lo hi = xs := by
  unfold cutL
  rw [h.1, h.2]; simp
theorem cut_ok {a v : Val} {l h : Option Val} {lo hi : Option Int} {x : V} {Q : VK} (R : Rl X.K kt ca io st H) (ra : RV X.K kt io st.n H a x) (el : part l = some lo) (eh : part h = some hi) (e : cutV a l h st = .ok v st') (p : Post X.K kt ca io st H v st' Q) :
    sSem X x lo hi H Q := by
  unfold cutV at e
  rw [el, eh] at e
  simp only at e
  split at e
  · cases e
    obtain ⟨a1, ys, rfl, s, rs⟩ := ra.itup
    refine sSem.of sl_tupA ⟨_, ys, rfl, s.sqT, fun z => ?_, fun _ q hq => p.tup R (rs.cut lo hi) q hq⟩
    rw [← rs.length] at z
    rw [cutL_all z] at p
    exact p.here R (.tup s rs)
  · split at e
    · rename_i hf
      cases e
      obtain rfl := ra.istr
      exact sSem.of sl_str ⟨_, rfl, fits_le hf, p.here R (.str _)⟩
    · cases e
  · split at e
    · rename_i xs em
      cases e
      obtain ⟨rfl, hi'⟩ := ra.iref
      obtain ⟨ys, sl, rs, _⟩ := R.list em
      exact sSem.of sl_list ⟨_, ys, rfl, sl, fun q hq => p.list R (rs.cut lo hi) q hq⟩
    · cases e
  · cases e

/-! ### o[i] = v -/
theorem Inv.toT {pins : List (Addr × Obj)} {σ : L2.St} {H : Hp} {s : Shared} {a : Addr} (I : L2.Inv X pins σ H s) (h : H a = some (.dK [])) : L2.Inv X pins σ (upd H a (.dT [])) s := by
  obtain ⟨z, hd, vs, r, o, es, ep, ho, ex, ed, kk, pp, nd⟩ := (show ObjOk X.prog X.w H s.heap a (.dK []) from I.hok a _ h)
  cases r
  have ee : es.toList = [] := by
    generalize es.toList = l at pp
    cases pp; rfl
  refine I.write (x := a) (e := a) (o := .dT []) (h' := s.heap) (t' := s.toks) (by rw [h]; exact trivial) (.inl rfl) (fun b u _ q => q) ⟨o, ho⟩ ?_
  exact ⟨z, hd, [], .nil, o, es, ep, ho, ex, ed, by rw [ee]; rfl, by simp⟩
theorem put_ok {a b c v : Val} {x y z : V} {Q : Hp → Prop} (hu : X.A.units + 65 < cLine) (R : Rl X.K kt ca io st H) (ra : RV X.K kt io st.n H a x) (rb : RV X.K kt io st.n H b y) (rc : RV X.K kt io st.n H c z) (e : putV kt a b c st = .ok v st')
    (p : ∀ H', Up io st.n H io st'.n H' → Rl X.K kt ca io st' H' → Q H') : gSem X x y z H Q := by
  unfold putV at e
  have wr_inv : ∀ {i : Nat} {o : Ob}, wr i o st = .ok v st' → st.ro i = false ∧ st' = st.set i o := fun {i o} h => by
    unfold wr at h
    split at h
    · cases h
    · rename_i hr; cases h; exact ⟨by simpa using hr, rfl⟩
  split at e
  · obtain ⟨rfl, hi⟩ := ra.iref
    split at e
    · rename_i xs em
      split at e
      · split at e
        · rename_i k j ej
          obtain ⟨hr, rfl⟩ := wr_inv e
          obtain rfl := rb.iint
          obtain ⟨ys, sl, rs, hl⟩ := R.list em
          refine gSem.of set_list ⟨_, ys, _, j, rfl, rfl, hl hr, by rw [← rs.length]; exact ej, ?_⟩
          have up := Up.wr (io := io) (st := st) (.lst (ys.set j z)) (hl hr) trivial
          exact p _ up (R.wr hi hr (.lst upd_same ((rs.set rc j).up up)))
        · cases e
      · cases e
    · rename_i kvs em
      split at e
      · rename_i k ek
        split at e
        · rename_i hz
          obtain ⟨hr, rfl⟩ := wr_inv e
          obtain rfl := key1_kV rb ek
          obtain ⟨kws, _, q, hl⟩ := R.dictK em
          refine gSem.of (set_dict (by omega)) ⟨_, _, rfl, .k (hl hr) (by rw [← q.length]; exact hz), ?_⟩
          have up := Up.wr (io := io) (st := st) (.dK (putK kws k z)) (hl hr) trivial
          exact p _ up (R.wr hi hr (.dK upd_same ((q.put k rc).up up)))
        · cases e
      · split at e
        · rename_i ks ek
          split at e
          · rename_i hz
            obtain ⟨hr, rfl⟩ := wr_inv e
            obtain ⟨b1, rfl, hb⟩ := keyT_ok rb ek
            obtain ⟨kws, _, q, hl⟩ := R.dictK em
            have hk : kws = [] := by
              have := q.empty
              rw [hz] at this
              cases kws with
              | nil => rfl
              | cons _ _ => cases this
            subst hk
            have h0 := hl hr
            intro pins s σ ov iv u I ro ri rv
            have I2 := Inv.toT I h0
            have hne : b1 ≠ io _ := ne_of hb h0 (fun z => by cases z)
            refine thn (set_dict (X := X) (by omega) pins s σ _ _ _ _ ov iv u Q I2 ro ri rv ⟨_, _, rfl, .t (kvs := []) (k := ks) upd_same ((upd_ne hne).trans hb) (by decide), ?_⟩) fun _ _ q => q
            rw [upd_upd]
            have up := Up.wr (io := io) (st := st) (.dT (putK [] ks z)) h0 trivial
            exact p _ up (R.wr hi hr (.dT upd_same (RKs.cons (rc.up up) .nil)))
          · cases e
        · cases e
    · rename_i kvs em
      split at e
      · rename_i ks ek
        split at e
        · rename_i hz
          obtain ⟨hr, rfl⟩ := wr_inv e
          obtain ⟨b1, rfl, hb⟩ := keyT_ok rb ek
          obtain ⟨kws, _, q, hl⟩ := R.dictT em
          refine gSem.of (set_dict (by omega)) ⟨_, _, rfl, .t (hl hr) hb (by rw [← q.length]; exact hz), ?_⟩
          have up := Up.wr (io := io) (st := st) (.dT (putK kws ks z)) (hl hr) trivial
          exact p _ up (R.wr hi hr (.dT upd_same ((q.put ks rc).up up)))
        · cases e
      · cases e
    · cases e
  · cases e

/-! ### truth -/
theorem tru_ok {a : Val} {x : V} {k : Bool} (R : Rl X.K kt ca io st H) (ra : RV X.K kt io st.n H a x) (e : tru st a = some k) : TruV X.K x H k := by
  cases ra with
  | non => cases e; rfl
  | bl b => cases e; rfl
  | int i => cases e; rfl
  | str z =>
    unfold tru at e
    simp only at e
    split at e
    · rename_i hf
      cases e
      refine ⟨fits_le hf, ?_⟩
      cases z.length <;> rfl
    · cases e
  | tup s r => cases e; exact .inr (.inl ⟨_, s.sqT, by rw [r.empty]⟩)
  | @ref i hi =>
    unfold tru at e
    simp only at e
    split at e
    · rename_i xs em
      cases e
      obtain ⟨ys, sl, rs, _⟩ := R.list em
      exact .inl ⟨ys, sl, by rw [rs.empty]⟩
    · rename_i kvs em
      split at e
      · cases e
      · rename_i hr
        cases e
        obtain ⟨kws, _, q, hl⟩ := R.dictK em
        exact .inr (.inr ⟨kws, hl (by simpa using hr), by rw [q.empty]⟩)
    · cases e

/-! ### built-in functions -/
def bfName : Bf → Str
  | .len => "len" | .abs => "abs" | .list => "list" | .tuple => "tuple" | .int => "int" | .any => "any" | .all => "all" | .min2 => "min" | .max2 => "max"
def bfVal : Bf → Value
  | .len => .builtin "len" | .abs => .builtin "abs" | .list => .type "list" | .tuple => .type "tuple" | .int => .type "int" | .any => .builtin "any" | .all => .builtin "all" | .min2 => .builtin "min" | .max2 => .builtin "max"
theorem bools_ok {K : PySem.W.Frag} {n : Nat} : ∀ {xs : List Val} {ys : List V} {bs : List Bool}, RVs K kt io n H xs ys → bools xs = some bs → ys = bs.map V.bl
  | _, _, _, .nil, e => by cases e; rfl
  | _, _, _, .cons r t, e => by
    cases r with
    | bl b =>
      unfold bools at e
      split at e
      · rename_i bs e1; cases e; rw [List.map_cons, ← bools_ok t e1]
      · cases e
    | _ => cases e
theorem bf_ok {b : Bf} {vs : List Val} {v : Val} {xs : List V} {Q : VK} (hc : X.calm = true) (R : Rl X.K kt ca io st H) (rv : RVs X.K kt io st.n H vs xs) (e : bfn b vs st = .ok v st') (p : Post X.K kt ca io st H v st' Q) :
    cSem X (bfVal b) xs H Q := by
  unfold bfn at e
  split at e
  · obtain ⟨w, rfl, r⟩ := rv.one
    obtain rfl := r.istr
    split at e
    · rename_i hf
      cases e
      exact cSem.of call_len_str ⟨_, rfl, fits_le hf, p.here R (.int _)⟩
    · cases e
  · obtain ⟨w, rfl, r⟩ := rv.one
    obtain ⟨a, ys, rfl, s, rs⟩ := r.itup
    cases e
    exact cSem.of call_len_seq ⟨_, ys, rfl, .inr s.sqT, by rw [← rs.length]; exact p.here R (.int _)⟩
  · obtain ⟨w, rfl, r⟩ := rv.one
    obtain ⟨rfl, hi⟩ := r.iref
    split at e
    · rename_i zs em
      cases e
      obtain ⟨ys, sl, rs, _⟩ := R.list em
      exact cSem.of call_len_seq ⟨_, ys, rfl, .inl sl, by rw [← rs.length]; exact p.here R (.int _)⟩
    · rename_i kvs em
      split at e
      · cases e
      · rename_i hr
        cases e
        obtain ⟨kws, _, q, hl⟩ := R.dictK em
        exact cSem.of call_lenD ⟨_, kws, rfl, hl (by simpa using hr), by rw [← q.length]; exact p.here R (.int _)⟩
    · cases e
  · obtain ⟨w, rfl, r⟩ := rv.one
    obtain rfl := r.iint
    cases e
    exact cSem.of call_abs ⟨_, rfl, p.here R (.int _)⟩
  · obtain ⟨w, rfl, r⟩ := rv.one
    obtain ⟨a, ys, rfl, s, rs⟩ := r.itup
    cases e
    exact cSem.of call_list_of ⟨_, ys, rfl, .inr s.sqT, fun q hq => p.list R rs q hq⟩
  · obtain ⟨w, rfl, r⟩ := rv.one
    obtain ⟨rfl, hi⟩ := r.iref
    split at e
    · rename_i zs em
      cases e
      obtain ⟨ys, sl, rs, _⟩ := R.list em
      exact cSem.of call_list_of ⟨_, ys, rfl, .inl sl, fun q hq => p.list R rs q hq⟩
    · cases e
  · obtain ⟨w, rfl, r⟩ := rv.one
    obtain ⟨a, ys, rfl, s, rs⟩ := r.itup
    cases e
    exact cSem.of call_tuple_of ⟨_, ys, rfl, .inr ⟨s.sqT, p.here R (.tup s rs)⟩⟩
  · obtain ⟨w, rfl, r⟩ := rv.one
    obtain ⟨rfl, hi⟩ := r.iref
    split at e
    · rename_i zs em
      cases e
      obtain ⟨ys, sl, rs, _⟩ := R.list em
      exact cSem.of call_tuple_of ⟨_, ys, rfl, .inl ⟨sl, fun q hq => p.tup R rs q hq⟩⟩
    · cases e
  · obtain ⟨w, rfl, r⟩ := rv.one
    obtain rfl := r.iint
    cases e
    exact cSem.of call_int1 (.inl ⟨_, rfl, p.here R (.int _)⟩)
  · obtain ⟨w, rfl, r⟩ := rv.one
    obtain rfl := r.ibl
    cases e
    exact cSem.of call_int1 (.inr ⟨_, rfl, p.here R (.int _)⟩)
  · obtain ⟨w, rfl, r⟩ := rv.one
    obtain ⟨rfl, hi⟩ := r.iref
    split at e
    · rename_i zs em
      split at e
      · rename_i bs eb
        cases e
        obtain ⟨ys, sl, rs, _⟩ := R.list em
        obtain rfl := bools_ok rs eb
        exact cSem.of (cr_any hc) ⟨_, bs, rfl, sl, p.here R (.bl _)⟩
      · cases e
    · cases e
  · obtain ⟨w, rfl, r⟩ := rv.one
    obtain ⟨rfl, hi⟩ := r.iref
    split at e
    · rename_i zs em
      split at e
      · rename_i bs eb
        cases e
        obtain ⟨ys, sl, rs, _⟩ := R.list em
        obtain rfl := bools_ok rs eb
        exact cSem.of (cr_all hc) ⟨_, bs, rfl, sl, p.here R (.bl _)⟩
      · cases e
    · cases e
  · obtain ⟨w, u, rfl, r1, r2⟩ := rv.two
    obtain rfl := r1.iint
    obtain rfl := r2.iint
    cases e
    exact cSem.of (call_min2 hc) ⟨_, _, rfl, p.here R (.int _)⟩
  · obtain ⟨w, u, rfl, r1, r2⟩ := rv.two
    obtain rfl := r1.iint
    obtain rfl := r2.iint
    cases e
    exact cSem.of (call_max2 hc) ⟨_, _, rfl, p.here R (.int _)⟩
  · cases e

/-! ### methods of lists -/
def bmName : Bm → Str
  | .append => "append" | .pop => "pop" | .count => "count" | .index => "index"
def bmId : Bm → String
  | .append => "list.append" | .pop => "list.pop" | .count => "list.count" | .index => "list.index"
/-- l.count(x) of data -/
def rCountD (K : PySem.W.Frag) : V → List V → Hp → VK → Prop := fun x xs H Q => ∃ (a : Addr) (y : V) (d : PyData) (ds : List PyData), x = V.ref a ∧ xs = [y] ∧ Dp K H (V.ref a) (.list ds) ∧ Dp K H y d ∧
  SeqAt.shaped (.list ds) = true ∧ SeqAt.shaped d = true ∧ Q (.int (ds.countP fun z => PyData.eqv z d : Nat)) H
theorem mt_countD (hu : X.A.units + 65 < cLine) : MtR X "list.count" (rCountD X.K) := by
  intro pins s σ H x xs v us Q I rx rxs h
  obtain ⟨a, y, d, ds, rfl, rfl, hl, hy, sl, sd, q⟩ := h
  cases rx
  cases rxs with
  | cons ry rt =>
    rename_i uy ut
    cases rt
    obtain ⟨bs, r1⟩ := Dp.reads I d y uy hy ry
    have hxs : PyData.canLayAll0 ds = true := SeqAt.canLay_of_shaped sl
    have hroom : X.A.units + 1 + min (PyData.depthAll ds) d.depth < cLine := room_in_shaped sd hu
    cases hl with
    | lst hs ha =>
      obtain ⟨its, rv, ⟨⟨cls, dd, data, sls⟩, n, ho, hc, hdn, hdt⟩, hlen⟩ := I.list hs
      simp only at hc hdt
      subst hc hdt
      obtain ⟨as, h4⟩ := Dp.readsAll I ds _ its ha rv
      have hmap : its.map (SeqAt.readOf s.heap) = ds := SeqAt.readsAll_map ds its as hxs h4
      refine call_meets PySem.F.slot_list_count ⟨_, ho, rfl⟩ PySem.F.entry_list_count (PySem.F.args_list_count_2 _ _)
        (SeqAt.list_countAt a its.toArray n dd sls uy (fun u => PyData.eqv (SeqAt.readOf s.heap u) d)) ⟨ho, SeqAt.items_eqAt (vs := its.toArray) (show ReadsAll s.heap its.toArray.toList ds as from h4) r1 hxs (SeqAt.canLay_of_shaped sd) hroom, ?_⟩
      refine ⟨.int (ds.countP fun z => PyData.eqv z d : Nat), H, I.tok _, ⟨s.toks, ?_⟩, q⟩
      show Value.int ((its.toArray.toList.countP (fun u => PyData.eqv (SeqAt.readOf s.heap u) d) : Nat) : Int) s.toks = Value.int ((ds.countP fun z => PyData.eqv z d : Nat) : Int) s.toks
      rw [← hmap, List.countP_map]
      rfl
theorem wr_inv {i : Nat} {o : Ob} {v : Val} (h : wr i o st = .ok v st') : st.ro i = false ∧ v = .non ∧ st' = st.set i o := by
  unfold wr at h
  split at h
  · cases h
  · rename_i hr; cases h; exact ⟨by simpa using hr, rfl, rfl⟩
theorem bm_ok (hu : X.A.units + 65 < cLine) {b : Bm} {a v : Val} {vs : List Val} {x : V} {xs : List V} {Q : VK} (R : Rl X.K kt ca io st H) (ra : RV X.K kt io st.n H a x) (rv : RVs X.K kt io st.n H vs xs) (e : bmt b a vs st = .ok v st') (p : Post X.K kt ca io st H v st' Q) :
    mSem X (bmId b) x xs H Q := by
  unfold bmt at e
  split at e
  · obtain ⟨rfl, hi⟩ := ra.iref
    split at e
    · rename_i em
      split at e
      · rename_i hz
        obtain ⟨hr, rfl, rfl⟩ := wr_inv e
        obtain ⟨w, rfl, r⟩ := rv.one
        obtain ⟨ys, sl, rs, hl⟩ := R.list em
        exact mSem.of mt_append ⟨_, ys, w, rfl, rfl, hl hr, by rw [← rs.length]; exact hz, p.wrote R hi hr fun up => ⟨.lst upd_same ((rs.append (.cons r .nil)).up up), .non⟩⟩
      · cases e
    · rename_i em
      split at e
      · rename_i u eu
        obtain ⟨z, t, e1, e2⟩ := bind_eq_ok.mp e
        obtain ⟨hr, rfl, rfl⟩ := wr_inv e1
        cases e2
        obtain ⟨ys, sl, rs, hl⟩ := R.list em
        cases rv
        rw [List.getLast?_eq_getElem?] at eu
        obtain ⟨w, ew, rw'⟩ := rs.get eu
        refine mSem.of mt_pop ⟨_, ys, w, rfl, rfl, hl hr, by rw [← rs.length]; exact ew, p.wrote R hi hr fun up => ⟨.lst upd_same (rs.dropLast.up up), rw'.up up⟩⟩
      · cases e
    · rename_i em
      split at e
      · rename_i d ds e1 e2
        split at e
        · rename_i hs
          rw [Bool.and_eq_true] at hs
          obtain ⟨w, rfl, r⟩ := rv.one
          cases e
          exact mSem.of (mt_countD hu) ⟨_, _, d, ds, rfl, rfl, dat_dp R _ _ _ _ e2 ra, dat_dp R _ _ _ _ e1 r, hs.2, hs.1, p.here R (.int _)⟩
        · cases e
      · cases e
    · rename_i em
      split at e
      · rename_i d ds e1 e2
        split at e
        · rename_i hs
          rw [Bool.and_eq_true] at hs
          obtain ⟨w, rfl, r⟩ := rv.one
          split at e
          · rename_i j ej
            cases e
            obtain ⟨hj, h1, h2⟩ := List.findIdx?_eq_some_iff_getElem.mp ej
            refine mSem.of (mt_indexD hu) ⟨_, _, d, ds, j, ds[j], rfl, rfl, dat_dp R _ _ _ _ e2 ra, dat_dp R _ _ _ _ e1 r, hs.2, hs.1, List.getElem?_eq_getElem hj, h1, fun m z' hm hz => ?_, p.here R (.int _)⟩
            obtain ⟨hm2, rfl⟩ := List.getElem?_eq_some_iff.mp hz
            simpa using h2 m hm
          · cases e
        · cases e
      · cases e
    · cases e
  · cases e

/-! ### isinstance -/
def tyName : Ty → String
  | .int => "int" | .bool => "bool" | .str => "str" | .list => "list" | .tuple => "tuple" | .dict => "dict" | .cls _ => ""
theorem kit_all (a : String) (t : Ty) (h : (match t with | .cls _ => False | _ => True)) (ha : a = "NoneType" ∨ a = "bool" ∨ a = "int" ∨ a = "str" ∨ a = "list" ∨ a = "tuple" ∨ a = "dict") :
    kitB a (tyName t) = some (a == tyName t || (a == "bool" && tyName t == "int")) := by
  cases t with
  | cls c => cases h
  | _ => rcases ha with rfl | rfl | rfl | rfl | rfl | rfl | rfl <;> decide +kernel
theorem isi_ok {a : Val} {x : V} {t : Ty} {k : Bool} {Q : VK} (R : Rl X.K kt ca io st H) (ra : RV X.K kt io st.n H a x) (ht : (match t with | .cls _ => False | _ => True)) (e : isT st a t = some k) (q : Q (.bl k) H) :
    cSem X (.builtin "isinstance") [x, .ty (tyName t)] H Q := by
  have go : ∀ (b : String), TyX X.K H x (.type b) → (b = "NoneType" ∨ b = "bool" ∨ b = "int" ∨ b = "str" ∨ b = "list" ∨ b = "tuple" ∨ b = "dict") → (b == tyName t || (b == "bool" && tyName t == "int")) = k → cSem X (.builtin "isinstance") [x, .ty (tyName t)] H Q :=
    fun b ty hb hk => cSem.of call_isi ⟨x, _, _, _, k, rfl, .ty _, ty, kit_ty (by rw [kit_all b t ht hb, hk]), q⟩
  cases ra with
  | non => cases e; exact go "NoneType" (.base .non) (by simp) (by cases t <;> first | exact False.elim ht | decide)
  | bl b => cases e; exact go "bool" (.base (.bl b)) (by simp) (by cases t <;> first | exact False.elim ht | decide)
  | int i => cases e; exact go "int" (.base (.int i)) (by simp) (by cases t <;> first | exact False.elim ht | decide)
  | str z => cases e; exact go "str" (.base (.str z)) (by simp) (by cases t <;> first | exact False.elim ht | decide)
  | tup s r =>
    cases e
    refine go "tuple" ?_ (by simp) (by cases t <;> first | exact False.elim ht | decide)
    rcases s with s | ⟨_, o, its, n, h1, h2, _⟩
    · exact .base (.tup s)
    · exact .kTuple h1 h2
  | @ref i hi =>
    unfold isT at e
    simp only at e
    split at e
    · rename_i xs em
      cases e
      refine go "list" ?_ (by simp) (by cases t <;> first | exact False.elim ht | decide)
      obtain ⟨_, r⟩ := R.at em
      generalize st.ro i = b at r
      cases r with
      | lst h _ => exact .base (.lst h)
      | lstR h _ =>
        rcases h with ⟨o, h⟩ | ⟨o, its, n, h1, h2, _⟩
        · exact .base (.frz h)
        · exact .kList h1 h2
    · rename_i xs em
      cases e
      refine go "dict" ?_ (by simp) (by cases t <;> first | exact False.elim ht | decide)
      obtain ⟨_, r⟩ := R.at em
      generalize st.ro i = b at r
      cases r with
      | dK h _ => exact .base (.dK h)
      | dKR h _ => exact .fDict h
    · rename_i xs em
      split at e
      · cases e
      · rename_i hr
        cases e
        refine go "dict" ?_ (by simp) (by cases t <;> first | exact False.elim ht | decide)
        obtain ⟨kws, _, _, hl⟩ := R.dictT em
        exact .base (.dT (hl (by simpa using hr)))
    · cases e
end
end CL

/-! CL, part e: the text against the row's text; what is known where a def runs -/
namespace CL
open PySem PySem.Spec PyProof.Rows L2

/-! ### forms -/
def nostar : Expr → Bool
  | .Starred _ _ => false
  | _ => true
def noslice : Expr → Bool
  | .Slice _ _ _ _ => false
  | _ => true
def noset : Expr → Bool
  | .Set _ _ _ => false
  | _ => true
def nolc : Expr → Bool
  | .ListComp _ _ _ _ => false
  | .SetComp _ _ _ _ => false
  | .DictComp _ _ _ _ _ => false
  | _ => true
/-- not a call without arguments (super() is one) -/
def nobare : Expr → Bool
  | .Call (.Name _ _) [] [] _ => false
  | _ => true
/-- a test that is its value's truth -/
def plainT : Expr → Bool
  | .UnaryOp .Not _ _ => false
  | .BoolOp _ _ _ => false
  | .IfExp _ _ _ _ => false
  | .Compare _ _ _ _ => false
  | _ => true
theorem star_cons {p : Expr} {ps : List Expr} {env : PySem.Env} (h : nostar p = true) : starEach (p :: ps) env = (false, eval p env) :: starEach ps env := by
  cases p <;> first | rfl | cases h
theorem star_map {pos : Pos} {env : PySem.Env} : ∀ {ps : List Expr}, ps.all nostar = true → backTo pos (starEach ps env) = starEach ps env ∧ (starEach ps env).any (·.1) = false ∧ (starEach ps env).all (fun x => !x.1) = true
  | [], _ => ⟨rfl, rfl, rfl⟩
  | p :: ps, h => by
    rw [List.all_cons, Bool.and_eq_true] at h
    obtain ⟨h1, h2, h3⟩ := star_map (pos := pos) (env := env) h.2
    rw [star_cons h.1]
    refine ⟨?_, ?_, ?_⟩
    · show (false, _) :: backTo pos (starEach ps env) = _
      rw [h1]; rfl
    · rw [List.any_cons, h2]; rfl
    · rw [List.all_cons, h3]; rfl
theorem star_any {pos : Pos} {env : PySem.Env} {ps : List Expr} (h : ps.all nostar = true) : (backTo pos (starEach ps env)).any (·.1) = false := by
  rw [(star_map h).1, (star_map (pos := pos) h).2.1]
theorem plain_ix {p : Expr} (h : noslice p = true) : PlainIx p := fun o i => by
  cases p <;> first | rfl | cases h
theorem folded {p : Expr} {env : PySem.Env} (h : noset p = true) : ∀ x, foldedSetIterable p env x = pure x := fun x => by
  cases p <;> first | rfl | cases h
theorem base_of {o : Expr} {f : Str} {env : PySem.Env} (h : nobare o = true) (whole : Sem Value) : attributeBase o f env whole = whole := by
  unfold attributeBase
  split
  · cases h
  · rfl
theorem swap_none {p : Expr} {t : Option Expr} {l : Nat} {env : PySem.Env} (h : nolc p = true) : swapsWith p t l env = pure false := by
  cases p <;> first | rfl | cases h
theorem swap_sub {p o i : Expr} {pos : Pos} {l : Nat} {env : PySem.Env} : swapsWith p (some (.Subscript o i pos)) l env = pure false := by
  cases p <;> rfl
theorem swap_att {p o : Expr} {f : Str} {pos : Pos} {l : Nat} {env : PySem.Env} : swapsWith p (some (.Attribute o f pos)) l env = pure false := by
  cases p <;> rfl
theorem plain_true {e : Expr} {env : PySem.Env} (h : plainT e = true) : ∀ whole, isTrue e env whole = (do let v ← whole; standAt e.pos; holding [v] (truthy v)) := fun whole => by
  cases e with
  | UnaryOp op x p => cases op <;> first | rfl | cases h
  | _ => first | rfl | cases h
theorem meth_eval {o : Expr} {m : Str} {apos pos : Pos} {es : List Expr} {env : PySem.Env} (hb : nobare o = true) (hs : es.all nostar = true) (hl : (apos.endLine == pos.line) = true) (hn : es.length < 30) :
    eval (.Call (.Attribute o m apos) es [] pos) env = (do
      let ov ← eval o env
      standAt apos.atName
      let (f, first) ← holding [ov] (getMethod ov m (do return (← importBound o env).getD true))
      callWith pos f first (backTo pos (starEach es env)) (backToKw pos (keywordEach [] env))) := by
  show (do let ov ← attributeBase o m env (eval o env); standAt apos.atName; methodCall o m apos pos env ov (es.length + ([] : List Keyword).length) (backTo pos (starEach es env)) (backToKw pos (keywordEach [] env))) = _
  rw [base_of hb]
  have hf : methodCallForm (es.length + ([] : List Keyword).length) (backTo pos (starEach es env)) (backToKw pos (keywordEach [] env)) = true := by
    unfold methodCallForm
    rw [(star_map hs).1, (star_map (pos := pos) hs).2.2]
    show (true && true && decide (es.length + 0 + 0 < 30)) = true
    simp; omega
  unfold methodCall
  rw [hf]
  have e1 : ∀ ov, calleeOf true o env ov m = getMethod ov m (do return (← importBound o env).getD true) := fun ov => rfl
  have e2 : methodCallPos true o env apos pos = pure pos := by
    unfold methodCallPos
    rw [hl]; rfl
  simp only [e1, e2, pure_bind]

/-! ### names -/
structure Nms where
  fn : Nat → Str
  isG : Nat → Bool
  cl : Nat → Str
  gl : Nat → Str
def visB (sc : Scope) (x : Str) : Bool := match sc.names.lookup x with
  | some .local => true
  | some .cell => true
  | some .free => true
  | _ => false
def locB (sc : Scope) (ow : Str → Bool) (x : Str) : Bool := match sc.names.lookup x with
  | some .local => true
  | some .cell => ow x
  | _ => false
def glB (sc : Scope) (x : Str) : Bool := match sc.names.lookup x with
  | some .globalImplicit => true
  | _ => false
def debB (x : Str) : Bool := !(x == ("__debug__" : Str)) && !(x == ("__classdict__" : Str))
theorem visB_ok {sc : Scope} {x : Str} (h : visB sc x = true) : Vis sc x := by
  unfold visB at h
  split at h <;> first | exact .inl (by assumption) | exact .inr (.inl (by assumption)) | exact .inr (.inr (by assumption)) | cases h
theorem locB_ok {sc : Scope} {ow : Str → Bool} {x : Str} (h : locB sc ow x = true) : Loc sc x ∧ (ow x = true ∨ sc.names.lookup x = some .local) := by
  unfold locB at h
  split at h
  · rename_i e; exact ⟨.inl e, .inr e⟩
  · rename_i e; exact ⟨.inr e, .inl h⟩
  · cases h
theorem glB_ok {sc : Scope} {x : Str} (h : glB sc x = true) : sc.names.lookup x = some .globalImplicit := by
  unfold glB at h
  split at h
  · assumption
  · cases h
theorem debB_ok {x : Str} (h : debB x = true) : (x == ("__debug__" : Str)) = false ∧ (x == ("__classdict__" : Str)) = false := by
  unfold debB at h
  simpa using h
/-- a name of slot i that is read, that is stored -/
def rdB (N : List Str) (sc : Scope) (i : Nat) (x : Str) : Bool := decide (N[i]? = some x) && visB sc x && debB x
def stB (N : List Str) (sc : Scope) (ow : Str → Bool) (i : Nat) (x : Str) : Bool := decide (N[i]? = some x) && locB sc ow x
def gB (sc : Scope) (x y : Str) : Bool := decide (x = y) && glB sc x && debB x
def namesB (N : List Str) (sc : Scope) (ow : Str → Bool) : List Nat → List Expr → Bool
  | [], [] => true
  | i :: is, .Name x _ :: r => stB N sc ow i x && namesB N sc ow is r
  | _, _ => false
def tgB (N : List Str) (sc : Scope) (ow : Str → Bool) : Tg → Expr → Bool
  | .one i, .Name x _ => stB N sc ow i x
  | .many is, .Tuple es _ _ => namesB N sc ow is es
  | _, _ => false
def tgOwn (N : List Str) : Tg → List (Str × Nat)
  | .one i => match N[i]? with
    | some x => [(x, i)]
    | none => []
  | .many is => is.filterMap fun i => match N[i]? with
    | some x => some (x, i)
    | none => none
def tupB : Expr → Bool
  | .Tuple _ _ _ => true
  | _ => false
def isCmp : E → Bool
  | .cmp _ _ _ => true
  | .cm2 _ _ _ _ _ => true
  | .isN _ => true
  | .noN _ => true
  | _ => false
def isYes : B → Bool
  | .yes => true
  | _ => false
def ifsB (f : Expr → Bool) (y : Bool) : List Expr → Bool
  | [] => y
  | [q] => f q
  | _ => false
def tyB : Ty → Bool
  | .cls _ => false
  | _ => true
mutual
def chE (T : Nms) (N : List Str) : E → Scope → Expr → Bool
  | .v i, sc, p => match p with
    | .Name x _ => rdB N sc i x
    | _ => false
  | .int i, _, p => match p with
    | .Constant (.int j) _ _ => decide (i = j)
    | _ => false
  | .str x, _, p => match p with
    | .Constant (.str y) _ _ => decide (x = y)
    | _ => false
  | .bl b, _, p => match p with
    | .Constant (.bool d) _ _ => b == d
    | _ => false
  | .non, _, p => match p with
    | .Constant .none _ _ => true
    | _ => false
  | .gl g, sc, p => match p with
    | .Name x _ => gB sc x (T.gl g)
    | _ => false
  | .tup es, sc, p => match p with
    | .Tuple ps _ _ => chEs T N es sc ps
    | _ => false
  | .lst es, sc, p => match p with
    | .List ps _ => chEs T N es sc ps
    | _ => false
  | .dic d, sc, p => match p with
    | .Dict ks vs _ => chPs T N d sc ks vs && decide (ks.length ≤ 15)
    | _ => false
  | .neg a, sc, p => match p with
    | .UnaryOp .USub q _ => chE T N a sc q
    | _ => false
  | .bin o a b, sc, p => match p with
    | .BinOp q o' r _ => decide (o' = opOf o) && chE T N a sc q && chE T N b sc r
    | _ => false
  | .cmp o a b, sc, p => match p with
    | .Compare q [o'] [r] _ => decide (o' = copOf o) && chE T N a sc q && chE T N b sc r && noset r
    | _ => false
  | .cm2 o o2 a b c, sc, p => match p with
    | .Compare q [o', o2'] [r, t] _ => decide (o' = copOf o) && decide (o2' = copOf o2) && chE T N a sc q && chE T N b sc r && chE T N c sc t && noset r && noset t
    | _ => false
  | .isN a, sc, p => match p with
    | .Compare q [.Is] [.Constant .none _ _] _ => chE T N a sc q
    | _ => false
  | .noN a, sc, p => match p with
    | .Compare q [.IsNot] [.Constant .none _ _] _ => chE T N a sc q
    | _ => false
  | .and a b, sc, p => match p with
    | .BoolOp .And [q, r] _ => chE T N a sc q && chE T N b sc r
    | .BoolOp .And (q :: r :: t :: u) pos => chE T N a sc q && chE T N b sc (.BoolOp .And (r :: t :: u) pos)
    | _ => false
  | .or a b, sc, p => match p with
    | .BoolOp .Or [q, r] _ => chE T N a sc q && chE T N b sc r
    | .BoolOp .Or (q :: r :: t :: u) pos => chE T N a sc q && chE T N b sc (.BoolOp .Or (r :: t :: u) pos)
    | _ => false
  | .not a, sc, p => match p with
    | .UnaryOp .Not q _ => chE T N a sc q
    | _ => false
  | .ite c a b, sc, p => match p with
    | .IfExp q r t _ => chB T N c sc q && chE T N a sc r && chE T N b sc t
    | _ => false
  | .sub a i, sc, p => match p with
    | .Subscript q r _ => chE T N a sc q && chE T N i sc r && noslice r
    | _ => false
  | .cut a lo hi, sc, p => match p with
    | .Subscript q (.Slice l h none _) _ => chE T N a sc q && chO T N lo sc l && chO T N hi sc h
    | _ => false
  | .fld a f, sc, p => match p with
    | .Attribute q g _ => decide (f = g) && chE T N a sc q && nobare q
    | _ => false
  | .call f es, sc, p => match p with
    | .Call (.Name x _) ps [] _ => gB sc x (T.fn f) && T.isG f && chEs T N es sc ps
    | _ => false
  | .make c es, sc, p => match p with
    | .Call (.Name x _) ps [] _ => gB sc x (T.cl c) && chEs T N es sc ps
    | _ => false
  | .met a m es, sc, p => match p with
    | .Call (.Attribute q g ap) ps [] pos => decide (m = g) && chE T N a sc q && nobare q && (ap.endLine == pos.line) && decide (ps.length < 29) && chEs T N es sc ps
    | _ => false
  | .bm b a es, sc, p => match p with
    | .Call (.Attribute q g ap) ps [] pos => decide (bmName b = g) && chE T N a sc q && nobare q && (ap.endLine == pos.line) && decide (ps.length < 29) && chEs T N es sc ps
    | _ => false
  | .bf b es, sc, p => match p with
    | .Call (.Name x _) ps [] _ => gB sc x (bfName b) && chEs T N es sc ps
    | _ => false
  | .isi a t, sc, p => match p with
    | .Call (.Name x _) [q, .Name y _] [] _ => gB sc x "isinstance" && gB sc y (Str.ofString (tyName t)) && tyB t && chE T N a sc q && nostar q
    | _ => false
  | .lc t w c e, sc, p => match p with
    | .ListComp pe [⟨tg, it, ifs, 0⟩] scope _ => chI T N w sc tg it && noset it && blkC N sc scope (tgOwn N t) && tgB N (relS scope sc) (fun x => scope.names.lookup x == some .cell) t tg &&
        ifsB (fun q => chB T N c (relS scope sc) q) (isYes c) ifs && chE T N e (relS scope sc) pe
    | _ => false
  | .bad, _, p => nolc p && noset p && nostar p && noslice p
def chEs (T : Nms) (N : List Str) : Es → Scope → List Expr → Bool
  | .nil, _, ps => match ps with
    | [] => true
    | _ => false
  | .cons e es, sc, ps => match ps with
    | p :: r => chE T N e sc p && nostar p && chEs T N es sc r
    | _ => false
def chO (T : Nms) (N : List Str) : Eo → Scope → Option Expr → Bool
  | .no, _, p => match p with
    | none => true
    | _ => false
  | .so e, sc, p => match p with
    | some p => chE T N e sc p
    | none => false
def chPs (T : Nms) (N : List Str) : Ps → Scope → List (Option Expr) → List Expr → Bool
  | .nil, _, ks, vs => match ks, vs with
    | [], [] => true
    | _, _ => false
  | .cons k v r, sc, ks, vs => match ks, vs with
    | some p :: ks, q :: vs => chE T N k sc p && chE T N v sc q && chPs T N r sc ks vs
    | _, _ => false
def chB (T : Nms) (N : List Str) : B → Scope → Expr → Bool
  | .yes, _, _ => false
  | .of e, sc, p => chE T N e sc p && (plainT p || isCmp e)
  | .and a b, sc, p => match p with
    | .BoolOp .And [q, r] _ => chB T N a sc q && chB T N b sc r
    | .BoolOp .And (q :: r :: t :: u) pos => chB T N a sc q && chB T N b sc (.BoolOp .And (r :: t :: u) pos)
    | _ => false
  | .or a b, sc, p => match p with
    | .BoolOp .Or [q, r] _ => chB T N a sc q && chB T N b sc r
    | .BoolOp .Or (q :: r :: t :: u) pos => chB T N a sc q && chB T N b sc (.BoolOp .Or (r :: t :: u) pos)
    | _ => false
  | .not a, sc, p => match p with
    | .UnaryOp .Not q _ => chB T N a sc q
    | _ => false
def chI (T : Nms) (N : List Str) : I → Scope → Expr → Expr → Bool
  | .of e, sc, _, p => chE T N e sc p
  | .rg1 a, sc, _, p => match p with
    | .Call (.Name x _) [q] [] _ => gB sc x "range" && chE T N a sc q && nostar q
    | _ => false
  | .rg2 a b, sc, _, p => match p with
    | .Call (.Name x _) [q, r] [] _ => gB sc x "range" && chE T N a sc q && nostar q && chE T N b sc r && nostar r
    | _ => false
  | .enu e, sc, tg, p => match p with
    | .Call (.Name x _) [q] [] _ => gB sc x "enumerate" && chE T N e sc q && nostar q && tupB tg
    | _ => false
  | .zip a b, sc, tg, p => match p with
    | .Call (.Name x _) [q, r] [] _ => gB sc x "zip" && chE T N a sc q && nostar q && chE T N b sc r && nostar r && tupB tg
    | _ => false
end
def chTs (T : Nms) (N : List Str) (sc : Scope) (ow : Str → Bool) : CL.T → Expr → Bool
  | .one i, p => match p with
    | .Name x _ => stB N sc ow i x
    | _ => false
  | .sub o i, p => match p with
    | .Subscript q r _ => chE T N o sc q && chE T N i sc r && noslice r
    | _ => false
  | .fld o f, p => false
def chTL (T : Nms) (N : List Str) (sc : Scope) (ow : Str → Bool) : List CL.T → List Expr → Bool
  | [], [] => true
  | t :: ts, p :: ps => chTs T N sc ow t p && nostar p && chTL T N sc ow ts ps
  | _, _ => false
/-- a, b = x, y: what the model does of it: none: it is not told; some none: a plain tuple; some names: stored one by one -/
def swMir (sc : Scope) (ts : List Expr) (value : Expr) : Option (Option (List Str)) := match value with
  | .Tuple vs _ _ =>
    if !(ts.length == 2 || ts.length == 3) || vs.length != ts.length then some none
    else if vs.any (fun | .Starred .. => true | _ => false) then some none
    else
      let line := (ts.head?.map (·.pos.line)).getD 0
      let names := ts.filterMap fun
        | .Name id pos => if sc.names.lookup id == some .local && pos.line == line then some id else none
        | _ => none
      if names.length != ts.length || names.eraseDups.length != names.length then some none
      else if vs.all (foldedForSure 8) then some none
      else if vs.all (constantsAlone 8) then none
      else some (some names)
  | _ => some none
def lcSw (sc : Scope) (y : Str) (py : Pos) : Expr → Bool
  | .ListComp _ _ scope pos => sc.names.lookup y == some .local && (py.line == pos.line) && !(scope.names.any fun (n, k) => n == y && (k == .local || k == .cell))
  | _ => false
mutual
def chS (T : Nms) (N : List Str) (sc : Scope) (ow : Str → Bool) : S → Stmt → Bool
  | .asg t e, p => match p with
    | .Assign [tg] v _ => chE T N e sc v && (match t with
      | .one i => (match tg with
        | .Name x _ => stB N sc ow i x
        | _ => false)
      | .sub o i => (match tg with
        | .Subscript q r _ => chE T N o sc q && chE T N i sc r && noslice r
        | _ => false)
      | .fld o f => (match tg with
        | .Attribute q g _ => decide (f = g) && chE T N o sc q
        | _ => false))
    | _ => false
  | .asT ts e, p => match p with
    | .Assign [.Tuple tg _ _] v _ => chE T N e sc v && chTL T N sc ow ts tg && (match swMir sc tg v with
      | some none => true
      | _ => false)
    | _ => false
  | .par is es, p => match p with
    | .Assign [.Tuple tg _ _] (.Tuple vs k2 p2) _ => chEs T N es sc vs && namesB N sc ow is tg && (match swMir sc tg (.Tuple vs k2 p2) with
      | some (some _) => true
      | _ => false)
    | _ => false
  | .aug i o e, p => match p with
    | .AugAssign (.Name x _) o' v _ => decide (o' = opOf o) && stB N sc ow i x && chE T N e sc v
    | _ => false
  | .aus a i o e, p => match p with
    | .AugAssign (.Subscript q r _) o' v _ => decide (o' = opOf o) && chE T N a sc q && chE T N i sc r && noslice r && chE T N e sc v
    | _ => false
  | .auf a f o e, p => match p with
    | .AugAssign (.Attribute q g _) o' v _ => decide (o' = opOf o) && decide (f = g) && chE T N a sc q && chE T N e sc v
    | _ => false
  | .ex e, p => match p with
    | .Expr v _ => chE T N e sc v && nolc v
    | _ => false
  | .ret e, p => match p with
    | .Return (some v) _ => chE T N e sc v
    | _ => false
  | .rtN, p => match p with
    | .Return none _ => true
    | _ => false
  | .cond c a b, p => match p with
    | .If q r t _ => chB T N c sc q && chSs T N sc ow a r && chSs T N sc ow b t
    | _ => false
  | .whl c b, p => match p with
    | .While q r [] _ => chB T N c sc q && chSs T N sc ow b r
    | _ => false
  | .for t w b, p => match p with
    | .For tg it r [] _ => chI T N w sc tg it && noset it && tgB N sc ow t tg && chSs T N sc ow b r
    | _ => false
  | .pass, p => match p with
    | .Pass _ => true
    | _ => false
  | .brk, p => match p with
    | .Break _ => true
    | _ => false
  | .cnt, p => match p with
    | .Continue _ => true
    | _ => false
  | .bad, _ => true
def chSs (T : Nms) (N : List Str) (sc : Scope) (ow : Str → Bool) : Ss → List Stmt → Bool
  | .nil, ps => match ps with
    | [] => true
    | _ => false
  | .cons s r, ps => match ps with
    | p :: ps => chS T N sc ow s p && chSs T N sc ow r ps
    | _ => false
end
end CL

/-! CL, part f: expressions: what the run says holds of the model -/
namespace CL
open PySem PySem.Spec PyProof.Rows L2

structure Tab where
  G : Prog
  fuel : Nat
  nm : Nms
  ca : Nat → Addr
  fa : Nat → Addr
  fdt : Nat → FuncData
  psn : Nat → List Str
def Tab.cx (T : Tab) (d : Nat) : Ctx := cxN T.G T.fuel d
/-- a def's promise: what the run says -/
def spF (K : PySem.W.Frag) (T : Tab) (run : List Val → Store → Res Val) (np : Nat) : Sp := fun vs H Q _ => vs.length = np ∧ ∃ (io : Nat → Addr) (st : Store) (us : List Val) (v : Val) (st' : Store),
  Rl K T.G.kt T.ca io st H ∧ RVs K T.G.kt io st.n H us vs ∧ run us st = .ok v st' ∧ Post K T.G.kt T.ca io st H v st' Q
/-- what the top has left -/
structure Top (T : Tab) (K : PySem.W.Frag) (mg : Str → Option Value) : Prop where
  bf : ∀ b : Bf, mg (bfName b) = none
  isi : mg "isinstance" = none
  ty : ∀ t : Ty, tyB t = true → mg (Str.ofString (tyName t)) = none
  rng : mg "range" = none
  enu : mg "enumerate" = none
  zip : mg "zip" = none
  gl : ∀ g v, T.G.gl g = some v → ∃ u w, mg (T.nm.gl g) = some u ∧ RelV w u ∧ ∀ io n H, RV K T.G.kt io n H v w
  fn : ∀ f fd, T.G.fn f = some fd → Binds K (T.fdt f) (T.psn f) [] ∧ (T.psn f).length = fd.np ∧ (T.nm.isG f = true → mg (T.nm.fn f) = some (.ref (T.fa f)) ∧ PySem.W.keepIn K (.ref (T.fa f)) = true)
  mt : ∀ c m f, T.G.mt c m = some f → Cls K (T.ca c) ∧ Meth K (T.ca c) m (T.fa f) ∧ ∃ fd, T.G.fn f = some fd
  ini : ∀ c f, T.G.ini c = some f → mg (T.nm.cl c) = some (.ref (T.ca c)) ∧ Mk K (T.ca c) (T.fa f) ∧ ∃ fd, T.G.fn f = some fd
  fl : ∀ c f, T.G.fl c f = true → Cls K (T.ca c) ∧ NoAttr K (T.ca c) f
def Fns (T : Tab) (X : Cx) (d : Nat) : Prop := ∀ f fd, T.G.fn f = some fd → FnOk X.prog X.w X.K X.mg X.base CX0 d (T.fa f) (T.fdt f) (T.psn f) (spF X.K T (callN T.G T.fuel d f) (T.psn f).length)
structure At (T : Tab) (d : Nat) (X : Cx) (N : List Str) (sc : Scope) (ow : Str → Bool) : Prop where
  top : Top T X.K X.mg
  fns : ∀ e, e ≤ d → Fns T X e
  hN : X.N = N
  nd : N.Nodup
  hsc : X.env.scope = sc
  kind : sc.kind = .function
  how : ∀ x, ow x = true → X.fn x = true
  calm : X.calm = true
  room : Room d X.A
/-- slots -/
def RS (K : PySem.W.Frag) (kt : List (List Val)) (io : Nat → Addr) (n : Nat) (H : Hp) (s : Env) (t : L2.St) : Prop :=
  s.length = t.length ∧ ∀ (i : Nat) (v : Val), s[i]? = some (some v) → ∃ w, t[i]? = some (some w) ∧ RV K kt io n H v w
theorem RS.up {K : PySem.W.Frag} {kt : List (List Val)} {io io' : Nat → Addr} {n n' : Nat} {H H' : Hp} {s : Env} {t : L2.St} (u : Up io n H io' n' H') (h : RS K kt io n H s t) : RS K kt io' n' H' s t :=
  ⟨h.1, fun i v e => let ⟨w, e', r⟩ := h.2 i v e; ⟨w, e', r.up u⟩⟩
theorem RS.set {K : PySem.W.Frag} {kt : List (List Val)} {io : Nat → Addr} {n : Nat} {H : Hp} {s : Env} {t : L2.St} (h : RS K kt io n H s t) {v : Val} {w : V} (r : RV K kt io n H v w) (i : Nat) : RS K kt io n H (s.set i (some v)) (t.set i (some w)) := by
  refine ⟨by rw [List.length_set, List.length_set]; exact h.1, fun j u e => ?_⟩
  by_cases hj : i = j
  · subst hj
    rw [List.getElem?_set] at e ⊢
    rw [← h.1]
    split at e
    · split at e
      · cases e; rename_i h1 h2; rw [if_pos rfl, if_pos h2]; exact ⟨w, rfl, r⟩
      · cases e
    · rename_i h1; exact absurd rfl h1
  · rw [List.getElem?_set_ne hj] at e ⊢
    exact h.2 j u e
def PostA (K : PySem.W.Frag) (kt : List (List Val)) (ca io : Nat → Addr) (st : Store) (H : Hp) (vs : List Val) (st' : Store) (Q : List V → Hp → Prop) : Prop :=
  ∀ (io' : Nat → Addr) (H' : Hp) (ws : List V), Up io st.n H io' st'.n H' → Rl K kt ca io' st' H' → RVs K kt io' st'.n H' vs ws → Q ws H'
def PostB (K : PySem.W.Frag) (kt : List (List Val)) (ca io : Nat → Addr) (st : Store) (H : Hp) (k : Bool) (st' : Store) (Q : Bool → Hp → Prop) : Prop :=
  ∀ (io' : Nat → Addr) (H' : Hp), Up io st.n H io' st'.n H' → Rl K kt ca io' st' H' → Q k H'
theorem Post.after {K : PySem.W.Frag} {kt : List (List Val)} {ca io io1 : Nat → Addr} {st st1 st' : Store} {H H1 : Hp} {v : Val} {Q : VK} (p : Post K kt ca io st H v st' Q) (u : Up io st.n H io1 st1.n H1) : Post K kt ca io1 st1 H1 v st' Q :=
  fun io' H' w u' R r => p io' H' w (u.trans u') R r
theorem PostA.after {K : PySem.W.Frag} {kt : List (List Val)} {ca io io1 : Nat → Addr} {st st1 st' : Store} {H H1 : Hp} {v : List Val} {Q : List V → Hp → Prop} (p : PostA K kt ca io st H v st' Q) (u : Up io st.n H io1 st1.n H1) : PostA K kt ca io1 st1 H1 v st' Q :=
  fun io' H' w u' R r => p io' H' w (u.trans u') R r
theorem PostB.after {K : PySem.W.Frag} {kt : List (List Val)} {ca io io1 : Nat → Addr} {st st1 st' : Store} {H H1 : Hp} {v : Bool} {Q : Bool → Hp → Prop} (p : PostB K kt ca io st H v st' Q) (u : Up io st.n H io1 st1.n H1) : PostB K kt ca io1 st1 H1 v st' Q :=
  fun io' H' u' R => p io' H' (u.trans u') R
def aSem (X : Cx) (es : List Expr) : TA := fun σ H Q => ∀ (pos : Pos) (pins : List (Addr × Obj)) (s : Shared), Inv X pins σ H s → wpAny (model X.prog X.w) X.A (spliced (backTo pos (starEach es X.env))) (AP X pins σ Q) X.xe s
theorem pa_sem {X : Cx} {es : List Expr} : PA X es (aSem X es) := ⟨fun pos pins s σ H Q I h => h pos pins s I⟩

/-- an expression's run holds of the model -/
def SE (T : Tab) (d : Nat) (N : List Str) (e : E) : Prop := ∀ (X : Cx) (sc : Scope) (ow : Str → Bool) (p : Expr), At T d X N sc ow → chE T.nm N e sc p = true →
  ∀ (s : Env) (st : Store) (v : Val) (st' : Store) (io : Nat → Addr) (H : Hp) (t : L2.St) (Q : VK), RS X.K T.G.kt io st.n H s t → Rl X.K T.G.kt T.ca io st H → ev (T.cx d) e s st = .ok v st' →
    Post X.K T.G.kt T.ca io st H v st' Q → tSem X p t H Q
def SA (T : Tab) (d : Nat) (N : List Str) (es : Es) : Prop := ∀ (X : Cx) (sc : Scope) (ow : Str → Bool) (ps : List Expr), At T d X N sc ow → chEs T.nm N es sc ps = true →
  ∀ (s : Env) (st : Store) (vs : List Val) (st' : Store) (io : Nat → Addr) (H : Hp) (t : L2.St) (Q : List V → Hp → Prop), RS X.K T.G.kt io st.n H s t → Rl X.K T.G.kt T.ca io st H → evs (T.cx d) es s st = .ok vs st' →
    PostA X.K T.G.kt T.ca io st H vs st' Q → aSem X ps t H Q
def SB (T : Tab) (d : Nat) (N : List Str) (b : B) : Prop := ∀ (X : Cx) (sc : Scope) (ow : Str → Bool) (p : Expr), At T d X N sc ow → chB T.nm N b sc p = true →
  ∀ (s : Env) (st : Store) (k : Bool) (st' : Store) (io : Nat → Addr) (H : Hp) (t : L2.St) (Q : Bool → Hp → Prop), RS X.K T.G.kt io st.n H s t → Rl X.K T.G.kt T.ca io st H → ts (T.cx d) b s st = .ok k st' →
    PostB X.K T.G.kt T.ca io st H k st' Q → bSem X p t H Q

section
variable {T : Tab} {d : Nat} {N : List Str}
theorem chEs_star : ∀ {es : Es} {sc : Scope} {ps : List Expr}, chEs T.nm N es sc ps = true → ps.all nostar = true
  | .nil, sc, ps, h => by
    simp only [chEs] at h
    split at h
    · rfl
    · cases h
  | .cons e es, sc, ps, h => by
    simp only [chEs] at h
    split at h
    · rename_i p r
      simp only [Bool.and_eq_true] at h
      rw [List.all_cons, h.1.2, chEs_star h.2]; rfl
    · cases h
theorem sa_nil : SA T d N .nil := by
  intro X sc ow ps A hc s st vs st' io H t Q rs R e p
  simp only [chEs] at hc
  split at hc
  · simp only [evs] at e
    cases e
    intro pos pins sh I
    exact pa_nil.run pos pins sh t H Q I (p io H [] (.refl _ _ _) R .nil)
  · cases hc
theorem sa_cons {a : E} {es : Es} (ha : SE T d N a) (hs : SA T d N es) : SA T d N (.cons a es) := by
  intro X sc ow ps A hc s st vs st' io H t Q rs R e p
  simp only [chEs] at hc
  split at hc
  · rename_i q r
    simp only [Bool.and_eq_true] at hc
    simp only [evs] at e
    obtain ⟨v, st1, e1, e⟩ := bind_eq_ok.mp e
    obtain ⟨ws, st2, e2, e⟩ := bind_eq_ok.mp e
    cases e
    intro pos pins sh I
    refine (pa_cons pe_sem pa_sem (star_cons hc.1.2)).run pos pins sh t H Q I ?_
    refine ha X sc ow q A hc.1.1 s st v st1 io H t _ rs R e1 fun io1 H1 w u1 R1 r1 => ?_
    refine hs X sc ow r A hc.2 s st1 ws _ io1 H1 t _ (rs.up u1) R1 e2 fun io2 H2 w2 u2 R2 r2 => ?_
    exact p io2 H2 _ (u1.trans u2) R2 (.cons (r1.up u2) r2)
  · cases hc
theorem se_v {i : Nat} : SE T d N (.v i) := by
  intro X sc ow q A hc s st v st' io H t Q rs R e p
  simp only [chE] at hc
  split at hc
  · rename_i x pos
    unfold rdB at hc
    simp only [Bool.and_eq_true, decide_eq_true_eq] at hc
    simp only [ev] at e
    split at e
    · rename_i v' e1
      cases e
      obtain ⟨w, e2, r⟩ := rs.2 i v e1
      intro pins sh I
      exact (pe_var (by rw [A.hN]; exact hc.1.1) (by rw [A.hsc]; exact visB_ok hc.1.2) (debB_ok hc.2).1 (debB_ok hc.2).2).run pins sh t H Q I ⟨w, e2, p.here R r⟩
    · cases e
  · cases hc
theorem se_int {i : Int} : SE T d N (.int i) := by
  intro X sc ow q A hc s st v st' io H t Q rs R e p
  simp only [chE] at hc
  split at hc
  · simp only [decide_eq_true_eq] at hc
    subst hc
    simp only [ev] at e
    cases e
    intro pins sh I
    exact pe_int.run pins sh t H Q I (p.here R (.int _))
  · cases hc
theorem se_str {x : Str} : SE T d N (.str x) := by
  intro X sc ow q A hc s st v st' io H t Q rs R e p
  simp only [chE] at hc
  split at hc
  · simp only [decide_eq_true_eq] at hc
    subst hc
    simp only [ev] at e
    cases e
    intro pins sh I
    exact pe_str.run pins sh t H Q I (p.here R (.str _))
  · cases hc
theorem se_bl {b : Bool} : SE T d N (.bl b) := by
  intro X sc ow q A hc s st v st' io H t Q rs R e p
  simp only [chE] at hc
  split at hc
  · simp only [beq_iff_eq] at hc
    subst hc
    simp only [ev] at e
    cases e
    intro pins sh I
    exact pe_bl.run pins sh t H Q I (p.here R (.bl _))
  · cases hc
theorem se_non : SE T d N .non := by
  intro X sc ow q A hc s st v st' io H t Q rs R e p
  simp only [chE] at hc
  split at hc
  · simp only [ev] at e
    cases e
    intro pins sh I
    exact pe_non.run pins sh t H Q I (p.here R .non)
  · cases hc
theorem gB_ok {sc : Scope} {x y : Str} (h : gB sc x y = true) : x = y ∧ sc.names.lookup x = some .globalImplicit ∧ (x == ("__debug__" : Str)) = false := by
  unfold gB at h
  simp only [Bool.and_eq_true, decide_eq_true_eq] at h
  exact ⟨h.1.1, glB_ok h.1.2, (debB_ok h.2).1⟩
theorem At.gl {X : Cx} {sc : Scope} {ow : Str → Bool} (A : At T d X N sc ow) {x y : Str} (h : gB sc x y = true) : Gl X x := by
  show X.env.scope.names.lookup x = _
  rw [A.hsc]; exact (gB_ok h).2.1
theorem se_gl {g : Nat} : SE T d N (.gl g) := by
  intro X sc ow q A hc s st v st' io H t Q rs R e p
  simp only [chE] at hc
  split at hc
  · simp only [ev] at e
    split at e
    · rename_i v' e1
      cases e
      have e1 : T.G.gl g = some v := e1
      obtain ⟨u, w, h1, h2, h3⟩ := A.top.gl g v e1
      obtain ⟨rfl, _, hd⟩ := gB_ok hc
      intro pins sh I
      exact (pe_glob (A.gl hc) h1 h2 hd).run pins sh t H Q I (p.here R (h3 _ _ _))
    · cases e
  · cases hc
theorem se_tup {es : Es} (h : SA T d N es) : SE T d N (.tup es) := by
  intro X sc ow q A hc s st v st' io H t Q rs R e p
  simp only [chE] at hc
  split at hc
  · simp only [ev] at e
    obtain ⟨vs, st1, e1, e⟩ := bind_eq_ok.mp e
    unfold mkT at e
    split at e
    · rename_i hf
      cases e
      intro pins sh I
      refine (pe_tup pa_sem).run pins sh t H Q I ?_
      refine h X sc ow _ A hc s st vs _ io H t _ rs R e1 fun io1 H1 ws u1 R1 r1 => ⟨by rw [← r1.length]; exact fits_le hf, fun a ha => (p.after u1).tup R1 r1 a ha⟩
    · cases e
  · cases hc
theorem se_lst {es : Es} (h : SA T d N es) : SE T d N (.lst es) := by
  intro X sc ow q A hc s st v st' io H t Q rs R e p
  simp only [chE] at hc
  split at hc
  · simp only [ev] at e
    obtain ⟨vs, st1, e1, e⟩ := bind_eq_ok.mp e
    unfold mkL at e
    split at e
    · rename_i hf
      cases e
      intro pins sh I
      refine (pe_lst pa_sem).run pins sh t H Q I ?_
      refine h X sc ow _ A hc s st vs _ io H t _ rs R e1 fun io1 H1 ws u1 R1 r1 => ⟨by rw [← r1.length]; exact fits_le hf, fun a ha => (p.after u1).list R1 r1 a ha⟩
    · cases e
  · cases hc
theorem se_neg {a : E} (h : SE T d N a) : SE T d N (.neg a) := by
  intro X sc ow q A hc s st v st' io H t Q rs R e p
  simp only [chE] at hc
  split at hc
  · simp only [ev] at e
    obtain ⟨x, st1, e1, e⟩ := bind_eq_ok.mp e
    split at e
    · cases e
      intro pins sh I
      refine (pe_un un_neg pe_sem).run pins sh t H Q I ?_
      refine h X sc ow _ A hc s st _ _ io H t _ rs R e1 fun io1 H1 w u1 R1 r1 => ?_
      obtain rfl := r1.iint
      exact ⟨_, rfl, (p.after u1).here R1 (.int _)⟩
    · cases e
  · cases hc
theorem se_bin {o : Bop} {a b : E} (ha : SE T d N a) (hb : SE T d N b) : SE T d N (.bin o a b) := by
  intro X sc ow q A hc s st v st' io H t Q rs R e p
  simp only [chE] at hc
  split at hc
  · simp only [Bool.and_eq_true, decide_eq_true_eq] at hc
    obtain ⟨⟨rfl, c1⟩, c2⟩ := hc
    simp only [ev] at e
    obtain ⟨x, st1, e1, e⟩ := bind_eq_ok.mp e
    obtain ⟨y, st2, e2, e⟩ := bind_eq_ok.mp e
    intro pins sh I
    refine (pe_op op_sem pe_sem pe_sem).run pins sh t H Q I ?_
    refine ha X sc ow _ A c1 s st x st1 io H t _ rs R e1 fun io1 H1 w u1 R1 r1 => ?_
    refine hb X sc ow _ A c2 s st1 y st2 io1 H1 t _ (rs.up u1) R1 e2 fun io2 H2 w2 u2 R2 r2 => ?_
    exact bop_ok R2 (r1.up u2) r2 e (p.after (u1.trans u2))
  · cases hc
theorem At.hu {X : Cx} {sc : Scope} {ow : Str → Bool} (A : At T d X N sc ow) : X.A.units + 65 < cLine := by have := A.room.un; omega
theorem noset_in {p : Expr} (h : noset p = true) (op : CmpOp) : behindInMarks op p = false := by
  cases p <;> first | rfl | cases h
/-- a comparison's reading, as a value and as a test -/
theorem cmp_read {o : Cop} {a b : E} (ha : SE T d N a) (hb : SE T d N b) {X : Cx} {sc : Scope} {ow : Str → Bool} {q r : Expr} (A : At T d X N sc ow) (c1 : chE T.nm N a sc q = true) (c2 : chE T.nm N b sc r = true)
    {s : Env} {st : Store} {v : Val} {st' : Store} {io : Nat → Addr} {H : Hp} {t : L2.St} {Q : VK} (rs : RS X.K T.G.kt io st.n H s t) (R : Rl X.K T.G.kt T.ca io st H) (e : ev (T.cx d) (.cmp o a b) s st = .ok v st')
    (p : Post X.K T.G.kt T.ca io st H v st' Q) : tOp (oSem X (compareOp (copOf o))) (tSem X q) (tSem X r) t H Q := by
  simp only [ev] at e
  obtain ⟨x, st1, e1, e⟩ := bind_eq_ok.mp e
  obtain ⟨y, st2, e2, e⟩ := bind_eq_ok.mp e
  refine ha X sc ow _ A c1 s st x st1 io H t _ rs R e1 fun io1 H1 w u1 R1 r1 => ?_
  refine hb X sc ow _ A c2 s st1 y st2 io1 H1 t _ (rs.up u1) R1 e2 fun io2 H2 w2 u2 R2 r2 => ?_
  exact cop_ok A.hu R2 (r1.up u2) r2 e (p.after (u1.trans u2))
theorem se_cmp {o : Cop} {a b : E} (ha : SE T d N a) (hb : SE T d N b) : SE T d N (.cmp o a b) := by
  intro X sc ow q A hc s st v st' io H t Q rs R e p
  simp only [chE] at hc
  split at hc
  · simp only [Bool.and_eq_true, decide_eq_true_eq] at hc
    obtain ⟨⟨⟨rfl, c1⟩, c2⟩, c3⟩ := hc
    intro pins sh I
    exact (pe_cmpR op_sem pe_sem pe_sem (noset_in c3 _)).run pins sh t H Q I (cmp_read ha hb A c1 c2 rs R e p)
  · cases hc
theorem cop_bl {kt : List (List Val)} {o : Cop} {x y v : Val} {st st' : Store} (e : cop kt o x y st = .ok v st') : ∃ k, v = .bl k ∧ st' = st := by
  unfold cop at e
  split at e
  · obtain ⟨k, _, h, h'⟩ := okB_inv e; exact ⟨k, h, h'⟩
  · obtain ⟨k, _, h, h'⟩ := okB_inv e; exact ⟨k, h, h'⟩
  · obtain ⟨k, _, h, h'⟩ := okB_inv e; exact ⟨k, h, h'⟩
  · obtain ⟨k, _, h, h'⟩ := okB_inv e; exact ⟨k, h, h'⟩
  all_goals (split at e <;> cases e; exact ⟨_, rfl, rfl⟩)
theorem cm2_read {o o2 : Cop} {a b c : E} (ha : SE T d N a) (hb : SE T d N b) (hd : SE T d N c) {X : Cx} {sc : Scope} {ow : Str → Bool} {q r z : Expr} (A : At T d X N sc ow) (c1 : chE T.nm N a sc q = true) (c2 : chE T.nm N b sc r = true) (c3 : chE T.nm N c sc z = true)
    {s : Env} {st : Store} {v : Val} {st' : Store} {io : Nat → Addr} {H : Hp} {t : L2.St} {Q : VK} (rs : RS X.K T.G.kt io st.n H s t) (R : Rl X.K T.G.kt T.ca io st H) (e : ev (T.cx d) (.cm2 o o2 a b c) s st = .ok v st')
    (p : Post X.K T.G.kt T.ca io st H v st' Q) : tChain (oSem X (compareOp (copOf o))) (oSem X (compareOp (copOf o2))) (tSem X q) (tSem X r) (tSem X z) t H Q := by
  simp only [ev] at e
  obtain ⟨x, st1, e1, e⟩ := bind_eq_ok.mp e
  obtain ⟨y, st2, e2, e⟩ := bind_eq_ok.mp e
  obtain ⟨m, st3, e3, e⟩ := bind_eq_ok.mp e
  refine ha X sc ow _ A c1 s st x st1 io H t _ rs R e1 fun io1 H1 w u1 R1 r1 => ?_
  refine hb X sc ow _ A c2 s st1 y st2 io1 H1 t _ (rs.up u1) R1 e2 fun io2 H2 w2 u2 R2 r2 => ?_
  refine cop_ok A.hu R2 (r1.up u2) r2 e3 fun io3 H3 w3 u3 R3 r3 => ?_
  have U := (u1.trans u2).trans u3
  split at e
  · obtain rfl := r3.ibl
    refine ⟨true, rfl, ?_⟩
    rw [if_pos rfl]
    obtain ⟨f, st4, e4, e⟩ := bind_eq_ok.mp e
    refine hd X sc ow _ A c3 s st3 f st4 io3 H3 t _ (rs.up U) R3 e4 fun io4 H4 w4 u4 R4 r4 => ?_
    exact cop_ok A.hu R4 (r2.up (u3.trans u4)) r4 e (p.after (U.trans u4))
  · obtain rfl := r3.ibl
    cases e
    refine ⟨false, rfl, ?_⟩
    rw [if_neg (by decide)]
    exact (p.after U).here R3 (.bl _)
  · cases e
theorem last_of {r z : Expr} {o o' : CmpOp} (h : noset z = true) : lastMarks [o, o'] [r, z] = false := noset_in h o'
theorem se_cm2 {o o2 : Cop} {a b c : E} (ha : SE T d N a) (hb : SE T d N b) (hd : SE T d N c) : SE T d N (.cm2 o o2 a b c) := by
  intro X sc ow q A hc s st v st' io H t Q rs R e p
  simp only [chE] at hc
  split at hc
  · simp only [Bool.and_eq_true, decide_eq_true_eq] at hc
    obtain ⟨⟨⟨⟨⟨⟨rfl, rfl⟩, c1⟩, c2⟩, c3⟩, c4⟩, c5⟩ := hc
    intro pins sh I
    exact (pe_chain op_sem op_sem pe_sem pe_sem pe_sem (last_of c5)).run pins sh t H Q I (cm2_read ha hb hd A c1 c2 c3 rs R e p)
  · cases hc
theorem isN_read {a : E} (ha : SE T d N a) {X : Cx} {sc : Scope} {ow : Str → Bool} {q : Expr} (A : At T d X N sc ow) (c1 : chE T.nm N a sc q = true)
    {s : Env} {st : Store} {v : Val} {st' : Store} {io : Nat → Addr} {H : Hp} {t : L2.St} {Q : VK} (rs : RS X.K T.G.kt io st.n H s t) (R : Rl X.K T.G.kt T.ca io st H) (e : ev (T.cx d) (.isN a) s st = .ok v st')
    (p : Post X.K T.G.kt T.ca io st H v st' Q) : tIsN (tSem X q) t H Q := by
  simp only [ev] at e
  obtain ⟨x, st1, e1, e⟩ := bind_eq_ok.mp e
  cases e
  refine ha X sc ow _ A c1 s st x _ io H t _ rs R e1 fun io1 H1 w u1 R1 r1 => ?_
  have q1 := (p.after u1).here R1 (.bl _)
  cases r1 <;> exact q1
theorem noN_read {a : E} (ha : SE T d N a) {X : Cx} {sc : Scope} {ow : Str → Bool} {q : Expr} (A : At T d X N sc ow) (c1 : chE T.nm N a sc q = true)
    {s : Env} {st : Store} {v : Val} {st' : Store} {io : Nat → Addr} {H : Hp} {t : L2.St} {Q : VK} (rs : RS X.K T.G.kt io st.n H s t) (R : Rl X.K T.G.kt T.ca io st H) (e : ev (T.cx d) (.noN a) s st = .ok v st')
    (p : Post X.K T.G.kt T.ca io st H v st' Q) : tNotN (tSem X q) t H Q := by
  simp only [ev] at e
  obtain ⟨x, st1, e1, e⟩ := bind_eq_ok.mp e
  cases e
  refine ha X sc ow _ A c1 s st x _ io H t _ rs R e1 fun io1 H1 w u1 R1 r1 => ?_
  have q1 := (p.after u1).here R1 (.bl _)
  cases r1 <;> exact q1
theorem se_isN {a : E} (ha : SE T d N a) : SE T d N (.isN a) := by
  intro X sc ow q A hc s st v st' io H t Q rs R e p
  simp only [chE] at hc
  split at hc
  · intro pins sh I
    exact (pe_cmp (pc_isN pe_sem)).run pins sh t H Q I (isN_read ha A hc rs R e p)
  · cases hc
theorem se_noN {a : E} (ha : SE T d N a) : SE T d N (.noN a) := by
  intro X sc ow q A hc s st v st' io H t Q rs R e p
  simp only [chE] at hc
  split at hc
  · intro pins sh I
    exact (pe_cmp (pc_notN pe_sem)).run pins sh t H Q I (noN_read ha A hc rs R e p)
  · cases hc
end
end CL

/-! CL, part g: more expressions; tests -/
namespace CL
open PySem PySem.Spec PyProof.Rows L2
section
variable {T : Tab} {d : Nat} {N : List Str}
/-- what and, or ask of the rest, be it one expression or more -/
theorem and_rest {b : E} (hb : SE T d N b) {X : Cx} {sc : Scope} {ow : Str → Bool} {r : Expr} {t : List Expr} {pos : Pos} {op : BoolOp} (A : At T d X N sc ow)
    (c : (match t with | [] => chE T.nm N b sc r = true | _ => chE T.nm N b sc (.BoolOp op (r :: t) pos) = true))
    {s : Env} {st : Store} {v : Val} {st' : Store} {io : Nat → Addr} {H : Hp} {t' : L2.St} {Q : VK} (rs : RS X.K T.G.kt io st.n H s t') (R : Rl X.K T.G.kt T.ca io st H) (e : ev (T.cx d) b s st = .ok v st')
    (p : Post X.K T.G.kt T.ca io st H v st' Q) : tSem X (.BoolOp op (r :: t) pos) t' H Q := by
  cases t with
  | nil =>
    intro pins sh I
    exact (pe_one pe_sem).run pins sh t' H Q I (hb X sc ow r A c s st v st' io H t' Q rs R e p)
  | cons t1 t2 => exact hb X sc ow _ A c s st v st' io H t' Q rs R e p
theorem se_and {a b : E} (ha : SE T d N a) (hb : SE T d N b) : SE T d N (.and a b) := by
  intro X sc ow q A hc s st v st' io H t Q rs R e p
  simp only [ev] at e
  obtain ⟨x, st1, e1, e⟩ := bind_eq_ok.mp e
  have go : ∀ (q1 r : Expr) (u : List Expr) (pos : Pos), chE T.nm N a sc q1 = true → (match u with | [] => chE T.nm N b sc r = true | _ => chE T.nm N b sc (.BoolOp .And (r :: u) pos) = true) → tSem X (.BoolOp .And (q1 :: r :: u) pos) t H Q := by
    intro q1 r u pos c1 c2 pins sh I
    refine (pe_and pe_sem pe_sem).run pins sh t H Q I ?_
    refine ha X sc ow q1 A c1 s st x st1 io H t _ rs R e1 fun io1 H1 w u1 R1 r1 => ?_
    split at e
    · obtain rfl := r1.ibl
      refine ⟨true, rfl, ?_⟩
      rw [if_pos rfl]
      exact and_rest hb A c2 (rs.up u1) R1 e (p.after u1)
    · obtain rfl := r1.ibl
      cases e
      refine ⟨false, rfl, ?_⟩
      rw [if_neg (by decide)]
      exact (p.after u1).here R1 (.bl _)
    · cases e
  simp only [chE] at hc
  split at hc
  · rw [Bool.and_eq_true] at hc; exact go _ _ [] _ hc.1 hc.2
  · rw [Bool.and_eq_true] at hc; exact go _ _ (_ :: _) _ hc.1 hc.2
  · cases hc
theorem se_or {a b : E} (ha : SE T d N a) (hb : SE T d N b) : SE T d N (.or a b) := by
  intro X sc ow q A hc s st v st' io H t Q rs R e p
  simp only [ev] at e
  obtain ⟨x, st1, e1, e⟩ := bind_eq_ok.mp e
  have go : ∀ (q1 r : Expr) (u : List Expr) (pos : Pos), chE T.nm N a sc q1 = true → (match u with | [] => chE T.nm N b sc r = true | _ => chE T.nm N b sc (.BoolOp .Or (r :: u) pos) = true) → tSem X (.BoolOp .Or (q1 :: r :: u) pos) t H Q := by
    intro q1 r u pos c1 c2 pins sh I
    refine (pe_or pe_sem pe_sem).run pins sh t H Q I ?_
    refine ha X sc ow q1 A c1 s st x st1 io H t _ rs R e1 fun io1 H1 w u1 R1 r1 => ?_
    split at e
    · obtain rfl := r1.ibl
      cases e
      refine ⟨true, rfl, ?_⟩
      rw [if_pos rfl]
      exact (p.after u1).here R1 (.bl _)
    · obtain rfl := r1.ibl
      refine ⟨false, rfl, ?_⟩
      rw [if_neg (by decide)]
      exact and_rest hb A c2 (rs.up u1) R1 e (p.after u1)
    · cases e
  simp only [chE] at hc
  split at hc
  · rw [Bool.and_eq_true] at hc; exact go _ _ [] _ hc.1 hc.2
  · rw [Bool.and_eq_true] at hc; exact go _ _ (_ :: _) _ hc.1 hc.2
  · cases hc
theorem se_not {a : E} (ha : SE T d N a) : SE T d N (.not a) := by
  intro X sc ow q A hc s st v st' io H t Q rs R e p
  simp only [chE] at hc
  split at hc
  · simp only [ev] at e
    obtain ⟨x, st1, e1, e⟩ := bind_eq_ok.mp e
    split at e
    · cases e
      intro pins sh I
      refine (pe_not pe_sem).run pins sh t H Q I ?_
      refine ha X sc ow _ A hc s st _ _ io H t _ rs R e1 fun io1 H1 w u1 R1 r1 => ?_
      obtain rfl := r1.ibl
      exact ⟨_, rfl, (p.after u1).here R1 (.bl _)⟩
    · cases e
  · cases hc
theorem se_ite {c : B} {a b : E} (hc' : SB T d N c) (ha : SE T d N a) (hb : SE T d N b) : SE T d N (.ite c a b) := by
  intro X sc ow q A hc s st v st' io H t Q rs R e p
  simp only [chE] at hc
  split at hc
  · simp only [Bool.and_eq_true] at hc
    simp only [ev] at e
    obtain ⟨k, st1, e1, e⟩ := bind_eq_ok.mp e
    intro pins sh I
    refine (pe_ifExp pt_sem pe_sem pe_sem).run pins sh t H Q I ?_
    refine hc' X sc ow _ A hc.1.1 s st k st1 io H t _ rs R e1 fun io1 H1 u1 R1 => ?_
    cases k with
    | true =>
      rw [if_pos rfl]
      exact ha X sc ow _ A hc.1.2 s st1 v st' io1 H1 t Q (rs.up u1) R1 e (p.after u1)
    | false =>
      rw [if_neg (by decide)]
      exact hb X sc ow _ A hc.2 s st1 v st' io1 H1 t Q (rs.up u1) R1 e (p.after u1)
  · cases hc
theorem se_sub {a b : E} (ha : SE T d N a) (hb : SE T d N b) : SE T d N (.sub a b) := by
  intro X sc ow q A hc s st v st' io H t Q rs R e p
  simp only [chE] at hc
  split at hc
  · simp only [Bool.and_eq_true] at hc
    simp only [ev] at e
    obtain ⟨x, st1, e1, e⟩ := bind_eq_ok.mp e
    obtain ⟨y, st2, e2, e⟩ := bind_eq_ok.mp e
    intro pins sh I
    refine (pe_ix ix_sem pe_sem pe_sem (plain_ix hc.2)).run pins sh t H Q I ?_
    refine ha X sc ow _ A hc.1.1 s st x st1 io H t _ rs R e1 fun io1 H1 w u1 R1 r1 => ?_
    refine hb X sc ow _ A hc.1.2 s st1 y st2 io1 H1 t _ (rs.up u1) R1 e2 fun io2 H2 w2 u2 R2 r2 => ?_
    exact sub_ok A.hu R2 (r1.up u2) r2 e (p.after (u1.trans u2))
  · cases hc
/-- a slice's part -/
def pSem (X : Cx) (e : Option Expr) : TO := fun σ H Q => ∀ (pins : List (Addr × Obj)) (s : Shared), Inv X pins σ H s → wpAny (model X.prog X.w) X.A (evalPart e X.env) (fun u s' => ∃ o H', Inv X pins σ H' s' ∧ IsPart u o ∧ Q o H') X.xe s
theorem po_sem {X : Cx} {e : Option Expr} : PO X e (pSem X e) := ⟨fun pins s σ H Q I h => h pins s I⟩
def SO (T : Tab) (d : Nat) (N : List Str) (e : Eo) : Prop := ∀ (X : Cx) (sc : Scope) (ow : Str → Bool) (p : Option Expr), At T d X N sc ow → chO T.nm N e sc p = true →
  ∀ (s : Env) (st : Store) (v : Option Val) (o : Option Int) (st' : Store) (io : Nat → Addr) (H : Hp) (t : L2.St) (Q : Option Int → Hp → Prop), RS X.K T.G.kt io st.n H s t → Rl X.K T.G.kt T.ca io st H → evo (T.cx d) e s st = .ok v st' → part v = some o →
    (∀ (io' : Nat → Addr) (H' : Hp), Up io st.n H io' st'.n H' → Rl X.K T.G.kt T.ca io' st' H' → Q o H') → pSem X p t H Q
theorem so_no : SO T d N .no := by
  intro X sc ow q A hc s st v o st' io H t Q rs R e eo p
  simp only [chO] at hc
  split at hc
  · simp only [evo] at e
    cases e
    cases eo
    intro pins sh I
    exact po_none.run pins sh t H Q I (p io H (.refl _ _ _) R)
  · cases hc
theorem so_so {a : E} (ha : SE T d N a) : SO T d N (.so a) := by
  intro X sc ow q A hc s st v o st' io H t Q rs R e eo p
  simp only [chO] at hc
  split at hc
  · simp only [evo] at e
    obtain ⟨x, st1, e1, e⟩ := bind_eq_ok.mp e
    cases e
    intro pins sh I
    refine (po_some pe_sem).run pins sh t H Q I ?_
    refine ha X sc ow _ A hc s st x _ io H t _ rs R e1 fun io1 H1 w u1 R1 r1 => ?_
    cases r1 with
    | int i => cases eo; exact ⟨i, rfl, p io1 H1 u1 R1⟩
    | _ => cases eo
  · cases hc
theorem se_cut {a : E} {lo hi : Eo} (ha : SE T d N a) (hl : SO T d N lo) (hh : SO T d N hi) : SE T d N (.cut a lo hi) := by
  intro X sc ow q A hc s st v st' io H t Q rs R e p
  simp only [chE] at hc
  split at hc
  · simp only [Bool.and_eq_true] at hc
    simp only [ev] at e
    obtain ⟨x, st1, e1, e⟩ := bind_eq_ok.mp e
    obtain ⟨l, st2, e2, e⟩ := bind_eq_ok.mp e
    obtain ⟨h, st3, e3, e⟩ := bind_eq_ok.mp e
    have hp : ∃ ol oh, part l = some ol ∧ part h = some oh := by
      unfold cutV at e
      split at e
      · rename_i ol oh el eh; exact ⟨ol, oh, el, eh⟩
      · cases e
    obtain ⟨ol, oh, el, eh⟩ := hp
    intro pins sh I
    refine (pe_slice sl_sem pe_sem po_sem po_sem).run pins sh t H Q I ?_
    refine ha X sc ow _ A hc.1.1 s st x st1 io H t _ rs R e1 fun io1 H1 w u1 R1 r1 => ?_
    refine hl X sc ow _ A hc.1.2 s st1 l ol st2 io1 H1 t _ (rs.up u1) R1 e2 el fun io2 H2 u2 R2 => ?_
    refine hh X sc ow _ A hc.2 s st2 h oh st3 io2 H2 t _ (rs.up (u1.trans u2)) R2 e3 eh fun io3 H3 u3 R3 => ?_
    exact cut_ok R3 (r1.up (u2.trans u3)) el eh e (p.after ((u1.trans u2).trans u3))
  · cases hc
theorem se_fld {a : E} {f : Str} (ha : SE T d N a) : SE T d N (.fld a f) := by
  intro X sc ow q A hc s st v st' io H t Q rs R e p
  simp only [chE] at hc
  split at hc
  · simp only [Bool.and_eq_true, decide_eq_true_eq] at hc
    obtain ⟨⟨rfl, c1⟩, c2⟩ := hc
    simp only [ev] at e
    obtain ⟨x, st1, e1, e⟩ := bind_eq_ok.mp e
    intro pins sh I
    refine (pe_fld pe_sem (base_of c2 _)).run pins sh t H Q I ?_
    refine ha X sc ow _ A c1 s st x st1 io H t _ rs R e1 fun io1 H1 w u1 R1 r1 => ?_
    unfold getF at e
    split at e
    · obtain ⟨rfl, hi⟩ := r1.iref
      split at e
      · rename_i c fs em
        split at e
        · rename_i hf
          split at e
          · rename_i u el
            cases e
            obtain ⟨_, _, dx, gs, h1, rk⟩ := R1.inst em
            obtain ⟨cl, na⟩ := A.top.fl c f hf
            rcases rk.lookup f with ⟨e2, _⟩ | ⟨v', w', e2, e3, rv⟩
            · rw [el] at e2; cases e2
            · rw [el] at e2; cases e2
              exact ⟨_, _, dx, gs, w', rfl, h1, cl, na, e3, (p.after u1).here R1 rv⟩
          · cases e
        · cases e
      · cases e
    · cases e
  · cases hc
/-- a call of a def of the table -/
theorem sp_call {X : Cx} {f : Nat} {io : Nat → Addr} {st st' : Store} {H : Hp} {vs : List Val} {ws : List V} {v : Val} {Q : VK} {E : XK} {d' : Nat} {fd : FDef} (tp : Top T X.K X.mg) (hf : T.G.fn f = some fd)
    (R : Rl X.K T.G.kt T.ca io st H) (r : RVs X.K T.G.kt io st.n H vs ws) (e : callN T.G T.fuel d' f vs st = .ok v st') (p : Post X.K T.G.kt T.ca io st H v st' Q) :
    spF X.K T (callN T.G T.fuel d' f) (T.psn f).length ws H Q E := by
  refine ⟨?_, io, st, vs, v, st', R, r, e, p⟩
  cases d' with
  | zero => cases e
  | succ d' =>
    rw [callN_succ, hf] at e
    simp only at e
    unfold runF at e
    split at e
    · rename_i h; rw [← r.length, h]; exact (tp.fn f fd hf).2.1.symm
    · cases e
theorem call_fn {f : Nat} {vs : List Val} {st st' : Store} {v : Val} {d' : Nat} (e : callN T.G T.fuel d' f vs st = .ok v st') : ∃ fd, T.G.fn f = some fd := by
  cases d' with
  | zero => cases e
  | succ d' =>
    rw [callN_succ] at e
    split at e
    · rename_i fd h; exact ⟨fd, h⟩
    · cases e
theorem se_call {f : Nat} {es : Es} (hs : SA T d N es) : SE T d N (.call f es) := by
  intro X sc ow q A hc s st v st' io H t Q rs R e p
  simp only [chE] at hc
  split at hc
  · rename_i x p1 ps pos
    simp only [Bool.and_eq_true] at hc
    obtain ⟨⟨c1, c2⟩, c3⟩ := hc
    simp only [ev] at e
    obtain ⟨vs, st1, e1, e⟩ := bind_eq_ok.mp e
    have e : callN T.G T.fuel d f vs st1 = .ok v st' := e
    obtain ⟨fd, hf⟩ := call_fn e
    obtain ⟨hb, hl, hg⟩ := A.top.fn f fd hf
    obtain ⟨hm, hk⟩ := hg c2
    obtain ⟨rfl, _, hd⟩ := gB_ok c1
    have F := A.fns d (Nat.le_refl _) f fd hf
    have st_ := chEs_star c3
    intro pins sh I
    have read := hs X sc ow ps A c3 s st vs st1 io H t (fun ws H1 => spF X.K T (callN T.G T.fuel d f) (T.psn f).length (ws ++ []) H1 Q E0) rs R e1 fun io1 H1 ws u1 R1 r1 => by
      simp only [List.append_nil]
      exact sp_call A.top hf R1 r1 e (p.after u1)
    cases ps with
    | nil =>
      have r2 := read pos pins sh I
      refine (pe_call0 F A.room (A.gl c1) hm hk hb .nil pass0 hd).run pins sh t H Q I ?_
      cases es with
      | nil =>
        simp only [evs] at e1
        cases e1
        show spF _ _ _ _ ([] ++ []) H Q E0
        exact sp_call A.top hf R .nil e p
      | cons a b => simp [chEs] at c3
    | cons p2 ps =>
      rw [List.all_cons, Bool.and_eq_true] at st_
      exact (pe_call F A.room (A.gl c1) hm hk hb .nil pass0 pa_sem hd (star_cons st_.1) (star_any st_.2)).run pins sh t H Q I read
  · cases hc
theorem se_make {c : Nat} {es : Es} (hs : SA T d N es) : SE T d N (.make c es) := by
  intro X sc ow q A hc s st v st' io H t Q rs R e p
  simp only [chE] at hc
  split at hc
  · rename_i x p1 ps pos
    simp only [Bool.and_eq_true] at hc
    obtain ⟨c1, c3⟩ := hc
    simp only [ev] at e
    obtain ⟨vs, st1, e1, e⟩ := bind_eq_ok.mp e
    split at e
    · rename_i f hi
      obtain ⟨u, st2, e2, e⟩ := bind_eq_ok.mp e
      split at e
      · cases e
        cases d with
        | zero => cases e2
        | succ d =>
          have e2 : callN T.G T.fuel d f (.ref st1.n :: vs) (st1.new (.ins c [])) = .ok .non st' := e2
          have hi : T.G.ini c = some f := hi
          obtain ⟨hm, M, fd, hf⟩ := A.top.ini c f hi
          obtain ⟨hb, hl, _⟩ := A.top.fn f fd hf
          obtain ⟨rfl, _, hd⟩ := gB_ok c1
          have F := A.fns d (Nat.le_succ _) f fd hf
          have st_ := chEs_star c3
          have made : ∀ (io1 : Nat → Addr) (H1 : Hp) (ws : List V), Up io st.n H io1 st1.n H1 → Rl X.K T.G.kt T.ca io1 st1 H1 → RVs X.K T.G.kt io1 st1.n H1 vs ws → ∀ a dx, H1 a = none → H1 dx = none → dx ≠ a →
              spF X.K T (callN T.G T.fuel d f) (T.psn f).length (.ref a :: (ws ++ [])) (upd (upd H1 dx (.own a)) a (.ins (T.ca c) dx [])) (fun v H2 => v = .non ∧ Q (.ref a) H2) E0 := by
            intro io1 H1 ws u1 R1 r1 a dx ha hdx hne
            rw [List.append_nil]
            -- the dict's own place is laid first: nothing of the store
            have uo : Up io1 st1.n H1 io1 st1.n (upd H1 dx (.own a)) := ⟨Nat.le_refl _, fun _ _ => rfl, .new _ hdx⟩
            have Ro : Rl X.K T.G.kt T.ca io1 st1 (upd H1 dx (.own a)) := ⟨fun i hi => by
              obtain ⟨o, eo, ro⟩ := R1.ob i hi
              refine ⟨o, eo, ro.up uo fun hr => ?_⟩
              rw [hr] at ro
              obtain ⟨y, ey, _⟩ := ro.mutO
              exact upd_ne (ne_of_none ey hdx), R1.no, R1.inj⟩
            have ha' : upd H1 dx (.own a) a = none := by rw [upd_ne (Ne.symm hne)]; exact ha
            have un := Up.new (io := io1) (st := st1) (.ins (T.ca c) dx []) ha'
            have Rn := Ro.new (o := .ins c []) (u := .ins (T.ca c) dx []) ha' (.ins upd_same .nil)
            refine sp_call A.top hf Rn ?_ e2 fun io2 H2 w u2 R2 r2 => ?_
            · refine .cons ?_ (r1.up (uo.trans un))
              have h : RV X.K T.G.kt (ioNew io1 st1.n a) (st1.n + 1) (upd (upd H1 dx (.own a)) a (.ins (T.ca c) dx [])) (.ref st1.n) (.ref (ioNew io1 st1.n a st1.n)) := .ref (Nat.lt_succ_self _)
              rw [ioNew_at] at h; exact h
            · obtain rfl := r2.inon
              refine ⟨rfl, p io2 H2 _ ((u1.trans (uo.trans un)).trans u2) R2 ?_⟩
              have h : RV X.K T.G.kt io2 st'.n H2 (.ref st1.n) (.ref (io2 st1.n)) := .ref (Nat.lt_of_lt_of_le (Nat.lt_succ_self _) u2.le)
              rw [u2.io _ (Nat.lt_succ_self _), ioNew_at] at h; exact h
          intro pins sh I
          have read := hs X sc ow ps A c3 s st vs st1 io H t (fun ws H1 => ∀ a dx, H1 a = none → H1 dx = none → dx ≠ a →
              spF X.K T (callN T.G T.fuel d f) (T.psn f).length (.ref a :: (ws ++ [])) (upd (upd H1 dx (.own a)) a (.ins (T.ca c) dx [])) (fun v H2 => v = .non ∧ Q (.ref a) H2) E0) rs R e1 made
          cases ps with
          | nil =>
            refine (pe_make0 M F A.room (A.gl c1) hm hb .nil pass0 hd).run pins sh t H Q I ?_
            cases es with
            | nil =>
              simp only [evs] at e1
              cases e1
              exact made io H [] (.refl _ _ _) R .nil
            | cons a b => simp [chEs] at c3
          | cons p2 ps =>
            rw [List.all_cons, Bool.and_eq_true] at st_
            exact (pe_make M F A.room (A.gl c1) hm hb .nil pass0 pa_sem hd (star_cons st_.1) (star_any st_.2)).run pins sh t H Q I read
      · cases e
    · cases e
  · cases hc
end
end CL

/-! CL, part h: methods, built-ins, dict displays, tests -/
namespace CL
open PySem PySem.Spec PyProof.Rows L2
section
variable {T : Tab} {d : Nat} {N : List Str}
theorem se_met {a : E} {m : Str} {es : Es} (ha : SE T d N a) (hs : SA T d N es) : SE T d N (.met a m es) := by
  intro X sc ow q A hc s st v st' io H t Q rs R e p
  simp only [chE] at hc
  split at hc
  · rename_i q1 g ap ps pos
    simp only [Bool.and_eq_true, decide_eq_true_eq] at hc
    obtain ⟨⟨⟨⟨⟨rfl, c1⟩, c2⟩, c3⟩, c4⟩, c5⟩ := hc
    simp only [ev] at e
    obtain ⟨x, st1, e1, e⟩ := bind_eq_ok.mp e
    split at e
    · rename_i i
      split at e
      · rename_i k fs em
        split at e
        · rename_i hl
          split at e
          · rename_i f hm
            obtain ⟨vs, st2, e2, e⟩ := bind_eq_ok.mp e
            have e : callN T.G T.fuel d f (.ref i :: vs) st2 = .ok v st' := e
            have hm : T.G.mt k m = some f := hm
            obtain ⟨cl, mm, fd, hf⟩ := A.top.mt k m f hm
            obtain ⟨hb, _, _⟩ := A.top.fn f fd hf
            have F := A.fns d (Nat.le_refl _) f fd hf
            have st_ := chEs_star c5
            have he := meth_eval (o := q1) (m := m) (apos := ap) (pos := pos) (es := ps) (env := X.env) c2 st_ c3 (by omega)
            have fin : ∀ (io1 : Nat → Addr) (H1 : Hp) (w : V), Up io st.n H io1 st1.n H1 → Rl X.K T.G.kt T.ca io1 st1 H1 → RV X.K T.G.kt io1 st1.n H1 (.ref i) w → ∃ b dx gs, w = .ref b ∧ H1 b = some (.ins (T.ca k) dx gs) ∧ gs.lookup m = none ∧
                aSem X ps t H1 fun ws H2 => spF X.K T (callN T.G T.fuel d f) (T.psn f).length (w :: (ws ++ [])) H2 Q E0 := by
              intro io1 H1 w u1 R1 r1
              obtain ⟨rfl, hi⟩ := r1.iref
              obtain ⟨_, _, dx, gs, h1, rk⟩ := R1.inst em
              have hg : gs.lookup m = none := by
                rcases rk.lookup m with ⟨_, z⟩ | ⟨v', w', z, _, _⟩
                · exact z
                · rw [hl] at z; cases z
              refine ⟨_, dx, gs, rfl, h1, hg, ?_⟩
              refine hs X sc ow ps A c5 s st1 vs st2 io1 H1 t _ (rs.up u1) R1 e2 fun io2 H2 ws u2 R2 r2 => ?_
              simp only [List.append_nil]
              exact sp_call A.top hf R2 (.cons (r1.up u2) r2) e (p.after (u1.trans u2))
            intro pins sh I
            cases ps with
            | nil =>
              refine (pe_meth0 (pl := do return (← importBound q1 X.env).getD true) pe_sem cl mm F A.room hb .nil pass0 he).run pins sh t H Q I ?_
              refine ha X sc ow q1 A c1 s st _ st1 io H t _ rs R e1 fun io1 H1 w u1 R1 r1 => ?_
              obtain ⟨b, dx, gs, rfl, h1, h2, h3⟩ := fin io1 H1 w u1 R1 r1
              refine ⟨b, dx, gs, rfl, h1, h2, ?_⟩
              cases es with
              | nil =>
                simp only [evs] at e2
                cases e2
                show spF _ _ _ _ (.ref b :: ([] ++ [])) H1 Q E0
                exact sp_call A.top hf R1 (.cons r1 .nil) e (p.after u1)
              | cons a b => simp [chEs] at c5
            | cons p2 ps =>
              rw [List.all_cons, Bool.and_eq_true] at st_
              refine (pe_meth (pl := do return (← importBound q1 X.env).getD true) pe_sem cl mm F A.room hb .nil pass0 pa_sem (star_cons st_.1) (star_any st_.2) he).run pins sh t H Q I ?_
              exact ha X sc ow q1 A c1 s st _ st1 io H t _ rs R e1 fun io1 H1 w u1 R1 r1 => fin io1 H1 w u1 R1 r1
          · cases e
        · cases e
      · cases e
    · cases e
  · cases hc
theorem bm_slot (b : Bm) : Slot "list" (bmName b) (bmId b) ∧ typeOf (.builtin (bmId b)) = pure (.type "method_descriptor") := by
  cases b
  · exact ⟨PySem.F.slot_list_append, PySem.F.type_list_append⟩
  · exact ⟨PySem.F.slot_list_pop, PySem.F.type_list_pop⟩
  · exact ⟨PySem.F.slot_list_count, PySem.F.type_list_count⟩
  · exact ⟨PySem.F.slot_list_index, PySem.F.type_list_index⟩
theorem se_bm {b : Bm} {a : E} {es : Es} (ha : SE T d N a) (hs : SA T d N es) : SE T d N (.bm b a es) := by
  intro X sc ow q A hc s st v st' io H t Q rs R e p
  simp only [chE] at hc
  split at hc
  · rename_i q1 g ap ps pos
    simp only [Bool.and_eq_true, decide_eq_true_eq] at hc
    obtain ⟨⟨⟨⟨⟨rfl, c1⟩, c2⟩, c3⟩, c4⟩, c5⟩ := hc
    simp only [ev] at e
    obtain ⟨x, st1, e1, e⟩ := bind_eq_ok.mp e
    split at e
    · rename_i i
      split at e
      · rename_i xs em
        obtain ⟨vs, st2, e2, e⟩ := bind_eq_ok.mp e
        obtain ⟨sl, ty⟩ := bm_slot b
        have st_ := chEs_star c5
        intro pins sh I
        have ty1 : ∀ (io1 : Nat → Addr) (H1 : Hp) (w : V), Rl X.K T.G.kt T.ca io1 st1 H1 → RV X.K T.G.kt io1 st1.n H1 (.ref i) w → tyV X.K "list" w H1 := by
          intro io1 H1 w R1 r1
          obtain ⟨rfl, hi⟩ := r1.iref
          obtain ⟨ys, s1, _, _⟩ := R1.list em
          exact .inl ⟨rfl, ys, s1⟩
        cases ps with
        | nil =>
          refine (pe_bm0 PySem.F.plainAttrs_list sl ty mt_sem pe_sem (base_of c2 _) c3).run pins sh t H Q I ?_
          refine ha X sc ow q1 A c1 s st _ st1 io H t _ rs R e1 fun io1 H1 w u1 R1 r1 => ⟨ty1 io1 H1 w R1 r1, ?_⟩
          cases es with
          | nil =>
            simp only [evs] at e2
            cases e2
            exact bm_ok A.hu R1 r1 .nil e (p.after u1)
          | cons a b => simp [chEs] at c5
        | cons p2 ps =>
          have st2_ := st_
          rw [List.all_cons, Bool.and_eq_true] at st2_
          refine (pe_bm PySem.F.plainAttrs_list sl ty mt_sem pe_sem pa_sem (base_of c2 _) ?_ c3 (star_cons st2_.1) (star_any st2_.2)).run pins sh t H Q I ?_
          · rw [(star_map st_).1, (star_map (pos := pos) st_).2.2]
            show (true && true && decide ((p2 :: ps).length + 0 + 0 < 30)) = true
            simp only [Bool.true_and, decide_eq_true_eq]; omega
          · refine ha X sc ow q1 A c1 s st _ st1 io H t _ rs R e1 fun io1 H1 w u1 R1 r1 => ⟨ty1 io1 H1 w R1 r1, ?_⟩
            refine hs X sc ow _ A c5 s st1 vs st2 io1 H1 t _ (rs.up u1) R1 e2 fun io2 H2 ws u2 R2 r2 => ?_
            exact bm_ok A.hu R2 (r1.up u2) r2 e (p.after (u1.trans u2))
      · cases e
    · cases e
  · cases hc
theorem bf_some {b : Bf} {st st' : Store} {v : Val} (e : bfn b [] st = .ok v st') : False := by
  unfold bfn at e
  cases b <;> cases e
theorem bf_boot (b : Bf) : bootBuiltins (bfName b) = some (bfVal b) ∧ bfName b ≠ "__name__" := by
  cases b <;> exact ⟨by decide +kernel, by decide⟩
theorem bf_val (b : Bf) : (∃ id, bfVal b = .builtin id) ∨ ∃ n, bfVal b = .type n := by cases b <;> first | exact .inl ⟨_, rfl⟩ | exact .inr ⟨_, rfl⟩
theorem se_bf {b : Bf} {es : Es} (hs : SA T d N es) : SE T d N (.bf b es) := by
  intro X sc ow q A hc s st v st' io H t Q rs R e p
  simp only [chE] at hc
  split at hc
  · rename_i x p1 ps pos
    rw [Bool.and_eq_true] at hc
    obtain ⟨c1, c2⟩ := hc
    simp only [ev] at e
    obtain ⟨vs, st1, e1, e⟩ := bind_eq_ok.mp e
    obtain ⟨rfl, _, hd⟩ := gB_ok c1
    have st_ := chEs_star c2
    obtain ⟨b1, b2⟩ := bf_boot b
    have read := hs X sc ow ps A c2 s st vs st1 io H t (fun ws H1 => cSem X (bfVal b) ws H1 Q) rs R e1 fun io1 H1 ws u1 R1 r1 => bf_ok A.calm R1 r1 e (p.after u1)
    cases ps with
    | nil =>
      cases es with
      | nil =>
        simp only [evs] at e1
        cases e1
        exact (bf_some e).elim
      | cons a b => simp [chEs] at c2
    | cons p2 ps =>
      rw [List.all_cons, Bool.and_eq_true] at st_
      intro pins sh I
      rcases bf_val b with ⟨id, hv⟩ | ⟨n, hv⟩
      · rw [hv] at b1 read
        exact (pe_callB call_sem (A.gl c1) (A.top.bf b) b1 pa_sem b2 hd (star_cons st_.1) (star_any st_.2)).run pins sh t H Q I read
      · rw [hv] at b1 read
        exact (pe_callTy call_sem (A.gl c1) (A.top.bf b) b1 pa_sem b2 hd (star_cons st_.1) (star_any st_.2)).run pins sh t H Q I read
  · cases hc
theorem ty_boot (t : Ty) (h : tyB t = true) : bootBuiltins (Str.ofString (tyName t)) = some (.type (tyName t)) ∧ (Str.ofString (tyName t)) ≠ "__name__" := by
  cases t <;> first | exact ⟨by decide +kernel, by decide⟩ | cases h
theorem se_isi {a : E} {y : Ty} (ha : SE T d N a) : SE T d N (.isi a y) := by
  intro X sc ow q A hc s st v st' io H t Q rs R e p
  simp only [chE] at hc
  split at hc
  · rename_i x p1 q1 z p2 pos
    simp only [Bool.and_eq_true] at hc
    obtain ⟨⟨⟨⟨c1, c2⟩, c3⟩, c4⟩, c5⟩ := hc
    simp only [ev] at e
    obtain ⟨u, st1, e1, e⟩ := bind_eq_ok.mp e
    obtain ⟨k, e2, rfl, rfl⟩ := okB_inv e
    obtain ⟨rfl, _, hd⟩ := gB_ok c1
    obtain ⟨rfl, _, hd2⟩ := gB_ok c2
    obtain ⟨b1, b2⟩ := ty_boot y c3
    intro pins sh I
    refine (pe_callB (x := "isinstance") (id := "isinstance") call_sem (A.gl c1) A.top.isi (by decide +kernel) (pa_cons pe_sem (pa_cons (pe_bltn (A.gl c2) (A.top.ty y c3) b1 (v := .ty (tyName y)) rfl b2 hd2) pa_nil (by rfl)) (star_cons c5)) (by decide) hd (star_cons c5) (by rfl)).run pins sh t H Q I ?_
    refine ha X sc ow q1 A c4 s st u _ io H t _ rs R e1 fun io1 H1 w u1 R1 r1 => ?_
    refine isi_ok R1 r1 ?_ e2 ((p.after u1).here R1 (.bl _))
    cases y <;> first | exact trivial | cases c3
  · cases hc

/-! ### dict displays -/
def SPp (T : Tab) (d : Nat) (N : List Str) (ps : Ps) : Prop := ∀ (X : Cx) (sc : Scope) (ow : Str → Bool) (ks : List (Option Expr)) (vs : List Expr) (pos : Pos), At T d X N sc ow → chPs T.nm N ps sc ks vs = true →
  ∃ trs, PPs X pos ks vs trs ∧ ks.all (·.isSome) = true ∧ ks.length = vs.length ∧
  ∀ (s : Env) (st : Store) (rs : List (Val × Val)) (st' : Store) (io : Nat → Addr) (H : Hp) (t : L2.St) (Q : List (V × V) → Hp → Prop), RS X.K T.G.kt io st.n H s t → Rl X.K T.G.kt T.ca io st H → evp (T.cx d) ps s st = .ok rs st' →
    (∀ (io' : Nat → Addr) (H' : Hp) (ws : List (V × V)), Up io st.n H io' st'.n H' → Rl X.K T.G.kt T.ca io' st' H' → Paired (fun (p : Val × Val) (q : V × V) => RV X.K T.G.kt io' st'.n H' p.1 q.1 ∧ RV X.K T.G.kt io' st'.n H' p.2 q.2) rs ws → Q ws H') → tPairs trs t H Q
theorem sp_nil : SPp T d N .nil := by
  intro X sc ow ks vs pos A hc
  simp only [chPs] at hc
  split at hc
  · refine ⟨[], pps_nil, rfl, rfl, fun s st rs st' io H t Q r R e p => ?_⟩
    simp only [evp] at e
    cases e
    exact p io H [] (.refl _ _ _) R .nil
  · cases hc
theorem Paired.imp2 {α β : Type} {F G : α → β → Prop} {l1 : List α} {l2 : List β} (h : Paired F l1 l2) (f : ∀ a b, F a b → G a b) : Paired G l1 l2 := L2.Paired.mapP h f
theorem sp_cons {k v : E} {ps : Ps} (hk : SE T d N k) (hv : SE T d N v) (hp : SPp T d N ps) : SPp T d N (.cons k v ps) := by
  intro X sc ow ks vs pos A hc
  simp only [chPs] at hc
  split at hc
  · simp only [Bool.and_eq_true] at hc
    obtain ⟨trs, h1, h2, h3, h4⟩ := hp X sc ow _ _ pos A hc.2
    refine ⟨_, pps_cons pe_sem pe_sem h1, by rw [List.all_cons, h2]; rfl, by rw [List.length_cons, List.length_cons, h3], fun s st rs st' io H t Q r R e p => ?_⟩
    simp only [evp] at e
    obtain ⟨x, st1, e1, e⟩ := bind_eq_ok.mp e
    obtain ⟨y, st2, e2, e⟩ := bind_eq_ok.mp e
    obtain ⟨z, st3, e3, e⟩ := bind_eq_ok.mp e
    cases e
    refine hk X sc ow _ A hc.1.1 s st x st1 io H t _ r R e1 fun io1 H1 w u1 R1 r1 => ?_
    refine hv X sc ow _ A hc.1.2 s st1 y st2 io1 H1 t _ (r.up u1) R1 e2 fun io2 H2 w2 u2 R2 r2 => ?_
    refine h4 s st2 z _ io2 H2 t _ (r.up (u1.trans u2)) R2 e3 fun io3 H3 w3 u3 R3 r3 => ?_
    exact p io3 H3 _ ((u1.trans u2).trans u3) R3 (.cons ⟨r1.up (u2.trans u3), r2.up u3⟩ r3)
  · cases hc
theorem keyed_ok {K : PySem.W.Frag} {kt : List (List Val)} {io : Nat → Addr} {n : Nat} {H : Hp} : ∀ {rs : List (Val × Val)} {ws : List (V × V)} {kvs : List (Key × Val)},
    Paired (fun (p : Val × Val) (q : V × V) => RV K kt io n H p.1 q.1 ∧ RV K kt io n H p.2 q.2) rs ws → keyed rs = some kvs → ∃ kws : List (Key × V), ws = kws.map (fun kv => (kV kv.1, kv.2)) ∧ RKs K kt io n H kvs kws
  | _, _, _, .nil, e => by cases e; exact ⟨[], rfl, .nil⟩
  | (k, v) :: _, _, _, .cons h t, e => by
    unfold keyed at e
    split at e
    · rename_i k' r e1 e2
      cases e
      obtain ⟨kws, rfl, q⟩ := keyed_ok t e2
      have hk := key1_kV h.1 e1
      refine ⟨(k', _) :: kws, ?_, .cons h.2 q⟩
      rw [List.map_cons, ← hk]
    · cases e
theorem se_dic {ps : Ps} (hp : SPp T d N ps) : SE T d N (.dic ps) := by
  intro X sc ow q A hc s st v st' io H t Q rs R e p
  simp only [chE] at hc
  split at hc
  · rename_i ks vs pos
    simp only [Bool.and_eq_true, decide_eq_true_eq] at hc
    obtain ⟨trs, h1, h2, h3, h4⟩ := hp X sc ow ks vs pos A hc.1
    simp only [ev] at e
    obtain ⟨rr, st1, e1, e⟩ := bind_eq_ok.mp e
    split at e
    · rename_i kvs ek
      split at e
      · rename_i hz
        obtain ⟨z, st2, e2, e⟩ := bind_eq_ok.mp e
        obtain ⟨hr, rfl, rfl⟩ := wr_inv e2
        cases e
        intro pins sh I
        by_cases h0 : ks = []
        · subst h0
          cases ps with
          | cons _ _ _ => simp [chPs] at hc
          | nil =>
            have hv : vs = [] := by cases vs with
              | nil => rfl
              | cons _ _ => simp at h3
            subst hv
            simp only [evp] at e1
            cases e1
            cases ek
            refine pe_dnewK.run pins sh t H Q I fun a ha => ?_
            have R2 := R.new (o := .dK []) (u := .dK []) ha (.dK upd_same .nil)
            have hi : st.n < (st.new (.dK [])).n := Nat.lt_succ_self _
            have p2 := p.after (io1 := ioNew io st.n a) (st1 := st.new (.dK [])) (Up.new (.dK []) ha)
            have := p2.wrote (u := .dK []) (w := .ref a) R2 hi hr fun up => ⟨.dK upd_same .nil, by
              have h : RV X.K T.G.kt (ioNew io st.n a) (st.n + 1) (upd (upd H a (.dK [])) (ioNew io st.n a st.n) (.dK [])) (.ref st.n) (.ref (ioNew io st.n a st.n)) := .ref (Nat.lt_succ_self _)
              have h2 := h
              rw [show (V.ref (ioNew io st.n a st.n)) = V.ref a by rw [ioNew_at]] at h2
              exact h2⟩
            rw [ioNew_at, upd_upd] at this
            exact this
        · refine (pe_disp h1 h2 h3 h0 hc.2).run pins sh t H Q I fun a ha => ?_
          have R1 := R.new (o := .dK []) (u := .dK []) ha (.dK upd_same .nil)
          have u1 := Up.new (io := io) (st := st) (.dK []) ha
          refine h4 s (st.new (.dK [])) rr st1 (ioNew io st.n a) _ t _ (rs.up u1) R1 e1 fun io2 H2 ws u2 R2 r2 => ?_
          obtain ⟨kws, rfl, rk⟩ := keyed_ok r2 ek
          have ha2 : io2 st.n = a := by rw [u2.io _ (Nat.lt_succ_self _), ioNew_at]
          obtain ⟨kw0, _, q0, hl0⟩ := R2.dictK hz.1
          have hl1 := hl0 hr
          rw [ha2] at hl1
          cases q0
          refine ⟨hl1, kws, rfl, by rw [← rk.length]; exact hz.2, ?_⟩
          have hi : st.n < st1.n := Nat.lt_of_lt_of_le (Nat.lt_succ_self _) u2.le
          have := (p.after (u1.trans u2)).wrote (u := .dK (mergeK [] kws)) (w := .ref a) R2 hi hr fun up => ⟨.dK upd_same ((rk.merge .nil).up up), by
            have h : RV X.K T.G.kt io2 st1.n (upd H2 (io2 st.n) (.dK (mergeK [] kws))) (.ref st.n) (.ref (io2 st.n)) := .ref hi
            have h2 := h
            rw [show (V.ref (io2 st.n)) = V.ref a by rw [ha2]] at h2
            exact h2⟩
          rw [ha2] at this
          exact this
      · cases e
    · cases e
  · cases hc

/-! ### tests -/
theorem okO_inv {o : Option Bool} {k : Bool} {st st' : Store} (h : okO o st = .ok k st') : o = some k ∧ st' = st := by
  cases o with
  | none => cases h
  | some j => cases h; exact ⟨rfl, rfl⟩
theorem tru_bl {st : Store} {j k : Bool} (h : tru st (.bl j) = some k) : j = k := by cases h; rfl
/-- a test by the reading of its value, which is a truth -/
theorem post_bl {X : Cx} {io : Nat → Addr} {st st1 st' : Store} {H : Hp} {v : Val} {k : Bool} {Q : Bool → Hp → Prop} (e2 : okO (tru st1 v) st1 = .ok k st') (hb : ∃ j, v = .bl j) (p : PostB X.K T.G.kt T.ca io st H k st' Q) :
    Post X.K T.G.kt T.ca io st H v st1 (fun x H' => ∃ c, x = .bl c ∧ Q c H') := by
  intro io1 H1 w u1 R1 r1
  obtain ⟨j, rfl⟩ := hb
  obtain ⟨e3, rfl⟩ := okO_inv e2
  obtain rfl := tru_bl e3
  obtain rfl := r1.ibl
  exact ⟨_, rfl, p io1 H1 u1 R1⟩
theorem ev_cmp_bl {o : Cop} {a b : E} {s : Env} {st st' : Store} {v : Val} (e : ev (T.cx d) (.cmp o a b) s st = .ok v st') : ∃ j, v = .bl j := by
  simp only [ev] at e
  obtain ⟨x, st1, e1, e⟩ := bind_eq_ok.mp e
  obtain ⟨y, st2, e2, e⟩ := bind_eq_ok.mp e
  obtain ⟨k, h, _⟩ := cop_bl e
  exact ⟨k, h⟩
theorem ev_cm2_bl {o o2 : Cop} {a b c : E} {s : Env} {st st' : Store} {v : Val} (e : ev (T.cx d) (.cm2 o o2 a b c) s st = .ok v st') : ∃ j, v = .bl j := by
  simp only [ev] at e
  obtain ⟨x, st1, e1, e⟩ := bind_eq_ok.mp e
  obtain ⟨y, st2, e2, e⟩ := bind_eq_ok.mp e
  obtain ⟨z, st3, e3, e⟩ := bind_eq_ok.mp e
  split at e
  · obtain ⟨u, st4, e4, e⟩ := bind_eq_ok.mp e
    obtain ⟨k, h, _⟩ := cop_bl e
    exact ⟨k, h⟩
  · cases e; exact ⟨_, rfl⟩
  · cases e

theorem sb_cmp {o : Cop} {a b : E} (ha : SE T d N a) (hb : SE T d N b) : SB T d N (.of (.cmp o a b)) := by
  intro X sc ow q A hc s st k st' io H t Q rs R e p
  simp only [chB, Bool.and_eq_true] at hc
  replace hc := hc.1
  simp only [chE] at hc
  split at hc
  · simp only [Bool.and_eq_true, decide_eq_true_eq] at hc
    obtain ⟨⟨⟨rfl, c1⟩, c2⟩, c3⟩ := hc
    simp only [ts] at e
    obtain ⟨v, st1, e1, e2⟩ := bind_eq_ok.mp e
    intro pins sh I
    exact (pt_cmpR op_sem pe_sem pe_sem (noset_in c3 _)).run pins sh t H Q I (cmp_read ha hb A c1 c2 rs R e1 (post_bl e2 (ev_cmp_bl e1) p))
  · cases hc
theorem sb_cm2 {o o2 : Cop} {a b c : E} (ha : SE T d N a) (hb : SE T d N b) (hd : SE T d N c) : SB T d N (.of (.cm2 o o2 a b c)) := by
  intro X sc ow q A hc s st k st' io H t Q rs R e p
  simp only [chB, Bool.and_eq_true] at hc
  replace hc := hc.1
  simp only [chE] at hc
  split at hc
  · simp only [Bool.and_eq_true, decide_eq_true_eq] at hc
    obtain ⟨⟨⟨⟨⟨⟨rfl, rfl⟩, c1⟩, c2⟩, c3⟩, c4⟩, c5⟩ := hc
    simp only [ts] at e
    obtain ⟨v, st1, e1, e2⟩ := bind_eq_ok.mp e
    intro pins sh I
    exact (pt_chain op_sem op_sem pe_sem pe_sem pe_sem (last_of c5)).run pins sh t H Q I (cm2_read ha hb hd A c1 c2 c3 rs R e1 (post_bl e2 (ev_cm2_bl e1) p))
  · cases hc
theorem sb_isN {a : E} (ha : SE T d N a) : SB T d N (.of (.isN a)) := by
  intro X sc ow q A hc s st k st' io H t Q rs R e p
  simp only [chB, Bool.and_eq_true] at hc
  replace hc := hc.1
  simp only [chE] at hc
  split at hc
  · simp only [ts] at e
    obtain ⟨v, st1, e1, e2⟩ := bind_eq_ok.mp e
    have hb : ∃ j, v = .bl j := by
      simp only [ev] at e1
      obtain ⟨x, st2, _, e4⟩ := bind_eq_ok.mp e1
      cases e4; exact ⟨_, rfl⟩
    intro pins sh I
    exact (pt_cmp (pc_isN pe_sem)).run pins sh t H Q I (isN_read ha A hc rs R e1 (post_bl e2 hb p))
  · cases hc
theorem sb_noN {a : E} (ha : SE T d N a) : SB T d N (.of (.noN a)) := by
  intro X sc ow q A hc s st k st' io H t Q rs R e p
  simp only [chB, Bool.and_eq_true] at hc
  replace hc := hc.1
  simp only [chE] at hc
  split at hc
  · simp only [ts] at e
    obtain ⟨v, st1, e1, e2⟩ := bind_eq_ok.mp e
    have hb : ∃ j, v = .bl j := by
      simp only [ev] at e1
      obtain ⟨x, st2, _, e4⟩ := bind_eq_ok.mp e1
      cases e4; exact ⟨_, rfl⟩
    intro pins sh I
    exact (pt_cmp (pc_notN pe_sem)).run pins sh t H Q I (noN_read ha A hc rs R e1 (post_bl e2 hb p))
  · cases hc
theorem sb_plain {a : E} (ha : SE T d N a) (hp : isCmp a = false) : SB T d N (.of a) := by
  intro X sc ow q A hc s st k st' io H t Q rs R e p
  simp only [chB, Bool.and_eq_true] at hc
  obtain ⟨c1, c2⟩ := hc
  have c2 : plainT q = true := by
    rw [Bool.or_eq_true] at c2
    rcases c2 with c2 | c2
    · exact c2
    · rw [hp] at c2; cases c2
  simp only [ts] at e
  obtain ⟨v, st1, e1, e2⟩ := bind_eq_ok.mp e
  obtain ⟨e3, rfl⟩ := okO_inv e2
  intro pins sh I
  refine (pt_truth pe_sem (plain_true c2)).run pins sh t H Q I ?_
  exact ha X sc ow q A c1 s st v _ io H t _ rs R e1 fun io1 H1 w u1 R1 r1 => ⟨k, tru_ok R1 r1 e3, p io1 H1 u1 R1⟩
theorem sb_yes : SB T d N .yes := by
  intro X sc ow q A hc
  simp [chB] at hc
theorem sb_not {a : B} (ha : SB T d N a) : SB T d N (.not a) := by
  intro X sc ow q A hc s st k st' io H t Q rs R e p
  simp only [chB] at hc
  split at hc
  · simp only [ts] at e
    obtain ⟨j, st1, e1, e2⟩ := bind_eq_ok.mp e
    cases e2
    intro pins sh I
    refine (pt_not pt_sem).run pins sh t H Q I ?_
    exact ha X sc ow _ A hc s st j _ io H t _ rs R e1 fun io1 H1 u1 R1 => p io1 H1 u1 R1
  · cases hc
/-- the rest of a chain of tests -/
def wSem (X : Cx) (e : Expr) : TT := fun σ H Q => ∀ (whole : Sem Value) (pins : List (Addr × Obj)) (s : Shared), Inv X pins σ H s → wpAny (model X.prog X.w) X.A (isTrue e X.env whole) (TP X pins σ Q) X.xe s
theorem pw_sem {X : Cx} {e : Expr} : PW X e (wSem X e) := ⟨fun wh pins s σ H Q I h => h wh pins s I⟩
theorem bool_whole {X : Cx} {op : BoolOp} {es : List Expr} {pos : Pos} {σ : L2.St} {H : Hp} {Q : Bool → Hp → Prop} (h : bSem X (.BoolOp op es pos) σ H Q) : wSem X (.BoolOp op es pos) σ H Q := fun _ pins s I => h pins s I
theorem rest_and {b : B} (hb : SB T d N b) {X : Cx} {sc : Scope} {ow : Str → Bool} {r : Expr} {t : List Expr} {pos : Pos} (A : At T d X N sc ow)
    (c : (match t with | [] => chB T.nm N b sc r = true | _ => chB T.nm N b sc (.BoolOp .And (r :: t) pos) = true))
    {s : Env} {st : Store} {k : Bool} {st' : Store} {io : Nat → Addr} {H : Hp} {t' : L2.St} {Q : Bool → Hp → Prop} (rs : RS X.K T.G.kt io st.n H s t') (R : Rl X.K T.G.kt T.ca io st H) (e : ts (T.cx d) b s st = .ok k st')
    (p : PostB X.K T.G.kt T.ca io st H k st' Q) : wSem X (.BoolOp .And (r :: t) pos) t' H Q := by
  cases t with
  | nil =>
    intro wh pins sh I
    exact (pw_and1 pt_sem).run wh pins sh t' H Q I (hb X sc ow r A c s st k st' io H t' Q rs R e p)
  | cons t1 t2 => exact bool_whole (hb X sc ow _ A c s st k st' io H t' Q rs R e p)
theorem rest_or {b : B} (hb : SB T d N b) {X : Cx} {sc : Scope} {ow : Str → Bool} {r : Expr} {t : List Expr} {pos : Pos} (A : At T d X N sc ow)
    (c : (match t with | [] => chB T.nm N b sc r = true | _ => chB T.nm N b sc (.BoolOp .Or (r :: t) pos) = true))
    {s : Env} {st : Store} {k : Bool} {st' : Store} {io : Nat → Addr} {H : Hp} {t' : L2.St} {Q : Bool → Hp → Prop} (rs : RS X.K T.G.kt io st.n H s t') (R : Rl X.K T.G.kt T.ca io st H) (e : ts (T.cx d) b s st = .ok k st')
    (p : PostB X.K T.G.kt T.ca io st H k st' Q) : wSem X (.BoolOp .Or (r :: t) pos) t' H Q := by
  cases t with
  | nil =>
    intro wh pins sh I
    exact (pw_or1 pt_sem).run wh pins sh t' H Q I (hb X sc ow r A c s st k st' io H t' Q rs R e p)
  | cons t1 t2 => exact bool_whole (hb X sc ow _ A c s st k st' io H t' Q rs R e p)
theorem sb_and {a b : B} (ha : SB T d N a) (hb : SB T d N b) : SB T d N (.and a b) := by
  intro X sc ow q A hc s st k st' io H t Q rs R e p
  simp only [ts] at e
  obtain ⟨j, st1, e1, e⟩ := bind_eq_ok.mp e
  have go : ∀ (q1 r : Expr) (u : List Expr) (pos : Pos), chB T.nm N a sc q1 = true → (match u with | [] => chB T.nm N b sc r = true | _ => chB T.nm N b sc (.BoolOp .And (r :: u) pos) = true) → bSem X (.BoolOp .And (q1 :: r :: u) pos) t H Q := by
    intro q1 r u pos c1 c2 pins sh I
    refine (PW.pt (pw_and pt_sem pw_sem)).run pins sh t H Q I ?_
    refine ha X sc ow q1 A c1 s st j st1 io H t _ rs R e1 fun io1 H1 u1 R1 => ?_
    cases j with
    | true =>
      rw [if_pos rfl] at e ⊢
      exact rest_and hb A c2 (rs.up u1) R1 e (p.after u1)
    | false =>
      rw [if_neg (by decide)] at e ⊢
      cases e
      exact p io1 H1 u1 R1
  simp only [chB] at hc
  split at hc
  · rw [Bool.and_eq_true] at hc; exact go _ _ [] _ hc.1 hc.2
  · rw [Bool.and_eq_true] at hc; exact go _ _ (_ :: _) _ hc.1 hc.2
  · cases hc
theorem sb_or {a b : B} (ha : SB T d N a) (hb : SB T d N b) : SB T d N (.or a b) := by
  intro X sc ow q A hc s st k st' io H t Q rs R e p
  simp only [ts] at e
  obtain ⟨j, st1, e1, e⟩ := bind_eq_ok.mp e
  have go : ∀ (q1 r : Expr) (u : List Expr) (pos : Pos), chB T.nm N a sc q1 = true → (match u with | [] => chB T.nm N b sc r = true | _ => chB T.nm N b sc (.BoolOp .Or (r :: u) pos) = true) → bSem X (.BoolOp .Or (q1 :: r :: u) pos) t H Q := by
    intro q1 r u pos c1 c2 pins sh I
    refine (PW.pt (pw_or pt_sem pw_sem)).run pins sh t H Q I ?_
    refine ha X sc ow q1 A c1 s st j st1 io H t _ rs R e1 fun io1 H1 u1 R1 => ?_
    cases j with
    | true =>
      rw [if_pos rfl] at e ⊢
      cases e
      exact p io1 H1 u1 R1
    | false =>
      rw [if_neg (by decide)] at e ⊢
      exact rest_or hb A c2 (rs.up u1) R1 e (p.after u1)
  simp only [chB] at hc
  split at hc
  · rw [Bool.and_eq_true] at hc; exact go _ _ [] _ hc.1 hc.2
  · rw [Bool.and_eq_true] at hc; exact go _ _ (_ :: _) _ hc.1 hc.2
  · cases hc
end
end CL

/-! CL, part i: what is walked; targets; comprehensions -/
namespace CL
open PySem PySem.Spec PyProof.Rows L2

structure Wlk (K : PySem.W.Frag) (kt : List (List Val)) (ca io0 : Nat → Addr) (n0 : Nat) (H0 : Hp) (J : It) (xs : List Val) (w : Watch) : Prop where
  go : ∀ (i : Nat) (io : Nat → Addr) (st : Store) (H : Hp), Up io0 n0 H0 io st.n H → Rl K kt ca io st H → st.sees w = true → i < xs.length → J.go i H
  stop : ∀ (io : Nat → Addr) (st : Store) (H : Hp), Up io0 n0 H0 io st.n H → Rl K kt ca io st H → st.sees w = true → J.stop xs.length H
  yld : ∀ (i : Nat) (v : Val) (io : Nat → Addr) (st : Store) (H : Hp) (x : V) (H' : Hp), Up io0 n0 H0 io st.n H → Rl K kt ca io st H → st.sees w = true → xs[i]? = some v → J.yld i H x H' →
    Up io st.n H io st.n H' ∧ Rl K kt ca io st H' ∧ RV K kt io st.n H' v x
def wkSem (X : Cx) (tg it : Expr) : TI := fun σ H R => ∀ (pins : List (Addr × Obj)) (s : Shared), Inv X pins σ H s → wpAny (model X.prog X.w) X.A (eval it X.env) (fun v s1 => wpAny (model X.prog X.w) X.A (pyIter v) (PIE X pins σ tg R) X.xe s1) X.xe s
theorem pi_sem {X : Cx} {tg it : Expr} : PI X tg it (wkSem X tg it) := ⟨fun pins s σ H R I h => h pins s I⟩
def SI (T : Tab) (d : Nat) (N : List Str) (w : I) : Prop := ∀ (X : Cx) (sc : Scope) (ow : Str → Bool) (tg it : Expr), At T d X N sc ow → chI T.nm N w sc tg it = true →
  ∀ (s : Env) (st : Store) (p : List Val × Watch) (st' : Store) (io : Nat → Addr) (H : Hp) (t : L2.St) (R : It → Hp → Prop), RS X.K T.G.kt io st.n H s t → Rl X.K T.G.kt T.ca io st H → evw (T.cx d) w s st = .ok p st' →
    (∀ (io' : Nat → Addr) (H' : Hp) (J : It), Up io st.n H io' st'.n H' → Rl X.K T.G.kt T.ca io' st' H' → Wlk X.K T.G.kt T.ca io' st'.n H' J p.1 p.2 → R J H') → wkSem X tg it t H R

section
variable {K : PySem.W.Frag} {kt : List (List Val)} {ca io0 : Nat → Addr} {n0 : Nat} {H0 : Hp}
theorem sees1 {st : Store} {i : Nat} {xs : List Val} {w : Watch} (h : st.sees ((i, xs) :: w) = true) : st.m i = some (.lst xs) ∧ st.sees w = true := by
  unfold Store.sees at h
  rw [Bool.and_eq_true, decide_eq_true_eq] at h
  exact h
/-- a tuple laid: the store is as it was -/
theorem Rl.laid {io : Nat → Addr} {st : Store} {H : Hp} (R : Rl K kt ca io st H) {a : Addr} {ys : List V} (ha : H a = none) : Up io st.n H io st.n (upd H a (.tup ys)) ∧ Rl K kt ca io st (upd H a (.tup ys)) := by
  have up : Up io st.n H io st.n (upd H a (.tup ys)) := ⟨Nat.le_refl _, fun _ _ => rfl, .new _ ha⟩
  refine ⟨up, fun i hi => ?_, R.no, R.inj⟩
  obtain ⟨q, e, rq⟩ := R.ob i hi
  refine ⟨q, e, rq.up up fun hr => ?_⟩
  rw [hr] at rq
  obtain ⟨x, ex, _⟩ := rq.mutO
  exact upd_ne (ne_of_none ex ha)
theorem wlk_list {i : Nat} {xs : List Val} (hi : i < n0) : Wlk K kt ca io0 n0 H0 (Itl K (io0 i)) xs [(i, xs)] := by
  refine ⟨fun j io st H u R h hj => ?_, fun io st H u R h => ?_, fun j v io st H x H' u R h e y => ?_⟩
  · obtain ⟨ys, sl, rs, _⟩ := R.list (sees1 h).1
    rw [u.io i hi] at sl
    obtain ⟨w, ew, _⟩ := rs.get (List.getElem?_eq_getElem hj)
    exact ⟨ys, w, sl, ew⟩
  · obtain ⟨ys, sl, rs, _⟩ := R.list (sees1 h).1
    rw [u.io i hi] at sl
    exact ⟨ys, sl, by rw [rs.length]; exact Nat.le_refl _⟩
  · obtain ⟨ys, sl, rs, _⟩ := R.list (sees1 h).1
    rw [u.io i hi] at sl
    obtain ⟨rfl, q⟩ := y
    obtain ⟨w, ew, r⟩ := rs.get e
    have := q ys sl
    rw [ew] at this; cases this
    exact ⟨.refl _ _ _, R, r⟩
theorem wlk_tup {a : Addr} {xs : List Val} {ys : List V} (s : SqT K H0 a ys) (rs : RVs K kt io0 n0 H0 xs ys) : Wlk K kt ca io0 n0 H0 (Itt K a) xs [] := by
  refine ⟨fun j io st H u R h hj => ?_, fun io st H u R h => ?_, fun j v io st H x H' u R h e y => ?_⟩
  · obtain ⟨w, ew, _⟩ := rs.get (List.getElem?_eq_getElem hj)
    exact ⟨ys, w, u.ext.sqT s, ew⟩
  · exact ⟨ys, u.ext.sqT s, by rw [rs.length]; exact Nat.le_refl _⟩
  · obtain ⟨rfl, q⟩ := y
    obtain ⟨w, ew, r⟩ := rs.get e
    have := q ys (u.ext.sqT s)
    rw [ew] at this; cases this
    exact ⟨.refl _ _ _, R, r.up u⟩
theorem rangeL_len : ∀ (n : Nat) (lo : Int), (rangeL lo n).length = n
  | 0, _ => rfl
  | n + 1, lo => by unfold rangeL; rw [List.length_cons, rangeL_len n]
theorem rangeL_get : ∀ (n : Nat) (lo : Int) (i : Nat), i < n → (rangeL lo n)[i]? = some (.int (lo + i))
  | 0, _, _, h => absurd h (Nat.not_lt_zero _)
  | n + 1, lo, 0, _ => by unfold rangeL; simp
  | n + 1, lo, i + 1, h => by
    unfold rangeL
    rw [List.getElem?_cons_succ, rangeL_get n (lo + 1) i (by omega)]
    congr 2; push_cast; omega
theorem wlk_range {lo : Int} {n : Nat} : Wlk K kt ca io0 n0 H0 (Itr lo n) (rangeL lo n) [] := by
  refine ⟨fun j io st H u R h hj => ?_, fun io st H u R h => ?_, fun j v io st H x H' u R h e y => ?_⟩
  · rw [rangeL_len] at hj; exact hj
  · rw [rangeL_len]; exact Nat.le_refl _
  · obtain ⟨rfl, rfl⟩ := y
    have hj : j < n := by
      have := (List.getElem?_eq_some_iff.mp e).1
      rw [rangeL_len] at this; exact this
    rw [rangeL_get n lo j hj] at e
    cases e
    exact ⟨.refl _ _ _, R, .int _⟩
theorem enumL_len : ∀ (xs : List Val) (k : Int), (enumL k xs).length = xs.length
  | [], _ => rfl
  | x :: r, k => by unfold enumL; rw [List.length_cons, List.length_cons, enumL_len r]
theorem enumL_get : ∀ (xs : List Val) (k : Int) (i : Nat), (enumL k xs)[i]? = (xs[i]?).map fun x => .tup [.int (k + i), x]
  | [], _, _ => by unfold enumL; simp
  | x :: r, k, 0 => by unfold enumL; simp
  | x :: r, k, i + 1 => by
    unfold enumL
    rw [List.getElem?_cons_succ, List.getElem?_cons_succ, enumL_get r (k + 1) i]
    congr 2; funext y; congr 3; push_cast; omega
theorem wlk_enum {i : Nat} {xs : List Val} (hi : i < n0) : Wlk K kt ca io0 n0 H0 (Ite K (io0 i)) (enumL 0 xs) [(i, xs)] := by
  refine ⟨fun j io st H u R h hj => ?_, fun io st H u R h => ?_, fun j v io st H x H' u R h e y => ?_⟩
  · obtain ⟨ys, sl, rs, _⟩ := R.list (sees1 h).1
    rw [u.io i hi] at sl
    rw [enumL_len] at hj
    obtain ⟨w, ew, _⟩ := rs.get (List.getElem?_eq_getElem hj)
    exact ⟨ys, w, sl, ew⟩
  · obtain ⟨ys, sl, rs, _⟩ := R.list (sees1 h).1
    rw [u.io i hi] at sl
    rw [enumL_len]
    exact ⟨ys, sl, by rw [rs.length]; exact Nat.le_refl _⟩
  · obtain ⟨ys, sl, rs, _⟩ := R.list (sees1 h).1
    rw [u.io i hi] at sl
    rw [enumL_get] at e
    cases ex : xs[j]? with
    | none => rw [ex] at e; cases e
    | some z =>
      rw [ex] at e; cases e
      obtain ⟨a, x', rfl, ha, rfl, q⟩ := y
      obtain ⟨w, ew, r⟩ := rs.get ex
      have := q ys sl
      rw [ew] at this; cases this
      obtain ⟨u1, R1⟩ := R.laid (ys := [.int (j : Nat), _]) ha
      refine ⟨u1, R1, .tup (.inl upd_same) (.cons ?_ (.cons (r.up u1) .nil))⟩
      rw [Int.zero_add]; exact .int _
theorem zipL_len : ∀ (xs ys : List Val), (zipL xs ys).length = min xs.length ys.length
  | [], ys => by unfold zipL; simp
  | x :: r, [] => by unfold zipL; simp
  | x :: r, y :: t => by unfold zipL; rw [List.length_cons, List.length_cons, List.length_cons, zipL_len r t]; omega
theorem zipL_get : ∀ (xs ys : List Val) (i : Nat) (v : Val), (zipL xs ys)[i]? = some v → ∃ x y, xs[i]? = some x ∧ ys[i]? = some y ∧ v = .tup [x, y]
  | [], ys, i, v, h => by unfold zipL at h; simp at h
  | x :: r, [], i, v, h => by unfold zipL at h; simp at h
  | x :: r, y :: t, 0, v, h => by unfold zipL at h; simp at h; exact ⟨x, y, rfl, rfl, h.symm⟩
  | x :: r, y :: t, i + 1, v, h => by
    unfold zipL at h
    rw [List.getElem?_cons_succ] at h
    obtain ⟨a, b, h1, h2, h3⟩ := zipL_get r t i v h
    exact ⟨a, b, by rw [List.getElem?_cons_succ]; exact h1, by rw [List.getElem?_cons_succ]; exact h2, h3⟩
theorem wlk_zip {i k : Nat} {xs ys : List Val} (hi : i < n0) (hk : k < n0) : Wlk K kt ca io0 n0 H0 (Itz K (io0 i) (io0 k)) (zipL xs ys) [(i, xs), (k, ys)] := by
  refine ⟨fun j io st H u R h hj => ?_, fun io st H u R h => ?_, fun j v io st H x H' u R h e y => ?_⟩
  · obtain ⟨us, sl, rs, _⟩ := R.list (sees1 h).1
    obtain ⟨vs, sl2, rs2, _⟩ := R.list (sees1 (sees1 h).2).1
    rw [u.io i hi] at sl
    rw [u.io k hk] at sl2
    rw [zipL_len] at hj
    obtain ⟨w, ew, _⟩ := rs.get (List.getElem?_eq_getElem (show j < xs.length by omega))
    obtain ⟨w2, ew2, _⟩ := rs2.get (List.getElem?_eq_getElem (show j < ys.length by omega))
    exact ⟨us, vs, w, w2, sl, sl2, ew, ew2⟩
  · obtain ⟨us, sl, rs, _⟩ := R.list (sees1 h).1
    obtain ⟨vs, sl2, rs2, _⟩ := R.list (sees1 (sees1 h).2).1
    rw [u.io i hi] at sl
    rw [u.io k hk] at sl2
    refine ⟨us, vs, sl, sl2, ?_⟩
    rw [zipL_len, rs.length, rs2.length]; omega
  · obtain ⟨us, sl, rs, _⟩ := R.list (sees1 h).1
    obtain ⟨vs, sl2, rs2, _⟩ := R.list (sees1 (sees1 h).2).1
    rw [u.io i hi] at sl
    rw [u.io k hk] at sl2
    obtain ⟨z, z2, h1, h2, rfl⟩ := zipL_get _ _ _ _ e
    obtain ⟨a, x', y', rfl, ha, rfl, q, q2⟩ := y
    obtain ⟨w, ew, r⟩ := rs.get h1
    obtain ⟨w2, ew2, r2⟩ := rs2.get h2
    have := q us sl
    rw [ew] at this; cases this
    have := q2 vs sl2
    rw [ew2] at this; cases this
    obtain ⟨u1, R1⟩ := R.laid (ys := [_, _]) ha
    exact ⟨u1, R1, .tup (.inl upd_same) (.cons (r.up u1) (.cons (r2.up u1) .nil))⟩
theorem wlk_zipT {a b : Addr} {xs ys : List Val} {us vs : List V} (s : SqT K H0 a us) (rs : RVs K kt io0 n0 H0 xs us) (s2 : SqT K H0 b vs) (rs2 : RVs K kt io0 n0 H0 ys vs) : Wlk K kt ca io0 n0 H0 (RZ.ItzT K a b) (zipL xs ys) [] := by
  refine ⟨fun j io st H u R h hj => ?_, fun io st H u R h => ?_, fun j v io st H x H' u R h e y => ?_⟩
  · rw [zipL_len] at hj
    obtain ⟨w, ew, _⟩ := rs.get (List.getElem?_eq_getElem (show j < xs.length by omega))
    obtain ⟨w2, ew2, _⟩ := rs2.get (List.getElem?_eq_getElem (show j < ys.length by omega))
    exact ⟨us, vs, w, w2, u.ext.sqT s, u.ext.sqT s2, ew, ew2⟩
  · refine ⟨us, vs, u.ext.sqT s, u.ext.sqT s2, ?_⟩
    rw [zipL_len, rs.length, rs2.length]; omega
  · obtain ⟨z, z2, h1, h2, rfl⟩ := zipL_get _ _ _ _ e
    obtain ⟨a', x', y', rfl, ha, rfl, q, q2⟩ := y
    obtain ⟨w, ew, r⟩ := rs.get h1
    obtain ⟨w2, ew2, r2⟩ := rs2.get h2
    have := q us (u.ext.sqT s)
    rw [ew] at this; cases this
    have := q2 vs (u.ext.sqT s2)
    rw [ew2] at this; cases this
    obtain ⟨u1, R1⟩ := R.laid (ys := [_, _]) ha
    exact ⟨u1, R1, .tup (.inl upd_same) (.cons (r.up (u.trans u1)) (.cons (r2.up (u.trans u1)) .nil))⟩
theorem wlk_str {z : Str} : Wlk K kt ca io0 n0 H0 (Its z) (z.cps.toList.map fun c => .str ⟨#[c]⟩) [] := by
  refine ⟨fun j io st H u R h hj => ?_, fun io st H u R h => ?_, fun j v io st H x H' u R h e y => ?_⟩
  · rw [List.length_map, Array.length_toList] at hj; exact hj
  · rw [List.length_map, Array.length_toList]; exact Nat.le_refl _
  · obtain ⟨rfl, c, ec, rfl⟩ := y
    rw [List.getElem?_map, Array.getElem?_toList, ec] at e
    cases e
    exact ⟨.refl _ _ _, R, .str _⟩
end

section
variable {T : Tab} {d : Nat} {N : List Str}
theorem si_of {a : E} (ha : SE T d N a) : SI T d N (.of a) := by
  intro X sc ow tg it A hc s st q st' io H t Rr rs R e p
  simp only [chI] at hc
  simp only [evw] at e
  obtain ⟨v, st1, e1, e⟩ := bind_eq_ok.mp e
  have main := ha X sc ow it A hc s st v st1 io H t
  unfold walkOf at e
  intro pins sh I
  split at e
  · cases e
    refine (pi_tup pe_sem).run pins sh t H Rr I ?_
    refine main _ rs R e1 fun io1 H1 w u1 R1 r1 => ?_
    obtain ⟨a1, ys, rfl, sq, r⟩ := r1.itup
    exact ⟨a1, rfl, ⟨ys, sq.sqT⟩, p io1 H1 _ u1 R1 (wlk_tup sq.sqT r)⟩
  · cases e
    refine (pi_str pe_sem).run pins sh t H Rr I ?_
    refine main _ rs R e1 fun io1 H1 w u1 R1 r1 => ?_
    obtain rfl := r1.istr
    exact ⟨_, rfl, p io1 H1 _ u1 R1 wlk_str⟩
  · split at e
    · rename_i i xs em
      cases e
      refine (pi_list pe_sem).run pins sh t H Rr I ?_
      refine main _ rs R e1 fun io1 H1 w u1 R1 r1 => ?_
      obtain ⟨rfl, hi⟩ := r1.iref
      obtain ⟨ys, sl, r, _⟩ := R1.list em
      exact ⟨_, rfl, ⟨ys, sl⟩, p io1 H1 _ u1 R1 (wlk_list hi)⟩
    · cases e
  · cases e
theorem small62_ok {i : Int} (h : small62 i = true) : -(2 ^ 62) ≤ i ∧ i < 2 ^ 62 := by
  unfold small62 at h
  rw [Bool.and_eq_true, decide_eq_true_eq, decide_eq_true_eq] at h
  exact h
theorem si_rg1 {a : E} (ha : SE T d N a) : SI T d N (.rg1 a) := by
  intro X sc ow tg it A hc s st q st' io H t Rr rs R e p
  simp only [chI] at hc
  split at hc
  · simp only [Bool.and_eq_true] at hc
    obtain ⟨⟨c1, c2⟩, c3⟩ := hc
    simp only [evw] at e
    obtain ⟨v, st1, e1, e⟩ := bind_eq_ok.mp e
    split at e
    · split at e
      · rename_i hs
        cases e
        have g := A.gl c1
        obtain ⟨rfl, _, _⟩ := gB_ok c1
        intro pins sh I
        refine (pi_range1 g A.top.rng (pa_cons pe_sem pa_nil (star_cons c3)) (star_cons c3)).run pins sh t H Rr I ?_
        refine ha X sc ow _ A c2 s st _ _ io H t _ rs R e1 fun io1 H1 w u1 R1 r1 => ?_
        obtain rfl := r1.iint
        exact ⟨_, rfl, (small62_ok hs).1, (small62_ok hs).2, p io1 H1 _ u1 R1 wlk_range⟩
      · cases e
    · cases e
  · cases hc
theorem si_rg2 {a b : E} (ha : SE T d N a) (hb : SE T d N b) : SI T d N (.rg2 a b) := by
  intro X sc ow tg it A hc s st q st' io H t Rr rs R e p
  simp only [chI] at hc
  split at hc
  · simp only [Bool.and_eq_true] at hc
    obtain ⟨⟨⟨⟨c1, c2⟩, c3⟩, c4⟩, c5⟩ := hc
    simp only [evw] at e
    obtain ⟨v, st1, e1, e⟩ := bind_eq_ok.mp e
    obtain ⟨v2, st2, e2, e⟩ := bind_eq_ok.mp e
    split at e
    · split at e
      · rename_i hs
        cases e
        rw [Bool.and_eq_true] at hs
        have g := A.gl c1
        obtain ⟨rfl, _, _⟩ := gB_ok c1
        intro pins sh I
        refine (pi_range2 g A.top.rng (pa_cons pe_sem (pa_cons pe_sem pa_nil (star_cons c5)) (star_cons c3)) (by rw [star_cons c3, star_cons c5]; rfl) (star_cons c5)).run pins sh t H Rr I ?_
        refine ha X sc ow _ A c2 s st _ st1 io H t _ rs R e1 fun io1 H1 w u1 R1 r1 => ?_
        refine hb X sc ow _ A c4 s st1 _ _ io1 H1 t _ (rs.up u1) R1 e2 fun io2 H2 w2 u2 R2 r2 => ?_
        obtain rfl := r1.iint
        obtain rfl := r2.iint
        exact ⟨_, _, rfl, ⟨(small62_ok hs.1).1, (small62_ok hs.1).2, (small62_ok hs.2).1, (small62_ok hs.2).2⟩, p io2 H2 _ (u1.trans u2) R2 wlk_range⟩
      · cases e
    · cases e
  · cases hc
theorem tup_of {tg : Expr} (h : tupB tg = true) : ∃ es k pos, tg = .Tuple es k pos := by
  cases tg <;> first | exact ⟨_, _, _, rfl⟩ | cases h
theorem si_enu {a : E} (ha : SE T d N a) : SI T d N (.enu a) := by
  intro X sc ow tg it A hc s st q st' io H t Rr rs R e p
  simp only [chI] at hc
  split at hc
  · simp only [Bool.and_eq_true] at hc
    obtain ⟨⟨⟨c1, c2⟩, c3⟩, c4⟩ := hc
    obtain ⟨es, k, tp, rfl⟩ := tup_of c4
    simp only [evw] at e
    obtain ⟨v, st1, e1, e⟩ := bind_eq_ok.mp e
    split at e
    · split at e
      · rename_i i xs em
        cases e
        have g := A.gl c1
        obtain ⟨rfl, _, _⟩ := gB_ok c1
        intro pins sh I
        refine (pi_enum g A.top.enu (pa_cons pe_sem pa_nil (star_cons c3)) (star_cons c3)).run pins sh t H Rr I ?_
        refine ha X sc ow _ A c2 s st _ _ io H t _ rs R e1 fun io1 H1 w u1 R1 r1 => ?_
        obtain ⟨rfl, hi⟩ := r1.iref
        obtain ⟨ys, sl, r, _⟩ := R1.list em
        exact ⟨_, ys, rfl, sl, p io1 H1 _ u1 R1 (wlk_enum hi)⟩
      · cases e
    · cases e
  · cases hc
theorem si_zip {a b : E} (ha : SE T d N a) (hb : SE T d N b) : SI T d N (.zip a b) := by
  intro X sc ow tg it A hc s st q st' io H t Rr rs R e p
  simp only [chI] at hc
  split at hc
  · simp only [Bool.and_eq_true] at hc
    obtain ⟨⟨⟨⟨⟨c1, c2⟩, c3⟩, c4⟩, c5⟩, c6⟩ := hc
    obtain ⟨es, k, tp, rfl⟩ := tup_of c6
    simp only [evw] at e
    obtain ⟨v, st1, e1, e⟩ := bind_eq_ok.mp e
    obtain ⟨v2, st2, e2, e⟩ := bind_eq_ok.mp e
    have g := A.gl c1
    obtain ⟨rfl, _, _⟩ := gB_ok c1
    intro pins sh I
    refine (RZ.pi_zipA g A.top.zip (pa_cons pe_sem (pa_cons pe_sem pa_nil (star_cons c5)) (star_cons c3)) (star_cons c3) (star_any (by simp [c5]))).run pins sh t H Rr I ?_
    refine ha X sc ow _ A c2 s st _ st1 io H t _ rs R e1 fun io1 H1 w u1 R1 r1 => ?_
    refine hb X sc ow _ A c4 s st1 _ _ io1 H1 t _ (rs.up u1) R1 e2 fun io2 H2 w2 u2 R2 r2 => ?_
    split at e
    · split at e
      · rename_i em em2
        cases e
        have r1' := r1.up u2
        obtain ⟨rfl, hi⟩ := r1'.iref
        obtain ⟨rfl, hk⟩ := r2.iref
        obtain ⟨ys, sl, r, _⟩ := R2.list em
        obtain ⟨zs, sl2, r', _⟩ := R2.list em2
        exact ⟨_, _, ys, zs, rfl, .inl ⟨sl, sl2, p io2 H2 _ (u1.trans u2) R2 (wlk_zip hi hk)⟩⟩
      · cases e
    · cases e
      obtain ⟨a1, ys, rfl, sq, r⟩ := (r1.up u2).itup
      obtain ⟨a2, zs, rfl, sq2, r'⟩ := r2.itup
      exact ⟨_, _, ys, zs, rfl, .inr ⟨sq.sqT, sq2.sqT, p io2 H2 _ (u1.trans u2) R2 (wlk_zipT sq.sqT r sq2.sqT r')⟩⟩
    · cases e
  · cases hc

/-! ### targets -/
def setAllV : List Nat → List V → L2.St → L2.St
  | i :: is, v :: vs, s => setAllV is vs (s.set i (some v))
  | _, _, s => s
def setTgV (t : Tg) (w : V) (ws : List V) (s : L2.St) : L2.St := match t with
  | .one i => s.set i (some w)
  | .many is => setAllV is ws s
def tgIx : Tg → List Nat
  | .one i => [i]
  | .many is => is
theorem setAll_rs {K : PySem.W.Frag} {kt : List (List Val)} {io : Nat → Addr} {n : Nat} {H : Hp} : ∀ {is : List Nat} {vs : List Val} {ws : List V} {s s' : Env} {t : L2.St}, RS K kt io n H s t → RVs K kt io n H vs ws → setAll is vs s = some s' → RS K kt io n H s' (setAllV is ws t) ∧ is.length = ws.length
  | [], [], _, s, s', t, r, .nil, e => by cases e; exact ⟨r, rfl⟩
  | i :: is, v :: vs, _, s, s', t, r, .cons a b, e => by
    obtain ⟨h1, h2⟩ := setAll_rs (r.set a i) b e
    exact ⟨h1, by rw [List.length_cons, List.length_cons, h2]⟩
  | [], v :: vs, _, s, s', t, r, .cons a b, e => by cases e
  | i :: is, [], _, s, s', t, r, .nil, e => by cases e
/-- names stored one after another -/
theorem names_pgs {X : Cx} {sc : Scope} {ow : Str → Bool} (A : At T d X N sc ow) : ∀ {is : List Nat} {es : List Expr}, namesB N sc ow is es = true → ∃ g, PGs X es g ∧ (assignEach es X.env).length = is.length ∧ (assignEach es X.env).findIdx? (·.1) = none ∧
    ∀ (ws : List V) (t : L2.St) (H : Hp) (Q : L2.St → Hp → Prop), is.length = ws.length → Q (setAllV is ws t) H → g ws t H Q
  | [], [], _ => ⟨_, pgs_nil, rfl, rfl, fun ws t H Q hl q => by
      cases ws with
      | nil => exact ⟨rfl, q⟩
      | cons _ _ => cases hl⟩
  | i :: is, .Name x pos :: es, h => by
    unfold namesB at h
    rw [Bool.and_eq_true] at h
    obtain ⟨g, h1, h2, h3, h4⟩ := names_pgs A h.2
    have hs := h.1
    unfold stB at hs
    rw [Bool.and_eq_true, decide_eq_true_eq] at hs
    obtain ⟨l1, l2⟩ := locB_ok hs.2
    have pn : PG X (.Name x pos) (gName i) := pg_name (by rw [A.hN]; exact A.nd) (by rw [A.hN]; exact hs.1) (by rw [A.hsc]; exact l1) (by rw [A.hsc]; exact l2.imp (A.how x) id)
    refine ⟨_, pgs_cons pn h1 (by rfl), ?_, ?_, fun ws t H Q hl q => ?_⟩
    · show ((false, _) :: assignEach es X.env).length = _
      rw [List.length_cons, List.length_cons, h2]
    · show ((false, assign (.Name x pos) X.env) :: assignEach es X.env).findIdx? (·.1) = none
      rw [List.findIdx?_cons, h3]; rfl
    · cases ws with
      | nil => cases hl
      | cons w ws => exact ⟨w, ws, rfl, h4 ws _ H Q (by simpa using hl) q⟩
  | [], _ :: _, h => by unfold namesB at h; cases h
  | _ :: _, [], h => by unfold namesB at h; cases h
theorem tg_pg {X : Cx} {sc : Scope} {ow : Str → Bool} (A : At T d X N sc ow) {tt : Tg} {tg : Expr} (h : tgB N sc ow tt tg = true) : ∃ g, PG X tg g ∧
    ∀ (v : Val) (s s' : Env) (io : Nat → Addr) (n : Nat) (H : Hp) (w : V) (t : L2.St) (Q : L2.St → Hp → Prop), RS X.K T.G.kt io n H s t → RV X.K T.G.kt io n H v w → setTg tt v s = some s' →
      (∀ ws, RS X.K T.G.kt io n H s' (setTgV tt w ws t) → Q (setTgV tt w ws t) H) → g w t H Q := by
  cases tt with
  | one i =>
    cases tg with
    | Name x pos =>
      unfold tgB at h
      unfold stB at h
      rw [Bool.and_eq_true, decide_eq_true_eq] at h
      obtain ⟨l1, l2⟩ := locB_ok h.2
      refine ⟨_, pg_name (by rw [A.hN]; exact A.nd) (by rw [A.hN]; exact h.1) (by rw [A.hsc]; exact l1) (by rw [A.hsc]; exact l2.imp (A.how x) id), fun v s s' io n H w t Q rs r e q => ?_⟩
      cases e
      exact q [] (rs.set r i)
    | _ => cases h
  | many is =>
    cases tg with
    | Tuple es k pos =>
      unfold tgB at h
      obtain ⟨g, h1, h2, h3, h4⟩ := names_pgs A h
      refine ⟨_, pg_tup A.calm h1 h2 h3, fun v s s' io n H w t Q rs r e q => ?_⟩
      unfold setTg at e
      cases r with
      | tup sq rr =>
        obtain ⟨z, hl⟩ := setAll_rs rs rr e
        exact ⟨_, _, rfl, sq.sqT, hl.symm, h4 _ t H Q hl (q _ z)⟩
      | _ => cases e
    | _ => cases h
end
end CL

/-! CL, part j: comprehensions; statements -/
namespace CL
open PySem PySem.Spec PyProof.Rows L2
section
variable {T : Tab} {d : Nat} {N : List Str}
theorem wipe_get {s : L2.St} {i : Nat} : ∀ {vs : List Nat}, (L2.wipe s vs)[i]? = if i ∈ vs then (if i < s.length then some none else none) else s[i]?
  | [] => by simp [L2.wipe]
  | v :: vs => by
    unfold L2.wipe
    rw [List.getElem?_set, wipe_get (vs := vs), wipe_length]
    by_cases h : v = i
    · subst h; simp
    · have : ¬ i = v := fun z => h z.symm
      simp [h, this]
theorem setAllV_get : ∀ {is : List Nat} {ws : List V} {s : L2.St} {j : Nat}, j ∉ is → (setAllV is ws s)[j]? = s[j]?
  | [], ws, s, j, _ => by cases ws <;> rfl
  | i :: is, [], s, j, _ => rfl
  | i :: is, w :: ws, s, j, h => by
    simp only [List.mem_cons, not_or] at h
    show (setAllV is ws (s.set i (some w)))[j]? = _
    rw [setAllV_get h.2, List.getElem?_set_ne (fun z => h.1 z.symm)]
theorem setAllV_len : ∀ {is : List Nat} {ws : List V} {s : L2.St}, (setAllV is ws s).length = s.length
  | [], ws, s => by cases ws <;> rfl
  | i :: is, [], s => rfl
  | i :: is, w :: ws, s => by
    show (setAllV is ws (s.set i (some w))).length = _
    rw [setAllV_len, List.length_set]
theorem setTgV_get {tt : Tg} {w : V} {ws : List V} {s : L2.St} {j : Nat} (h : j ∉ tgIx tt) : (setTgV tt w ws s)[j]? = s[j]? := by
  cases tt with
  | one i =>
    have : ¬ i = j := fun z => h (by simp [tgIx, z])
    show (s.set i (some w))[j]? = _
    rw [List.getElem?_set_ne this]
  | many is => exact setAllV_get h
theorem setTgV_len {tt : Tg} {w : V} {ws : List V} {s : L2.St} : (setTgV tt w ws s).length = s.length := by
  cases tt with
  | one i => exact List.length_set
  | many is => exact setAllV_len
theorem wipe_set {tt : Tg} {w : V} {ws : List V} {s : L2.St} {vs : List Nat} (h : ∀ i ∈ tgIx tt, i ∈ vs) : L2.wipe (setTgV tt w ws (L2.wipe s vs)) vs = L2.wipe s vs := by
  apply List.ext_getElem?
  intro i
  rw [wipe_get, wipe_get, setTgV_len, wipe_length]
  by_cases hi : i ∈ vs
  · simp [hi]
  · rw [if_neg hi, if_neg hi, setTgV_get (fun z => hi (h i z)), wipe_get, if_neg hi]
theorem names_own {sc : Scope} {ow : Str → Bool} : ∀ {is : List Nat} {es : List Expr}, namesB N sc ow is es = true → ∀ i ∈ is, ∃ x, N[i]? = some x
  | [], _, _, i, h => absurd h (by simp)
  | i :: is, .Name x pos :: es, h, j, hj => by
    unfold namesB at h
    rw [Bool.and_eq_true] at h
    have hs := h.1
    unfold stB at hs
    rw [Bool.and_eq_true, decide_eq_true_eq] at hs
    rcases List.mem_cons.mp hj with rfl | hj
    · exact ⟨x, hs.1⟩
    · exact names_own h.2 j hj
  | i :: is, [], h, _, _ => by unfold namesB at h; cases h
theorem tg_own {sc : Scope} {ow : Str → Bool} {tt : Tg} {tg : Expr} (h : tgB N sc ow tt tg = true) : ∀ i ∈ tgIx tt, i ∈ (tgOwn N tt).map (·.2) := by
  cases tt with
  | one i =>
    cases tg with
    | Name x pos =>
      unfold tgB at h
      unfold stB at h
      rw [Bool.and_eq_true, decide_eq_true_eq] at h
      intro j hj
      have : j = i := by simpa [tgIx] using hj
      subst this
      simp [tgOwn, h.1]
    | _ => cases h
  | many is =>
    cases tg with
    | Tuple es k pos =>
      unfold tgB at h
      intro j hj
      have hj : j ∈ is := hj
      obtain ⟨x, hx⟩ := names_own h j hj
      rw [List.mem_map]
      refine ⟨(x, j), ?_, rfl⟩
      show (x, j) ∈ is.filterMap _
      rw [List.mem_filterMap]
      exact ⟨j, hj, by rw [hx]⟩
    | _ => cases h
/-- the context of a comprehension's block -/
theorem At.blk {X : Cx} {sc scope : Scope} {ow : Str → Bool} {own : List (Str × Nat)} (A : At T d X N sc ow) (hb : blkC N sc scope own = true) (s : Shared) (H : Hp) (C : Addr) (cl : List (Str × Addr)) (fp : List Addr) :
    At T d (X.blk s H scope (compEnvC scope cl C X.env) fp) N (relS scope sc) (fun x => scope.names.lookup x == some .cell) := by
  refine ⟨A.top, A.fns, A.hN, A.nd, ?_, ?_, fun x h => h, A.calm, A.room⟩
  · show relabel scope X.env = relS scope sc
    rw [← A.hsc]; rfl
  · exact (blkOk_by hb).kind
def wipeE (s : Env) : List Nat → Env
  | [] => s
  | v :: vs => (wipeE s vs).set v none
theorem wipeE_len (s : Env) : ∀ vs, (wipeE s vs).length = s.length
  | [] => rfl
  | v :: vs => by unfold wipeE; rw [List.length_set, wipeE_len s vs]
theorem wipeE_get {s : Env} {i : Nat} : ∀ {vs : List Nat}, (wipeE s vs)[i]? = if i ∈ vs then (if i < s.length then some none else none) else s[i]?
  | [] => by simp [wipeE]
  | v :: vs => by
    unfold wipeE
    rw [List.getElem?_set, wipeE_get (vs := vs), wipeE_len]
    by_cases h : v = i
    · subst h; simp
    · have : ¬ i = v := fun z => h z.symm
      simp [h, this]
theorem set_agree {s u : Env} {i : Nat} {is : List Nat} {o : Option Val} (hl : s.length = u.length) (h : ∀ j, j ∉ i :: is → s[j]? = u[j]?) : ∀ j, j ∉ is → (s.set i o)[j]? = (u.set i o)[j]? := by
  intro j hj
  by_cases e : i = j
  · subst e; rw [List.getElem?_set, List.getElem?_set, hl]
    split
    · split
      · rfl
      · rename_i h1 h2; rfl
    · rename_i h1; exact absurd rfl h1
  · rw [List.getElem?_set_ne e, List.getElem?_set_ne e]
    exact h j (by simp only [List.mem_cons, not_or]; exact ⟨fun z => e z.symm, hj⟩)
theorem setAll_agree : ∀ {is : List Nat} {vs : List Val} {s u s' : Env}, setAll is vs s = some s' → s.length = u.length → (∀ j, j ∉ is → s[j]? = u[j]?) → setAll is vs u = some s'
  | [], [], s, u, s', e, hl, h => by
    cases e
    show some u = some s
    congr 1
    exact (List.ext_getElem? fun j => h j (by simp)).symm
  | i :: is, v :: vs, s, u, s', e, hl, h => by
    have e : setAll is vs (s.set i (some v)) = some s' := e
    show setAll is vs (u.set i (some v)) = some s'
    exact setAll_agree e (by rw [List.length_set, List.length_set, hl]) (set_agree hl h)
  | [], _ :: _, _, _, _, e, _, _ => by cases e
  | _ :: _, [], _, _, _, e, _, _ => by cases e
theorem setTg_agree {tt : Tg} {v : Val} {s u s' : Env} (e : setTg tt v s = some s') (hl : s.length = u.length) (h : ∀ j, j ∉ tgIx tt → s[j]? = u[j]?) : setTg tt v u = some s' := by
  cases tt with
  | one i =>
    cases e
    show some (u.set i (some v)) = some (s.set i (some v))
    congr 1
    exact (List.ext_getElem? fun j => set_agree (is := []) hl h j (by simp)).symm
  | many is =>
    unfold setTg at e ⊢
    cases v with
    | tup xs => exact setAll_agree e hl h
    | _ => cases e
theorem rs_wipe {K : PySem.W.Frag} {kt : List (List Val)} {io : Nat → Addr} {n : Nat} {H : Hp} {s : Env} {t : L2.St} {tt : Tg} {v : Val} {s' : Env} {vs : List Nat} (hv : ∀ i ∈ vs, i ∈ tgIx tt) (rs : RS K kt io n H s t) (e : setTg tt v s = some s') :
    RS K kt io n H (wipeE s vs) (L2.wipe t vs) ∧ setTg tt v (wipeE s vs) = some s' := by
  refine ⟨⟨by rw [wipeE_len, wipe_length, rs.1], fun i u h => ?_⟩, setTg_agree e (wipeE_len _ _).symm fun j hj => ?_⟩
  · rw [wipeE_get] at h
    rw [wipe_get]
    by_cases hi : i ∈ vs
    · rw [if_pos hi] at h
      split at h <;> cases h
    · rw [if_neg hi] at h ⊢
      exact rs.2 i u h
  · rw [wipeE_get, if_neg (fun z => hj (hv j z))]
theorem own_ix {N : List Str} {tt : Tg} : ∀ i ∈ (tgOwn N tt).map (·.2), i ∈ tgIx tt := by
  intro i hi
  obtain ⟨⟨x, j⟩, h, rfl⟩ := List.mem_map.mp hi
  cases tt with
  | one k =>
    unfold tgOwn at h
    simp only at h
    split at h
    · simp at h; simp [tgIx, h.2]
    · simp at h
  | many is =>
    have h : (x, j) ∈ is.filterMap _ := h
    rw [List.mem_filterMap] at h
    obtain ⟨k, hk, e⟩ := h
    split at e
    · cases e; exact hk
    · cases e
theorem lcLoop_inv {D : Nat} {w : Watch} {f : Val → Store → Res (Option Val)} {x : Val} {r : List Val} {st st' : Store} {v : Val} (e : lcLoop D w f (x :: r) st = .ok v st') :
    st.sees w = true ∧ ∃ o st1, f x st = .ok o st1 ∧ ((o = none ∧ lcLoop D w f r st1 = .ok v st') ∨ ∃ y st2 z, o = some y ∧ bmt .append (.ref D) [y] st1 = .ok z st2 ∧ lcLoop D w f r st2 = .ok v st') := by
  unfold lcLoop at e
  split at e
  · rename_i h
    refine ⟨h, ?_⟩
    obtain ⟨o, st1, e1, e⟩ := bind_eq_ok.mp e
    refine ⟨o, st1, e1, ?_⟩
    cases o with
    | none => exact .inl ⟨rfl, e⟩
    | some y =>
      obtain ⟨z, st2, e2, e⟩ := bind_eq_ok.mp e
      exact .inr ⟨y, st2, z, rfl, e2, e⟩
  · cases e
theorem append_inv {D : Nat} {y z : Val} {st st' : Store} (e : bmt .append (.ref D) [y] st = .ok z st') : ∃ xs, st.m D = some (.lst xs) ∧ xs.length < sizeLine ∧ st.ro D = false ∧ st' = st.set D (.lst (xs ++ [y])) := by
  unfold bmt at e
  simp only at e
  cases hm : st.m D with
  | none => rw [hm] at e; cases e
  | some o =>
    rw [hm] at e
    cases o with
    | lst xs =>
      simp only at e
      split at e
      · rename_i hz
        obtain ⟨hr, _, rfl⟩ := wr_inv e
        exact ⟨xs, rfl, hz, hr, rfl⟩
      · cases e
    | _ => cases e
def gtSem (X : Cx) (tg : Expr) : TG := fun v σ H Q => ∀ (pins : List (Addr × Obj)) (s : Shared) (u : Value), Inv X pins σ H s → RelV v u → wpAny (model X.prog X.w) X.A (assign tg X.env u) (fun _ s' => ∃ σ' H', Inv X pins σ' H' s' ∧ Q σ' H') X.xe s
theorem pg_sem {X : Cx} {tg : Expr} : PG X tg (gtSem X tg) := ⟨fun pins s σ H v u Q I r h => h pins s u I r⟩
theorem tg_sem {X : Cx} {sc : Scope} {ow : Str → Bool} (A : At T d X N sc ow) {tt : Tg} {tg : Expr} (h : tgB N sc ow tt tg = true)
    {v : Val} {s s' : Env} {io : Nat → Addr} {n : Nat} {H : Hp} {w : V} {t : L2.St} {Q : L2.St → Hp → Prop} (rs : RS X.K T.G.kt io n H s t) (r : RV X.K T.G.kt io n H v w) (e : setTg tt v s = some s')
    (q : ∀ ws, RS X.K T.G.kt io n H s' (setTgV tt w ws t) → Q (setTgV tt w ws t) H) : gtSem X tg w t H Q := by
  obtain ⟨g, h1, h2⟩ := tg_pg A h
  intro pins sh u I ru
  exact h1.run pins sh t H w u Q I ru (h2 v s s' io n H w t Q rs r e q)
def tsSem (X : Cx) (ifs : List Expr) : TT := fun σ H Q => ∀ (pins : List (Addr × Obj)) (s : Shared), Inv X pins σ H s →
    wpAny (model X.prog X.w) X.A (forIn ifs true fun c r => if r = true then do let ok ← isTrue c X.env (eval c X.env); pure (ForInStep.yield ok) else pure (ForInStep.yield r)) (TP X pins σ Q) X.xe s
theorem tests_ok {c : B} (hb : SB T d N c) {X : Cx} {sc : Scope} {ow : Str → Bool} (A : At T d X N sc ow) {ifs : List Expr} (h : ifsB (fun q => chB T.nm N c sc q) (isYes c) ifs = true)
    {s : Env} {st : Store} {k : Bool} {st' : Store} {io : Nat → Addr} {H : Hp} {t : L2.St} {Q : Bool → Hp → Prop} (rs : RS X.K T.G.kt io st.n H s t) (R : Rl X.K T.G.kt T.ca io st H) (e : ts (T.cx d) c s st = .ok k st')
    (p : PostB X.K T.G.kt T.ca io st H k st' Q) : tsSem X ifs t H Q := by
  intro pins sh I
  cases ifs with
  | nil =>
    cases c with
    | yes =>
      simp only [ts] at e
      cases e
      exact pts_nil.run pins sh t H Q I (p io H (.refl _ _ _) R)
    | _ => cases h
  | cons q r =>
    cases r with
    | nil => exact (pts_one pt_sem).run pins sh t H Q I (hb X sc ow q A h s st k st' io H t Q rs R e p)
    | cons _ _ => cases h
/-- a comprehension's reading -/
theorem lc_read {tt : Tg} {w : I} {c : B} {a : E} (hw : SI T d N w) (hb : SB T d N c) (ha : SE T d N a) {X : Cx} {sc : Scope} {ow : Str → Bool} (A : At T d X N sc ow) {pe tg it : Expr} {ifs : List Expr} {scope : Scope}
    (c1 : chI T.nm N w sc tg it = true) (c2 : blkC N sc scope (tgOwn N tt) = true) (c3 : tgB N (relS scope sc) (fun x => scope.names.lookup x == some .cell) tt tg = true)
    (c4 : ifsB (fun q => chB T.nm N c (relS scope sc) q) (isYes c) ifs = true) (c5 : chE T.nm N a (relS scope sc) pe = true) :
    ∃ g tb te, (∀ (s : Shared) (H : Hp) (C : Addr) (cl : List (Str × Addr)) (fp : List Addr), PG (X.blk s H scope (compEnvC scope cl C X.env) fp) tg g) ∧
      (∀ (s : Shared) (H : Hp) (C : Addr) (cl : List (Str × Addr)) (fp : List Addr), PTs (X.blk s H scope (compEnvC scope cl C X.env) fp) ifs tb) ∧
      (∀ (s : Shared) (H : Hp) (C : Addr) (cl : List (Str × Addr)) (fp : List Addr), PE (X.blk s H scope (compEnvC scope cl C X.env) fp) pe te) ∧
      ∀ (s : Env) (st : Store) (v : Val) (st' : Store) (io : Nat → Addr) (H : Hp) (t : L2.St) (Q : VK), RS X.K T.G.kt io st.n H s t → Rl X.K T.G.kt T.ca io st H → ev (T.cx d) (.lc tt w c a) s st = .ok v st' →
        Post X.K T.G.kt T.ca io st H v st' Q → tLc (wkSem X tg it) g tb te ((tgOwn N tt).map (·.2)) t H Q := by
  refine ⟨fun v σ H Q => ∀ (s : Shared) (H0 : Hp) (C : Addr) (cl : List (Str × Addr)) (fp : List Addr), gtSem (X.blk s H0 scope (compEnvC scope cl C X.env) fp) tg v σ H Q,
    fun σ H Q => ∀ (s : Shared) (H0 : Hp) (C : Addr) (cl : List (Str × Addr)) (fp : List Addr), tsSem (X.blk s H0 scope (compEnvC scope cl C X.env) fp) ifs σ H Q,
    fun σ H Q => ∀ (s : Shared) (H0 : Hp) (C : Addr) (cl : List (Str × Addr)) (fp : List Addr), tSem (X.blk s H0 scope (compEnvC scope cl C X.env) fp) pe σ H Q,
    fun s H C cl fp => ⟨fun pins sh σ H v u Q I r h => h s _ C cl fp pins sh u I r⟩, fun s H C cl fp => ⟨fun pins sh σ H Q I h => h s _ C cl fp pins sh I⟩, fun s H C cl fp => ⟨fun pins sh σ H Q I h => h s _ C cl fp pins sh I⟩, ?_⟩
  intro s st v st' io H t Q rs R e p
  simp only [ev] at e
  obtain ⟨q, st1, e1, e⟩ := bind_eq_ok.mp e
  refine hw X sc ow tg it A c1 s st q st1 io H t _ rs R e1 fun io1 H1 J u1 R1 wl D hD => ?_
  have Rn := R1.new (o := .lst []) (u := .lst []) hD (.lst upd_same .nil)
  have un := Up.new (io := io1) (st := st1) (.lst []) hD
  generalize hf : onLc tt (fun s st => ts (T.cx d) c s st) (fun s st => ev (T.cx d) a s st) s = f at e
  refine ⟨fun i m H' => m = q.1.length - i ∧ i ≤ q.1.length ∧ ∃ (io2 : Nat → Addr) (st2 : Store), Up (ioNew io1 st1.n D) (st1.n + 1) (upd H1 D (.lst [])) io2 st2.n H' ∧ Rl X.K T.G.kt T.ca io2 st2 H' ∧ lcLoop st1.n q.2 f (q.1.drop i) st2 = .ok v st',
    ⟨_, rfl, Nat.zero_le _, _, _, .refl _ _ _, Rn, by rw [List.drop_zero]; exact e⟩, ?_⟩
  rintro i m H2 ⟨rfl, hi, io2, st2, u2, R2, e2⟩
  have U2 := un.trans u2
  by_cases hlt : i < q.1.length
  · rw [List.drop_eq_getElem_cons hlt] at e2
    obtain ⟨hse, o, st3, e3, e4⟩ := lcLoop_inv e2
    refine .inr ⟨wl.go i io2 st2 H2 U2 R2 hse hlt, fun H' => ∃ (io3 : Nat → Addr) (st3 : Store), Up (ioNew io1 st1.n D) (st1.n + 1) (upd H1 D (.lst [])) io3 st3.n H' ∧ Rl X.K T.G.kt T.ca io3 st3 H' ∧ lcLoop st1.n q.2 f (q.1.drop (i + 1)) st3 = .ok v st',
      fun H' ⟨io3, st3, a1, a2, a3⟩ => ⟨q.1.length - (i + 1), by omega, rfl, hlt, io3, st3, a1, a2, a3⟩, fun x H3 hy => ?_⟩
    obtain ⟨u3, R3, r3⟩ := wl.yld i _ io2 st2 H2 x H3 U2 R2 hse (List.getElem?_eq_getElem hlt) hy
    rw [← hf] at e3
    unfold onLc at e3
    split at e3
    · cases e3
    · rename_i s' es
      obtain ⟨b, st4, e5, e6⟩ := bind_eq_ok.mp e3
      have U3 := U2.trans u3
      obtain ⟨rw1, rw2⟩ := rs_wipe (vs := (tgOwn N tt).map (·.2)) own_ix (rs.up (u1.trans U3)) es
      intro sh0 H00 C0 cl0 fp0
      refine tg_sem (A.blk c2 sh0 H00 C0 cl0 fp0) c3 rw1 r3 rw2 fun ws rs3 => ⟨wipe_set (tg_own c3), ?_⟩
      intro sh1 H01 C1 cl1 fp1
      refine tests_ok hb (A.blk c2 sh1 H01 C1 cl1 fp1) c4 rs3 R3 e5 fun io4 H4 u4 R4 => ?_
      cases b with
      | false =>
        rw [if_neg (by decide)] at e6 ⊢
        cases e6
        rcases e4 with ⟨_, e4⟩ | ⟨_, _, _, z, _⟩
        · exact ⟨io4, _, u2.trans (u3.trans u4), R4, e4⟩
        · cases z
      | true =>
        rw [if_pos rfl] at e6 ⊢
        obtain ⟨y, st5, e7, e8⟩ := bind_eq_ok.mp e6
        cases e8
        intro sh2 H02 C2 cl2 fp2
        refine ha _ _ _ pe (A.blk c2 sh2 H02 C2 cl2 fp2) c5 s' st4 y _ io4 H4 _ _ (rs3.up u4) R4 e7 fun io5 H5 w5 u5 R5 r5 => ?_
        rcases e4 with ⟨z, _⟩ | ⟨y', st6, z6, z, e8, e9⟩
        · cases z
        · cases z
          obtain ⟨acc, hm, hz, hr, rfl⟩ := append_inv e8
          have hD5 : st1.n < _ := Nat.lt_of_lt_of_le (Nat.lt_succ_self _) (u2.trans (u3.trans (u4.trans u5))).le
          have ioD : io5 st1.n = D := by rw [(u2.trans (u3.trans (u4.trans u5))).io _ (Nat.lt_succ_self _), ioNew_at]
          obtain ⟨ys, _, rl, hl⟩ := R5.list hm
          have hl5 := hl hr
          have up := Up.wr (io := io5) (st := st3) (.lst (ys ++ [w5])) hl5 trivial
          have R6 := R5.wr (u := .lst (ys ++ [w5])) hD5 hr (.lst upd_same ((rl.append (.cons r5 .nil)).up up))
          rw [ioD] at hl5 up R6
          exact ⟨ys, hl5, by rw [← rl.length]; exact hz, io5, st3.set st1.n (.lst (acc ++ [y])), (u2.trans (u3.trans (u4.trans u5))).trans up, R6, e9⟩
  · have hi' : i = q.1.length := by omega
    subst hi'
    rw [List.drop_length] at e2
    unfold lcLoop at e2
    split at e2
    · rename_i hse
      cases e2
      refine .inl ⟨wl.stop io2 _ H2 U2 R2 hse, p io2 H2 _ (u1.trans U2) R2 ?_⟩
      have ioD : io2 st1.n = D := by rw [u2.io _ (Nat.lt_succ_self _), ioNew_at]
      have h : RV X.K T.G.kt io2 st'.n H2 (.ref st1.n) (.ref (io2 st1.n)) := .ref (Nat.lt_of_lt_of_le (Nat.lt_succ_self _) u2.le)
      rw [ioD] at h; exact h
    · cases e2
theorem lc_ch {tt : Tg} {w : I} {c : B} {a : E} {sc : Scope} {p : Expr} (hc : chE T.nm N (.lc tt w c a) sc p = true) : ∃ pe tg it ifs scope pos, p = .ListComp pe [⟨tg, it, ifs, 0⟩] scope pos ∧ chI T.nm N w sc tg it = true ∧ noset it = true ∧ blkC N sc scope (tgOwn N tt) = true ∧
    tgB N (relS scope sc) (fun x => scope.names.lookup x == some .cell) tt tg = true ∧ ifsB (fun q => chB T.nm N c (relS scope sc) q) (isYes c) ifs = true ∧ chE T.nm N a (relS scope sc) pe = true := by
  simp only [chE] at hc
  split at hc
  · rename_i pe tg it ifs scope pos
    simp only [Bool.and_eq_true] at hc
    obtain ⟨⟨⟨⟨⟨c1, c2⟩, c3⟩, c4⟩, c5⟩, c6⟩ := hc
    exact ⟨pe, tg, it, ifs, scope, pos, rfl, c1, c2, c3, c4, c5, c6⟩
  · cases hc
theorem se_lc {tt : Tg} {w : I} {c : B} {a : E} (hw : SI T d N w) (hb : SB T d N c) (ha : SE T d N a) : SE T d N (.lc tt w c a) := by
  intro X sc ow q A hc s st v st' io H t Q rs R e p
  obtain ⟨pe, tg, it, ifs, scope, pos, rfl, c1, c2, c3, c4, c5, c6⟩ := lc_ch hc
  obtain ⟨g, tb, te, h1, h2, h3, h4⟩ := lc_read hw hb ha A c1 c3 c4 c5 c6
  intro pins sh I
  exact (pe_lc A.calm (by rw [A.hN]; exact A.nd) pi_sem (by rw [A.hN, A.hsc]; exact blkOk_by c3) h1 h2 h3 (folded c2)).run pins sh t H Q I (h4 s st v st' io H t Q rs R e p)
end
end CL

/-! CL, part k: statements -/
namespace CL
open PySem PySem.Spec PyProof.Rows L2
def PostF (K : PySem.W.Frag) (kt : List (List Val)) (ca io : Nat → Addr) (st : Store) (H : Hp) (fl : Fl) (st' : Store) (D : Ends) : Prop := match fl with
  | .nx s => ∀ (io' : Nat → Addr) (H' : Hp) (t : L2.St), Up io st.n H io' st'.n H' → Rl K kt ca io' st' H' → RS K kt io' st'.n H' s t → D.nx t H'
  | .rt v => ∀ (io' : Nat → Addr) (H' : Hp) (w : V), Up io st.n H io' st'.n H' → Rl K kt ca io' st' H' → RV K kt io' st'.n H' v w → D.rt w H'
  | .bk s => ∀ (io' : Nat → Addr) (H' : Hp) (t : L2.St), Up io st.n H io' st'.n H' → Rl K kt ca io' st' H' → RS K kt io' st'.n H' s t → D.bk t H'
  | .ct s => ∀ (io' : Nat → Addr) (H' : Hp) (t : L2.St), Up io st.n H io' st'.n H' → Rl K kt ca io' st' H' → RS K kt io' st'.n H' s t → D.ct t H'
theorem PostF.after {K : PySem.W.Frag} {kt : List (List Val)} {ca io io1 : Nat → Addr} {st st1 st' : Store} {H H1 : Hp} {fl : Fl} {D : Ends} (p : PostF K kt ca io st H fl st' D) (u : Up io st.n H io1 st1.n H1) : PostF K kt ca io1 st1 H1 fl st' D := by
  cases fl with
  | nx s => exact fun io' H' t u' R r => p io' H' t (u.trans u') R r
  | rt s => exact fun io' H' t u' R r => p io' H' t (u.trans u') R r
  | bk s => exact fun io' H' t u' R r => p io' H' t (u.trans u') R r
  | ct s => exact fun io' H' t u' R r => p io' H' t (u.trans u') R r
def xSem (X : Cx) (p : Stmt) : TS := fun D σ H => ∀ (pins : List (Addr × Obj)) (s : Shared), Inv X pins σ H s → wpAny (model X.prog X.w) X.A (PySem.exec p X.env) (L2.SP X pins D) X.xe s
theorem ps_sem {X : Cx} {p : Stmt} : PS X p (xSem X p) := ⟨fun pins s σ H D I h => h pins s I⟩
def xsSem (X : Cx) (ps : List Stmt) : TS := fun D σ H => ∀ (pins : List (Addr × Obj)) (s : Shared), Inv X pins σ H s → wpAny (model X.prog X.w) X.A (PySem.execs ps X.env) (L2.SP X pins D) X.xe s
theorem pss_sem {X : Cx} {ps : List Stmt} : PSs X ps (xsSem X ps) := ⟨fun pins s σ H D I h => h pins s I⟩
structure AtS (T : Tab) (d : Nat) (X : Cx) (N : List Str) (sc : Scope) (ow : Str → Bool) : Prop extends At T d X N sc ow where
  own : PassesOwn (model X.prog X.w) X.A X.env X.xe
def SS (T : Tab) (d : Nat) (N : List Str) (x : S) : Prop := ∀ (X : Cx) (sc : Scope) (ow : Str → Bool) (p : Stmt), AtS T d X N sc ow → chS T.nm N sc ow x p = true →
  ∀ (s : Env) (st : Store) (fl : Fl) (st' : Store) (io : Nat → Addr) (H : Hp) (t : L2.St) (D : Ends), RS X.K T.G.kt io st.n H s t → Rl X.K T.G.kt T.ca io st H → exec (T.cx d) x s st = .ok fl st' →
    PostF X.K T.G.kt T.ca io st H fl st' D → xSem X p D t H
def SSs (T : Tab) (d : Nat) (N : List Str) (x : Ss) : Prop := ∀ (X : Cx) (sc : Scope) (ow : Str → Bool) (ps : List Stmt), AtS T d X N sc ow → chSs T.nm N sc ow x ps = true →
  ∀ (s : Env) (st : Store) (fl : Fl) (st' : Store) (io : Nat → Addr) (H : Hp) (t : L2.St) (D : Ends), RS X.K T.G.kt io st.n H s t → Rl X.K T.G.kt T.ca io st H → execs (T.cx d) x s st = .ok fl st' →
    PostF X.K T.G.kt T.ca io st H fl st' D → xsSem X ps D t H
section
variable {T : Tab} {d : Nat} {N : List Str}
theorem nolc_or {e : E} {sc : Scope} {p : Expr} (h : chE T.nm N e sc p = true) : nolc p = true ∨ ∃ tt w c a, e = .lc tt w c a := by
  cases p with
  | ListComp _ _ _ _ => cases e <;> first | (simp [chE, nolc] at h; done) | exact .inr ⟨_, _, _, _, rfl⟩
  | SetComp _ _ _ _ => cases e <;> (simp [chE, nolc] at h)
  | DictComp _ _ _ _ _ => cases e <;> (simp [chE, nolc] at h)
  | _ => exact .inl rfl
/-! ### one target -/
theorem stB_ok {X : Cx} {sc : Scope} {ow : Str → Bool} (A : At T d X N sc ow) {i : Nat} {x : Str} (h : stB N sc ow i x = true) : X.N[i]? = some x ∧ Loc X.env.scope x ∧ (X.fn x = true ∨ X.env.scope.names.lookup x = some .local) := by
  unfold stB at h
  rw [Bool.and_eq_true, decide_eq_true_eq] at h
  obtain ⟨l1, l2⟩ := locB_ok h.2
  rw [A.hN, A.hsc]
  exact ⟨h.1, l1, l2.imp (A.how x) id⟩
theorem At.nodup {X : Cx} {sc : Scope} {ow : Str → Bool} (A : At T d X N sc ow) : X.N.Nodup := by rw [A.hN]; exact A.nd
theorem swap_lc {elt : Expr} {gs : List Comprehension} {scope : Scope} {pos py : Pos} {y : Str} {l : Nat} {env : PySem.Env} (hk : env.scope.kind = .function) :
    swapsWith (.ListComp elt gs scope pos) (some (.Name y py)) l env = pure (lcSw env.scope y py (.ListComp elt gs scope pos)) := by
  have hb : env.blockKind = .function := by unfold PySem.Env.blockKind; rw [hk]; rfl
  unfold swapsWith lcSw
  simp only [hb, Expr.pos, PySem.Env.kindOf]
  rfl
def PostN (K : PySem.W.Frag) (kt : List (List Val)) (ca io : Nat → Addr) (st : Store) (H : Hp) (s' : Env) (st' : Store) (Q : L2.St → Hp → Prop) : Prop :=
  ∀ (io' : Nat → Addr) (H' : Hp) (t : L2.St), Up io st.n H io' st'.n H' → Rl K kt ca io' st' H' → RS K kt io' st'.n H' s' t → Q t H'
theorem sub_asg {X : Cx} {o i : Expr} {pos : Pos} (h : noslice i = true) : ∀ v, assign (.Subscript o i pos) X.env v = (do
      let ov ← holding [v] (eval o X.env)
      let iv ← holding [v, ov] (eval i X.env)
      standAt pos
      holding [v, ov, iv] (setItem ov iv v)
      release [v, ov, iv] []) := fun v => by
  cases i <;> first | rfl | cases h
theorem asg1_sub {a b : E} (ha : SE T d N a) (hb : SE T d N b) {X : Cx} {sc : Scope} {ow : Str → Bool} (A : At T d X N sc ow) {q r : Expr} {pos : Pos} (c1 : chE T.nm N a sc q = true) (c2 : chE T.nm N b sc r = true) (c3 : noslice r = true)
    {v : Val} {s s' : Env} {st st' : Store} {io : Nat → Addr} {H : Hp} {w : V} {t : L2.St} {Q : L2.St → Hp → Prop} (rs : RS X.K T.G.kt io st.n H s t) (R : Rl X.K T.G.kt T.ca io st H) (rv : RV X.K T.G.kt io st.n H v w) (e : asg1 (T.cx d) (.sub a b) v s st = .ok s' st')
    (p : PostN X.K T.G.kt T.ca io st H s' st' Q) : gtSem X (.Subscript q r pos) w t H Q := by
  unfold asg1 at e
  simp only at e
  obtain ⟨x, st1, e1, e⟩ := bind_eq_ok.mp e
  obtain ⟨y, st2, e2, e⟩ := bind_eq_ok.mp e
  obtain ⟨z, st3, e3, e⟩ := bind_eq_ok.mp e
  cases e
  intro pins sh u I ru
  refine (pg_sub pe_sem pe_sem set_sem (sub_asg c3)).run pins sh t H w u Q I ru ?_
  refine ha X sc ow _ A c1 s st x st1 io H t _ rs R e1 fun io1 H1 w1 u1 R1 r1 => ?_
  refine hb X sc ow _ A c2 s st1 y st2 io1 H1 t _ (rs.up u1) R1 e2 fun io2 H2 w2 u2 R2 r2 => ?_
  refine put_ok A.hu R2 (r1.up u2) r2 (rv.up (u1.trans u2)) e3 fun H3 u3 R3 => ?_
  exact p io2 H3 t ((u1.trans u2).trans u3) R3 (rs.up ((u1.trans u2).trans u3))
theorem asg1_one {X : Cx} {sc : Scope} {ow : Str → Bool} (A : At T d X N sc ow) {i : Nat} {x : Str} {pos : Pos} (c1 : stB N sc ow i x = true)
    {v : Val} {s s' : Env} {st st' : Store} {io : Nat → Addr} {H : Hp} {w : V} {t : L2.St} {Q : L2.St → Hp → Prop} (rs : RS X.K T.G.kt io st.n H s t) (R : Rl X.K T.G.kt T.ca io st H) (rv : RV X.K T.G.kt io st.n H v w) (e : asg1 (T.cx d) (.one i) v s st = .ok s' st')
    (p : PostN X.K T.G.kt T.ca io st H s' st' Q) : gtSem X (.Name x pos) w t H Q := by
  cases e
  obtain ⟨h1, h2, h3⟩ := stB_ok A c1
  intro pins sh u I ru
  exact (pg_name A.nodup h1 h2 h3).run pins sh t H w u Q I ru (p io H _ (.refl _ _ _) R (rs.set rv i))
/-! ### x = e -/
theorem ss_asg_one {i : Nat} {a : E} (ha : SE T d N a) (hl : ∀ tt w c b, a = .lc tt w c b → SI T d N w ∧ SB T d N c ∧ SE T d N b) : SS T d N (.asg (.one i) a) := by
  intro X sc ow q A hc s st fl st' io H t D rs R e p
  simp only [chS] at hc
  split at hc
  · rename_i tg v pos
    rw [Bool.and_eq_true] at hc
    obtain ⟨c1, c2⟩ := hc
    split at c2
    · rename_i x px
      simp only [exec] at e
      obtain ⟨u, st1, e1, e⟩ := bind_eq_ok.mp e
      obtain ⟨s1, st2, e2, e⟩ := bind_eq_ok.mp e
      cases e
      cases e2
      obtain ⟨h1, h2, h3⟩ := stB_ok A.toAt c2
      have post : Post X.K T.G.kt T.ca io st H u st' (fun y H1 => gName i y t H1 D.nx) := fun io1 H1 w u1 R1 r1 => p io1 H1 _ u1 R1 ((rs.up u1).set r1 i)
      intro pins sh I
      rcases nolc_or c1 with hn | ⟨tt, w, c, b, rfl⟩
      · exact (ps_set A.nodup h1 h2 pe_sem (swap_none hn) h3).run pins sh t H D I (ha X sc ow v A.toAt c1 s st u st' io H t _ rs R e1 post)
      · obtain ⟨hw, hb, hbe⟩ := hl tt w c b rfl
        obtain ⟨pe, tg, it, ifs, scope, lpos, rfl, d1, d2, d3, d4, d5, d6⟩ := lc_ch c1
        have hsw := swap_lc (elt := pe) (gs := [⟨tg, it, ifs, 0⟩]) (scope := scope) (pos := lpos) (py := px) (y := x) (l := pos.line) (env := X.env) (by rw [A.hsc]; exact A.kind)
        cases hb2 : lcSw X.env.scope x px (.ListComp pe [⟨tg, it, ifs, 0⟩] scope lpos) with
        | false =>
          rw [hb2] at hsw
          exact (ps_set A.nodup h1 h2 pe_sem hsw h3).run pins sh t H D I (ha X sc ow _ A.toAt c1 s st u st' io H t _ rs R e1 post)
        | true =>
          rw [hb2] at hsw
          have hloc : X.env.scope.names.lookup x = some .local := by
            unfold lcSw at hb2
            simp only [Bool.and_eq_true, beq_iff_eq] at hb2
            exact hb2.1.1
          obtain ⟨g, tb, te, k1, k2, k3, k4⟩ := lc_read hw hb hbe A.toAt d1 d3 d4 d5 d6
          exact (ps_setLc A.calm A.nodup h1 hloc hsw pi_sem (by rw [A.hN, A.hsc]; exact blkOk_by d3) k1 k2 k3 (folded d2)).run pins sh t H D I (k4 s st u st' io H t _ rs R e1 post)
    · cases c2
  · cases hc
theorem ss_asg_sub {a b c : E} (ha : SE T d N a) (hb : SE T d N b) (hv : SE T d N c) : SS T d N (.asg (.sub a b) c) := by
  intro X sc ow q A hc s st fl st' io H t D rs R e p
  simp only [chS] at hc
  split at hc
  · rename_i tg v pos
    rw [Bool.and_eq_true] at hc
    obtain ⟨c1, c2⟩ := hc
    split at c2
    · rename_i x y px
      simp only [Bool.and_eq_true] at c2
      simp only [exec] at e
      obtain ⟨u, st1, e1, e⟩ := bind_eq_ok.mp e
      obtain ⟨s1, st2, e2, e⟩ := bind_eq_ok.mp e
      cases e
      intro pins sh I
      refine (ps_asg pe_sem pg_sem (by unfold swapsWithSole; exact swap_sub) (by rfl) (by rfl)).run pins sh t H D I ?_
      refine hv X sc ow v A.toAt c1 s st u st1 io H t _ rs R e1 fun io1 H1 w u1 R1 r1 => ?_
      exact asg1_sub ha hb A.toAt c2.1.1 c2.1.2 c2.2 (rs.up u1) R1 r1 e2 fun io2 H2 t2 u2 R2 r2 => p io2 H2 t2 (u1.trans u2) R2 r2
    · cases c2
  · cases hc
theorem ss_asg_fld {a c : E} {f : Str} (ha : SE T d N a) (hv : SE T d N c) : SS T d N (.asg (.fld a f) c) := by
  intro X sc ow q A hc s st fl st' io H t D rs R e p
  simp only [chS] at hc
  split at hc
  · rename_i tg v pos
    rw [Bool.and_eq_true] at hc
    obtain ⟨c1, c2⟩ := hc
    split at c2
    · rename_i x g px
      simp only [Bool.and_eq_true, decide_eq_true_eq] at c2
      obtain ⟨rfl, c2⟩ := c2
      simp only [exec] at e
      obtain ⟨u, st1, e1, e⟩ := bind_eq_ok.mp e
      obtain ⟨s1, st2, e2, e⟩ := bind_eq_ok.mp e
      cases e
      unfold asg1 at e2
      simp only at e2
      obtain ⟨x', st3, e3, e2⟩ := bind_eq_ok.mp e2
      obtain ⟨z, st4, e4, e2⟩ := bind_eq_ok.mp e2
      cases e2
      intro pins sh I
      refine (ps_fld pe_sem pe_sem swap_att).run pins sh t H D I ?_
      refine hv X sc ow v A.toAt c1 s st u st1 io H t _ rs R e1 fun io1 H1 w u1 R1 r1 => ?_
      refine ha X sc ow _ A.toAt c2 s st1 x' st3 io1 H1 t _ (rs.up u1) R1 e3 fun io2 H2 w2 u2 R2 r2 => ?_
      unfold putF at e4
      split at e4
      · obtain ⟨rfl, hi⟩ := r2.iref
        split at e4
        · rename_i c fs em
          split at e4
          · rename_i hf
            obtain ⟨hr, _, rfl⟩ := wr_inv e4
            obtain ⟨_, _, dx, gs, h1, rk⟩ := R2.inst em
            obtain ⟨cl, na⟩ := A.top.fl c f hf.1
            refine ⟨_, _, dx, gs, rfl, h1, cl, na, by rw [← rk.length]; exact hf.2, ?_⟩
            have up := Up.wr (io := io2) (st := st3) (.ins (T.ca c) dx (L2.putF f w gs)) h1 trivial
            exact p io2 _ t ((u1.trans u2).trans up) (R2.wr hi hr (.ins upd_same ((rk.setF f (r1.up u2)).up up))) (rs.up ((u1.trans u2).trans up))
          · cases e4
        · cases e4
      · cases e4
    · cases c2
  · cases hc
end
end CL

/-! CL, part l: more statements; a def; the whole -/
namespace CL
open PySem PySem.Spec PyProof.Rows L2
section
variable {T : Tab} {d : Nat} {N : List Str}
/-! ### a, b = e -/
def gsSem (X : Cx) (ts : List Expr) : TGs := fun vs σ H Q => ∀ (pins : List (Addr × Obj)) (s : Shared) (us : List Value), Inv X pins σ H s → Vals vs us → wpAny (model X.prog X.w) X.A (assignInOrder ((assignEach ts X.env).map (·.2)) us) (fun _ s' => ∃ σ' H', Inv X pins σ' H' s' ∧ Q σ' H') X.xe s
theorem pgs_sem {X : Cx} {ts : List Expr} : PGs X ts (gsSem X ts) := ⟨fun pins s σ H vs us Q I r h => h pins s us I r⟩
theorem each_cons {p : Expr} {ps : List Expr} {env : PySem.Env} (h : nostar p = true) : assignEach (p :: ps) env = (false, assign p env) :: assignEach ps env := by
  cases p <;> first | rfl | cases h
theorem each_len {env : PySem.Env} : ∀ {ps : List Expr}, ps.all nostar = true → (assignEach ps env).length = ps.length ∧ (assignEach ps env).findIdx? (·.1) = none
  | [], _ => ⟨rfl, rfl⟩
  | p :: ps, h => by
    rw [List.all_cons, Bool.and_eq_true] at h
    obtain ⟨h1, h2⟩ := each_len (env := env) h.2
    rw [each_cons h.1]
    refine ⟨by rw [List.length_cons, List.length_cons, h1], ?_⟩
    rw [List.findIdx?_cons, h2]; rfl
/-- what each target of a list wants -/
inductive ST (T : Tab) (d : Nat) (N : List Str) : List CL.T → Prop
  | nil : ST T d N []
  | one {i : Nat} {ts : List CL.T} : ST T d N ts → ST T d N (.one i :: ts)
  | sub {a b : E} {ts : List CL.T} : SE T d N a → SE T d N b → ST T d N ts → ST T d N (.sub a b :: ts)
  | fld {a : E} {f : Str} {ts : List CL.T} : ST T d N ts → ST T d N (.fld a f :: ts)
theorem chTL_star {sc : Scope} {ow : Str → Bool} : ∀ {ts : List CL.T} {ps : List Expr}, chTL T.nm N sc ow ts ps = true → ps.all nostar = true ∧ ts.length = ps.length
  | [], [], _ => ⟨rfl, rfl⟩
  | t :: ts, p :: ps, h => by
    unfold chTL at h
    simp only [Bool.and_eq_true] at h
    obtain ⟨h1, h2⟩ := chTL_star h.2
    exact ⟨by rw [List.all_cons, h.1.2, h1]; rfl, by rw [List.length_cons, List.length_cons, h2]⟩
  | [], _ :: _, h => by unfold chTL at h; cases h
  | _ :: _, [], h => by unfold chTL at h; cases h
theorem asgs_sem {X : Cx} {sc : Scope} {ow : Str → Bool} (A : At T d X N sc ow) : ∀ {ts : List CL.T} (_ : ST T d N ts) {ps : List Expr}, chTL T.nm N sc ow ts ps = true →
    ∀ {vs : List Val} {s s' : Env} {st st' : Store} {io : Nat → Addr} {H : Hp} {ws : List V} {t : L2.St} {Q : L2.St → Hp → Prop}, RS X.K T.G.kt io st.n H s t → Rl X.K T.G.kt T.ca io st H → RVs X.K T.G.kt io st.n H vs ws → asgs (T.cx d) ts vs s st = .ok s' st' →
      PostN X.K T.G.kt T.ca io st H s' st' Q → gsSem X ps ws t H Q := by
  intro ts hts
  induction hts with
  | nil =>
    intro ps h vs s s' st st' io H ws t Q rs R rv e p
    cases ps with
    | cons _ _ => unfold chTL at h; cases h
    | nil =>
      cases rv with
      | cons _ _ => cases e
      | nil =>
        cases e
        intro pins sh us I ru
        exact pgs_nil.run pins sh t H [] us Q I ru ⟨rfl, p io H t (.refl _ _ _) R rs⟩
  | one hts ih =>
    intro ps h vs s s' st st' io H ws t Q rs R rv e p
    cases ps with
    | nil => unfold chTL at h; cases h
    | cons q ps =>
      unfold chTL at h
      simp only [Bool.and_eq_true] at h
      cases rv with
      | nil => cases e
      | cons r1 r2 =>
        obtain ⟨s1, st1, e1, e⟩ := bind_eq_ok.mp e
        intro pins sh us I ru
        refine (pgs_cons pg_sem pgs_sem (by rw [each_cons h.1.2]; rfl)).run pins sh t H _ us Q I ru ⟨_, _, rfl, ?_⟩
        have hc := h.1.1
        unfold chTs at hc
        simp only at hc
        split at hc
        · exact asg1_one A hc rs R r1 e1 fun io1 H1 t1 u1 R1 rs1 => ih h.2 rs1 R1 (r2.up u1) e fun io2 H2 t2 u2 R2 rs2 => p io2 H2 t2 (u1.trans u2) R2 rs2
        · cases hc
  | sub ha hb hts ih =>
    intro ps h vs s s' st st' io H ws t Q rs R rv e p
    cases ps with
    | nil => unfold chTL at h; cases h
    | cons q ps =>
      unfold chTL at h
      simp only [Bool.and_eq_true] at h
      cases rv with
      | nil => cases e
      | cons r1 r2 =>
        obtain ⟨s1, st1, e1, e⟩ := bind_eq_ok.mp e
        intro pins sh us I ru
        refine (pgs_cons pg_sem pgs_sem (by rw [each_cons h.1.2]; rfl)).run pins sh t H _ us Q I ru ⟨_, _, rfl, ?_⟩
        have hc := h.1.1
        unfold chTs at hc
        simp only at hc
        split at hc
        · simp only [Bool.and_eq_true] at hc
          exact asg1_sub ha hb A hc.1.1 hc.1.2 hc.2 rs R r1 e1 fun io1 H1 t1 u1 R1 rs1 => ih h.2 rs1 R1 (r2.up u1) e fun io2 H2 t2 u2 R2 rs2 => p io2 H2 t2 (u1.trans u2) R2 rs2
        · cases hc
  | fld hts ih =>
    intro ps h
    cases ps with
    | nil => unfold chTL at h; cases h
    | cons q ps =>
      unfold chTL at h
      simp only [Bool.and_eq_true] at h
      have hc := h.1.1
      unfold chTs at hc
      cases hc
theorem sw_eq {ts : List Expr} {k : Nat} {p : Pos} {value : Expr} {env : PySem.Env} (hk : env.scope.kind = .function) {r : Option (List Str)} (h : swMir env.scope ts value = some r) : swappedStores [.Tuple ts k p] value env = pure r := by
  have hb : env.blockKind = .function := by unfold PySem.Env.blockKind; rw [hk]; rfl
  cases value with
  | Tuple vs k2 p2 =>
    unfold swMir at h
    simp only at h
    unfold swappedStores
    simp only [hb, PySem.Env.kindOf, bne_self_eq_false, Bool.or_false]
    split at h
    · rename_i h1; cases h; exact if_pos h1
    · rename_i h1
      refine (if_neg h1).trans ?_
      split at h
      · rename_i h2; cases h; exact if_pos h2
      · rename_i h2
        refine (if_neg h2).trans ?_
        split at h
        · rename_i h3; cases h; exact if_pos h3
        · rename_i h3
          refine (if_neg h3).trans ?_
          split at h
          · rename_i h4; cases h; exact if_pos h4
          · rename_i h4
            refine (if_neg h4).trans ?_
            split at h
            · cases h
            · rename_i h5; cases h; exact if_neg h5
  | _ => cases h; rfl
theorem ss_asT {ts : List CL.T} {a : E} (hts : ST T d N ts) (ha : SE T d N a) : SS T d N (.asT ts a) := by
  intro X sc ow q A hc s st fl st' io H t D rs R e p
  simp only [chS] at hc
  split at hc
  · rename_i tg k tp v pos
    simp only [Bool.and_eq_true] at hc
    obtain ⟨⟨c1, c2⟩, c3⟩ := hc
    have c3 : swMir sc tg v = some none := by
      split at c3
      · assumption
      · cases c3
    have hw := sw_eq (k := k) (p := tp) (env := X.env) (by rw [A.hsc]; exact A.kind) (by rw [A.hsc]; exact c3)
    obtain ⟨s1, s2⟩ := chTL_star c2
    obtain ⟨l1, l2⟩ := each_len (env := X.env) s1
    simp only [exec] at e
    obtain ⟨u, st1, e1, e⟩ := bind_eq_ok.mp e
    split at e
    · rename_i xs ex
      obtain ⟨s', st2, e2, e⟩ := bind_eq_ok.mp e
      cases e
      have hsw : swapsWithSole [.Tuple tg k tp] v pos.line X.env = pure false := by
        unfold swapsWithSole
        cases v <;> rfl
      intro pins sh I
      have fin : ∀ (io1 : Nat → Addr) (H1 : Hp) (ys : List V), Up io st.n H io1 st1.n H1 → Rl X.K T.G.kt T.ca io1 st1 H1 → RVs X.K T.G.kt io1 st1.n H1 xs ys → gsSem X tg ys t H1 D.nx := fun io1 H1 ys u1 R1 ry =>
        asgs_sem A.toAt hts c2 (rs.up u1) R1 ry e2 fun io2 H2 t2 u2 R2 r2 => p io2 H2 t2 (u1.trans u2) R2 r2
      have hlen : xs.length = tg.length := by
        have : ∀ {ts : List CL.T} {xs : List Val} {s s' : Env} {st st' : Store}, asgs (T.cx d) ts xs s st = .ok s' st' → ts.length = xs.length := by
          intro ts
          induction ts with
          | nil => intro xs s s' st st' e; cases xs with
            | nil => rfl
            | cons _ _ => cases e
          | cons t ts ih => intro xs s s' st st' e; cases xs with
            | nil => cases e
            | cons x xs =>
              obtain ⟨_, _, _, e⟩ := bind_eq_ok.mp e
              rw [List.length_cons, List.length_cons, ih e]
        rw [← this e2, s2]
      unfold itemsOf at ex
      split at ex
      · cases ex
        refine (ps_asg pe_sem (pg_tup A.calm pgs_sem l1 l2) hsw hw (by rfl)).run pins sh t H D I ?_
        refine ha X sc ow v A.toAt c1 s st _ st1 io H t _ rs R e1 fun io1 H1 w u1 R1 r1 => ?_
        obtain ⟨a1, ys, rfl, sq, ry⟩ := r1.itup
        exact ⟨a1, ys, rfl, sq.sqT, by rw [← ry.length]; exact hlen, fin io1 H1 ys u1 R1 ry⟩
      · refine (ps_asg pe_sem (pg_lst A.calm pgs_sem l1 l2) hsw hw (by rfl)).run pins sh t H D I ?_
        refine ha X sc ow v A.toAt c1 s st _ st1 io H t _ rs R e1 fun io1 H1 w u1 R1 r1 => ?_
        obtain ⟨rfl, hi⟩ := r1.iref
        unfold Store.lst at ex
        split at ex
        · rename_i zs em
          cases ex
          obtain ⟨ys, sl, ry, _⟩ := R1.list em
          exact ⟨_, ys, rfl, sl, by rw [← ry.length]; exact hlen, fin io1 H1 ys u1 R1 ry⟩
        · cases ex
      · cases ex
    · cases e
  · cases hc
theorem len2 {α : Type} {l : List α} (h : l.length = 2) : ∃ a b, l = [a, b] := by
  match l, h with
  | [a, b], _ => exact ⟨a, b, rfl⟩
theorem len3 {α : Type} {l : List α} (h : l.length = 3) : ∃ a b c, l = [a, b, c] := by
  match l, h with
  | [a, b, c], _ => exact ⟨a, b, c, rfl⟩
theorem dups2 {x y : Str} (h : ([x, y] : List Str).eraseDups.length = 2) : x ≠ y := by
  rintro rfl
  simp [List.eraseDups, List.eraseDupsBy, List.eraseDupsBy.loop] at h
theorem dups3 {x y z : Str} (h : ([x, y, z] : List Str).eraseDups.length = 3) : x ≠ y ∧ x ≠ z ∧ y ≠ z := by
  refine ⟨?_, ?_, ?_⟩ <;> rintro rfl
  · simp [List.eraseDups, List.eraseDupsBy, List.eraseDupsBy.loop] at h
    split at h <;> simp at h
  · simp [List.eraseDups, List.eraseDupsBy, List.eraseDupsBy.loop] at h
    split at h <;> simp at h
  · simp [List.eraseDups, List.eraseDupsBy, List.eraseDupsBy.loop] at h
    split at h <;> simp at h
theorem fm_all {α β : Type} {f : α → Option β} : ∀ {l : List α}, (l.filterMap f).length = l.length → l.map f = (l.filterMap f).map some
  | [], _ => rfl
  | x :: r, h => by
    rw [List.filterMap_cons] at h ⊢
    cases e : f x with
    | none =>
      rw [e] at h
      have := List.length_filterMap_le f r
      simp only [List.length_cons] at h
      omega
    | some y =>
      rw [e] at h
      simp only [List.length_cons, Nat.add_right_cancel_iff] at h
      rw [List.map_cons, e, fm_all h]
      rfl
theorem sw_some {sc : Scope} {ts vs : List Expr} {k : Nat} {p : Pos} {ns : List Str} (h : swMir sc ts (.Tuple vs k p) = some (some ns)) :
    (ts.length = 2 ∨ ts.length = 3) ∧ vs.length = ts.length ∧ ns.eraseDups.length = ts.length ∧ ∃ l : Nat, ts.map (fun t => match t with | .Name id pos => if sc.names.lookup id == some .local && pos.line == l then some id else none | _ => none) = ns.map some := by
  unfold swMir at h
  simp only at h
  split at h
  · cases h
  · rename_i h1
    split at h
    · cases h
    · split at h
      · cases h
      · rename_i h3
        split at h
        · cases h
        · split at h
          · cases h
          · cases h
            simp only [Bool.or_eq_true, Bool.not_eq_true', bne_iff_ne, ne_eq, not_or, Bool.not_eq_false, beq_iff_eq, Decidable.not_not] at h1 h3
            refine ⟨h1.1, h1.2, by rw [h3.2, h3.1], _, fm_all h3.1⟩

theorem name_some {sc : Scope} {x y : Str} {px : Pos} {l : Nat} (h : (match (Expr.Name x px) with | .Name id pos => if sc.names.lookup id == some .local && pos.line == l then some id else none | _ => none) = some y) : sc.names.lookup x = some .local ∧ y = x := by
  simp only at h
  split at h
  · rename_i hc
    cases h
    rw [Bool.and_eq_true, beq_iff_eq] at hc
    exact ⟨hc.1, rfl⟩
  · cases h
theorem ix_ne {N : List Str} {i j : Nat} {x y : Str} (h1 : N[i]? = some x) (h2 : N[j]? = some y) (h : x ≠ y) : i ≠ j := by
  rintro rfl
  rw [h1] at h2
  exact h (Option.some.inj h2)
theorem ss_par {is : List Nat} {es : Es} (hs : SA T d N es) : SS T d N (.par is es) := by
  intro X sc ow q A hc s st fl st' io H t D rs R e p
  simp only [chS] at hc
  split at hc
  · rename_i tg k tp vs k2 p2 pos
    simp only [Bool.and_eq_true] at hc
    obtain ⟨⟨c1, c2⟩, c3⟩ := hc
    have c3 : ∃ ns, swMir sc tg (.Tuple vs k2 p2) = some (some ns) := by
      split at c3
      · rename_i ns h; exact ⟨ns, h⟩
      · cases c3
    obtain ⟨ns, c3⟩ := c3
    have hw := sw_eq (k := k) (p := tp) (env := X.env) (by rw [A.hsc]; exact A.kind) (by rw [A.hsc]; exact c3)
    obtain ⟨hlen, hv, hd, l, hm⟩ := sw_some c3
    simp only [exec] at e
    obtain ⟨us, st1, e1, e⟩ := bind_eq_ok.mp e
    split at e
    · rename_i s1 es1
      cases e
      have hsw : ∀ tg' vs', swapsWithSole [.Tuple tg' k tp] (.Tuple vs' k2 p2) pos.line X.env = pure false := fun _ _ => rfl
      have fin : ∀ (io1 : Nat → Addr) (H1 : Hp) (ws : List V), Up io st.n H io1 st'.n H1 → Rl X.K T.G.kt T.ca io1 st' H1 → RVs X.K T.G.kt io1 st'.n H1 us ws → is.length = ws.length ∧ D.nx (setAllV is ws t) H1 := fun io1 H1 ws u1 R1 r1 => by
        obtain ⟨z, hl⟩ := setAll_rs (rs.up u1) r1 es1
        exact ⟨hl, p io1 H1 _ u1 R1 z⟩
      intro pins sh I
      cases is with
      | nil =>
        cases tg with
        | nil => simp at hlen
        | cons _ _ => unfold namesB at c2; cases c2
      | cons i is =>
        cases tg with
        | nil => simp at hlen
        | cons t1 tg =>
          cases t1 with
          | Name x px =>
            unfold namesB at c2
            rw [Bool.and_eq_true] at c2
            obtain ⟨ci, c2⟩ := c2
            cases is with
            | nil =>
              cases tg with
              | nil => simp at hlen
              | cons _ _ => unfold namesB at c2; cases c2
            | cons j is =>
              cases tg with
              | nil => simp at hlen
              | cons t2 tg =>
                cases t2 with
                | Name y py =>
                  unfold namesB at c2
                  rw [Bool.and_eq_true] at c2
                  obtain ⟨cj, c2⟩ := c2
                  have hi := (stB_ok A.toAt ci).1
                  have hj := (stB_ok A.toAt cj).1
                  cases is with
                  | nil =>
                    cases tg with
                    | cons _ _ => unfold namesB at c2; cases c2
                    | nil =>
                      have h2 : ns.length = 2 := by have := congrArg List.length hm; simpa using this.symm
                      obtain ⟨a, b, rfl⟩ := len2 h2
                      · simp only [List.map_cons, List.map_nil, List.cons.injEq, and_true] at hm
                        obtain ⟨hx, rfl⟩ := name_some hm.1
                        obtain ⟨hy, rfl⟩ := name_some hm.2
                        match vs, hv, c1, hs X sc ow vs A.toAt c1 with
                        | [v1, v2], hv, c1, hs' =>
                          refine (ps_par A.calm A.nodup hi hj (ix_ne hi hj (dups2 hd)) (by rw [A.hsc]; exact hx) (by rw [A.hsc]; exact hy) pa_sem hw (hsw _ _)).run pins sh t H D I ?_
                          refine hs' s st us st' io H t _ rs R e1 fun io1 H1 ws u1 R1 r1 => ?_
                          obtain ⟨hl, z⟩ := fin io1 H1 ws u1 R1 r1
                          match ws, hl, z with
                          | [w1, w2], hl, z => exact ⟨w1, w2, rfl, z⟩
                  | cons k3 is =>
                    cases tg with
                    | nil => unfold namesB at c2; cases c2
                    | cons t3 tg =>
                      cases t3 with
                      | Name z3 pz =>
                        unfold namesB at c2
                        rw [Bool.and_eq_true] at c2
                        obtain ⟨ck, c2⟩ := c2
                        have hk := (stB_ok A.toAt ck).1
                        cases tg with
                        | cons _ _ => simp at hlen
                        | nil =>
                          cases is with
                          | cons _ _ => unfold namesB at c2; cases c2
                          | nil =>
                            have h2 : ns.length = 3 := by have := congrArg List.length hm; simpa using this.symm
                            obtain ⟨a, b, c, rfl⟩ := len3 h2
                            · simp only [List.map_cons, List.map_nil, List.cons.injEq, and_true] at hm
                              obtain ⟨hx, rfl⟩ := name_some hm.1
                              obtain ⟨hy, rfl⟩ := name_some hm.2.1
                              obtain ⟨hz, rfl⟩ := name_some hm.2.2
                              obtain ⟨n1, n2, n3⟩ := dups3 hd
                              match vs, hv, c1, hs X sc ow vs A.toAt c1 with
                              | [v1, v2, v3], hv, c1, hs' =>
                                refine (ps_par3 A.calm A.nodup hi hj hk (ix_ne hi hj n1) (ix_ne hi hk n2) (ix_ne hj hk n3) (by rw [A.hsc]; exact hx) (by rw [A.hsc]; exact hy) (by rw [A.hsc]; exact hz) pa_sem hw (hsw _ _)).run pins sh t H D I ?_
                                refine hs' s st us st' io H t _ rs R e1 fun io1 H1 ws u1 R1 r1 => ?_
                                obtain ⟨hl, z⟩ := fin io1 H1 ws u1 R1 r1
                                match ws, hl, z with
                                | [w1, w2, w3], hl, z => exact ⟨w1, w2, w3, rfl, z⟩
                      | _ => unfold namesB at c2; cases c2
                | _ => unfold namesB at c2; cases c2
          | _ => unfold namesB at c2; cases c2
    · cases e
  · cases hc

/-! ### x op= e -/
theorem iop_ok {X : Cx} {o : Bop} {a b v : Val} {x y : V} {io : Nat → Addr} {st st' : Store} {H : Hp} {Q : VK} (R : Rl X.K T.G.kt T.ca io st H) (ra : RV X.K T.G.kt io st.n H a x) (rb : RV X.K T.G.kt io st.n H b y) (e : iop o a b st = .ok v st') (p : Post X.K T.G.kt T.ca io st H v st' Q) :
    oSem X (inplaceOp (opOf o)) x y H Q ∧ st' = st := by
  unfold iop at e
  split at e
  · cases e
    obtain rfl := ra.iint
    obtain rfl := rb.iint
    exact ⟨oSem.of iop_add ⟨_, _, rfl, rfl, p.here R (.int _)⟩, rfl⟩
  · cases e
    obtain rfl := ra.iint
    obtain rfl := rb.iint
    exact ⟨oSem.of iop_sub ⟨_, _, rfl, rfl, p.here R (.int _)⟩, rfl⟩
  · cases e
theorem ss_aug {i : Nat} {o : Bop} {a : E} (ha : SE T d N a) : SS T d N (.aug i o a) := by
  intro X sc ow q A hc s st fl st' io H t D rs R e p
  simp only [chS] at hc
  split at hc
  · simp only [Bool.and_eq_true, decide_eq_true_eq] at hc
    obtain ⟨⟨rfl, c1⟩, c2⟩ := hc
    obtain ⟨h1, h2, h3⟩ := stB_ok A.toAt c1
    simp only [exec] at e
    split at e
    · rename_i x ex
      obtain ⟨y, st1, e1, e⟩ := bind_eq_ok.mp e
      obtain ⟨z, st2, e2, e⟩ := bind_eq_ok.mp e
      cases e
      obtain ⟨w, ew, rw'⟩ := rs.2 i x ex
      intro pins sh I
      refine (ps_aug (ti := oSem X (inplaceOp (opOf o))) A.nodup h1 h2 pe_sem (fun pins s σ H x y v u Q I r1 r2 h => h pins s σ v u I r1 r2) h3).run pins sh t H D I ⟨w, ew, ?_⟩
      refine ha X sc ow _ A.toAt c2 s st y st1 io H t _ rs R e1 fun io1 H1 w1 u1 R1 r1 => ?_
      exact (iop_ok R1 (rw'.up u1) r1 e2 fun io2 H2 w2 u2 R2 r2 => p io2 H2 _ (u1.trans u2) R2 ((rs.up (u1.trans u2)).set r2 i)).1
    · cases e
  · cases hc
theorem aug_store {i : Expr} (h : noslice i = true) : ∀ ov iv new, augStore i ov iv new = (do holding [new, ov, iv] (setItem ov iv new); release [new, ov, iv] []; pure .next) := fun ov iv new => by
  cases i <;> first | rfl | cases h
theorem ss_aus {a b c : E} {o : Bop} (ha : SE T d N a) (hb : SE T d N b) (hv : SE T d N c) : SS T d N (.aus a b o c) := by
  intro X sc ow q A hc s st fl st' io H t D rs R e p
  simp only [chS] at hc
  split at hc
  · simp only [Bool.and_eq_true, decide_eq_true_eq] at hc
    obtain ⟨⟨⟨⟨rfl, c1⟩, c2⟩, c3⟩, c4⟩ := hc
    simp only [exec] at e
    obtain ⟨x, st1, e1, e⟩ := bind_eq_ok.mp e
    obtain ⟨y, st2, e2, e⟩ := bind_eq_ok.mp e
    obtain ⟨old, st3, e3, e⟩ := bind_eq_ok.mp e
    obtain ⟨v, st4, e4, e⟩ := bind_eq_ok.mp e
    obtain ⟨z, st5, e5, e⟩ := bind_eq_ok.mp e
    obtain ⟨n, st6, e6, e⟩ := bind_eq_ok.mp e
    cases e
    obtain ⟨i, v0, w0, rfl, gg⟩ : ∃ (i : Nat) (v0 : Val) (w0 : Unit), x = .ref i ∧ dget T.G.kt (st2.m i) y = some (some old) ∧ st3 = st2 := by
      unfold getD at e3
      split at e3
      · split at e3
        · rename_i h; cases e3; exact ⟨_, old, (), rfl, h, rfl⟩
        · cases e3
      · cases e3
    obtain ⟨gg, rfl⟩ := gg
    have hu := A.hu
    intro pins sh I
    refine (ps_daug (rd := oSem X (inplaceOp (opOf o))) (by omega) pe_sem pe_sem pe_sem (fun pins s σ H x y u v Q I r1 r2 h => h pins s σ u v I r1 r2) (aug_store c3)).run pins sh t H D I ?_
    refine ha X sc ow _ A.toAt c1 s st _ st1 io H t _ rs R e1 fun io1 H1 w1 u1 R1 r1 => ?_
    refine hb X sc ow _ A.toAt c2 s st1 y _ io1 H1 t _ (rs.up u1) R1 e2 fun io2 H2 w2 u2 R2 r2 => ?_
    have r1' := r1.up u2
    obtain ⟨rfl, hi⟩ := r1'.iref
    obtain ⟨rw', g, rr⟩ := dget_ok R2 rfl r2 gg
    cases rw' with
    | none => cases rr
    | some wz =>
      refine ⟨_, wz, rfl, g, ?_⟩
      refine hv X sc ow _ A.toAt c4 s _ v st4 io2 H2 t _ (rs.up (u1.trans u2)) R2 e4 fun io3 H3 w3 u3 R3 r3 => ?_
      refine (iop_ok R3 (RV.up u3 rr) r3 e5 fun io4 H4 w4 u4 R4 r4 => ?_).1
      have U := (u1.trans u2).trans (u3.trans u4)
      have hio : io4 i = io2 i := (u3.trans u4).io i hi
      have hi4 : i < st5.n := Nat.lt_of_lt_of_le hi (u3.trans u4).le
      have r2' := r2.up (u3.trans u4)
      rw [← hio]
      unfold putD at e6
      simp only at e6
      split at e6
      · rename_i kvs em
        split at e6
        · rename_i k ek
          split at e6
          · rename_i hz
            obtain ⟨hr, _, rfl⟩ := wr_inv e6
            obtain rfl := key1_kV r2' ek
            obtain ⟨kws, _, q, hl⟩ := R4.dictK em
            have up := Up.wr (io := io4) (st := st5) (.dK (putK kws k w4)) (hl hr) trivial
            exact ⟨_, .k (hl hr) (by rw [← q.length]; exact hz), p io4 _ t (U.trans up) (R4.wr hi4 hr (.dK upd_same ((q.put k r4).up up))) (rs.up (U.trans up))⟩
          · cases e6
        · cases e6
      · rename_i kvs em
        split at e6
        · rename_i ks ek
          split at e6
          · rename_i hz
            obtain ⟨hr, _, rfl⟩ := wr_inv e6
            obtain ⟨b1, rfl, hb1⟩ := keyT_ok r2' ek
            obtain ⟨kws, _, q, hl⟩ := R4.dictT em
            have up := Up.wr (io := io4) (st := st5) (.dT (putK kws ks w4)) (hl hr) trivial
            exact ⟨_, .t (hl hr) hb1 (by rw [← q.length]; exact hz), p io4 _ t (U.trans up) (R4.wr hi4 hr (.dT upd_same ((q.put ks r4).up up))) (rs.up (U.trans up))⟩
          · cases e6
        · cases e6
      · cases e6
  · cases hc
theorem ss_auf {a c : E} {f : Str} {o : Bop} (ha : SE T d N a) (hv : SE T d N c) : SS T d N (.auf a f o c) := by
  intro X sc ow q A hc s st fl st' io H t D rs R e p
  simp only [chS] at hc
  split at hc
  · simp only [Bool.and_eq_true, decide_eq_true_eq] at hc
    obtain ⟨⟨⟨rfl, rfl⟩, c1⟩, c2⟩ := hc
    simp only [exec] at e
    obtain ⟨x, st1, e1, e⟩ := bind_eq_ok.mp e
    obtain ⟨old, st2, e2, e⟩ := bind_eq_ok.mp e
    obtain ⟨v, st3, e3, e⟩ := bind_eq_ok.mp e
    obtain ⟨z, st4, e4, e⟩ := bind_eq_ok.mp e
    split at e
    case isFalse => cases e
    rename_i hcl
    obtain ⟨n, st5, e5, e⟩ := bind_eq_ok.mp e
    cases e
    intro pins sh I
    refine (ps_fldaug (rd := oSem X (inplaceOp (opOf o))) pe_sem pe_sem (fun pins s σ H x y u v Q I r1 r2 h => h pins s σ u v I r1 r2)).run pins sh t H D I ?_
    refine ha X sc ow _ A.toAt c1 s st x st1 io H t _ rs R e1 fun io1 H1 w1 u1 R1 r1 => ?_
    obtain ⟨i, rfl⟩ : ∃ i, x = .ref i := by
      unfold getF at e2
      split at e2
      · exact ⟨_, rfl⟩
      · cases e2
    unfold getF at e2
    simp only at e2
    · obtain ⟨rfl, hi⟩ := r1.iref
      split at e2
      · rename_i cc fs em
        split at e2
        · rename_i hf
          split at e2
          · rename_i u el
            cases e2
            obtain ⟨_, _, dx, gs, h1, rk⟩ := R1.inst em
            obtain ⟨cl, na⟩ := A.top.fl cc f hf
            rcases rk.lookup f with ⟨e6, _⟩ | ⟨v', w', e6, e7, rv⟩
            · rw [el] at e6; cases e6
            · rw [el] at e6; cases e6
              refine ⟨_, _, dx, gs, w', rfl, h1, cl, na, e7, ?_⟩
              refine hv X sc ow _ A.toAt c2 s _ v st3 io1 H1 t _ (rs.up u1) R1 e3 fun io2 H2 w2 u2 R2 r2 => ?_
              refine (iop_ok R2 (rv.up u2) r2 e4 fun io3 H3 w3 u3 R3 r3 => ?_).1
              have hio : io3 i = io1 i := (u2.trans u3).io i hi
              have hi3 : i < st4.n := Nat.lt_of_lt_of_le hi (u2.trans u3).le
              unfold putF at e5
              simp only at e5
              split at e5
              · rename_i cc2 fs2 em2
                split at e5
                · rename_i hf2
                  obtain ⟨hr, _, rfl⟩ := wr_inv e5
                  obtain ⟨_, _, dx2, gs2, h2, rk2⟩ := R3.inst em2
                  have up := Up.wr (io := io3) (st := st4) (.ins (T.ca cc2) dx2 (L2.putF f w3 gs2)) h2 trivial
                  have R4 := R3.wr hi3 hr (.ins upd_same ((rk2.setF f r3).up up))
                  have hcc : cc2 = cc := by
                    unfold clsOf at hcl
                    simp only [em, em2] at hcl
                    exact Option.some.inj hcl
                  subst hcc
                  rw [hio] at h2 up R4
                  exact ⟨dx2, gs2, h2, by rw [← rk2.length]; exact hf2.2, p io3 _ t ((u1.trans (u2.trans u3)).trans up) R4 (rs.up ((u1.trans (u2.trans u3)).trans up))⟩
                · cases e5
              · cases e5
          · cases e2
        · cases e2
      · cases e2
  · cases hc

/-! ### small ones -/
theorem ss_ex {a : E} (ha : SE T d N a) : SS T d N (.ex a) := by
  intro X sc ow q A hc s st fl st' io H t D rs R e p
  simp only [chS] at hc
  split at hc
  · rw [Bool.and_eq_true] at hc
    simp only [exec] at e
    obtain ⟨u, st1, e1, e⟩ := bind_eq_ok.mp e
    cases e
    intro pins sh I
    refine (ps_expr pe_sem (swap_none hc.2)).run pins sh t H D I ?_
    exact ha X sc ow _ A.toAt hc.1 s st u _ io H t _ rs R e1 fun io1 H1 w u1 R1 r1 => p io1 H1 t u1 R1 (rs.up u1)
  · cases hc
theorem ss_ret {a : E} (ha : SE T d N a) : SS T d N (.ret a) := by
  intro X sc ow q A hc s st fl st' io H t D rs R e p
  simp only [chS] at hc
  split at hc
  · simp only [exec] at e
    obtain ⟨u, st1, e1, e⟩ := bind_eq_ok.mp e
    cases e
    intro pins sh I
    refine (ps_ret pe_sem).run pins sh t H D I ?_
    exact ha X sc ow _ A.toAt hc s st u _ io H t _ rs R e1 p
  · cases hc
theorem ss_rtN : SS T d N .rtN := by
  intro X sc ow q A hc s st fl st' io H t D rs R e p
  simp only [chS] at hc
  split at hc
  · simp only [exec] at e
    cases e
    intro pins sh I
    exact ps_retN.run pins sh t H D I (p io H .non (.refl _ _ _) R .non)
  · cases hc
theorem ss_pass : SS T d N .pass := by
  intro X sc ow q A hc s st fl st' io H t D rs R e p
  simp only [chS] at hc
  split at hc
  · simp only [exec] at e
    cases e
    intro pins sh I
    exact ps_pass.run pins sh t H D I (p io H t (.refl _ _ _) R rs)
  · cases hc
theorem ss_brk : SS T d N .brk := by
  intro X sc ow q A hc s st fl st' io H t D rs R e p
  simp only [chS] at hc
  split at hc
  · simp only [exec] at e
    cases e
    intro pins sh I
    exact ps_break.run pins sh t H D I (p io H t (.refl _ _ _) R rs)
  · cases hc
theorem ss_cnt : SS T d N .cnt := by
  intro X sc ow q A hc s st fl st' io H t D rs R e p
  simp only [chS] at hc
  split at hc
  · simp only [exec] at e
    cases e
    intro pins sh I
    exact ps_continue.run pins sh t H D I (p io H t (.refl _ _ _) R rs)
  · cases hc
theorem ss_cond {c : B} {a b : Ss} (hb : SB T d N c) (h1 : SSs T d N a) (h2 : SSs T d N b) : SS T d N (.cond c a b) := by
  intro X sc ow q A hc s st fl st' io H t D rs R e p
  simp only [chS] at hc
  split at hc
  · simp only [Bool.and_eq_true] at hc
    simp only [exec] at e
    obtain ⟨k, st1, e1, e⟩ := bind_eq_ok.mp e
    intro pins sh I
    refine (ps_if pt_sem pss_sem pss_sem).run pins sh t H D I ?_
    refine hb X sc ow _ A.toAt hc.1.1 s st k st1 io H t _ rs R e1 fun io1 H1 u1 R1 => ?_
    cases k with
    | true =>
      rw [if_pos rfl] at e ⊢
      exact h1 X sc ow _ A hc.1.2 s st1 fl st' io1 H1 t D (rs.up u1) R1 e (p.after u1)
    | false =>
      rw [if_neg (by decide)] at e ⊢
      exact h2 X sc ow _ A hc.2 s st1 fl st' io1 H1 t D (rs.up u1) R1 e (p.after u1)
  · cases hc
theorem whl_inv {tf : Env → Store → Res Bool} {bf : Env → Store → Res Fl} {n : Nat} {s : Env} {st st' : Store} {fl : Fl} (e : whlLoop tf bf n s st = .ok fl st') : ∃ m k st1, n = m + 1 ∧ tf s st = .ok k st1 ∧
    ((k = false ∧ fl = .nx s ∧ st' = st1) ∨ (k = true ∧ ∃ f2 st2, bf s st1 = .ok f2 st2 ∧ ((∃ s2, (f2 = .nx s2 ∨ f2 = .ct s2) ∧ whlLoop tf bf m s2 st2 = .ok fl st') ∨ (∃ s2, f2 = .bk s2 ∧ fl = .nx s2 ∧ st' = st2) ∨ ∃ v, f2 = .rt v ∧ fl = .rt v ∧ st' = st2))) := by
  cases n with
  | zero => cases e
  | succ m =>
    unfold whlLoop at e
    obtain ⟨k, st1, e1, e⟩ := bind_eq_ok.mp e
    refine ⟨m, k, st1, rfl, e1, ?_⟩
    cases k with
    | false =>
      rw [if_neg (by decide)] at e
      cases e
      exact .inl ⟨rfl, rfl, rfl⟩
    | true =>
      rw [if_pos rfl] at e
      obtain ⟨f2, st2, e2, e⟩ := bind_eq_ok.mp e
      refine .inr ⟨rfl, f2, st2, e2, ?_⟩
      cases f2 with
      | nx s2 => exact .inl ⟨s2, .inl rfl, e⟩
      | ct s2 => exact .inl ⟨s2, .inr rfl, e⟩
      | bk s2 => cases e; exact .inr (.inl ⟨s2, rfl, rfl, rfl⟩)
      | rt v => cases e; exact .inr (.inr ⟨v, rfl, rfl, rfl⟩)
theorem ss_whl {c : B} {b : Ss} (hb : SB T d N c) (h1 : SSs T d N b) : SS T d N (.whl c b) := by
  intro X sc ow q A hc s st fl st' io H t D rs R e p
  simp only [chS] at hc
  split at hc
  · rename_i q1 r pos
    simp only [Bool.and_eq_true] at hc
    simp only [exec] at e
    intro pins sh I
    refine (ps_while A.own pt_sem pss_sem).run pins sh t H D I ?_
    refine ⟨fun m t2 H2 => ∃ (io2 : Nat → Addr) (st2 : Store) (s2 : Env), Up io st.n H io2 st2.n H2 ∧ Rl X.K T.G.kt T.ca io2 st2 H2 ∧ RS X.K T.G.kt io2 st2.n H2 s2 t2 ∧ whlLoop (ts (T.cx d) c) (fun s st => execs (T.cx d) b s st) m s2 st2 = .ok fl st',
      ⟨T.fuel, io, st, s, .refl _ _ _, R, rs, e⟩, ?_⟩
    rintro m t2 H2 ⟨io2, st2, s2, u2, R2, rs2, e2⟩
    obtain ⟨m', k, st3, rfl, e3, e4⟩ := whl_inv e2
    refine hb X sc ow _ A.toAt hc.1 s2 st2 k st3 io2 H2 t2 _ rs2 R2 e3 fun io3 H3 u3 R3 => ?_
    rcases e4 with ⟨rfl, rfl, rfl⟩ | ⟨rfl, f2, st4, e5, e6⟩
    · rw [if_neg (by decide)]
      exact p io3 H3 t2 (u2.trans u3) R3 (rs2.up u3)
    · rw [if_pos rfl]
      refine ⟨fun t4 H4 => ∃ (io4 : Nat → Addr) (st4 : Store) (s4 : Env), Up io st.n H io4 st4.n H4 ∧ Rl X.K T.G.kt T.ca io4 st4 H4 ∧ RS X.K T.G.kt io4 st4.n H4 s4 t4 ∧ whlLoop (ts (T.cx d) c) (fun s st => execs (T.cx d) b s st) m' s4 st4 = .ok fl st',
        fun t4 H4 ⟨io4, st4, s4, a1, a2, a3, a4⟩ => ⟨m', Nat.lt_succ_self _, io4, st4, s4, a1, a2, a3, a4⟩, ?_⟩
      refine h1 X sc ow r A hc.2 s2 st3 f2 st4 io3 H3 t2 _ (rs2.up u3) R3 e5 ?_
      have U := u2.trans u3
      rcases e6 with ⟨s4, rfl | rfl, e7⟩ | ⟨s4, rfl, rfl, rfl⟩ | ⟨v, rfl, rfl, rfl⟩
      · exact fun io4 H4 t4 u4 R4 rs4 => ⟨io4, st4, s4, U.trans u4, R4, rs4, e7⟩
      · exact fun io4 H4 t4 u4 R4 rs4 => ⟨io4, st4, s4, U.trans u4, R4, rs4, e7⟩
      · exact fun io4 H4 t4 u4 R4 rs4 => p io4 H4 t4 (U.trans u4) R4 rs4
      · exact fun io4 H4 w u4 R4 r4 => p io4 H4 w (U.trans u4) R4 r4
  · cases hc
theorem for_inv {w : Watch} {f : Val → Env → Store → Res Fl} {x : Val} {r : List Val} {s : Env} {st st' : Store} {fl : Fl} (e : forLoop w f (x :: r) s st = .ok fl st') : st.sees w = true ∧ ∃ f2 st2, f x s st = .ok f2 st2 ∧
    ((∃ s2, (f2 = .nx s2 ∨ f2 = .ct s2) ∧ forLoop w f r s2 st2 = .ok fl st') ∨ (∃ s2, f2 = .bk s2 ∧ fl = .nx s2 ∧ st' = st2) ∨ ∃ v, f2 = .rt v ∧ fl = .rt v ∧ st' = st2) := by
  unfold forLoop at e
  split at e
  · rename_i h
    obtain ⟨f2, st2, e2, e⟩ := bind_eq_ok.mp e
    refine ⟨h, f2, st2, e2, ?_⟩
    cases f2 with
    | nx s2 => exact .inl ⟨s2, .inl rfl, e⟩
    | ct s2 => exact .inl ⟨s2, .inr rfl, e⟩
    | bk s2 => cases e; exact .inr (.inl ⟨s2, rfl, rfl, rfl⟩)
    | rt v => cases e; exact .inr (.inr ⟨v, rfl, rfl, rfl⟩)
  · cases e
theorem ss_for {tt : Tg} {w : I} {b : Ss} (hw : SI T d N w) (h1 : SSs T d N b) : SS T d N (.for tt w b) := by
  intro X sc ow q A hc s st fl st' io H t D rs R e p
  simp only [chS] at hc
  split at hc
  · rename_i tg it r pos
    simp only [Bool.and_eq_true] at hc
    obtain ⟨⟨⟨c1, c2⟩, c3⟩, c4⟩ := hc
    simp only [exec] at e
    obtain ⟨q1, st1, e1, e⟩ := bind_eq_ok.mp e
    intro pins sh I
    refine (ps_for A.own A.calm pi_sem pg_sem pss_sem (folded c2)).run pins sh t H D I ?_
    refine hw X sc ow tg it A.toAt c1 s st q1 st1 io H t _ rs R e1 fun io1 H1 J u1 R1 wl => ?_
    generalize hf : onTg tt (fun s st => execs (T.cx d) b s st) = f at e
    refine ⟨fun i m t2 H2 => m = q1.1.length - i ∧ i ≤ q1.1.length ∧ ∃ (io2 : Nat → Addr) (st2 : Store) (s2 : Env), Up io1 st1.n H1 io2 st2.n H2 ∧ Rl X.K T.G.kt T.ca io2 st2 H2 ∧ RS X.K T.G.kt io2 st2.n H2 s2 t2 ∧ forLoop q1.2 f (q1.1.drop i) s2 st2 = .ok fl st',
      ⟨_, rfl, Nat.zero_le _, io1, st1, s, .refl _ _ _, R1, rs.up u1, by rw [List.drop_zero]; exact e⟩, ?_⟩
    rintro i m t2 H2 ⟨rfl, hi, io2, st2, s2, u2, R2, rs2, e2⟩
    by_cases hlt : i < q1.1.length
    · rw [List.drop_eq_getElem_cons hlt] at e2
      obtain ⟨hse, f2, st3, e3, e4⟩ := for_inv e2
      refine .inr ⟨wl.go i io2 st2 H2 u2 R2 hse hlt, fun t4 H4 => ∃ (io4 : Nat → Addr) (st4 : Store) (s4 : Env), Up io1 st1.n H1 io4 st4.n H4 ∧ Rl X.K T.G.kt T.ca io4 st4 H4 ∧ RS X.K T.G.kt io4 st4.n H4 s4 t4 ∧ forLoop q1.2 f (q1.1.drop (i + 1)) s4 st4 = .ok fl st',
        fun t4 H4 ⟨io4, st4, s4, a1, a2, a3, a4⟩ => ⟨q1.1.length - (i + 1), by omega, rfl, hlt, io4, st4, s4, a1, a2, a3, a4⟩, fun x H3 hy => ?_⟩
      obtain ⟨u3, R3, r3⟩ := wl.yld i _ io2 st2 H2 x H3 u2 R2 hse (List.getElem?_eq_getElem hlt) hy
      rw [← hf] at e3
      unfold onTg at e3
      split at e3
      · rename_i s' es
        refine tg_sem A.toAt c3 (rs2.up u3) r3 es fun ws rs3 => ?_
        refine h1 X sc ow r A c4 s' st2 f2 st3 io2 H3 _ _ rs3 R3 e3 ?_
        have U := u2.trans u3
        rcases e4 with ⟨s4, rfl | rfl, e7⟩ | ⟨s4, rfl, rfl, rfl⟩ | ⟨v, rfl, rfl, rfl⟩
        · exact fun io4 H4 t4 u4 R4 rs4 => ⟨io4, st3, s4, U.trans u4, R4, rs4, e7⟩
        · exact fun io4 H4 t4 u4 R4 rs4 => ⟨io4, st3, s4, U.trans u4, R4, rs4, e7⟩
        · exact fun io4 H4 t4 u4 R4 rs4 => p io4 H4 t4 (u1.trans (U.trans u4)) R4 rs4
        · exact fun io4 H4 w u4 R4 r4 => p io4 H4 w (u1.trans (U.trans u4)) R4 r4
      · cases e3
    · have hi' : i = q1.1.length := by omega
      subst hi'
      rw [List.drop_length] at e2
      unfold forLoop at e2
      split at e2
      · rename_i hse
        cases e2
        exact .inl ⟨wl.stop io2 _ H2 u2 R2 hse, p io2 H2 t2 (u1.trans u2) R2 rs2⟩
      · cases e2
  · cases hc
theorem sss_nil : SSs T d N .nil := by
  intro X sc ow ps A hc s st fl st' io H t D rs R e p
  simp only [chSs] at hc
  split at hc
  · simp only [execs] at e
    cases e
    intro pins sh I
    exact pss_nil.run pins sh t H D I (p io H t (.refl _ _ _) R rs)
  · cases hc
theorem sss_cons {x : S} {r : Ss} (h1 : SS T d N x) (h2 : SSs T d N r) : SSs T d N (.cons x r) := by
  intro X sc ow ps A hc s st fl st' io H t D rs R e p
  simp only [chSs] at hc
  split at hc
  · rw [Bool.and_eq_true] at hc
    simp only [execs] at e
    obtain ⟨f2, st1, e1, e⟩ := bind_eq_ok.mp e
    intro pins sh I
    refine (pss_cons ps_sem pss_sem).run pins sh t H D I ?_
    refine h1 X sc ow _ A hc.1 s st f2 st1 io H t _ rs R e1 ?_
    cases f2 with
    | nx s1 => exact fun io1 H1 t1 u1 R1 rs1 => h2 X sc ow _ A hc.2 s1 st1 fl st' io1 H1 t1 D rs1 R1 e (p.after u1)
    | rt v => cases e; exact p
    | bk s1 => cases e; exact p
    | ct s1 => cases e; exact p
  · cases hc
end
end CL

/-! CL, part m: the whole: every def of the table keeps its promise; a law from its run -/
namespace CL
open PySem PySem.Spec PyProof.Rows L2
section
variable {T : Tab} {d : Nat} {N : List Str}
/-- what is wanted of an expression's parts -/
def Pt (T : Tab) (d : Nat) (N : List Str) : E → Prop
  | .cmp _ a b => SE T d N a ∧ SE T d N b
  | .cm2 _ _ a b c => SE T d N a ∧ SE T d N b ∧ SE T d N c
  | .isN a => SE T d N a
  | .noN a => SE T d N a
  | .lc _ w c e => SI T d N w ∧ SB T d N c ∧ SE T d N e
  | _ => True
theorem sb_of {e : E} (h : SE T d N e) (p : Pt T d N e) : SB T d N (.of e) := by
  cases e with
  | cmp o a b => exact sb_cmp p.1 p.2
  | cm2 o o2 a b c => exact sb_cm2 p.1 p.2.1 p.2.2
  | isN a => exact sb_isN p
  | noN a => exact sb_noN p
  | _ => exact sb_plain h rfl
variable (T d N)
mutual
theorem all_e : ∀ e : E, SE T d N e ∧ Pt T d N e
  | .v _ => ⟨se_v, trivial⟩
  | .int _ => ⟨se_int, trivial⟩
  | .str _ => ⟨se_str, trivial⟩
  | .bl _ => ⟨se_bl, trivial⟩
  | .non => ⟨se_non, trivial⟩
  | .gl _ => ⟨se_gl, trivial⟩
  | .tup es => ⟨se_tup (all_es es), trivial⟩
  | .lst es => ⟨se_lst (all_es es), trivial⟩
  | .dic ps => ⟨se_dic (all_ps ps), trivial⟩
  | .neg a => ⟨se_neg (all_e a).1, trivial⟩
  | .bin _ a b => ⟨se_bin (all_e a).1 (all_e b).1, trivial⟩
  | .cmp _ a b => ⟨se_cmp (all_e a).1 (all_e b).1, (all_e a).1, (all_e b).1⟩
  | .cm2 _ _ a b c => ⟨se_cm2 (all_e a).1 (all_e b).1 (all_e c).1, (all_e a).1, (all_e b).1, (all_e c).1⟩
  | .isN a => ⟨se_isN (all_e a).1, (all_e a).1⟩
  | .noN a => ⟨se_noN (all_e a).1, (all_e a).1⟩
  | .and a b => ⟨se_and (all_e a).1 (all_e b).1, trivial⟩
  | .or a b => ⟨se_or (all_e a).1 (all_e b).1, trivial⟩
  | .not a => ⟨se_not (all_e a).1, trivial⟩
  | .ite c a b => ⟨se_ite (all_b c) (all_e a).1 (all_e b).1, trivial⟩
  | .sub a i => ⟨se_sub (all_e a).1 (all_e i).1, trivial⟩
  | .cut a lo hi => ⟨se_cut (all_e a).1 (all_o lo) (all_o hi), trivial⟩
  | .fld a _ => ⟨se_fld (all_e a).1, trivial⟩
  | .call _ es => ⟨se_call (all_es es), trivial⟩
  | .make _ es => ⟨se_make (all_es es), trivial⟩
  | .met a _ es => ⟨se_met (all_e a).1 (all_es es), trivial⟩
  | .bm _ a es => ⟨se_bm (all_e a).1 (all_es es), trivial⟩
  | .bf _ es => ⟨se_bf (all_es es), trivial⟩
  | .isi a _ => ⟨se_isi (all_e a).1, trivial⟩
  | .lc _ w c e => ⟨se_lc (all_i w) (all_b c) (all_e e).1, all_i w, all_b c, (all_e e).1⟩
  | .bad => ⟨fun _ _ _ _ _ _ _ _ _ _ _ _ _ _ _ _ e => (nomatch e), trivial⟩
theorem all_es : ∀ es : Es, SA T d N es
  | .nil => sa_nil
  | .cons e es => sa_cons (all_e e).1 (all_es es)
theorem all_o : ∀ o : Eo, SO T d N o
  | .no => so_no
  | .so e => so_so (all_e e).1
theorem all_ps : ∀ ps : Ps, SPp T d N ps
  | .nil => sp_nil
  | .cons k v ps => sp_cons (all_e k).1 (all_e v).1 (all_ps ps)
theorem all_b : ∀ b : B, SB T d N b
  | .yes => sb_yes
  | .of e => sb_of (all_e e).1 (all_e e).2
  | .and a b => sb_and (all_b a) (all_b b)
  | .or a b => sb_or (all_b a) (all_b b)
  | .not a => sb_not (all_b a)
theorem all_i : ∀ w : I, SI T d N w
  | .of e => si_of (all_e e).1
  | .rg1 a => si_rg1 (all_e a).1
  | .rg2 a b => si_rg2 (all_e a).1 (all_e b).1
  | .enu e => si_enu (all_e e).1
  | .zip a b => si_zip (all_e a).1 (all_e b).1
end
theorem all_ts : ∀ ts : List CL.T, ST T d N ts
  | [] => .nil
  | .one _ :: ts => .one (all_ts ts)
  | .sub a b :: ts => .sub (all_e T d N a).1 (all_e T d N b).1 (all_ts ts)
  | .fld _ _ :: ts => .fld (all_ts ts)
mutual
theorem all_s : ∀ x : S, SS T d N x
  | .asg (.one i) e => ss_asg_one (all_e T d N e).1 fun tt w c b h => by
      have p := (all_e T d N e).2
      rw [h] at p
      exact p
  | .asg (.sub a b) e => ss_asg_sub (all_e T d N a).1 (all_e T d N b).1 (all_e T d N e).1
  | .asg (.fld a f) e => ss_asg_fld (all_e T d N a).1 (all_e T d N e).1
  | .asT ts e => ss_asT (all_ts T d N ts) (all_e T d N e).1
  | .par is es => ss_par (all_es T d N es)
  | .aug i o e => ss_aug (all_e T d N e).1
  | .aus a i o e => ss_aus (all_e T d N a).1 (all_e T d N i).1 (all_e T d N e).1
  | .auf a f o e => ss_auf (all_e T d N a).1 (all_e T d N e).1
  | .ex e => ss_ex (all_e T d N e).1
  | .ret e => ss_ret (all_e T d N e).1
  | .rtN => ss_rtN
  | .cond c a b => ss_cond (all_b T d N c) (all_ss a) (all_ss b)
  | .whl c b => ss_whl (all_b T d N c) (all_ss b)
  | .for t w b => ss_for (all_i T d N w) (all_ss b)
  | .pass => ss_pass
  | .brk => ss_brk
  | .cnt => ss_cnt
  | .bad => fun _ _ _ _ _ _ _ _ _ _ _ _ _ _ _ _ e => (nomatch e)
theorem all_ss : ∀ x : Ss, SSs T d N x
  | .nil => sss_nil
  | .cons s ss => sss_cons (all_s s) (all_ss ss)
end
end

/-! ### defs -/
/-- a def of the text, as it stands, is the table's f -/
structure DefOk (T : Tab) (K : PySem.W.Frag) (f : Nat) (fd : FDef) : Prop where
  ex : ∃ (x qual : Str) (st : Stmt) (N : List Str), Fun K x qual st (T.fa f) (T.fdt f) ∧ FnScope N (T.psn f) (defScope st) ∧ N.length = fd.nl ∧ chSs T.nm N (defScope st) (fun _ => true) fd.body (defBody st) = true
theorem rs_start {K : PySem.W.Frag} {kt : List (List Val)} {io : Nat → Addr} {n : Nat} {H : Hp} {vs : List Val} {ws : List V} (r : RVs K kt io n H vs ws) (k : Nat) : RS K kt io n H (vs.map some ++ List.replicate k none) (ws.map some ++ List.replicate k none) := by
  refine ⟨by simp [r.length], fun i v e => ?_⟩
  by_cases hi : i < vs.length
  · rw [List.getElem?_append_left (by simpa using hi), List.getElem?_map] at e
    cases q : vs[i]? with
    | none => rw [q] at e; cases e
    | some x =>
      rw [q] at e
      have : x = v := by simpa using e
      subst this
      obtain ⟨w, ew, rw'⟩ := r.get q
      refine ⟨w, ?_, rw'⟩
      rw [List.getElem?_append_left (by rw [List.length_map, ← r.length]; exact hi), List.getElem?_map, ew]; rfl
  · rw [List.getElem?_append_right (by simpa using hi)] at e
    rw [List.getElem?_replicate] at e
    split at e <;> cases e
theorem fns_ok {T : Tab} {P : Program} {w : World} {K : PySem.W.Frag} {mg : Str → Option Value} {base : Heap} (tp : Top T K mg) (dk : ∀ f fd, T.G.fn f = some fd → DefOk T K f fd) :
    ∀ d f fd, T.G.fn f = some fd → FnOk P w K mg base CX0 d (T.fa f) (T.fdt f) (T.psn f) (spF K T (callN T.G T.fuel d f) (T.psn f).length) := by
  intro d
  induction d using Nat.strongRecOn with
  | _ d ih =>
    intro f fd hf
    cases d with
    | zero => exact ⟨fun vs H Q E h => h.1, fun A outer s H args us vs Q E _ _ _ _ h => by
        obtain ⟨_, _, _, _, _, _, _, _, e, _⟩ := h
        cases e⟩
    | succ d =>
      obtain ⟨x, qual, st, N, F, S, hN, hch⟩ := (dk f fd hf).ex
      refine F.ok S (fun vs H Q E h => h.1) fun cdv A outer s H vs Q E hr h => ?_
      obtain ⟨hlen, io, st0, us, v, st', R, rv, e, p⟩ := h
      rw [callN_succ, hf] at e
      simp only at e
      unfold runF at e
      split at e
      · rename_i hnp
        obtain ⟨fl, st1, e1, e⟩ := bind_eq_ok.mp e
        have hps := (tp.fn f fd hf).2.1
        have hst : L2.start N vs = vs.map some ++ List.replicate (fd.nl - fd.np) none := by
          unfold L2.start
          rw [hN, ← rv.length, hnp]
        refine ⟨_, pss_sem, ?_⟩
        have At' : AtS T d (cxOf CX0 P w K mg base N qual (defScope st) (T.fa f) cdv A outer s H E).nox N (defScope st) (fun _ => true) :=
          { top := tp, fns := fun e he f' fd' hf' => ih e (Nat.lt_succ_of_le he) f' fd' hf', hN := rfl, nd := S.nd, hsc := rfl, kind := S.kind, how := fun _ _ => rfl, calm := rfl, room := hr, own := PassesOwn.never }
        rw [hst]
        refine all_ss T d N fd.body _ (defScope st) (fun _ => true) (defBody st) At' hch _ st0 fl st1 io H _ _ (rs_start rv _) R e1 ?_
        cases fl with
        | nx s' => cases e; exact fun io1 H1 t1 u1 R1 _ => p io1 H1 .non u1 R1 .non
        | rt v' => cases e; exact fun io1 H1 w1 u1 R1 r1 => p io1 H1 w1 u1 R1 r1
        | bk s' => cases e
        | ct s' => cases e
      · cases e

/-! ### a law -/
/-- the store at a law's call: the script alone -/
def st0 (ns : List Int) : Store := ⟨1, fun i => if i = 0 then some (.lst (ns.map .int)) else none, fun _ => true⟩
theorem ints_rv {K : PySem.W.Frag} {kt : List (List Val)} {io : Nat → Addr} {n : Nat} {H : Hp} : ∀ ns : List Int, RVs K kt io n H (ns.map .int) (ns.map V.int)
  | [] => .nil
  | x :: r => .cons (.int x) (ints_rv r)
theorem only_sqR {K : PySem.W.Frag} {H : Hp} {a : Addr} {xs : List V} (o : Only H) (h : SqL K H a xs) : SqR K H a xs := by
  rcases h with (h | ⟨q, h⟩) | h
  · rcases o a with z | ⟨q, ys, z⟩
    · rw [h] at z; cases z
    · rw [h] at z; cases z
  · exact .inl ⟨q, h⟩
  · exact .inr h
theorem law_sp {T : Tab} {K : PySem.W.Frag} {H : Hp} {a : Addr} {ns : List Int} {run : List Val → Store → Res Val} {st' : Store} (o : Only H) (h : SqL K H a (ns.map V.int)) (e : run [.ref 0] (st0 ns) = .ok (.bl true) st') :
    spF K T run 1 [.ref a] H (fun v _ => v = .bl true) (fun _ _ _ => False) := by
  refine ⟨rfl, fun _ => a, st0 ns, [.ref 0], .bl true, st', ⟨fun i hi => ?_, fun i hi => ?_, fun i j _ _ hr _ _ => by cases hr⟩, .cons (.ref (show 0 < 1 by omega)) .nil, e, fun io' H' w _ _ r => r.ibl⟩
  · have hi : i < 1 := hi
    have : i = 0 := by omega
    subst this
    exact ⟨.lst (ns.map .int), rfl, .lstR (only_sqR o h) (ints_rv ns)⟩
  · have hi : 1 ≤ i := hi
    exact if_neg (by omega)
end CL
namespace CL
open PySem PySem.Spec PyProof.Rows L2
/-- what a law promises -/
def spL (K : PySem.W.Frag) (n : Nat) : Sp := fun vs H Q _ => ∃ (a : Addr) (ns : List Int), vs = [.ref a] ∧ ns.length ≤ n ∧ Only H ∧ SqL K H a (ns.map V.int) ∧ ∀ H', Q (.bl true) H'
/-- what the top must have left for the table to be the text's -/
structure Laid (G : Prog) (fuel fl : Nat) (x : Str) (K : PySem.W.Frag) (mg : Str → Option Value) (fa : Addr) (T : Tab) : Prop where
  hG : T.G = G
  hf : T.fuel = fuel
  ha : T.fa fl = fa
  hp : T.psn fl = [x]
  top : Top T K mg
  defs : ∀ f fd, T.G.fn f = some fd → DefOk T K f fd
  bind : ∀ (s : Shared) (u : Value), BindsTo s (T.fdt fl) ⟨[u], []⟩ [(x, u)]
theorem law_walk {l : PySem.W.OpenLaw} {n k : Nat} {q : Program} {loose : List Str} {XP : (Str → Option Value) → Heap → Prop} {YP : World → Heap → Prop} {dr : DefRec} {K : Params → PySem.W.Frag} {x : Str} (G : Prog) (fuel fl : Nat) (fd : FDef) (hfd : G.fn fl = some fd)
    (hn : l.most = some n) (hn2 : n ≤ sizeLine) (hdf : dr.params.defaults = []) (hr : Room k callerA) (hY : ∀ (w : World) (h : Heap), YP w h → (K w.params).In h)
    (hrun : ∀ ns : List Int, ns.length ≤ n → ∃ st', callN G fuel k fl [.ref 0] (st0 ns) = .ok (.bl true) st')
    (F : ∀ (w : World) (mg : Str → Option Value) (fa : Addr) (h : Heap), (K w.params).In h → h.Ns mainGlobals mg → mg dr.name = some (.ref fa) → ∃ T : Tab, Laid G fuel fl x (K w.params) mg fa T) :
    PySem.W.WalkO q loose XP YP l.row.toRowW dr [] (fun f vs => PySem.call f vs) := by
  refine walk_of (n := n) (k := k) (x := x) (CX := fun _ => CX0) (sp := fun w => spL (K w.params) n) hn hn2 hdf hr hY (fun w mg fa h kin ns hmg => ?_) (fun w H a ns hl o h => ⟨a, ns, rfl, hl, o, h, fun _ => rfl⟩) fun _ _ _ _ _ z => z
  obtain ⟨T, L⟩ := F w mg fa h kin ns hmg
  refine ⟨T.fdt fl, L.bind, fun base _ _ => ?_⟩
  have hG := L.hG
  have hf := L.hf
  subst hG hf
  have FF := fns_ok (P := l.prog) (w := w) (base := base) L.top L.defs k fl fd hfd
  rw [L.ha, L.hp] at FF
  refine FF.imp fun vs H Q E h => ?_
  obtain ⟨a, ns, rfl, hl, o, hs, hq⟩ := h
  obtain ⟨st', e⟩ := hrun ns hl
  obtain ⟨h1, io, st, us, v, st2, R, rv, e2, p⟩ := law_sp (T := T) o hs e
  exact ⟨h1, io, st, us, v, st2, R, rv, e2, fun io' H' w u R' r => by
    have := p io' H' w u R' r
    rw [this]; exact hq H'⟩
/-- each of a list, by its place -/
def AllI {α : Type} (P : Nat → α → Prop) : Nat → List α → Prop
  | _, [] => True
  | i, x :: r => P i x ∧ AllI P (i + 1) r
theorem allI {α : Type} {P : Nat → α → Prop} : ∀ {l : List α} {k : Nat}, AllI P k l → ∀ (i : Nat) (x : α), l[i]? = some x → P (k + i) x
  | [], _, _, i, x, e => by simp at e
  | a :: r, k, h, 0, x, e => by simp at e; subst e; exact h.1
  | a :: r, k, h, i + 1, x, e => by
    have := allI h.2 i x (by simpa using e)
    rw [show k + (i + 1) = k + 1 + i by omega]; exact this
theorem allI0 {α : Type} {P : Nat → α → Prop} {l : List α} (h : AllI P 0 l) (i : Nat) (x : α) (e : l[i]? = some x) : P i x := by
  have := allI h i x e
  rwa [Nat.zero_add] at this
end CL

/-! CL, part n: rows for reckoning a run -/
namespace CL
theorem cx_call (G : Prog) (fuel d : Nat) : (cxN G fuel d).call = callN G fuel d := rfl
theorem cx_G (G : Prog) (fuel d : Nat) : (cxN G fuel d).G = G := rfl
theorem cx_fuel (G : Prog) (fuel d : Nat) : (cxN G fuel d).fuel = fuel := rfl
theorem cx_init (G : Prog) (fuel d : Nat) : (cxN G fuel (d + 1)).init = callN G fuel d := rfl
theorem then_nx (k : Env → Store → Res Fl) (s : Env) (st : Store) : thenF k (.nx s) st = k s st := rfl
theorem then_rt (k : Env → Store → Res Fl) (v : Val) (st : Store) : thenF k (.rt v) st = .ok (.rt v) st := rfl
theorem then_bk (k : Env → Store → Res Fl) (s : Env) (st : Store) : thenF k (.bk s) st = .ok (.bk s) st := rfl
theorem then_ct (k : Env → Store → Res Fl) (s : Env) (st : Store) : thenF k (.ct s) st = .ok (.ct s) st := rfl
theorem end_nx (s : Env) (st : Store) : endF (.nx s) st = .ok .non st := rfl
theorem end_rt (v : Val) (st : Store) : endF (.rt v) st = .ok v st := rfl
theorem log64 {n : Nat} (h : n < 18446744073709551616) : n.log2 < 9000 := by
  by_cases h0 : n = 0
  · rw [h0]; decide
  · have := (Nat.log2_lt (k := 64) h0).mpr h
    omega
section
variable (st : Store) (i j : Int) (a b : PySem.Str) (xs ys : List Val) (kt : List (List Val))
theorem p_add : bop .add (.int i) (.int j) st = .ok (.int (i + j)) st := rfl
theorem p_sub : bop .sub (.int i) (.int j) st = .ok (.int (i - j)) st := rfl
theorem p_mul (h : mulOk i j = true) : bop .mul (.int i) (.int j) st = .ok (.int (i * j)) st := by simp only [bop, h, if_true]
theorem p_fdiv (h : j ≠ 0 ∧ j.natAbs < 18446744073709551616) : bop .fdiv (.int i) (.int j) st = .ok (.int (i.fdiv j)) st := by simp only [bop]; rw [if_pos ⟨h.1, log64 h.2⟩]
theorem p_mod (h : j ≠ 0) : bop .mod (.int i) (.int j) st = .ok (.int (i.fmod j)) st := by simp only [bop]; rw [if_pos h]
theorem p_adds (h : fits (a.length + b.length) = true) : bop .add (.str a) (.str b) st = .ok (.str (a ++ b)) st := by simp only [bop, h, if_true]
theorem p_addt (h : fits (xs.length + ys.length) = true) : bop .add (.tup xs) (.tup ys) st = .ok (.tup (xs ++ ys)) st := by simp only [bop, h, if_true]
theorem p_eqi : cop kt .eq (.int i) (.int j) st = .ok (.bl (decide (i = j))) st := rfl
theorem p_nei : cop kt .ne (.int i) (.int j) st = .ok (.bl (!decide (i = j))) st := rfl
theorem p_eqs : cop kt .eq (.str a) (.str b) st = .ok (.bl (decide (a = b))) st := rfl
theorem p_nes : cop kt .ne (.str a) (.str b) st = .ok (.bl (!decide (a = b))) st := rfl
theorem p_lt : cop kt .lt (.int i) (.int j) st = .ok (.bl (decide (i < j))) st := rfl
theorem p_le : cop kt .le (.int i) (.int j) st = .ok (.bl (decide (i ≤ j))) st := rfl
theorem p_gt : cop kt .gt (.int i) (.int j) st = .ok (.bl (decide (j < i))) st := rfl
theorem p_ge : cop kt .ge (.int i) (.int j) st = .ok (.bl (decide (j ≤ i))) st := rfl
theorem t_bl (k : Bool) : tru st (.bl k) = some k := rfl
theorem p_eqb (k l : Bool) : cop kt .eq (.bl k) (.bl l) st = .ok (.bl (k == l)) st := rfl
end
/-- a written product -/
theorem mulOk_left {i j : Int} (h : -(2 ^ 64) < i ∧ i < 2 ^ 64) : mulOk i j = true := by
  unfold mulOk
  simp only [Bool.or_eq_true, Bool.and_eq_true, decide_eq_true_eq]
  exact .inl h
theorem mulOk_right {i j : Int} (h : -(2 ^ 64) < j ∧ j < 2 ^ 64) : mulOk i j = true := by
  unfold mulOk
  simp only [Bool.or_eq_true, Bool.and_eq_true, decide_eq_true_eq]
  exact .inr h
/-- a script's cells and its length, as most laws walk them -/
theorem fdiv_pos {i j : Int} (h : 0 < j) : i.fdiv j = i / j := Int.fdiv_eq_ediv_of_nonneg _ (Int.le_of_lt h)
theorem fmod_pos {i j : Int} (h : 0 < j) : i.fmod j = i % j := Int.fmod_eq_emod_of_nonneg _ (Int.le_of_lt h)
/-- a for loop that keeps a word of store and slots: each item brings it on -/
theorem for_keep {w : Watch} {f : Val → Env → Store → Res Fl} (P : Env → Store → Prop) : ∀ (xs : List Val) (s : Env) (st : Store), P s st → (∀ s st, P s st → st.sees w = true) →
    (∀ x ∈ xs, ∀ s st, P s st → ∃ s' st', (f x s st = .ok (.nx s') st' ∨ f x s st = .ok (.ct s') st') ∧ P s' st') → ∃ s' st', forLoop w f xs s st = .ok (.nx s') st' ∧ P s' st'
  | [], s, st, h, hs, _ => ⟨s, st, by unfold forLoop; rw [hs s st h]; rfl, h⟩
  | x :: r, s, st, h, hs, hf => by
    obtain ⟨s1, st1, e, h1⟩ := hf x (by simp) s st h
    obtain ⟨s2, st2, e2, h2⟩ := for_keep P r s1 st1 h1 hs fun y hy => hf y (by simp [hy])
    refine ⟨s2, st2, ?_, h2⟩
    unfold forLoop
    rw [hs s st h, if_pos rfl]
    rcases e with e | e <;> rw [e] <;> exact e2

/-- what stood stays -/
def Keep (st st' : Store) : Prop := st.n ≤ st'.n ∧ ∀ i, i < st.n → st'.m i = st.m i
theorem Keep.refl (st : Store) : Keep st st := ⟨Nat.le_refl _, fun _ _ => rfl⟩
theorem Keep.trans {a b c : Store} (h : Keep a b) (k : Keep b c) : Keep a c := ⟨Nat.le_trans h.1 k.1, fun i hi => (k.2 i (Nat.lt_of_lt_of_le hi h.1)).trans (h.2 i hi)⟩
theorem Keep.new (st : Store) (o : Ob) : Keep st (st.new o) := ⟨Nat.le_succ _, fun i hi => if_neg (Nat.ne_of_lt hi)⟩
theorem enum_mem : ∀ (xs : List Val) (k : Int) (x : Val), x ∈ enumL k xs → ∃ (i : Nat) (y : Val), i < xs.length ∧ y ∈ xs ∧ x = .tup [.int (k + i), y]
  | [], k, x, h => by unfold enumL at h; simp at h
  | y :: r, k, x, h => by
    unfold enumL at h
    rcases List.mem_cons.mp h with rfl | h
    · exact ⟨0, y, by simp, by simp, by simp⟩
    · obtain ⟨i, z, h1, h2, rfl⟩ := enum_mem r (k + 1) x h
      refine ⟨i + 1, z, by simp; omega, by simp [h2], ?_⟩
      congr 3; push_cast; omega
theorem new_old {st : Store} {o : Ob} {i : Nat} (h : i < st.n) : (st.new o).m i = st.m i := if_neg (Nat.ne_of_lt h)
theorem new_at (st : Store) (o : Ob) : (st.new o).m st.n = some o := if_pos rfl
theorem cut63 {xs : List Val} (h : xs.length ≤ 63) : cutL xs none (some 63) = xs := by
  unfold cutL
  have e1 : HT.sIx xs.length 0 none = 0 := rfl
  have e2 : HT.sIx xs.length xs.length (some 63) = xs.length := by
    have := HT.sIx_nat xs.length xs.length 63
    rw [Nat.min_eq_right h] at this
    exact this
  rw [e1, e2]; simp
/-- script[:63] + [len(script)] -/
def stC (ns : List Int) : Store := (((st0 ns).new (.lst (ns.map .int))).new (.lst [.int ns.length])).new (.lst (ns.map .int ++ [.int ns.length]))
def cellE : E := .bin .add (.cut (.v 0) .no (.so (.int 63))) (.lst (.cons (.bf .len (.cons (.v 0) .nil)) .nil))
theorem cells_ev (c : Ctx) (ns : List Int) (h : ns.length ≤ 63) (s : Env) (hs : s[0]? = some (some (.ref 0))) : ev c cellE s (st0 ns) = .ok (.ref 3) (stC ns) := by
  have hm : (st0 ns).m 0 = some (.lst (ns.map .int)) := rfl
  have e1 : cutV (.ref 0) none (some (.int 63)) (st0 ns) = .ok (.ref 1) ((st0 ns).new (.lst (ns.map .int))) := by
    unfold cutV
    simp only [part, hm, mk]
    rw [cut63 (by simpa using h)]; rfl
  unfold cellE
  simp only [ev, evs, evo, hs, bind_ok, e1, bfn]
  have hm2 : ((st0 ns).new (.lst (ns.map .int))).m 0 = some (.lst (ns.map .int)) := rfl
  simp only [hm2, bind_ok, mkL]
  have f1 : fits [Val.int ((ns.map Val.int).length : Int)].length = true := rfl
  simp only [f1, if_true, mk, bind_ok, bop]
  have hm3 : (((st0 ns).new (.lst (ns.map .int))).new (.lst [.int ((ns.map Val.int).length : Int)])).m 1 = some (.lst (ns.map .int)) := rfl
  have hm4 : (((st0 ns).new (.lst (ns.map .int))).new (.lst [.int ((ns.map Val.int).length : Int)])).m ((st0 ns).new (.lst (ns.map .int))).n = some (.lst [.int ((ns.map Val.int).length : Int)]) := rfl
  simp only [hm3, hm4]
  have r1 : ((((st0 ns).new (.lst (ns.map .int))).new (.lst [.int ((ns.map Val.int).length : Int)])).ro 1 || (((st0 ns).new (.lst (ns.map .int))).new (.lst [.int ((ns.map Val.int).length : Int)])).ro ((st0 ns).new (.lst (ns.map .int))).n) = false := rfl
  have f2 : fits ((ns.map Val.int).length + [Val.int ((ns.map Val.int).length : Int)].length) = true := by
    unfold fits
    rw [PySem.sizeLine_eq]
    simp; omega
  simp only [r1, f2, if_true, Bool.false_eq_true, if_false]
  simp only [List.length_map]
  rfl
end CL

namespace LK02
open PySem
abbrev f_brought : Nat := 0
abbrev f_parted : Nat := 1
abbrev f_worked : Nat := 2
abbrev f_l_number : Nat := 3
abbrev f_l_whole : Nat := 4
abbrev f_l_rounds : Nat := 5
abbrev f_l_parted : Nat := 6
abbrev f_l_truth : Nat := 7
abbrev f_law : Nat := 8
/- brought(n): 0 n -/
def d_brought : CL.FDef := ⟨1, 1,
    (.cons (.ret (.bin .sub (.bin .mod (.bin .add (.v 0) (.gl 0)) (.gl 1)) (.gl 0)))
    .nil)⟩
/- parted(word, one, other): 0 word 1 one 2 other -/
def d_parted : CL.FDef := ⟨3, 3,
    (.cons (.cond (.of (.cmp .eq (.v 2) (.int 0))) (.cons (.ret .non)
    .nil) .nil)
    (.cons (.cond (.of (.cmp .eq (.v 0) (.str "div"))) (.cons (.ret (.call f_brought (.cons (.bin .fdiv (.v 1) (.v 2)) .nil)))
    .nil) .nil)
    (.cons (.ret (.bin .mod (.v 1) (.v 2)))
    .nil)))⟩
/- worked(word, one, other): 0 word 1 one 2 other -/
def d_worked : CL.FDef := ⟨3, 3,
    (.cons (.cond (.of (.cmp .eq (.v 0) (.str "+"))) (.cons (.ret (.call f_brought (.cons (.bin .add (.v 1) (.v 2)) .nil)))
    .nil) .nil)
    (.cons (.cond (.of (.cmp .eq (.v 0) (.str "-"))) (.cons (.ret (.call f_brought (.cons (.bin .sub (.v 1) (.v 2)) .nil)))
    .nil) .nil)
    (.cons (.cond (.of (.cmp .eq (.v 0) (.str "*"))) (.cons (.ret (.call f_brought (.cons (.bin .mul (.v 1) (.v 2)) .nil)))
    .nil) .nil)
    (.cons (.cond (.of (.cmp .eq (.v 0) (.str "<"))) (.cons (.ret (.cmp .lt (.v 1) (.v 2)))
    .nil) .nil)
    (.cons (.cond (.of (.cmp .eq (.v 0) (.str "="))) (.cons (.ret (.cmp .eq (.v 1) (.v 2)))
    .nil) .nil)
    (.cons (.cond (.of (.cmp .eq (.v 0) (.str "and"))) (.cons (.ret (.and (.v 1) (.v 2)))
    .nil) .nil)
    (.cons (.cond (.of (.cmp .eq (.v 0) (.str "or"))) (.cons (.ret (.or (.v 1) (.v 2)))
    .nil) .nil)
    (.cons (.ret (.call f_parted (.cons (.v 0) (.cons (.v 1) (.cons (.v 2) .nil)))))
    .nil))))))))⟩
/- _law_number(_law_number_here, _law_way): 0 _law_number_here 1 _law_way 2 _law_near -/
def d_l_number : CL.FDef := ⟨2, 3,
    (.cons (.asg (.one 2) (.bin .sub (.bin .mod (.bin .fdiv (.v 0) (.int 8)) (.int 7)) (.int 3)))
    (.cons (.cond (.of (.cmp .eq (.v 1) (.int 0))) (.cons (.ret (.v 2))
    .nil) .nil)
    (.cons (.cond (.of (.cmp .eq (.v 1) (.int 1))) (.cons (.ret (.bf .max2 (.cons (.neg (.int 2147483648)) (.cons (.bf .min2 (.cons (.int 2147483647) (.cons (.bin .add (.v 2) (.sub (.lst (.cons (.neg (.int 2147483648)) (.cons (.int 2147483647) .nil))) (.bin .mod (.bin .fdiv (.v 0) (.int 56)) (.int 2)))) .nil))) .nil))))
    .nil) .nil)
    (.cons (.cond (.of (.cmp .eq (.v 1) (.int 2))) (.cons (.ret (.bin .sub (.bin .mod (.bin .fdiv (.v 0) (.int 8)) (.int 2001)) (.int 1000)))
    .nil) .nil)
    (.cons (.ret (.bin .sub (.bin .add (.bin .mod (.bin .mul (.v 0) (.int 2)) (.int 4294967296)) (.bin .mod (.bin .fdiv (.v 0) (.int 5)) (.int 2))) (.int 2147483648)))
    .nil)))))⟩
/- _law_whole(_law_found): 0 _law_found -/
def d_l_whole : CL.FDef := ⟨1, 1,
    (.cons (.ret (.and (.isi (.v 0) .int) (.and (.not (.isi (.v 0) .bool)) (.cm2 .le .le (.neg (.int 2147483648)) (.v 0) (.int 2147483647)))))
    .nil)⟩
/- _law_rounds(_law_found, _law_due): 0 _law_found 1 _law_due -/
def d_l_rounds : CL.FDef := ⟨2, 2,
    (.cons (.ret (.and (.call f_l_whole (.cons (.v 0) .nil)) (.cmp .eq (.bin .mod (.bin .sub (.v 1) (.v 0)) (.int 4294967296)) (.int 0))))
    .nil)⟩
/- _law_parted(_law_one, _law_other): 0 _law_one 1 _law_other 2 _law_quotient 3 _law_rest 4 _law_times -/
def d_l_parted : CL.FDef := ⟨2, 5,
    (.cons (.asg (.one 2) (.call f_worked (.cons (.str "div") (.cons (.v 0) (.cons (.v 1) .nil)))))
    (.cons (.asg (.one 3) (.call f_worked (.cons (.str "rem") (.cons (.v 0) (.cons (.v 1) .nil)))))
    (.cons (.cond (.of (.cmp .eq (.v 1) (.int 0))) (.cons (.ret (.and (.isN (.v 2)) (.isN (.v 3))))
    .nil) .nil)
    (.cons (.cond (.or (.not (.of (.call f_l_whole (.cons (.v 2) .nil)))) (.or (.not (.of (.call f_l_whole (.cons (.v 3) .nil)))) (.or (.of (.cmp .ge (.bf .abs (.cons (.v 3) .nil)) (.bf .abs (.cons (.v 1) .nil)))) (.of (.cmp .lt (.bin .mul (.v 3) (.v 1)) (.int 0)))))) (.cons (.ret (.bl false))
    .nil) .nil)
    (.cons (.cond (.of (.cmp .ne (.bin .mod (.bin .sub (.v 0) (.v 3)) (.v 1)) (.int 0))) (.cons (.ret (.bl false))
    .nil) .nil)
    (.cons (.asg (.one 4) (.bin .fdiv (.bin .sub (.v 0) (.v 3)) (.v 1)))
    (.cons (.ret (.or (.cmp .eq (.v 2) (.v 4)) (.and (.cmp .eq (.v 4) (.int 2147483648)) (.cmp .eq (.v 2) (.neg (.int 2147483648))))))
    .nil)))))))⟩
/- _law_truth(_law_found, _law_due): 0 _law_found 1 _law_due -/
def d_l_truth : CL.FDef := ⟨2, 2,
    (.cons (.ret (.and (.isi (.v 0) .bool) (.cmp .eq (.v 0) (.v 1))))
    .nil)⟩
/- law(_law_script): 0 _law_script 1 _law_k 2 _law_cell 3 _law_number_here 4 _law_second 5 _law_one 6 _law_other 7 _law_less 8 _law_yes 9 _law_no -/
def d_law : CL.FDef := ⟨1, 10,
    (.cons (.for (.many [1, 2]) (.enu (.bin .add (.cut (.v 0) .no (.so (.int 63))) (.lst (.cons (.bf .len (.cons (.v 0) .nil)) .nil)))) (.cons (.asg (.one 3) (.bin .mod (.bin .mul (.bin .add (.bin .add (.bin .mod (.v 2) (.int 2147483629)) (.bin .mul (.int 7) (.v 1))) (.int 3)) (.int 48271)) (.int 2147483647)))
    (.cons (.asg (.one 4) (.bin .mod (.bin .add (.bin .add (.bin .mul (.v 3) (.int 69621)) (.bin .mod (.v 2) (.int 97))) (.int 11)) (.int 2147483647)))
    (.cons (.asg (.one 5) (.call f_l_number (.cons (.v 3) (.cons (.bin .mod (.v 3) (.int 4)) .nil))))
    (.cons (.asg (.one 6) (.call f_l_number (.cons (.v 4) (.cons (.bin .mod (.v 4) (.int 4)) .nil))))
    (.cons (.cond (.of (.cmp .ge (.v 2) (.bin .pow (.int 10) (.int 18)))) (.cons (.asg (.one 5) (.bin .sub (.bin .mod (.v 2) (.int 4294967296)) (.int 2147483648)))
    (.cons (.asg (.one 6) (.bin .sub (.bin .mod (.bin .fdiv (.v 2) (.int 4294967296)) (.int 4294967296)) (.int 2147483648)))
    .nil)) .nil)
    (.cons (.cond (.not (.of (.call f_l_rounds (.cons (.call f_worked (.cons (.str "+") (.cons (.v 5) (.cons (.v 6) .nil)))) (.cons (.bin .add (.v 5) (.v 6)) .nil))))) (.cons (.ret (.bl false))
    .nil) .nil)
    (.cons (.cond (.not (.of (.call f_l_rounds (.cons (.call f_worked (.cons (.str "-") (.cons (.v 5) (.cons (.v 6) .nil)))) (.cons (.bin .sub (.v 5) (.v 6)) .nil))))) (.cons (.ret (.bl false))
    .nil) .nil)
    (.cons (.cond (.or (.not (.of (.call f_l_rounds (.cons (.call f_worked (.cons (.str "*") (.cons (.v 5) (.cons (.v 6) .nil)))) (.cons (.bin .mul (.v 5) (.v 6)) .nil))))) (.not (.of (.call f_l_parted (.cons (.v 5) (.cons (.v 6) .nil)))))) (.cons (.ret (.bl false))
    .nil) .nil)
    (.cons (.asg (.one 7) (.cmp .lt (.bin .sub (.v 5) (.v 6)) (.int 0)))
    (.cons (.cond (.or (.not (.of (.call f_l_truth (.cons (.call f_worked (.cons (.str "<") (.cons (.v 5) (.cons (.v 6) .nil)))) (.cons (.v 7) .nil))))) (.not (.of (.call f_l_truth (.cons (.call f_worked (.cons (.str "=") (.cons (.v 5) (.cons (.v 6) .nil)))) (.cons (.cmp .eq (.bin .sub (.v 5) (.v 6)) (.int 0)) .nil)))))) (.cons (.ret (.bl false))
    .nil) .nil)
    (.cons (.asg (.one 8) (.cmp .eq (.bin .mod (.v 3) (.int 2)) (.int 1)))
    (.cons (.asg (.one 9) (.cmp .eq (.bin .mod (.v 4) (.int 2)) (.int 1)))
    (.cons (.cond (.not (.of (.call f_l_truth (.cons (.call f_worked (.cons (.str "and") (.cons (.v 8) (.cons (.v 9) .nil)))) (.cons (.cmp .eq (.bm .count (.lst (.cons (.v 9) (.cons (.v 8) .nil))) (.cons (.bl true) .nil)) (.int 2)) .nil))))) (.cons (.ret (.bl false))
    .nil) .nil)
    (.cons (.cond (.not (.of (.call f_l_truth (.cons (.call f_worked (.cons (.str "or") (.cons (.v 8) (.cons (.v 9) .nil)))) (.cons (.cmp .gt (.bm .count (.lst (.cons (.v 9) (.cons (.v 8) .nil))) (.cons (.bl true) .nil)) (.int 0)) .nil))))) (.cons (.ret (.bl false))
    .nil) .nil)
    .nil)))))))))))))))
    (.cons (.ret (.bl true))
    .nil))⟩
def fns : List CL.FDef := [d_brought, d_parted, d_worked, d_l_number, d_l_whole, d_l_rounds, d_l_parted, d_l_truth, d_law]
def nmF : List Str := ["brought", "parted", "worked", "_law_number", "_law_whole", "_law_rounds", "_law_parted", "_law_truth", "law"]
def nm : CL.Nms := ⟨fun f => nmF.getD f "", fun f => [true, true, true, true, true, true, true, true, true].getD f false, fun c => ([] : List Str).getD c "", fun g => (["HALF", "WHOLE"] : List Str).getD g ""⟩
def mts : List (Nat × Str × Nat) := []
def flds : List (Nat × Str) := []
def gls : List CL.Val := [(.int 2147483648), (.int 4294967296)]
def kts : List (List CL.Val) := []
def G : CL.Prog := ⟨fun f => fns[f]?, fun c m => (mts.find? fun x => decide (x.1 = c) && decide (x.2.1 = m)).map (·.2.2), fun c => (mts.find? fun x => decide (x.1 = c) && decide (x.2.1 = ("__init__" : Str))).map (·.2.2), fun g => gls[g]?, fun c f => flds.contains (c, f), kts⟩
def top (i : Nat) : Stmt := PySem.Challenge.pw_chainwright_k02_worked.main.body.getD i (.Pass ⟨0, 0, 0, 0⟩)
def n_brought : List Str := ["n"]
theorem sc_brought : L2.FnScope n_brought ["n"] (L2.defScope (top 3)) := ⟨rfl, rfl, rfl, by decide +kernel, rfl, by decide +kernel, by decide +kernel⟩
theorem ch_brought : CL.chSs nm n_brought (L2.defScope (top 3)) (fun _ => true) d_brought.body (L2.defBody (top 3)) = true := by decide +kernel
def n_parted : List Str := ["word", "one", "other"]
theorem sc_parted : L2.FnScope n_parted ["word", "one", "other"] (L2.defScope (top 4)) := ⟨rfl, rfl, rfl, by decide +kernel, rfl, by decide +kernel, by decide +kernel⟩
theorem ch_parted : CL.chSs nm n_parted (L2.defScope (top 4)) (fun _ => true) d_parted.body (L2.defBody (top 4)) = true := by decide +kernel
def n_worked : List Str := ["word", "one", "other"]
theorem sc_worked : L2.FnScope n_worked ["word", "one", "other"] (L2.defScope (top 5)) := ⟨rfl, rfl, rfl, by decide +kernel, rfl, by decide +kernel, by decide +kernel⟩
theorem ch_worked : CL.chSs nm n_worked (L2.defScope (top 5)) (fun _ => true) d_worked.body (L2.defBody (top 5)) = true := by decide +kernel
def n_l_number : List Str := ["_law_number_here", "_law_way", "_law_near"]
theorem sc_l_number : L2.FnScope n_l_number ["_law_number_here", "_law_way"] (L2.defScope (top 7)) := ⟨rfl, rfl, rfl, by decide +kernel, rfl, by decide +kernel, by decide +kernel⟩
theorem ch_l_number : CL.chSs nm n_l_number (L2.defScope (top 7)) (fun _ => true) d_l_number.body (L2.defBody (top 7)) = true := by decide +kernel
def n_l_whole : List Str := ["_law_found"]
theorem sc_l_whole : L2.FnScope n_l_whole ["_law_found"] (L2.defScope (top 8)) := ⟨rfl, rfl, rfl, by decide +kernel, rfl, by decide +kernel, by decide +kernel⟩
theorem ch_l_whole : CL.chSs nm n_l_whole (L2.defScope (top 8)) (fun _ => true) d_l_whole.body (L2.defBody (top 8)) = true := by decide +kernel
def n_l_rounds : List Str := ["_law_found", "_law_due"]
theorem sc_l_rounds : L2.FnScope n_l_rounds ["_law_found", "_law_due"] (L2.defScope (top 9)) := ⟨rfl, rfl, rfl, by decide +kernel, rfl, by decide +kernel, by decide +kernel⟩
theorem ch_l_rounds : CL.chSs nm n_l_rounds (L2.defScope (top 9)) (fun _ => true) d_l_rounds.body (L2.defBody (top 9)) = true := by decide +kernel
def n_l_parted : List Str := ["_law_one", "_law_other", "_law_quotient", "_law_rest", "_law_times"]
theorem sc_l_parted : L2.FnScope n_l_parted ["_law_one", "_law_other"] (L2.defScope (top 10)) := ⟨rfl, rfl, rfl, by decide +kernel, rfl, by decide +kernel, by decide +kernel⟩
theorem ch_l_parted : CL.chSs nm n_l_parted (L2.defScope (top 10)) (fun _ => true) d_l_parted.body (L2.defBody (top 10)) = true := by decide +kernel
def n_l_truth : List Str := ["_law_found", "_law_due"]
theorem sc_l_truth : L2.FnScope n_l_truth ["_law_found", "_law_due"] (L2.defScope (top 11)) := ⟨rfl, rfl, rfl, by decide +kernel, rfl, by decide +kernel, by decide +kernel⟩
theorem ch_l_truth : CL.chSs nm n_l_truth (L2.defScope (top 11)) (fun _ => true) d_l_truth.body (L2.defBody (top 11)) = true := by decide +kernel
def n_law : List Str := ["_law_script", "_law_k", "_law_cell", "_law_number_here", "_law_second", "_law_one", "_law_other", "_law_less", "_law_yes", "_law_no"]
theorem sc_law : L2.FnScope n_law ["_law_script"] (L2.defScope (top 12)) := ⟨rfl, rfl, rfl, by decide +kernel, rfl, by decide +kernel, by decide +kernel⟩
theorem ch_law : CL.chSs nm n_law (L2.defScope (top 12)) (fun _ => true) d_law.body (L2.defBody (top 12)) = true := by decide +kernel
abbrev fuel : Nat := 1000000
end LK02
namespace LK02
open CL
local macro_rules | `(tactic| walk_at "run") => `(tactic| simp -implicitDefEqProofs only [runF, CL.execs, CL.exec, CL.evs, CL.evo, CL.ev, CL.ts, CL.evw, bind_ok, cx_call, cx_G, cx_fuel, then_nx, then_rt, then_bk, then_ct, end_nx, end_rt, asg1, isT, okB, okO, t_bl, List.length_cons, List.length_nil, List.map_cons, List.map_nil, List.replicate, List.set_cons_zero, List.set_cons_succ, List.cons_append, List.nil_append, List.getElem?_cons_zero, List.getElem?_cons_succ, p_add, p_sub, p_eqi, p_nei, p_eqs, p_lt, p_le, p_gt, p_ge, p_eqb, mkT,
    decide_true, decide_false, if_true, if_false, reduceCtorEq, Bool.not_true, Bool.not_false, Bool.false_eq_true, *])
def br (n : Int) : Int := (n + 2147483648).fmod 4294967296 - 2147483648
theorem br_mod (n : Int) : br n = (n + 2147483648) % 4294967296 - 2147483648 := by
  unfold br
  rw [fmod_pos (by decide)]
theorem c_brought (d : Nat) (n : Int) (st : Store) : callN G fuel (d + 1) f_brought [.int n] st = .ok (.int (br n)) st := rfl
section
variable (d : Nat) (a b : Int) (p q : Bool) (st : Store)
theorem w_add : callN G fuel (d + 2) f_worked [.str "+", .int a, .int b] st = .ok (.int (br (a + b))) st := rfl
theorem w_sub : callN G fuel (d + 2) f_worked [.str "-", .int a, .int b] st = .ok (.int (br (a - b))) st := rfl
theorem w_mul (h : mulOk a b = true) : callN G fuel (d + 2) f_worked [.str "*", .int a, .int b] st = .ok (.int (br (a * b))) st := by
  rw [callN_succ]
  show runF (cxN G fuel (d + 1)) d_worked _ _ = _
  have c1 := c_brought d
  have m1 := p_mul st a b h
  have e1 : decide (("*" : PySem.Str) = "+") = false := rfl
  have e2 : decide (("*" : PySem.Str) = "-") = false := rfl
  unfold d_worked
  walk_at "run"
theorem w_lt : callN G fuel (d + 2) f_worked [.str "<", .int a, .int b] st = .ok (.bl (decide (a < b))) st := rfl
theorem w_eq : callN G fuel (d + 2) f_worked [.str "=", .int a, .int b] st = .ok (.bl (decide (a = b))) st := rfl
theorem w_and : callN G fuel (d + 2) f_worked [.str "and", .bl p, .bl q] st = .ok (.bl (p && q)) st := by cases p <;> rfl
theorem w_or : callN G fuel (d + 2) f_worked [.str "or", .bl p, .bl q] st = .ok (.bl (p || q)) st := by cases p <;> rfl
theorem w_div0 : callN G fuel (d + 2) f_worked [.str "div", .int a, .int 0] st = .ok .non st := rfl
theorem w_rem0 : callN G fuel (d + 2) f_worked [.str "rem", .int a, .int 0] st = .ok .non st := rfl
theorem p_div (h : b ≠ 0) (hl : b.natAbs < 18446744073709551616) : callN G fuel (d + 2) f_parted [.str "div", .int a, .int b] st = .ok (.int (br (a.fdiv b))) st := by
  rw [callN_succ]
  show runF (cxN G fuel (d + 1)) d_parted _ _ = _
  have c1 := c_brought d
  have m1 := p_fdiv st a b ⟨h, hl⟩
  have e1 : decide (b = 0) = false := decide_eq_false h
  unfold d_parted
  walk_at "run"
theorem p_rem (h : b ≠ 0) : callN G fuel (d + 2) f_parted [.str "rem", .int a, .int b] st = .ok (.int (a.fmod b)) st := by
  rw [callN_succ]
  show runF (cxN G fuel (d + 1)) d_parted _ _ = _
  have m1 := p_mod st a b h
  have e1 : decide (b = 0) = false := decide_eq_false h
  have e2 : decide (("rem" : PySem.Str) = "div") = false := rfl
  unfold d_parted
  walk_at "run"
theorem w_parted (w : PySem.Str) (hw : w = "div" ∨ w = "rem") : callN G fuel (d + 3) f_worked [.str w, .int a, .int b] st = callN G fuel (d + 2) f_parted [.str w, .int a, .int b] st := by
  rw [callN_succ]
  show runF (cxN G fuel (d + 2)) d_worked _ _ = _
  generalize hr : callN G fuel (d + 2) f_parted [.str w, .int a, .int b] st = r
  have e1 : decide (w = "+") = false := by rcases hw with rfl | rfl <;> rfl
  have e2 : decide (w = "-") = false := by rcases hw with rfl | rfl <;> rfl
  have e3 : decide (w = "*") = false := by rcases hw with rfl | rfl <;> rfl
  have e4 : decide (w = "<") = false := by rcases hw with rfl | rfl <;> rfl
  have e5 : decide (w = "=") = false := by rcases hw with rfl | rfl <;> rfl
  have e6 : decide (w = "and") = false := by rcases hw with rfl | rfl <;> rfl
  have e7 : decide (w = "or") = false := by rcases hw with rfl | rfl <;> rfl
  unfold d_worked
  walk_at "run"
  cases r <;> rfl
theorem c_whole (h : -2147483648 ≤ a ∧ a ≤ 2147483647) : callN G fuel (d + 1) f_l_whole [.int a] st = .ok (.bl true) st := by
  rw [callN_succ]
  show runF (cxN G fuel d) d_l_whole _ _ = _
  have e1 : decide ((-2147483648 : Int) ≤ a) = true := decide_eq_true h.1
  have e2 : decide (a ≤ (2147483647 : Int)) = true := decide_eq_true h.2
  unfold d_l_whole
  walk_at "run"
theorem c_rounds (n : Int) : callN G fuel (d + 2) f_l_rounds [.int (br n), .int n] st = .ok (.bl true) st := by
  rw [callN_succ]
  show runF (cxN G fuel (d + 1)) d_l_rounds _ _ = _
  have c1 := c_whole d (br n) st (by rw [br_mod]; omega)
  have m1 := p_mod st (n - br n) 4294967296 (by decide)
  have h3 : (n - br n).fmod 4294967296 = 0 := by rw [br_mod, fmod_pos (by decide)]; omega
  unfold d_l_rounds
  walk_at "run"
theorem c_truth : callN G fuel (d + 1) f_l_truth [.bl p, .bl p] st = .ok (.bl true) st := by cases p <;> rfl
end
def Num (a : Int) : Prop := -2147483648 ≤ a ∧ a ≤ 2147483647
theorem log32 {b : Int} (h : Num b) : b.natAbs < 18446744073709551616 := by
  unfold Num at h
  omega
theorem num_mul {a b : Int} (h : Num a) : mulOk a b = true := mulOk_left (by unfold Num at h; omega)
/-- the plain law of div and rem -/
theorem fmod_np (a : Int) {b : Int} (h : b < 0) : a.fmod b ≤ 0 := by
  have h1 := Int.neg_fmod_neg a b
  have h2 := Int.fmod_nonneg_of_pos (-a) (show (0 : Int) < -b by omega)
  omega
theorem fmod_lt (a : Int) {b : Int} (h : b < 0) : b < a.fmod b := by
  have h1 := Int.neg_fmod_neg a b
  have h2 := Int.fmod_lt_of_pos (-a) (show (0 : Int) < -b by omega)
  omega
theorem rest_lt {a b : Int} (h : b ≠ 0) : (if a.fmod b < 0 then -(a.fmod b) else a.fmod b) < (if b < 0 then -b else b) := by
  rcases Int.lt_or_gt_of_ne h with h | h
  · have h1 := fmod_np a h
    have h2 := fmod_lt a h
    split <;> (try split) <;> omega
  · have h1 := Int.fmod_nonneg_of_pos a h
    have h2 := Int.fmod_lt_of_pos a h
    split <;> (try split) <;> omega
theorem rest_sign {a b : Int} (h : b ≠ 0) : ¬ a.fmod b * b < 0 := by
  rcases Int.lt_or_gt_of_ne h with h | h
  · have h1 := fmod_np a h
    have := Int.mul_nonneg_of_nonpos_of_nonpos h1 (Int.le_of_lt h)
    omega
  · have h1 := Int.fmod_nonneg_of_pos a h
    have := Int.mul_nonneg h1 (Int.le_of_lt h)
    omega
theorem rest_num {a b : Int} (h : b ≠ 0) (hb : Num b) : Num (a.fmod b) := by
  unfold Num at *
  rcases Int.lt_or_gt_of_ne h with h | h
  · have h1 := fmod_np a h
    have h2 := fmod_lt a h
    omega
  · have h1 := Int.fmod_nonneg_of_pos a h
    have h2 := Int.fmod_lt_of_pos a h
    omega
theorem rest_eq (a b : Int) : a - a.fmod b = a.fdiv b * b := by
  have := Int.fmod_add_fdiv_mul a b
  omega
theorem mul_ge {x y : Int} (hx : 1 ≤ x) (hy : 0 ≤ y) : y ≤ x * y := by
  have := Int.mul_le_mul_of_nonneg_right hx hy
  omega
theorem quot_num {a b : Int} (h : b ≠ 0) (ha : Num a) (hb : Num b) : -2147483648 ≤ a.fdiv b ∧ a.fdiv b ≤ 2147483648 := by
  have e := rest_eq a b
  have h1 := fun h : b < 0 => fmod_np a h
  have h2 := fun h : b < 0 => fmod_lt a h
  have h3 := fun h : 0 < b => Int.fmod_nonneg_of_pos a h
  have h4 := fun h : 0 < b => Int.fmod_lt_of_pos a h
  generalize a.fdiv b = q at *
  generalize a.fmod b = r at *
  unfold Num at *
  rcases Int.lt_or_gt_of_ne h with h | h
  · have h1 := h1 h
    have h2 := h2 h
    constructor
    · apply Int.le_of_not_gt; intro hc
      have g := mul_ge (show (1 : Int) ≤ -(q + 2147483648) by omega) (show (0 : Int) ≤ -b by omega)
      rw [Int.neg_mul_neg, Int.add_mul] at g
      omega
    · apply Int.le_of_not_gt; intro hc
      have g := mul_ge (show (1 : Int) ≤ q - 2147483648 by omega) (show (0 : Int) ≤ -b by omega)
      rw [Int.mul_neg, Int.sub_mul] at g
      omega
  · have h3 := h3 h
    have h4 := h4 h
    constructor
    · apply Int.le_of_not_gt; intro hc
      have g := mul_ge (show (1 : Int) ≤ -(q + 2147483648) by omega) (show (0 : Int) ≤ b by omega)
      rw [Int.neg_mul, Int.add_mul] at g
      omega
    · apply Int.le_of_not_gt; intro hc
      have g := mul_ge (show (1 : Int) ≤ q - 2147483648 by omega) (show (0 : Int) ≤ b by omega)
      rw [Int.sub_mul] at g
      omega
theorem c_parted (d : Nat) (a b : Int) (ha : Num a) (hb : Num b) (st : Store) : callN G fuel (d + 4) f_l_parted [.int a, .int b] st = .ok (.bl true) st := by
  rw [callN_succ]
  show runF (cxN G fuel (d + 3)) d_l_parted _ _ = _
  by_cases h : b = 0
  · subst h
    have c1 := w_div0 (d + 1) a st
    have c2 := w_rem0 (d + 1) a st
    unfold d_l_parted
    walk_at "run"
  · have c1 := (w_parted d a b st "div" (.inl rfl)).trans (p_div d a b st h (log32 hb))
    have c2 := (w_parted d a b st "rem" (.inr rfl)).trans (p_rem d a b st h)
    have q1 := quot_num h ha hb
    have e0 : decide (b = 0) = false := decide_eq_false h
    have n1 : callN G fuel (d + 3) f_l_whole [.int (br (a.fdiv b))] st = .ok (.bl true) st := c_whole (d + 2) _ st (by rw [br_mod]; omega)
    have n2 : callN G fuel (d + 3) f_l_whole [.int (a.fmod b)] st = .ok (.bl true) st := c_whole (d + 2) _ st (rest_num h hb)
    have a1 : ∀ i, bfn .abs [.int i] st = .ok (.int (if i < 0 then -i else i)) st := fun _ => rfl
    have r1 : decide ((if b < 0 then -b else b) ≤ (if a.fmod b < 0 then -(a.fmod b) else a.fmod b)) = false := decide_eq_false (Int.not_le.mpr (rest_lt h))
    have r2 : decide (a.fmod b * b < 0) = false := decide_eq_false (rest_sign h)
    have m1 : bop .mul (.int (a.fmod b)) (.int b) st = .ok (.int (a.fmod b * b)) st := p_mul _ _ _ (num_mul (rest_num h hb))
    have m2 := p_mod st (a - a.fmod b) b h
    have m3 := p_fdiv st (a - a.fmod b) b ⟨h, log32 hb⟩
    have e1 : (a - a.fmod b).fmod b = 0 := by rw [rest_eq, Int.mul_fmod_left]
    have e2 : (a - a.fmod b).fdiv b = a.fdiv b := by rw [rest_eq, Int.mul_fdiv_cancel _ h]
    generalize a.fdiv b = q at *
    generalize a.fmod b = r at *
    unfold d_l_parted
    by_cases hq : br q = q
    · have e3 : decide (br q = q) = true := decide_eq_true hq
      clear hq
      walk_at "run"
    · have e3 : decide (br q = q) = false := decide_eq_false hq
      have e5 : q = 2147483648 := by rw [br_mod] at hq; omega
      have e4 : decide (q = 2147483648) = true := decide_eq_true e5
      have e6 : decide (br q = -2147483648) = true := by rw [e5]; rfl
      clear e5
      walk_at "run"
theorem number (d : Nat) (n w : Int) (hw : 0 ≤ w ∧ w < 4) (st : Store) : ∃ v st', callN G fuel (d + 1) f_l_number [.int n, .int w] st = .ok (.int v) st' ∧ Num v ∧ Keep st st' := by
  obtain rfl | rfl | rfl | rfl : w = 0 ∨ w = 1 ∨ w = 2 ∨ w = 3 := by omega
  · exact ⟨_, _, rfl, by unfold Num; rw [fmod_pos (by decide)]; omega, .refl _⟩
  · have s1 : ∃ v : Int, subV G.kt (.ref st.n) (.int ((n.fdiv 56).fmod 2)) (st.new (.lst [.int (-2147483648), .int 2147483647])) = .ok (.int v) (st.new (.lst [.int (-2147483648), .int 2147483647])) := by
      have hi : 0 ≤ (n.fdiv 56).fmod 2 ∧ (n.fdiv 56).fmod 2 < 2 := by rw [fmod_pos (by decide)]; omega
      generalize (n.fdiv 56).fmod 2 = z at hi
      obtain rfl | rfl : z = 0 ∨ z = 1 := by omega
      · exact ⟨_, by simp only [subV, new_at]; rfl⟩
      · exact ⟨_, by simp only [subV, new_at]; rfl⟩
    obtain ⟨v, s1⟩ := s1
    rw [callN_succ]
    show ∃ _ _, runF (cxN G fuel d) d_l_number _ _ = _ ∧ _
    have q1 := p_fdiv st n 8 (by decide)
    have q2 := fun st => p_fdiv st n 56 (by decide)
    have m1 := fun st i => p_mod st i 7 (by decide)
    have m2 := fun st i => p_mod st i 2 (by decide)
    have l1 : mkL [.int (-2147483648), .int 2147483647] st = .ok (.ref st.n) (st.new (.lst [.int (-2147483648), .int 2147483647])) := rfl
    have x1 : ∀ i j st, bfn .max2 [.int i, .int j] st = .ok (.int (if j > i then j else i)) st := fun _ _ _ => rfl
    have x2 : ∀ i j st, bfn .min2 [.int i, .int j] st = .ok (.int (if j < i then j else i)) st := fun _ _ _ => rfl
    have k1 : decide ((1 : Int) = 0) = false := rfl
    unfold d_l_number
    walk_at "run"
    refine ⟨_, _, rfl, ?_, .new _ _⟩
    unfold Num
    split <;> split <;> omega
  · exact ⟨_, _, rfl, by unfold Num; rw [fmod_pos (by decide)]; omega, .refl _⟩
  · refine ⟨(n * 2).fmod 4294967296 + (n.fdiv 5).fmod 2 - 2147483648, st, ?_, by unfold Num; rw [fmod_pos (by decide), fmod_pos (by decide)]; omega, .refl _⟩
    rw [callN_succ]
    show runF (cxN G fuel d) d_l_number _ _ = _
    have q1 := p_fdiv st n 8 (by decide)
    have q2 := p_fdiv st n 5 (by decide)
    have m1 := fun i => p_mod st i 7 (by decide)
    have m2 := fun i => p_mod st i 2 (by decide)
    have m3 := fun i => p_mod st i 4294967296 (by decide)
    have t1 : bop .mul (.int n) (.int 2) st = .ok (.int (n * 2)) st := p_mul st n 2 (mulOk_right (by decide))
    have k1 : decide ((3 : Int) = 0) = false := rfl
    have k2 : decide ((3 : Int) = 1) = false := rfl
    have k3 : decide ((3 : Int) = 2) = false := rfl
    unfold d_l_number
    walk_at "run"
/-- the loop's body -/
def loopB : Ss := match d_law.body with | .cons (.for _ _ b) _ => b | _ => .nil
/-- what comes when both numbers are there -/
def restB : Ss := match loopB with | .cons _ (.cons _ (.cons _ (.cons _ (.cons _ b)))) => b | _ => .nil
theorem len10 {s : Env} (h : s.length = 10) : ∃ a b c d e f g i j k, s = [a, b, c, d, e, f, g, i, j, k] := by
  match s, h with
  | [a, b, c, d, e, f, g, i, j, k], _ => exact ⟨a, b, c, d, e, f, g, i, j, k, rfl⟩
theorem count2 (p q : Bool) (st : Store) : bmt .count (.ref st.n) [.bl true] (st.new (.lst [.bl p, .bl q])) = .ok (.int ((if p then 1 else 0) + (if q then 1 else 0))) (st.new (.lst [.bl p, .bl q])) := by
  cases p <;> cases q <;> (simp only [bmt, new_at, dat, deep, List.map, allO, Option.map]; rfl)
theorem rest (d : Nat) (n m a b : Int) (ha : Num a) (hb : Num b) (a0 a1 a2 a7 a8 a9 : Option Val) (st : Store) :
    ∃ s' st', CL.execs (cxN G fuel (d + 4)) restB [a0, a1, a2, some (.int n), some (.int m), some (.int a), some (.int b), a7, a8, a9] st = .ok (.nx s') st' ∧ s'.length = 10 ∧ Keep st st' := by
  have c1 := w_add (d + 2) a b
  have c2 := w_sub (d + 2) a b
  have c3 := fun st => w_mul (d + 2) a b st (num_mul ha)
  have c4 := w_lt (d + 2) a b
  have c5 := w_eq (d + 2) a b
  have c6 := w_and (d + 2)
  have c7 := w_or (d + 2)
  have c8 := fun st n => c_rounds (d + 2) st n
  have c9 := fun st => c_parted d a b ha hb st
  have c10 := fun st p => c_truth (d + 3) p st
  have t1 := fun st => p_mul st a b (num_mul ha)
  have e1 : decide (a < b) = decide (a - b < 0) := decide_eq_decide.mpr (by omega)
  have e2 : decide (a = b) = decide (a - b = 0) := decide_eq_decide.mpr (by omega)
  have m1 := fun st i => p_mod st i 2 (by decide)
  have l1 : ∀ p q st, mkL [.bl p, .bl q] st = .ok (.ref st.n) (st.new (.lst [.bl p, .bl q])) := fun _ _ _ => rfl
  have k1 := count2
  have k2 : ∀ p q : Bool, decide (((if p then (1 : Int) else 0) + (if q then 1 else 0)) = 2) = (q && p) := by decide
  have k3 : ∀ p q : Bool, decide ((0 : Int) < ((if p then (1 : Int) else 0) + (if q then 1 else 0))) = (q || p) := by decide
  have k4 : ∀ (p q : Bool) (st : Store), (st.new (.lst [.bl p, .bl q])).m st.n = some (.lst [.bl p, .bl q]) := fun _ _ _ => new_at _ _
  unfold restB loopB d_law
  walk_at "run"
  exact ⟨_, _, rfl, rfl, (Keep.new _ _).trans (.new _ _)⟩
theorem loop_eq : loopB = .cons (.asg (.one 3) (.bin .mod (.bin .mul (.bin .add (.bin .add (.bin .mod (.v 2) (.int 2147483629)) (.bin .mul (.int 7) (.v 1))) (.int 3)) (.int 48271)) (.int 2147483647)))
    (.cons (.asg (.one 4) (.bin .mod (.bin .add (.bin .add (.bin .mul (.v 3) (.int 69621)) (.bin .mod (.v 2) (.int 97))) (.int 11)) (.int 2147483647)))
    (.cons (.asg (.one 5) (.call f_l_number (.cons (.v 3) (.cons (.bin .mod (.v 3) (.int 4)) .nil))))
    (.cons (.asg (.one 6) (.call f_l_number (.cons (.v 4) (.cons (.bin .mod (.v 4) (.int 4)) .nil))))
    (.cons (.cond (.of (.cmp .ge (.v 2) (.bin .pow (.int 10) (.int 18)))) (.cons (.asg (.one 5) (.bin .sub (.bin .mod (.v 2) (.int 4294967296)) (.int 2147483648)))
    (.cons (.asg (.one 6) (.bin .sub (.bin .mod (.bin .fdiv (.v 2) (.int 4294967296)) (.int 4294967296)) (.int 2147483648)))
    .nil)) .nil) restB)))) := rfl
/-- one turn of the law -/
theorem turn (d : Nat) (k cell : Int) (a0 a3 a4 a5 a6 a7 a8 a9 : Option Val) (st : Store) :
    ∃ s' st', CL.execs (cxN G fuel (d + 4)) loopB [a0, some (.int k), some (.int cell), a3, a4, a5, a6, a7, a8, a9] st = .ok (.nx s') st' ∧ s'.length = 10 ∧ Keep st st' := by
  have m1 := fun st i => p_mod st i 2147483629 (by decide)
  have m2 := fun st i => p_mod st i 2147483647 (by decide)
  have m3 := fun st i => p_mod st i 97 (by decide)
  have m4 := fun st i => p_mod st i 4 (by decide)
  have m5 := fun st i => p_mod st i 4294967296 (by decide)
  have q1 := fun st i => p_fdiv st i 4294967296 (by decide)
  have t1 : ∀ st i, bop .mul (.int 7) (.int i) st = .ok (.int (7 * i)) st := fun st i => p_mul st 7 i (mulOk_left (by decide))
  have t2 : ∀ st i, bop .mul (.int i) (.int 48271) st = .ok (.int (i * 48271)) st := fun st i => p_mul st i 48271 (mulOk_right (by decide))
  have t3 : ∀ st i, bop .mul (.int i) (.int 69621) st = .ok (.int (i * 69621)) st := fun st i => p_mul st i 69621 (mulOk_right (by decide))
  have w1 : ∀ st, bop .pow (.int 10) (.int 18) st = .ok (.int (10 ^ 18)) st := fun st => rfl
  have hb := loop_eq
  rw [hb]
  generalize hn : ((cell.fmod 2147483629 + 7 * k + 3) * 48271).fmod 2147483647 = n
  generalize hm : (n * 69621 + cell.fmod 97 + 11).fmod 2147483647 = m
  obtain ⟨a, st1, e1, ha, k1⟩ := number (d + 3) n (n.fmod 4) (by rw [fmod_pos (by decide)]; omega) st
  clear hb
  obtain ⟨b, st2, e2, hb, k2⟩ := number (d + 3) m (m.fmod 4) (by rw [fmod_pos (by decide)]; omega) st1
  have go := fun a b ha hb => rest d n m a b ha hb a0 (some (.int k)) (some (.int cell)) a7 a8 a9 st2
  by_cases h : (10 : Int) ^ 18 ≤ cell
  · have e3 : decide ((10 : Int) ^ 18 ≤ cell) = true := decide_eq_true h
    obtain ⟨s', st', e4, e5, e6⟩ := go (cell.fmod 4294967296 - 2147483648) ((cell.fdiv 4294967296).fmod 4294967296 - 2147483648) (by unfold Num; rw [fmod_pos (by decide)]; omega) (by unfold Num; rw [fmod_pos (by decide)]; omega)
    clear go h
    walk_at "run"
    exact ⟨_, _, rfl, e5, (k1.trans k2).trans e6⟩
  · have e3 : decide ((10 : Int) ^ 18 ≤ cell) = false := decide_eq_false h
    obtain ⟨s', st', e4, e5, e6⟩ := go a b ha hb
    clear go h
    walk_at "run"
    exact ⟨_, _, rfl, e5, (k1.trans k2).trans e6⟩
abbrev depth : Nat := 10
theorem runs : ∀ ns : List Int, ns.length ≤ 63 → ∃ st', CL.callN G fuel depth f_law [.ref 0] (CL.st0 ns) = .ok (.bl true) st' := by
  intro ns hl
  rw [callN_succ]
  show ∃ st', runF (cxN G fuel 9) d_law _ _ = _
  have hb : d_law.body = .cons (.for (.many [1, 2]) (.enu cellE) loopB) (.cons (.ret (.bl true)) .nil) := rfl
  have hd : d_law = ⟨1, 10, d_law.body⟩ := rfl
  rw [hd, hb]
  have hc := cells_ev (cxN G fuel 9) ns hl [some (.ref 0), none, none, none, none, none, none, none, none, none] rfl
  have hm : (stC ns).m 3 = some (.lst (ns.map .int ++ [.int ns.length])) := rfl
  obtain ⟨s', st', e, p⟩ := for_keep (w := [(3, ns.map .int ++ [.int ns.length])]) (f := onTg (.many [1, 2]) fun s st => CL.execs (cxN G fuel 9) loopB s st) (fun s st => s.length = 10 ∧ 3 < st.n ∧ st.m 3 = some (.lst (ns.map .int ++ [.int ns.length])))
    (enumL 0 (ns.map .int ++ [.int ns.length])) [some (.ref 0), none, none, none, none, none, none, none, none, none] (stC ns) ⟨rfl, show 3 < 4 by omega, hm⟩
    (fun s st h => by simp only [Store.sees, h.2.2, decide_true, Bool.and_true]) (fun x hx s st ⟨h1, h2, h3⟩ => by
      obtain ⟨i, y, hi, hy, rfl⟩ := enum_mem _ _ _ hx
      have hy : ∃ z : Int, y = .int z := by
        rcases List.mem_append.mp hy with h | h
        · obtain ⟨z, _, rfl⟩ := List.mem_map.mp h; exact ⟨z, rfl⟩
        · exact ⟨_, List.mem_singleton.mp h⟩
      obtain ⟨z, rfl⟩ := hy
      obtain ⟨a, b, c, d, e, f, g, u, v, w, rfl⟩ := len10 h1
      obtain ⟨s', st', e1, e2, e3⟩ := turn 5 (0 + (i : Int)) z a d e f g u v w st
      refine ⟨s', st', .inl e1, e2, Nat.lt_of_lt_of_le h2 e3.1, ?_⟩
      rw [e3.2 3 h2]; exact h3)
  refine ⟨st', ?_⟩
  walk_at "run"
end LK02

namespace LK02
open PySem
theorem all_mk {K : PySem.W.Frag} {h : Heap} {mg : Str → Option Value} {fa : Addr} (X : K.In h) (Gg : h.Ns mainGlobals mg) (hfa : mg "law" = some (.ref fa))
    {a0 : Addr} {od0 an0 : Option Addr} {sl0 : Array (Option Value)} {oc0 kV0 dc0 pm0 cd0 ct0 : Value} {a1 : Addr} {od1 an1 : Option Addr} {sl1 : Array (Option Value)} {oc1 kV1 dc1 pm1 cd1 ct1 : Value} {a2 : Addr} {od2 an2 : Option Addr} {sl2 : Array (Option Value)} {oc2 kV2 dc2 pm2 cd2 ct2 : Value} {a3 : Addr} {od3 an3 : Option Addr} {sl3 : Array (Option Value)} {oc3 kV3 dc3 pm3 cd3 ct3 : Value} {a4 : Addr} {od4 an4 : Option Addr} {sl4 : Array (Option Value)} {oc4 kV4 dc4 pm4 cd4 ct4 : Value} {a5 : Addr} {od5 an5 : Option Addr} {sl5 : Array (Option Value)} {oc5 kV5 dc5 pm5 cd5 ct5 : Value} {a6 : Addr} {od6 an6 : Option Addr} {sl6 : Array (Option Value)} {oc6 kV6 dc6 pm6 cd6 ct6 : Value} {a7 : Addr} {od7 an7 : Option Addr} {sl7 : Array (Option Value)} {oc7 kV7 dc7 pm7 cd7 ct7 : Value} {a8 : Addr} {od8 an8 : Option Addr} {sl8 : Array (Option Value)} {oc8 kV8 dc8 pm8 cd8 ct8 : Value} {t0 : Tok} {t1 : Tok}
    (m0 : PySem.W.nsIn K mainGlobals "brought" = some (some (.ref a0)))
    (l0 : K.lookup a0 = some ⟨oc0, od0, .func (PySem.W.fnOf "brought" "brought" (L2.defArgs (top 3)) (L2.defBody (top 3)) (L2.defScope (top 3)) .none kV0 dc0 pm0 an0 cd0 ct0), sl0⟩)
    (c0 : PySem.W.codeIn K cd0 "brought" = true)
    (k0 : PySem.W.keepIn K (.ref a0) = true)
    (m1 : PySem.W.nsIn K mainGlobals "parted" = some (some (.ref a1)))
    (l1 : K.lookup a1 = some ⟨oc1, od1, .func (PySem.W.fnOf "parted" "parted" (L2.defArgs (top 4)) (L2.defBody (top 4)) (L2.defScope (top 4)) .none kV1 dc1 pm1 an1 cd1 ct1), sl1⟩)
    (c1 : PySem.W.codeIn K cd1 "parted" = true)
    (k1 : PySem.W.keepIn K (.ref a1) = true)
    (m2 : PySem.W.nsIn K mainGlobals "worked" = some (some (.ref a2)))
    (l2 : K.lookup a2 = some ⟨oc2, od2, .func (PySem.W.fnOf "worked" "worked" (L2.defArgs (top 5)) (L2.defBody (top 5)) (L2.defScope (top 5)) .none kV2 dc2 pm2 an2 cd2 ct2), sl2⟩)
    (c2 : PySem.W.codeIn K cd2 "worked" = true)
    (k2 : PySem.W.keepIn K (.ref a2) = true)
    (m3 : PySem.W.nsIn K mainGlobals "_law_number" = some (some (.ref a3)))
    (l3 : K.lookup a3 = some ⟨oc3, od3, .func (PySem.W.fnOf "_law_number" "_law_number" (L2.defArgs (top 7)) (L2.defBody (top 7)) (L2.defScope (top 7)) .none kV3 dc3 pm3 an3 cd3 ct3), sl3⟩)
    (c3 : PySem.W.codeIn K cd3 "_law_number" = true)
    (k3 : PySem.W.keepIn K (.ref a3) = true)
    (m4 : PySem.W.nsIn K mainGlobals "_law_whole" = some (some (.ref a4)))
    (l4 : K.lookup a4 = some ⟨oc4, od4, .func (PySem.W.fnOf "_law_whole" "_law_whole" (L2.defArgs (top 8)) (L2.defBody (top 8)) (L2.defScope (top 8)) .none kV4 dc4 pm4 an4 cd4 ct4), sl4⟩)
    (c4 : PySem.W.codeIn K cd4 "_law_whole" = true)
    (k4 : PySem.W.keepIn K (.ref a4) = true)
    (m5 : PySem.W.nsIn K mainGlobals "_law_rounds" = some (some (.ref a5)))
    (l5 : K.lookup a5 = some ⟨oc5, od5, .func (PySem.W.fnOf "_law_rounds" "_law_rounds" (L2.defArgs (top 9)) (L2.defBody (top 9)) (L2.defScope (top 9)) .none kV5 dc5 pm5 an5 cd5 ct5), sl5⟩)
    (c5 : PySem.W.codeIn K cd5 "_law_rounds" = true)
    (k5 : PySem.W.keepIn K (.ref a5) = true)
    (m6 : PySem.W.nsIn K mainGlobals "_law_parted" = some (some (.ref a6)))
    (l6 : K.lookup a6 = some ⟨oc6, od6, .func (PySem.W.fnOf "_law_parted" "_law_parted" (L2.defArgs (top 10)) (L2.defBody (top 10)) (L2.defScope (top 10)) .none kV6 dc6 pm6 an6 cd6 ct6), sl6⟩)
    (c6 : PySem.W.codeIn K cd6 "_law_parted" = true)
    (k6 : PySem.W.keepIn K (.ref a6) = true)
    (m7 : PySem.W.nsIn K mainGlobals "_law_truth" = some (some (.ref a7)))
    (l7 : K.lookup a7 = some ⟨oc7, od7, .func (PySem.W.fnOf "_law_truth" "_law_truth" (L2.defArgs (top 11)) (L2.defBody (top 11)) (L2.defScope (top 11)) .none kV7 dc7 pm7 an7 cd7 ct7), sl7⟩)
    (c7 : PySem.W.codeIn K cd7 "_law_truth" = true)
    (k7 : PySem.W.keepIn K (.ref a7) = true)
    (m8 : PySem.W.nsIn K mainGlobals "law" = some (some (.ref a8)))
    (l8 : K.lookup a8 = some ⟨oc8, od8, .func (PySem.W.fnOf "law" "law" (L2.defArgs (top 12)) (L2.defBody (top 12)) (L2.defScope (top 12)) .none kV8 dc8 pm8 an8 cd8 ct8), sl8⟩)
    (c8 : PySem.W.codeIn K cd8 "law" = true)
    (k8 : PySem.W.keepIn K (.ref a8) = true)
    (z_len : PySem.W.nsIn K mainGlobals "len" = some none)
    (z_abs : PySem.W.nsIn K mainGlobals "abs" = some none)
    (z_list : PySem.W.nsIn K mainGlobals "list" = some none)
    (z_tuple : PySem.W.nsIn K mainGlobals "tuple" = some none)
    (z_int : PySem.W.nsIn K mainGlobals "int" = some none)
    (z_any : PySem.W.nsIn K mainGlobals "any" = some none)
    (z_all : PySem.W.nsIn K mainGlobals "all" = some none)
    (z_min : PySem.W.nsIn K mainGlobals "min" = some none)
    (z_max : PySem.W.nsIn K mainGlobals "max" = some none)
    (z_isinstance : PySem.W.nsIn K mainGlobals "isinstance" = some none)
    (z_bool : PySem.W.nsIn K mainGlobals "bool" = some none)
    (z_str : PySem.W.nsIn K mainGlobals "str" = some none)
    (z_dict : PySem.W.nsIn K mainGlobals "dict" = some none)
    (z_range : PySem.W.nsIn K mainGlobals "range" = some none)
    (z_enumerate : PySem.W.nsIn K mainGlobals "enumerate" = some none)
    (z_zip : PySem.W.nsIn K mainGlobals "zip" = some none)
    (g0 : PySem.W.nsIn K mainGlobals "HALF" = some (some (.int 2147483648 t0)))
    (g1 : PySem.W.nsIn K mainGlobals "WHOLE" = some (some (.int 4294967296 t1))) :
    ∃ T : CL.Tab, CL.Laid G fuel f_law "_law_script" K mg fa T := by
  obtain rfl : a8 = fa := by have e := hfa.symm.trans (PySem.W.mg_of X Gg m8); injection e with e; injection e with e; exact e.symm
  refine ⟨⟨G, fuel, nm, fun c => [].getD c 0, fun f => [a0, a1, a2, a3, a4, a5, a6, a7, a8].getD f 0, fun f => [PySem.W.fnOf "brought" "brought" (L2.defArgs (top 3)) (L2.defBody (top 3)) (L2.defScope (top 3)) .none kV0 dc0 pm0 an0 cd0 ct0, PySem.W.fnOf "parted" "parted" (L2.defArgs (top 4)) (L2.defBody (top 4)) (L2.defScope (top 4)) .none kV1 dc1 pm1 an1 cd1 ct1, PySem.W.fnOf "worked" "worked" (L2.defArgs (top 5)) (L2.defBody (top 5)) (L2.defScope (top 5)) .none kV2 dc2 pm2 an2 cd2 ct2, PySem.W.fnOf "_law_number" "_law_number" (L2.defArgs (top 7)) (L2.defBody (top 7)) (L2.defScope (top 7)) .none kV3 dc3 pm3 an3 cd3 ct3, PySem.W.fnOf "_law_whole" "_law_whole" (L2.defArgs (top 8)) (L2.defBody (top 8)) (L2.defScope (top 8)) .none kV4 dc4 pm4 an4 cd4 ct4, PySem.W.fnOf "_law_rounds" "_law_rounds" (L2.defArgs (top 9)) (L2.defBody (top 9)) (L2.defScope (top 9)) .none kV5 dc5 pm5 an5 cd5 ct5, PySem.W.fnOf "_law_parted" "_law_parted" (L2.defArgs (top 10)) (L2.defBody (top 10)) (L2.defScope (top 10)) .none kV6 dc6 pm6 an6 cd6 ct6, PySem.W.fnOf "_law_truth" "_law_truth" (L2.defArgs (top 11)) (L2.defBody (top 11)) (L2.defScope (top 11)) .none kV7 dc7 pm7 an7 cd7 ct7, PySem.W.fnOf "law" "law" (L2.defArgs (top 12)) (L2.defBody (top 12)) (L2.defScope (top 12)) .none kV8 dc8 pm8 an8 cd8 ct8].getD f default, fun f => ([["n"], ["word", "one", "other"], ["word", "one", "other"], ["_law_number_here", "_law_way"], ["_law_found"], ["_law_found", "_law_due"], ["_law_one", "_law_other"], ["_law_found", "_law_due"], ["_law_script"]] : List (List Str)).getD f []⟩, rfl, rfl, rfl, rfl, ?top, ?defs, fun s u => .of_eq rfl⟩
  case defs =>
    intro f fd hf
    refine CL.allI0 (P := fun f fd => CL.DefOk _ K f fd) (l := fns) ?_ f fd hf
    exact ⟨⟨"brought", "brought", (top 3), n_brought, L2.fun_mk l0 c0 k0, sc_brought, rfl, ch_brought⟩, ⟨"parted", "parted", (top 4), n_parted, L2.fun_mk l1 c1 k1, sc_parted, rfl, ch_parted⟩, ⟨"worked", "worked", (top 5), n_worked, L2.fun_mk l2 c2 k2, sc_worked, rfl, ch_worked⟩, ⟨"_law_number", "_law_number", (top 7), n_l_number, L2.fun_mk l3 c3 k3, sc_l_number, rfl, ch_l_number⟩, ⟨"_law_whole", "_law_whole", (top 8), n_l_whole, L2.fun_mk l4 c4 k4, sc_l_whole, rfl, ch_l_whole⟩, ⟨"_law_rounds", "_law_rounds", (top 9), n_l_rounds, L2.fun_mk l5 c5 k5, sc_l_rounds, rfl, ch_l_rounds⟩, ⟨"_law_parted", "_law_parted", (top 10), n_l_parted, L2.fun_mk l6 c6 k6, sc_l_parted, rfl, ch_l_parted⟩, ⟨"_law_truth", "_law_truth", (top 11), n_l_truth, L2.fun_mk l7 c7 k7, sc_l_truth, rfl, ch_l_truth⟩, ⟨"law", "law", (top 12), n_law, L2.fun_mk l8 c8 k8, sc_law, rfl, ch_law⟩, trivial⟩
  case top =>
    refine { bf := ?bf, isi := PySem.W.mg_none_of X Gg z_isinstance, ty := ?ty, rng := PySem.W.mg_none_of X Gg z_range, enu := PySem.W.mg_none_of X Gg z_enumerate, zip := PySem.W.mg_none_of X Gg z_zip, gl := ?gl, fn := ?fn, mt := ?mt, ini := ?ini, fl := ?fl }
    case bf => intro b; cases b; exact PySem.W.mg_none_of X Gg z_len; exact PySem.W.mg_none_of X Gg z_abs; exact PySem.W.mg_none_of X Gg z_list; exact PySem.W.mg_none_of X Gg z_tuple; exact PySem.W.mg_none_of X Gg z_int; exact PySem.W.mg_none_of X Gg z_any; exact PySem.W.mg_none_of X Gg z_all; exact PySem.W.mg_none_of X Gg z_min; exact PySem.W.mg_none_of X Gg z_max
    case ty => intro t ht; cases t; exact PySem.W.mg_none_of X Gg z_int; exact PySem.W.mg_none_of X Gg z_bool; exact PySem.W.mg_none_of X Gg z_str; exact PySem.W.mg_none_of X Gg z_list; exact PySem.W.mg_none_of X Gg z_tuple; exact PySem.W.mg_none_of X Gg z_dict; cases ht
    case gl =>
      intro g v hg
      refine CL.allI0 (P := fun g v => ∃ u w, mg (nm.gl g) = some u ∧ L2.RelV w u ∧ ∀ io n H, CL.RV K G.kt io n H v w) (l := gls) ?_ g v hg
      exact ⟨⟨_, (.int 2147483648), PySem.W.mg_of X Gg g0, ⟨_, rfl⟩, fun _ _ _ => .int _⟩, ⟨_, (.int 4294967296), PySem.W.mg_of X Gg g1, ⟨_, rfl⟩, fun _ _ _ => .int _⟩, trivial⟩
    case fn =>
      intro f fd hf
      refine CL.allI0 (P := fun f fd => L2.Binds K ([PySem.W.fnOf "brought" "brought" (L2.defArgs (top 3)) (L2.defBody (top 3)) (L2.defScope (top 3)) .none kV0 dc0 pm0 an0 cd0 ct0, PySem.W.fnOf "parted" "parted" (L2.defArgs (top 4)) (L2.defBody (top 4)) (L2.defScope (top 4)) .none kV1 dc1 pm1 an1 cd1 ct1, PySem.W.fnOf "worked" "worked" (L2.defArgs (top 5)) (L2.defBody (top 5)) (L2.defScope (top 5)) .none kV2 dc2 pm2 an2 cd2 ct2, PySem.W.fnOf "_law_number" "_law_number" (L2.defArgs (top 7)) (L2.defBody (top 7)) (L2.defScope (top 7)) .none kV3 dc3 pm3 an3 cd3 ct3, PySem.W.fnOf "_law_whole" "_law_whole" (L2.defArgs (top 8)) (L2.defBody (top 8)) (L2.defScope (top 8)) .none kV4 dc4 pm4 an4 cd4 ct4, PySem.W.fnOf "_law_rounds" "_law_rounds" (L2.defArgs (top 9)) (L2.defBody (top 9)) (L2.defScope (top 9)) .none kV5 dc5 pm5 an5 cd5 ct5, PySem.W.fnOf "_law_parted" "_law_parted" (L2.defArgs (top 10)) (L2.defBody (top 10)) (L2.defScope (top 10)) .none kV6 dc6 pm6 an6 cd6 ct6, PySem.W.fnOf "_law_truth" "_law_truth" (L2.defArgs (top 11)) (L2.defBody (top 11)) (L2.defScope (top 11)) .none kV7 dc7 pm7 an7 cd7 ct7, PySem.W.fnOf "law" "law" (L2.defArgs (top 12)) (L2.defBody (top 12)) (L2.defScope (top 12)) .none kV8 dc8 pm8 an8 cd8 ct8].getD f default) (([["n"], ["word", "one", "other"], ["word", "one", "other"], ["_law_number_here", "_law_way"], ["_law_found"], ["_law_found", "_law_due"], ["_law_one", "_law_other"], ["_law_found", "_law_due"], ["_law_script"]] : List (List Str)).getD f []) [] ∧ (([["n"], ["word", "one", "other"], ["word", "one", "other"], ["_law_number_here", "_law_way"], ["_law_found"], ["_law_found", "_law_due"], ["_law_one", "_law_other"], ["_law_found", "_law_due"], ["_law_script"]] : List (List Str)).getD f []).length = fd.np ∧ (nm.isG f = true → mg (nm.fn f) = some (.ref ([a0, a1, a2, a3, a4, a5, a6, a7, a8].getD f 0)) ∧ PySem.W.keepIn K (.ref ([a0, a1, a2, a3, a4, a5, a6, a7, a8].getD f 0)) = true)) (l := fns) ?_ f fd hf
      exact ⟨⟨(L2.fun_mk (st := (top 3)) l0 c0 k0).binds (ps := ["n"]) fun _ _ _ _ _ _ us hl => match us, hl with | [_], _ => rfl, rfl, fun _ => ⟨PySem.W.mg_of X Gg m0, k0⟩⟩,
        ⟨(L2.fun_mk (st := (top 4)) l1 c1 k1).binds (ps := ["word", "one", "other"]) fun _ _ _ _ _ _ us hl => match us, hl with | [_, _, _], _ => rfl, rfl, fun _ => ⟨PySem.W.mg_of X Gg m1, k1⟩⟩,
        ⟨(L2.fun_mk (st := (top 5)) l2 c2 k2).binds (ps := ["word", "one", "other"]) fun _ _ _ _ _ _ us hl => match us, hl with | [_, _, _], _ => rfl, rfl, fun _ => ⟨PySem.W.mg_of X Gg m2, k2⟩⟩,
        ⟨(L2.fun_mk (st := (top 7)) l3 c3 k3).binds (ps := ["_law_number_here", "_law_way"]) fun _ _ _ _ _ _ us hl => match us, hl with | [_, _], _ => rfl, rfl, fun _ => ⟨PySem.W.mg_of X Gg m3, k3⟩⟩,
        ⟨(L2.fun_mk (st := (top 8)) l4 c4 k4).binds (ps := ["_law_found"]) fun _ _ _ _ _ _ us hl => match us, hl with | [_], _ => rfl, rfl, fun _ => ⟨PySem.W.mg_of X Gg m4, k4⟩⟩,
        ⟨(L2.fun_mk (st := (top 9)) l5 c5 k5).binds (ps := ["_law_found", "_law_due"]) fun _ _ _ _ _ _ us hl => match us, hl with | [_, _], _ => rfl, rfl, fun _ => ⟨PySem.W.mg_of X Gg m5, k5⟩⟩,
        ⟨(L2.fun_mk (st := (top 10)) l6 c6 k6).binds (ps := ["_law_one", "_law_other"]) fun _ _ _ _ _ _ us hl => match us, hl with | [_, _], _ => rfl, rfl, fun _ => ⟨PySem.W.mg_of X Gg m6, k6⟩⟩,
        ⟨(L2.fun_mk (st := (top 11)) l7 c7 k7).binds (ps := ["_law_found", "_law_due"]) fun _ _ _ _ _ _ us hl => match us, hl with | [_, _], _ => rfl, rfl, fun _ => ⟨PySem.W.mg_of X Gg m7, k7⟩⟩,
        ⟨(L2.fun_mk (st := (top 12)) l8 c8 k8).binds (ps := ["_law_script"]) fun _ _ _ _ _ _ us hl => match us, hl with | [_], _ => rfl, rfl, fun _ => ⟨PySem.W.mg_of X Gg m8, k8⟩⟩, trivial⟩
    case mt => intro c m f hm; cases hm
    case ini => intro c f hm; cases hm
    case fl => intro c f hm; cases hm
end LK02
open PySem PySem.W PyProof.Rows
set_option maxRecDepth 100000 in
set_option maxHeartbeats 0 in
theorem PySem.Challenge.cw_chainwright_k02_worked_holds : PySem.Challenge.rw_chainwright_k02_worked.Holds := by
  w_on; o_law; k_head; (case hw => w_witness2)
  k_fill
  refine CL.law_walk (l := PySem.Challenge.rw_chainwright_k02_worked) (n := 63) (x := "_law_script") (k := LK02.depth) LK02.G LK02.fuel LK02.f_law LK02.d_law rfl rfl (by decide) rfl ⟨rfl, by decide, by decide⟩ (fun w h Y => PySem.W.kIn_of Y) LK02.runs ?F
  case F =>
    intro w mg fa h KX Gg hmg
    refine' LK02.all_mk KX Gg hmg ?xxm0 ?xxl0 ?xxc0 ?xxk0 ?xxm1 ?xxl1 ?xxc1 ?xxk1 ?xxm2 ?xxl2 ?xxc2 ?xxk2 ?xxm3 ?xxl3 ?xxc3 ?xxk3 ?xxm4 ?xxl4 ?xxc4 ?xxk4 ?xxm5 ?xxl5 ?xxc5 ?xxk5 ?xxm6 ?xxl6 ?xxc6 ?xxk6 ?xxm7 ?xxl7 ?xxc7 ?xxk7 ?xxm8 ?xxl8 ?xxc8 ?xxk8 ?xxz_len ?xxz_abs ?xxz_list ?xxz_tuple ?xxz_int ?xxz_any ?xxz_all ?xxz_min ?xxz_max ?xxz_isinstance ?xxz_bool ?xxz_str ?xxz_dict ?xxz_range ?xxz_enumerate ?xxz_zip ?xxg0 ?xxg1
    (case xxm0 => k_is); (case xxl0 => k_is); (case xxc0 => k_is); (case xxk0 => k_is); (case xxm1 => k_is); (case xxl1 => k_is)
    (case xxc1 => k_is); (case xxk1 => k_is); (case xxm2 => k_is); (case xxl2 => k_is); (case xxc2 => k_is); (case xxk2 => k_is)
    (case xxm3 => k_is); (case xxl3 => k_is); (case xxc3 => k_is); (case xxk3 => k_is); (case xxm4 => k_is); (case xxl4 => k_is)
    (case xxc4 => k_is); (case xxk4 => k_is); (case xxm5 => k_is); (case xxl5 => k_is); (case xxc5 => k_is); (case xxk5 => k_is)
    (case xxm6 => k_is); (case xxl6 => k_is); (case xxc6 => k_is); (case xxk6 => k_is); (case xxm7 => k_is); (case xxl7 => k_is)
    (case xxc7 => k_is); (case xxk7 => k_is); (case xxm8 => k_is); (case xxl8 => k_is); (case xxc8 => k_is); (case xxk8 => k_is)
    (case xxz_len => k_is); (case xxz_abs => k_is); (case xxz_list => k_is); (case xxz_tuple => k_is); (case xxz_int => k_is); (case xxz_any => k_is)
    (case xxz_all => k_is); (case xxz_min => k_is); (case xxz_max => k_is); (case xxz_isinstance => k_is); (case xxz_bool => k_is); (case xxz_str => k_is)
    (case xxz_dict => k_is); (case xxz_range => k_is); (case xxz_enumerate => k_is); (case xxz_zip => k_is); (case xxg0 => k_is); (case xxg1 => k_is)
