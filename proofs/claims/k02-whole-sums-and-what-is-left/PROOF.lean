import PyProof.Rows.All
import Wide.All
import OpenK.AllK
import Wide.FinOn
import HandS.ForMost
import HandS.Property
import HandS.OwnEq
import HandS.Wide
import HandS.WideBits
import HandS.IsInst
import HandS.Conv
import HandS.TupLe
import HandS.TupAny
import HandS.Zip
import HandS.Style
import HandS.RaiseMore
import HandS.Flow
import PyProof.ReprRoads
import HandS.SortInts
import KE.KRevSl
import PySem.Challenge.RW_roundedsteps_k02_whole_sums_and_what_is
section
set_option Elab.async false
set_option linter.all false
set_option maxRecDepth 100000
set_option maxHeartbeats 4000000
/-! A small language of values, and what its programs come to. -/
namespace Pv
open PySem L2

/-- values: tuples (and lists that nobody writes) stand for themselves, lists and instances by their place in the store -/
inductive D where
  | non | bl (b : Bool) | int (i : Int) | str (x : Str) | tup (ds : List D) | rol (ds : List D) | ref (n : Nat)
  deriving Inhabited

inductive Cell where
  /-- a list -/
  | lst (ds : List D)
  /-- an instance: its class, its attributes -/
  | ins (c : Nat) (fs : List (Nat × D))
  /-- a dict, its keys ints and texts -/
  | dct (kvs : List (Key × D))
  deriving Inhabited

abbrev Sto := List Cell

inductive R (α : Type) where
  | ok (a : α) (s : Sto) | no
def R.bind {α β : Type} (r : R α) (f : α → Sto → R β) : R β := match r with
  | .ok a s => f a s
  | .no => .no
@[simp] theorem R.bind_ok {α β : Type} (a : α) (s : Sto) (f : α → Sto → R β) : R.bind (.ok a s) f = f a s := rfl
@[simp] theorem R.bind_no {α β : Type} (f : α → Sto → R β) : R.bind .no f = .no := rfl
theorem R.bind_eq {α β : Type} {r : R α} {f : α → Sto → R β} {b : β} {s' : Sto} (h : R.bind r f = .ok b s') : ∃ a s, r = .ok a s ∧ f a s = .ok b s' := by
  cases r with
  | ok a s => exact ⟨a, s, rfl, h⟩
  | no => cases h

inductive Bop where
  | add | sub | mul | fdiv | mod | pow | band | bor | bxor | shl | shr
  deriving DecidableEq
inductive Cop where
  | lt | le | gt | ge | eq | ne | is_ | isn | in_ | nin
  deriving DecidableEq
/-- what is reckoned of a list's items -/
inductive Fb where
  | all | any | sum | len | tuple | list | max | min | sorted
  deriving DecidableEq
/-- other built-in calls -/
inductive Bi where
  | abs | max2 | min2 | int | bool | str | divmod | isInt | isBool | isStr | isTup | isCls (c : Nat) | repr
  deriving DecidableEq
/-- built-in methods -/
inductive Bm where
  | append | extend
  deriving DecidableEq

/-- targets -/
inductive T where
  | nm (i : Nat) | tp (ts : List Nat)
  deriving DecidableEq

mutual
inductive E where
  | var (i : Nat) | lit (d : D) | glob (g : Nat)
  | bin (o : Bop) (a b : E) | neg (a : E) | cmp (o : Cop) (a b : E) | chain (o p : Cop) (a b c : E)
  | not_ (a : E) | and_ (a b : E) | or_ (a b : E) | ite (c a b : E)
  | fld (a : E) (k : Nat) | tup (es : Es) | new (l : L)
  | call (f : Nat) (es : Es) | meth (o : E) (m : Nat) (es : Es) | make (c : Nat) (es : Es)
  | bi (b : Bi) (es : Es) | fold (b : Fb) (l : L) | foldv (b : Fb) (e : E) | bm (m : Bm) (o e : E)
  | ix (a i : E) | sl (a lo hi : E) | slk (a lo hi st : E)
  /-- a dict, its keys and items in turn; an item of a dict -/
  | dct (es : Es) | dix (o i : E)
inductive Es where
  | nil | cons (e : E) (es : Es)
/-- lists that are made anew -/
inductive L where
  | comp (own : List Nat) (elt : E) (t : T) (it : I) (cond : Es) | disp (es : Es) | range (es : Es)
/-- what is walked -/
inductive I where
  | seq (e : E) | fresh (l : L) | range (es : Es) | enum (e : E) | zip (a b : E)
end

mutual
inductive S where
  | asg (t : T) (e : E) | par (i j : Nat) (a b : E) | par3 (i j k : Nat) (a b c : E)
  | setF (o : E) (k : Nat) (e : E) | setI (o i e : E) | ex (e : E) | ret (e : E) | retN
  | ite (c : E) (a b : Ss) | whl (c : E) (b : Ss) | for_ (t : T) (it : I) (b : Ss)
  | pass | brk | cnt | never
inductive Ss where
  | nil | cons (s : S) (ss : Ss)
end

/-! ### values -/
mutual
def toPy : D → Option PyData
  | .non => some .none
  | .bl b => some (.bool b)
  | .int i => some (.int i)
  | .str x => some (.str x)
  | .tup ds => match toPyL ds with
    | some xs => some (.tuple xs)
    | none => none
  | .rol ds => match toPyL ds with
    | some xs => some (.list xs)
    | none => none
  | .ref _ => none
def toPyL : List D → Option (List PyData)
  | [] => some []
  | d :: ds => match toPy d with
    | some x => match toPyL ds with
      | some xs => some (x :: xs)
      | none => none
    | none => none
end
/-- the items of the list at a place -/
def lstAt (s : Sto) (n : Nat) : Option (List D) := match s[n]? with
  | some (.lst ds) => some ds
  | _ => none
def insAt (s : Sto) (n : Nat) : Option (Nat × List (Nat × D)) := match s[n]? with
  | some (.ins c fs) => some (c, fs)
  | _ => none
def pyOf (s : Sto) : D → Option PyData
  | .ref n => match lstAt s n with
    | some ds => match toPyL ds with
      | some xs => some (.list xs)
      | none => none
    | none => none
  | d => toPy d
/-- the items of a list or a tuple -/
def itemsOf (s : Sto) : D → Option (List D)
  | .tup ds => some ds
  | .rol ds => some ds
  | .ref n => lstAt s n
  | _ => none
def allBl : List D → Option (List Bool)
  | [] => some []
  | .bl b :: ds => match allBl ds with
    | some bs => some (b :: bs)
    | none => none
  | _ => none
def allInt : List D → Option (List Int)
  | [] => some []
  | .int b :: ds => match allInt ds with
    | some bs => some (b :: bs)
    | none => none
  | _ => none
def tru (s : Sto) : D → Option Bool
  | .non => some false
  | .bl b => some b
  | .int i => some (i != 0)
  | .str x => if x.length ≤ sizeLine then some (x.length != 0) else none
  | .tup ds => some (!ds.isEmpty)
  | .rol ds => some (!ds.isEmpty)
  | .ref n => match lstAt s n with
    | some ds => some (!ds.isEmpty)
    | none => none
def flatD : D → Bool
  | .tup _ => false
  | .rol _ => false
  | .ref _ => false
  | _ => true
def eqF : D → D → Bool
  | .non, .non => true
  | .bl a, .bl b => a == b
  | .bl a, .int b => (if a then 1 else 0) == b
  | .int a, .bl b => a == (if b then 1 else 0)
  | .int a, .int b => a == b
  | .str a, .str b => a == b
  | _, _ => false

/-! ### the program's defs as they are called -/
structure Klass where
  fields : List Nat
  meths : List (Nat × Nat)
  props : List (Nat × Nat)
  init : Nat
  contains : Option Nat := none
structure G where
  fn : Nat → List D → Sto → R D
  con : Nat → Option D
  cls : Nat → Option Klass
  fuel : Nat

def newL (ds : List D) (s : Sto) : R D := .ok (.ref s.length) (s ++ [.lst ds])

def binD (o : Bop) (x y : D) (s : Sto) : R D := match o with
  | .add => match x, y with
    | .int i, .int j => .ok (.int (i + j)) s
    | .str a, .str b => if a.length + b.length ≤ sizeLine then .ok (.str (a ++ b)) s else .no
    | .tup a, .tup b => if a.length + b.length ≤ sizeLine then .ok (.tup (a ++ b)) s else .no
    | .ref m, .ref n => match lstAt s m, lstAt s n with
      | some a, some b => if a.length + b.length ≤ sizeLine then newL (a ++ b) s else .no
      | _, _ => .no
    | _, _ => .no
  | .sub => match x, y with
    | .int i, .int j => .ok (.int (i - j)) s
    | _, _ => .no
  | .mul => match x, y with
    | .int i, .int j => if i.natAbs.log2 + j.natAbs.log2 < 1000000 then .ok (.int (i * j)) s else .no
    | .ref m, .int j => match lstAt s m with
      | some a => if (0 ≤ j ∧ j ≤ 100000) ∧ a.length * j.toNat ≤ sizeLine then newL (List.replicate j.toNat a).flatten s else .no
      | none => .no
    | _, _ => .no
  | .fdiv => match x, y with
    | .int i, .int j => if 0 < j ∧ j.natAbs.log2 < 9000 then .ok (.int (i / j)) s else .no
    | _, _ => .no
  | .mod => match x, y with
    | .int i, .int j => if 0 < j then .ok (.int (i % j)) s else .no
    | _, _ => .no
  | .pow => match x, y with
    | .int i, .int j => if 0 ≤ j ∧ (Builtin.Int.intBits i : Int) * j ≤ 2 ^ 27 then .ok (.int (i ^ j.toNat)) s else .no
    | _, _ => .no
  | _ => .no

def eqD (s : Sto) (x y : D) : Option Bool := match pyOf s x, pyOf s y with
  | some a, some b => if SeqAt.shaped a = true ∧ SeqAt.shaped b = true then some (PyData.eqv a b) else none
  | _, _ => none

/-- x in y -/
def inD (g : G) (x y : D) (s : Sto) : R Bool := match y with
  | .str b => match x with
    | .str a => .ok (!(Builtin.Str.occurrences b a 0 b.length 1).isEmpty) s
    | _ => .no
  | .tup ds => if flatD x = true ∧ ds.all flatD = true then .ok (ds.any fun z => eqF z x) s else .no
  | .rol ds => if flatD x = true ∧ ds.all flatD = true then .ok (ds.any fun z => eqF z x) s else .no
  | .ref n => match insAt s n with
    | some (c, _) => match g.cls c with
      | some k => match k.contains with
        | some f => R.bind (g.fn f [.ref n, x] s) fun d s1 => match d with
          | .bl b => .ok b s1
          | _ => .no
        | none => .no
      | none => .no
    | none => match lstAt s n with
      | some ds => if flatD x = true ∧ ds.all flatD = true then .ok (ds.any fun z => eqF z x) s else .no
      | none => .no
  | _ => .no

def cmpD (g : G) (o : Cop) (x y : D) (s : Sto) : R Bool := match o with
  | .lt => match x, y with
    | .int i, .int j => .ok (decide (i < j)) s
    | _, _ => .no
  | .le => match x, y with
    | .int i, .int j => .ok (decide (i ≤ j)) s
    | _, _ => .no
  | .gt => match x, y with
    | .int i, .int j => .ok (decide (j < i)) s
    | _, _ => .no
  | .ge => match x, y with
    | .int i, .int j => .ok (decide (j ≤ i)) s
    | _, _ => .no
  | .eq => match eqD s x y with
    | some b => .ok b s
    | none => .no
  | .ne => match eqD s x y with
    | some b => .ok (!b) s
    | none => .no
  | .is_ => match y with
    | .non => .ok (match x with | .non => true | _ => false) s
    | .bl b => match x with
      | .bl a => .ok (a == b) s
      | _ => .no
    | _ => .no
  | .isn => match y with
    | .non => .ok (match x with | .non => false | _ => true) s
    | .bl b => match x with
      | .bl a => .ok (!(a == b)) s
      | _ => .no
    | _ => .no
  | .in_ => inD g x y s
  | .nin => R.bind (inD g x y s) fun b s1 => .ok (!b) s1

def maxI : Int → List Int → Int
  | m, [] => m
  | m, y :: ys => maxI (if m < y then y else m) ys
def minI : Int → List Int → Int
  | m, [] => m
  | m, y :: ys => minI (if y < m then y else m) ys
def insI (x : Int) : List Int → List Int
  | [] => [x]
  | y :: ys => if x ≤ y then x :: y :: ys else y :: insI x ys
def sortI : List Int → List Int
  | [] => []
  | x :: xs => insI x (sortI xs)

def foldD (b : Fb) (ds : List D) (s : Sto) : R D := match b with
  | .all => match allBl ds with
    | some bs => .ok (.bl (bs.all id)) s
    | none => .no
  | .any => match allBl ds with
    | some bs => .ok (.bl (bs.any id)) s
    | none => .no
  | .sum => match allInt ds with
    | some ns => .ok (.int ns.sum) s
    | none => .no
  | .len => .ok (.int ds.length) s
  | .tuple => .ok (.tup ds) s
  | .list => newL ds s
  | .max => match allInt ds with
    | some (n :: ns) => .ok (.int (maxI n ns)) s
    | _ => .no
  | .min => match allInt ds with
    | some (n :: ns) => .ok (.int (minI n ns)) s
    | _ => .no
  | .sorted => match allInt ds with
    | some ns => newL ((sortI ns).map .int) s
    | none => .no

/-- what serves tuples, too -/
def tupOk : Fb → D → Bool
  | .all, .tup _ => false
  | .any, .tup _ => false
  | .sorted, .tup _ => false
  | _, _ => true

def biD (b : Bi) (xs : List D) (s : Sto) : R D := match b with
  | .abs => match xs with
    | [.int i] => .ok (.int (if i < 0 then -i else i)) s
    | _ => .no
  | .max2 => match xs with
    | [.int i, .int j] => .ok (.int (if j > i then j else i)) s
    | _ => .no
  | .min2 => match xs with
    | [.int i, .int j] => .ok (.int (if j < i then j else i)) s
    | _ => .no
  | .int => match xs with
    | [.int i] => .ok (.int i) s
    | [.bl k] => .ok (.int (if k then 1 else 0)) s
    | _ => .no
  | .bool => match xs with
    | [.int i] => .ok (.bl (i != 0)) s
    | [.bl k] => .ok (.bl k) s
    | _ => .no
  | .str => match xs with
    | [.int i] => if i.natAbs.log2 < 1920 then .ok (.str (toString i)) s else .no
    | _ => .no
  | .divmod => match xs with
    | [.int i, .int j] => if 0 < j ∧ Builtin.divisionGoesByPylong i j = false then .ok (.tup [.int (i / j), .int (i % j)]) s else .no
    | _ => .no
  | .isInt => match xs with
    | [.int _] => .ok (.bl true) s
    | [.bl _] => .ok (.bl true) s
    | [.str _] => .ok (.bl false) s
    | [.non] => .ok (.bl false) s
    | [.tup _] => .ok (.bl false) s
    | [.ref n] => match s[n]? with
      | some (.lst _) => .ok (.bl false) s
      | _ => .no
    | _ => .no
  | .isBool => match xs with
    | [.int _] => .ok (.bl false) s
    | [.bl _] => .ok (.bl true) s
    | [.str _] => .ok (.bl false) s
    | [.non] => .ok (.bl false) s
    | [.tup _] => .ok (.bl false) s
    | [.ref n] => match s[n]? with
      | some (.lst _) => .ok (.bl false) s
      | _ => .no
    | _ => .no
  | .isStr => match xs with
    | [.int _] => .ok (.bl false) s
    | [.bl _] => .ok (.bl false) s
    | [.str _] => .ok (.bl true) s
    | [.non] => .ok (.bl false) s
    | [.tup _] => .ok (.bl false) s
    | [.ref n] => match s[n]? with
      | some (.lst _) => .ok (.bl false) s
      | _ => .no
    | _ => .no
  | .isTup => match xs with
    | [.int _] => .ok (.bl false) s
    | [.bl _] => .ok (.bl false) s
    | [.str _] => .ok (.bl false) s
    | [.non] => .ok (.bl false) s
    | [.tup _] => .ok (.bl true) s
    | [.ref n] => match s[n]? with
      | some (.lst _) => .ok (.bl false) s
      | _ => .no
    | _ => .no
  | .repr => match xs with
    | [.int i] => if i.natAbs.log2 < 1920 then .ok (.str (toString i)) s else .no
    | [.non] => .ok (.str "None") s
    | [.tup ds] => match pyOf s (.tup ds) with
      | some q => if q.showable = true ∧ q.hasDict = false ∧ q.shown.length ≤ sizeLine ∧ q.depth ≤ 60 then .ok (.str q.shown) s else .no
      | none => .no
    | [.ref n] => match pyOf s (.ref n) with
      | some q => if q.showable = true ∧ q.hasDict = false ∧ q.shown.length ≤ sizeLine ∧ q.depth ≤ 60 then .ok (.str q.shown) s else .no
      | none => .no
    | _ => .no
  | _ => .no

def ixD (x i : D) (s : Sto) : R D := match i with
  | .int k => match itemsOf s x with
    | some ds => match atI ds k with
      | some d => .ok d s
      | none => .no
    | none => .no
  | _ => .no
def dctAt (s : Sto) (n : Nat) : Option (List (Key × D)) := match s[n]? with
  | some (.dct kvs) => some kvs
  | _ => none
def keyOf : D → Option Key
  | .int i => some (.inl i)
  | .str x => some (.inr x)
  | _ => none
def pairsD : List D → Option (List (Key × D))
  | [] => some []
  | k :: v :: r => match keyOf k with
    | some q => match pairsD r with
      | some ps => some ((q, v) :: ps)
      | none => none
    | none => none
  | [_] => none
def valD (kvs : List (Key × D)) (k : Key) : Option D := (kvs.find? fun kv => decide (kv.1 = k)).map (·.2)
def putKD (kvs : List (Key × D)) (k : Key) (v : D) : List (Key × D) :=
  if (kvs.any fun kv => decide (kv.1 = k)) = true then kvs.map (fun kv => if kv.1 = k then (kv.1, v) else kv) else kvs ++ [(k, v)]
def mergeD (kvs more : List (Key × D)) : List (Key × D) := more.foldl (fun acc kv => putKD acc kv.1 kv.2) kvs
def isNon : E → Bool
  | .lit .non => true
  | _ => false
/-- a slice's part: left out, or an int -/
def bnd (e : E) (d : D) : Option (Option Int) := if isNon e = true then some none else match d with
  | .int i => some (some i)
  | _ => none
def cutD {α : Type} (xs : List α) (lo hi : Option Int) : List α := (xs.drop (HT.sIx xs.length 0 lo)).take (HT.sIx xs.length xs.length hi - HT.sIx xs.length 0 lo)
def slD (x : D) (l h : Option Int) (s : Sto) : R D := match x with
  | .tup ds => .ok (.tup (cutD ds l h)) s
  | .rol ds => newL (cutD ds l h) s
  | .ref n => match lstAt s n with
    | some ds => newL (cutD ds l h) s
    | none => .no
  | _ => .no

/-- the items of xs[lo:hi:st] -/
def stepL {α : Type} (xs : List α) (lo hi : Option Int) (st : Int) : List α :=
  (sliceRange (sliceBounds lo hi (some st) xs.length).1 (sliceBounds lo hi (some st) xs.length).2.1 (sliceBounds lo hi (some st) xs.length).2.2).filterMap fun i => xs[i]?
def slkD (x : D) (l h : Option Int) (st : Int) (s : Sto) : R D := if st = 0 then .no else match x with
  | .rol ds => newL (stepL ds l h st) s
  | .ref n => match lstAt s n with
    | some ds => newL (stepL ds l h st) s
    | none => .no
  | _ => .no

def putD (k : Nat) (v : D) : List (Nat × D) → List (Nat × D)
  | [] => [(k, v)]
  | (j, d) :: fs => if j = k then (k, v) :: fs else (j, d) :: putD k v fs

def rangeI (lo : Int) (n : Nat) : List D := (List.range n).map fun (i : Nat) => D.int (lo + (i : Int))
/-- the ints of range(..) -/
def rangeD : List D → Option (List D)
  | [.int j] => if -(2 ^ 62) ≤ j ∧ j < 2 ^ 62 then some (rangeI 0 j.toNat) else none
  | [.int i, .int j] => if (-(2 ^ 62) ≤ i ∧ i < 2 ^ 62) ∧ -(2 ^ 62) ≤ j ∧ j < 2 ^ 62 then some (rangeI i (j - i).toNat) else none
  | _ => none

/-! ### what is walked -/
inductive It where
  | fix (ds : List D) | lst (n : Nat) | enumL (n : Nat) | zipL (m n : Nat)
/-- at turn i: none: stuck; some none: the end; some (some d): d -/
def It.at (s : Sto) (i : Nat) : It → Option (Option D)
  | .fix ds => some ds[i]?
  | .lst n => match lstAt s n with
    | some ds => some ds[i]?
    | none => none
  | .enumL n => match lstAt s n with
    | some ds => match ds[i]? with
      | some d => some (some (.tup [.int i, d]))
      | none => some none
    | none => none
  | .zipL m n => match lstAt s m, lstAt s n with
    | some as, some bs => match as[i]?, bs[i]? with
      | some a, some b => some (some (.tup [a, b]))
      | _, _ => some none
    | _, _ => none

abbrev Slo := List (Option D)
def setAll : Slo → List Nat → List D → Option Slo
  | e, [], [] => some e
  | e, i :: is, d :: ds => setAll (e.set i (some d)) is ds
  | _, _, _ => none
def T.put (t : T) (d : D) (e : Slo) : Option Slo := match t with
  | .nm i => some (e.set i (some d))
  | .tp is => match d with
    | .tup ds => setAll e is ds
    | _ => none
def wipeE (e : Slo) : List Nat → Slo
  | [] => e
  | i :: is => (wipeE e is).set i none

/-- a comprehension's turns -/
def compR (it : It) (t : T) (env : Slo) (cond : Slo → Sto → R Bool) (elt : Slo → Sto → R D) : Nat → Nat → List D → Sto → R (List D)
  | 0, _, _, _ => .no
  | n + 1, i, acc, s => match it.at s i with
    | none => .no
    | some none => .ok acc s
    | some (some d) => match t.put d env with
      | none => .no
      | some e1 => R.bind (cond e1 s) fun b s1 => match b with
        | true => R.bind (elt e1 s1) fun v s2 => if acc.length < sizeLine then compR it t env cond elt n (i + 1) (acc ++ [v]) s2 else .no
        | false => compR it t env cond elt n (i + 1) acc s1

inductive Fl where
  | nx (e : Slo) (s : Sto) | rt (d : D) (s : Sto) | bk (e : Slo) (s : Sto) | ct (e : Slo) (s : Sto) | no

def whlR (c : Slo → Sto → R Bool) (b : Slo → Sto → Fl) : Nat → Slo → Sto → Fl
  | 0, _, _ => .no
  | n + 1, e, s => match c e s with
    | .no => .no
    | .ok false s1 => .nx e s1
    | .ok true s1 => match b e s1 with
      | .nx e2 s2 => whlR c b n e2 s2
      | .ct e2 s2 => whlR c b n e2 s2
      | .bk e2 s2 => .nx e2 s2
      | .rt d s2 => .rt d s2
      | .no => .no
def forR (it : It) (t : T) (b : Slo → Sto → Fl) : Nat → Nat → Slo → Sto → Fl
  | 0, _, _, _ => .no
  | n + 1, i, e, s => match it.at s i with
    | none => .no
    | some none => .nx e s
    | some (some d) => match t.put d e with
      | none => .no
      | some e1 => match b e1 s with
        | .nx e2 s2 => forR it t b n (i + 1) e2 s2
        | .ct e2 s2 => forR it t b n (i + 1) e2 s2
        | .bk e2 s2 => .nx e2 s2
        | .rt d s2 => .rt d s2
        | .no => .no

def truR (r : R D) : R Bool := R.bind r fun d s => match tru s d with
  | some b => .ok b s
  | none => .no

/-! ### expressions -/
section
variable (g : G)
mutual
def evE : E → Slo → Sto → R D
  | .var i, env, s => match env[i]? with
    | some (some d) => .ok d s
    | _ => .no
  | .lit d, _, s => .ok d s
  | .glob k, _, s => match g.con k with
    | some d => .ok d s
    | none => .no
  | .bin o a b, env, s => R.bind (evE a env s) fun x s1 => R.bind (evE b env s1) fun y s2 => binD o x y s2
  | .neg a, env, s => R.bind (evE a env s) fun x s1 => match x with
    | .int i => .ok (.int (-i)) s1
    | _ => .no
  | .cmp o a b, env, s => R.bind (evE a env s) fun x s1 => R.bind (evE b env s1) fun y s2 => R.bind (cmpD g o x y s2) fun k s3 => .ok (.bl k) s3
  | .chain o p a b c, env, s => R.bind (evE a env s) fun x s1 => R.bind (evE b env s1) fun y s2 => R.bind (cmpD g o x y s2) fun k s3 => match k with
    | true => R.bind (evE c env s3) fun z s4 => R.bind (cmpD g p y z s4) fun k2 s5 => .ok (.bl k2) s5
    | false => .ok (.bl false) s3
  | .not_ a, env, s => R.bind (truR (evE a env s)) fun b s1 => .ok (.bl (!b)) s1
  | .and_ a b, env, s => R.bind (evE a env s) fun x s1 => match x with
    | .bl true => evE b env s1
    | .bl false => .ok (.bl false) s1
    | _ => .no
  | .or_ a b, env, s => R.bind (evE a env s) fun x s1 => match x with
    | .bl true => .ok (.bl true) s1
    | .bl false => evE b env s1
    | _ => .no
  | .ite c a b, env, s => R.bind (truR (evE c env s)) fun k s1 => match k with
    | true => evE a env s1
    | false => evE b env s1
  | .fld a k, env, s => R.bind (evE a env s) fun x s1 => match x with
    | .ref n => match insAt s1 n with
      | some (c, fs) => match g.cls c with
        | some q => match q.props.lookup k with
          | some f => g.fn f [.ref n] s1
          | none => match fs.lookup k with
            | some d => if q.fields.contains k = true then .ok d s1 else .no
            | none => .no
        | none => .no
      | none => .no
    | _ => .no
  | .tup es, env, s => R.bind (evEs es env s) fun xs s1 => if xs.length ≤ sizeLine then .ok (.tup xs) s1 else .no
  | .new l, env, s => R.bind (evL l env s) newL
  | .call f es, env, s => R.bind (evEs es env s) fun xs s1 => g.fn f xs s1
  | .meth o m es, env, s => R.bind (evE o env s) fun x s1 => match x with
    | .ref n => match insAt s1 n with
      | some (c, fs) => match g.cls c with
        | some q => match q.meths.lookup m with
          | some f => if fs.lookup m = none then R.bind (evEs es env s1) fun xs s2 => g.fn f (.ref n :: xs) s2 else .no
          | none => .no
        | none => .no
      | none => .no
    | _ => .no
  | .make c es, env, s => R.bind (evEs es env s) fun xs s1 => match g.cls c with
    | some q => R.bind (g.fn q.init (.ref s1.length :: xs) (s1 ++ [.ins c []])) fun d s2 => match d with
      | .non => .ok (.ref s1.length) s2
      | _ => .no
    | none => .no
  | .bi b es, env, s => R.bind (evEs es env s) fun xs s1 => biD b xs s1
  | .fold b l, env, s => R.bind (evL l env s) fun ds s1 => foldD b ds s1
  | .foldv b e, env, s => R.bind (evE e env s) fun x s1 => match itemsOf s1 x with
    | some ds => if tupOk b x = true then foldD b ds s1 else .no
    | none => .no
  | .bm m o e, env, s => R.bind (evE o env s) fun x s1 => match x with
    | .ref n => match lstAt s1 n with
      | some _ => R.bind (evE e env s1) fun y s2 => match lstAt s2 n with
        | some ds => match m with
          | .append => if ds.length < sizeLine then .ok .non (s2.set n (.lst (ds ++ [y]))) else .no
          | .extend => match y with
            | .ref k => match lstAt s2 k with
              | some es => if ds.length + es.length ≤ sizeLine then .ok .non (s2.set n (.lst (ds ++ es))) else .no
              | none => .no
            | _ => .no
        | none => .no
      | none => .no
    | _ => .no
  | .ix a i, env, s => R.bind (evE a env s) fun x s1 => R.bind (evE i env s1) fun k s2 => ixD x k s2
  | .sl a lo hi, env, s => R.bind (evE a env s) fun x s1 => R.bind (evE lo env s1) fun l s2 => R.bind (evE hi env s2) fun h s3 => match bnd lo l, bnd hi h with
    | some ol, some oh => slD x ol oh s3
    | _, _ => .no
  | .slk a lo hi st, env, s => R.bind (evE a env s) fun x s1 => R.bind (evE lo env s1) fun l s2 => R.bind (evE hi env s2) fun h s3 => R.bind (evE st env s3) fun k s4 => match bnd lo l, bnd hi h, k with
    | some ol, some oh, .int c => slkD x ol oh c s4
    | _, _, _ => .no
  | .dct es, env, s => R.bind (evEs es env s) fun xs s1 => match pairsD xs with
    | some kvs => if kvs.length ≤ 15 then .ok (.ref s1.length) (s1 ++ [.dct (mergeD [] kvs)]) else .no
    | none => .no
  | .dix o i, env, s => R.bind (evE o env s) fun x s1 => R.bind (evE i env s1) fun k s2 => match x with
    | .ref n => match dctAt s2 n with
      | some kvs => match keyOf k with
        | some q => match valD kvs q with
          | some d => .ok d s2
          | none => .no
        | none => .no
      | none => .no
    | _ => .no
def evEs : Es → Slo → Sto → R (List D)
  | .nil, _, s => .ok [] s
  | .cons e es, env, s => R.bind (evE e env s) fun x s1 => R.bind (evEs es env s1) fun xs s2 => .ok (x :: xs) s2
def evL : L → Slo → Sto → R (List D)
  | .comp own elt t it cond, env, s => R.bind (evI it env s) fun j s1 =>
      compR j t (wipeE env own) (fun e1 s => evC cond e1 s) (fun e1 s => evE elt e1 s) g.fuel 0 [] s1
  | .disp es, env, s => R.bind (evEs es env s) fun xs s1 => if xs.length ≤ sizeLine then .ok xs s1 else .no
  | .range es, env, s => R.bind (evEs es env s) fun xs s1 => match rangeD xs with
    | some ds => if ds.length ≤ sizeLine then .ok ds s1 else .no
    | none => .no
/-- a comprehension's condition, if it has one -/
def evC : Es → Slo → Sto → R Bool
  | .nil, _, s => .ok true s
  | .cons c _, env, s => truR (evE c env s)
def evI : I → Slo → Sto → R It
  | .seq e, env, s => R.bind (evE e env s) fun x s1 => match x with
    | .tup ds => .ok (.fix ds) s1
    | .rol ds => .ok (.fix ds) s1
    | .ref n => match lstAt s1 n with
      | some _ => .ok (.lst n) s1
      | none => .no
    | _ => .no
  | .fresh l, env, s => R.bind (evL l env s) fun ds s1 => .ok (.fix ds) s1
  | .range es, env, s => R.bind (evEs es env s) fun xs s1 => match rangeD xs with
    | some ds => .ok (.fix ds) s1
    | none => .no
  | .enum e, env, s => R.bind (evE e env s) fun x s1 => match x with
    | .ref n => match lstAt s1 n with
      | some _ => .ok (.enumL n) s1
      | none => .no
    | _ => .no
  | .zip a b, env, s => R.bind (evE a env s) fun x s1 => R.bind (evE b env s1) fun y s2 => match x, y with
    | .ref m, .ref n => match lstAt s2 m, lstAt s2 n with
      | some _, some _ => .ok (.zipL m n) s2
      | _, _ => .no
    | _, _ => .no
end

/-! ### statements -/
mutual
def evS : S → Slo → Sto → Fl
  | .asg t e, env, s => match evE g e env s with
    | .ok d s1 => match t.put d env with
      | some e1 => .nx e1 s1
      | none => .no
    | .no => .no
  | .par i j a b, env, s => match evE g a env s with
    | .ok x s1 => match evE g b env s1 with
      | .ok y s2 => .nx ((env.set i (some x)).set j (some y)) s2
      | .no => .no
    | .no => .no
  | .par3 i j k a b c, env, s => match evE g a env s with
    | .ok x s1 => match evE g b env s1 with
      | .ok y s2 => match evE g c env s2 with
        | .ok z s3 => .nx (((env.set i (some x)).set j (some y)).set k (some z)) s3
        | .no => .no
      | .no => .no
    | .no => .no
  | .setF o k e, env, s => match evE g e env s with
    | .ok d s1 => match evE g o env s1 with
      | .ok x s2 => match x with
        | .ref n => match insAt s2 n with
          | some (c, fs) => match g.cls c with
            | some q => if q.fields.contains k = true ∧ fs.length < 1000 then .nx env (s2.set n (.ins c (putD k d fs))) else .no
            | none => .no
          | none => .no
        | _ => .no
      | .no => .no
    | .no => .no
  | .setI o i e, env, s => match evE g e env s with
    | .ok d s1 => match evE g o env s1 with
      | .ok x s2 => match evE g i env s2 with
        | .ok k s3 => match x, k with
          | .ref n, .int k => match lstAt s3 n with
            | some ds => match ixN ds.length k with
              | some j => .nx env (s3.set n (.lst (ds.set j d)))
              | none => .no
            | none => .no
          | _, _ => .no
        | .no => .no
      | .no => .no
    | .no => .no
  | .ex e, env, s => match evE g e env s with
    | .ok _ s1 => .nx env s1
    | .no => .no
  | .ret e, env, s => match evE g e env s with
    | .ok d s1 => .rt d s1
    | .no => .no
  | .retN, _, s => .rt .non s
  | .ite c a b, env, s => match truR (evE g c env s) with
    | .ok true s1 => evSs a env s1
    | .ok false s1 => evSs b env s1
    | .no => .no
  | .whl c b, env, s => whlR (fun e s => truR (evE g c e s)) (fun e s => evSs b e s) g.fuel env s
  | .for_ t it b, env, s => match evI g it env s with
    | .ok j s1 => forR j t (fun e s => evSs b e s) g.fuel 0 env s1
    | .no => .no
  | .pass, env, s => .nx env s
  | .brk, env, s => .bk env s
  | .cnt, env, s => .ct env s
  | .never, _, _ => .no
def evSs : Ss → Slo → Sto → Fl
  | .nil, env, s => .nx env s
  | .cons a b, env, s => match evS a env s with
    | .nx e1 s1 => evSs b e1 s1
    | .rt d s1 => .rt d s1
    | .bk e1 s1 => .bk e1 s1
    | .ct e1 s1 => .ct e1 s1
    | .no => .no
end
end

/-- a def: how many parameters, how many names, its body -/
structure Fn where
  ar : Nat
  nn : Nat
  body : Ss
/-- the defs' worth, calls nested at most n deep -/
def fnN (tab : Nat → Option Fn) (con : Nat → Option D) (cls : Nat → Option Klass) (fuel : Nat) : Nat → Nat → List D → Sto → R D
  | 0, _, _, _ => .no
  | n + 1, f, xs, s => match tab f with
    | none => .no
    | some fn => if xs.length = fn.ar then
        match evSs ⟨fnN tab con cls fuel n, con, cls, fuel⟩ fn.body (xs.map some ++ List.replicate (fn.nn - fn.ar) none) s with
        | .nx _ s1 => .ok .non s1
        | .rt d s1 => .ok d s1
        | _ => .no
      else .no
end Pv

end
section
set_option Elab.async false
set_option linter.all false
set_option maxRecDepth 100000
set_option maxHeartbeats 4000000
/-! How values and stores lie in the abstract heap. -/
namespace Pv
open PySem L2

/-- a list that nobody writes -/
def SqR (K : PySem.W.Frag) (H : Hp) (a : Addr) (xs : List V) : Prop :=
  (∃ o, H a = some (.frz o (.lst xs))) ∨ ∀ H', SqL K H' a xs
mutual
inductive Rep (K : PySem.W.Frag) (ρ : List Addr) (H : Hp) : D → V → Prop
  | non : Rep K ρ H .non .non
  | bl (b : Bool) : Rep K ρ H (.bl b) (.bl b)
  | int (i : Int) : Rep K ρ H (.int i) (.int i)
  | str (x : Str) : Rep K ρ H (.str x) (.str x)
  | tup {ds : List D} {vs : List V} {a : Addr} : SqT K H a vs → RepL K ρ H ds vs → Rep K ρ H (.tup ds) (.ref a)
  | rol {ds : List D} {vs : List V} {a : Addr} : SqR K H a vs → RepL K ρ H ds vs → Rep K ρ H (.rol ds) (.ref a)
  | ref {n : Nat} {a : Addr} : ρ[n]? = some a → Rep K ρ H (.ref n) (.ref a)
inductive RepL (K : PySem.W.Frag) (ρ : List Addr) (H : Hp) : List D → List V → Prop
  | nil : RepL K ρ H [] []
  | cons {d : D} {v : V} {ds : List D} {vs : List V} : Rep K ρ H d v → RepL K ρ H ds vs → RepL K ρ H (d :: ds) (v :: vs)
end
/-- the names of attributes, the classes' places -/
structure Nam where
  nm : List Str
  cad : Nat → Addr
def RepF (Y : Nam) (K : PySem.W.Frag) (ρ : List Addr) (H : Hp) (p : Nat × D) (q : Str × V) : Prop := Y.nm[p.1]? = some q.1 ∧ Rep K ρ H p.2 q.2
def RepK (K : PySem.W.Frag) (ρ : List Addr) (H : Hp) (p : Key × D) (q : Key × V) : Prop := p.1 = q.1 ∧ Rep K ρ H p.2 q.2
def RepC (Y : Nam) (K : PySem.W.Frag) (ρ : List Addr) (H : Hp) (a : Addr) : Cell → Prop
  | .lst ds => ∃ vs, H a = some (.lst vs) ∧ RepL K ρ H ds vs
  | .ins c fs => ∃ dx gs, H a = some (.ins (Y.cad c) dx gs) ∧ Paired (RepF Y K ρ H) fs gs
  | .dct kvs => ∃ gs, H a = some (.dK gs) ∧ Paired (RepK K ρ H) kvs gs
structure RepS (Y : Nam) (K : PySem.W.Frag) (ρ : List Addr) (H : Hp) (s : Sto) : Prop where
  len : ρ.length = s.length
  nd : ρ.Nodup
  cell : ∀ (i : Nat) (c : Cell) (a : Addr), s[i]? = some c → ρ[i]? = some a → RepC Y K ρ H a c
structure RepE (K : PySem.W.Frag) (ρ : List Addr) (H : Hp) (e : Slo) (σ : St) : Prop where
  len : e.length = σ.length
  get : ∀ (i : Nat) (d : D), e[i]? = some (some d) → ∃ v, σ[i]? = some (some v) ∧ Rep K ρ H d v
def Fix : HO → Prop
  | .lst _ => False
  | .dK _ => False
  | .ins _ _ _ => False
  | _ => True
structure Ext (ρ : List Addr) (H : Hp) (ρ' : List Addr) (H' : Hp) : Prop where
  pre : ∃ more, ρ' = ρ ++ more
  new : ∀ a ∈ ρ', a ∈ ρ ∨ H a = none
  kep : ∀ a o, H a = some o → (a ∉ ρ ∨ Fix o) → H' a = some o

/-- enough for values to stay -/
structure Ext0 (ρ : List Addr) (H : Hp) (ρ' : List Addr) (H' : Hp) : Prop where
  pre : ∃ more, ρ' = ρ ++ more
  kep : ∀ a o, H a = some o → Fix o → H' a = some o

section
variable {Y : Nam} {K : PySem.W.Frag} {ρ ρ' ρ1 ρ2 : List Addr} {H H' H1 H2 : Hp}
theorem Ext.w (e : Ext ρ H ρ' H') : Ext0 ρ H ρ' H' := ⟨e.pre, fun a o h f => e.kep a o h (.inr f)⟩
theorem Ext.refl : Ext ρ H ρ H := ⟨⟨[], by simp⟩, fun _ h => .inl h, fun _ _ h _ => h⟩
theorem Ext.trans (a : Ext ρ H ρ1 H1) (b : Ext ρ1 H1 ρ2 H2) : Ext ρ H ρ2 H2 := by
  obtain ⟨m1, e1⟩ := a.pre
  obtain ⟨m2, e2⟩ := b.pre
  refine ⟨⟨m1 ++ m2, by rw [e2, e1, List.append_assoc]⟩, fun x hx => ?_, fun x o hx hf => ?_⟩
  · rcases b.new x hx with h | h
    · exact a.new x h
    · by_cases hm : x ∈ ρ
      · exact .inl hm
      · refine .inr ?_
        cases q : H x with
        | none => rfl
        | some o =>
          have := a.kep x o q (.inl hm)
          rw [h] at this; cases this
  · have h1 := a.kep x o hx hf
    refine b.kep x o h1 ?_
    rcases hf with hf | hf
    · refine .inl fun hm => ?_
      rcases a.new x hm with h | h
      · exact hf h
      · rw [hx] at h; cases h
    · exact .inr hf
theorem Ext0.at {n : Nat} {a : Addr} (e : Ext0 ρ H ρ' H') (h : ρ[n]? = some a) : ρ'[n]? = some a := by
  obtain ⟨m, q⟩ := e.pre
  rw [q, List.getElem?_append_left (List.getElem?_eq_some_iff.mp h).1, h]
theorem SqT.ext (e : Ext0 ρ H ρ' H') {a : Addr} {vs : List V} (h : SqT K H a vs) : SqT K H' a vs := by
  rcases h with (h | ⟨o, h⟩) | h
  · exact .inl (.inl (e.kep _ _ h trivial))
  · exact .inl (.inr ⟨o, e.kep _ _ h trivial⟩)
  · exact .inr h
theorem SqR.l {a : Addr} {vs : List V} (h : SqR K H a vs) : SqL K H a vs := by
  rcases h with ⟨o, h⟩ | h
  · exact .inl (.inr ⟨o, h⟩)
  · exact h H
theorem SqR.ext (e : Ext0 ρ H ρ' H') {a : Addr} {vs : List V} (h : SqR K H a vs) : SqR K H' a vs := by
  rcases h with ⟨o, h⟩ | h
  · exact .inl ⟨o, e.kep _ _ h trivial⟩
  · exact .inr h
mutual
theorem Rep.ext0 (e : Ext0 ρ H ρ' H') : ∀ {d : D} {v : V}, Rep K ρ H d v → Rep K ρ' H' d v
  | _, _, .non => .non
  | _, _, .bl b => .bl b
  | _, _, .int i => .int i
  | _, _, .str x => .str x
  | _, _, .tup h hs => .tup (SqT.ext e h) (RepL.ext0 e hs)
  | _, _, .rol h hs => .rol (SqR.ext e h) (RepL.ext0 e hs)
  | _, _, .ref h => .ref (e.at h)
theorem RepL.ext0 (e : Ext0 ρ H ρ' H') : ∀ {ds : List D} {vs : List V}, RepL K ρ H ds vs → RepL K ρ' H' ds vs
  | _, _, .nil => .nil
  | _, _, .cons h hs => .cons (Rep.ext0 e h) (RepL.ext0 e hs)
end
theorem Rep.ext (e : Ext ρ H ρ' H') {d : D} {v : V} (r : Rep K ρ H d v) : Rep K ρ' H' d v := r.ext0 e.w
theorem RepL.ext (e : Ext ρ H ρ' H') {ds : List D} {vs : List V} (r : RepL K ρ H ds vs) : RepL K ρ' H' ds vs := r.ext0 e.w
theorem RepE.ext0 (e : Ext0 ρ H ρ' H') {en : Slo} {σ : St} (r : RepE K ρ H en σ) : RepE K ρ' H' en σ :=
  ⟨r.len, fun i d h => let ⟨v, q, z⟩ := r.get i d h; ⟨v, q, z.ext0 e⟩⟩
theorem RepE.ext (e : Ext ρ H ρ' H') {en : Slo} {σ : St} (r : RepE K ρ H en σ) : RepE K ρ' H' en σ := r.ext0 e.w
theorem RepF.ext0 (e : Ext0 ρ H ρ' H') {p : Nat × D} {q : Str × V} (h : RepF Y K ρ H p q) : RepF Y K ρ' H' p q := ⟨h.1, h.2.ext0 e⟩
theorem RepF.ext (e : Ext ρ H ρ' H') {p : Nat × D} {q : Str × V} (h : RepF Y K ρ H p q) : RepF Y K ρ' H' p q := h.ext0 e.w
theorem RepL.length : ∀ {ds : List D} {vs : List V}, RepL K ρ H ds vs → ds.length = vs.length
  | _, _, .nil => rfl
  | _, _, .cons _ h => by rw [List.length_cons, List.length_cons, RepL.length h]
theorem RepL.append : ∀ {ds es : List D} {vs us : List V}, RepL K ρ H ds vs → RepL K ρ H es us → RepL K ρ H (ds ++ es) (vs ++ us)
  | _, _, _, _, .nil, h => h
  | _, _, _, _, .cons a h, k => .cons a (RepL.append h k)
theorem RepL.get : ∀ {ds : List D} {vs : List V} {i : Nat} {d : D}, RepL K ρ H ds vs → ds[i]? = some d → ∃ v, vs[i]? = some v ∧ Rep K ρ H d v
  | _, _, _, _, .nil, h => by simp at h
  | _, _, 0, _, .cons a _, h => by simp at h; subst h; exact ⟨_, rfl, a⟩
  | _, _, i + 1, d, .cons _ k, h => by
    obtain ⟨v, q, z⟩ := RepL.get (i := i) (d := d) k (by simpa using h)
    exact ⟨v, by simpa using q, z⟩
theorem RepL.get' : ∀ {ds : List D} {vs : List V} {i : Nat} {v : V}, RepL K ρ H ds vs → vs[i]? = some v → ∃ d, ds[i]? = some d ∧ Rep K ρ H d v
  | _, _, _, _, .nil, h => by simp at h
  | _, _, 0, _, .cons a _, h => by simp at h; subst h; exact ⟨_, rfl, a⟩
  | _, _, i + 1, d, .cons _ k, h => by
    obtain ⟨v, q, z⟩ := RepL.get' (i := i) (v := d) k (by simpa using h)
    exact ⟨v, by simpa using q, z⟩
theorem RepL.set {d : D} {v : V} (r : Rep K ρ H d v) : ∀ {ds : List D} {vs : List V} (i : Nat), RepL K ρ H ds vs → RepL K ρ H (ds.set i d) (vs.set i v)
  | _, _, _, .nil => .nil
  | _, _, 0, .cons _ k => .cons r k
  | _, _, i + 1, .cons a k => .cons a (RepL.set r i k)
theorem RepL.drop : ∀ {ds : List D} {vs : List V} (n : Nat), RepL K ρ H ds vs → RepL K ρ H (ds.drop n) (vs.drop n)
  | _, _, 0, h => h
  | _, _, _ + 1, .nil => .nil
  | _, _, n + 1, .cons _ h => RepL.drop n h
theorem RepL.take : ∀ {ds : List D} {vs : List V} (n : Nat), RepL K ρ H ds vs → RepL K ρ H (ds.take n) (vs.take n)
  | _, _, 0, _ => .nil
  | _, _, _ + 1, .nil => .nil
  | _, _, n + 1, .cons a h => .cons a (RepL.take n h)
/-- what stands at a tracked place of the store -/
theorem RepC.there {a : Addr} {c : Cell} (h : RepC Y K ρ H a c) : ∃ o, H a = some o := by
  cases c with
  | lst ds => obtain ⟨vs, e, _⟩ := h; exact ⟨_, e⟩
  | ins c fs => obtain ⟨dx, gs, e, _⟩ := h; exact ⟨_, e⟩
  | dct kvs => obtain ⟨gs, e, _⟩ := h; exact ⟨_, e⟩
theorem RepC.ext0 (e : Ext0 ρ H ρ' H') {a : Addr} {c : Cell} (h : RepC Y K ρ H a c) (s : H' a = H a) : RepC Y K ρ' H' a c := by
  cases c with
  | lst ds => obtain ⟨vs, q, r⟩ := h; exact ⟨vs, s.trans q, r.ext0 e⟩
  | ins c fs => obtain ⟨dx, gs, q, r⟩ := h; exact ⟨dx, gs, s.trans q, Paired.mapP r fun _ _ z => z.ext0 e⟩
  | dct kvs => obtain ⟨gs, q, r⟩ := h; exact ⟨gs, s.trans q, Paired.mapP r fun _ _ z => ⟨z.1, z.2.ext0 e⟩⟩
theorem RepC.ext (e : Ext ρ H ρ' H') {a : Addr} {c : Cell} (h : RepC Y K ρ H a c) (s : H' a = H a) : RepC Y K ρ' H' a c := h.ext0 e.w s
variable {s : Sto}
theorem RepS.cellAt (h : RepS Y K ρ H s) {n : Nat} {c : Cell} (q : s[n]? = some c) : ∃ a, ρ[n]? = some a ∧ RepC Y K ρ H a c := by
  have hl : n < ρ.length := by rw [h.len]; exact (List.getElem?_eq_some_iff.mp q).1
  exact ⟨ρ[n], by simp [hl], h.cell n c _ q (by simp [hl])⟩
theorem RepS.mem (h : RepS Y K ρ H s) {a : Addr} (m : a ∈ ρ) : ∃ o, H a = some o := by
  obtain ⟨i, hi, e⟩ := List.mem_iff_getElem.mp m
  have hs : i < s.length := by rw [← h.len]; exact hi
  exact (h.cell i s[i] a (by simp [hs]) (by simp [hi, e])).there
theorem RepS.fresh (h : RepS Y K ρ H s) {p : Addr} (n : H p = none) : p ∉ ρ := fun m => by
  obtain ⟨o, e⟩ := h.mem m
  rw [n] at e; cases e
/-- all that the store has is kept as it is -/
theorem RepS.keep (h : RepS Y K ρ H s) (e : Ext ρ H ρ H') (k : ∀ a ∈ ρ, H' a = H a) : RepS Y K ρ H' s :=
  ⟨h.len, h.nd, fun i c a q z => (h.cell i c a q z).ext e (k a (List.mem_of_getElem? z))⟩
/-- something that the store doesn't know is laid -/
theorem Ext.laid (p : Addr) (o : HO) (n : H p = none) : Ext ρ H ρ (upd H p o) :=
  ⟨⟨[], by simp⟩, fun _ h => .inl h, fun a u q _ => by rw [upd_ne (ne_of_none q n)]; exact q⟩
theorem RepS.laid (h : RepS Y K ρ H s) (p : Addr) (o : HO) (n : H p = none) : RepS Y K ρ (upd H p o) s :=
  h.keep (Ext.laid p o n) fun a m => upd_ne fun z => h.fresh n (z ▸ m)
/-- a list that the store doesn't know grows -/
theorem Ext0.grown (p : Addr) {xs ys : List V} (n : H p = some (.lst xs)) : Ext0 ρ H ρ (upd H p (.lst ys)) :=
  ⟨⟨[], by simp⟩, fun a u q f => by
    rw [upd_ne fun e => ?_]
    · exact q
    · subst e
      rw [n] at q; cases q
      exact f⟩
theorem RepS.grown (h : RepS Y K ρ H s) (p : Addr) {xs ys : List V} (n : H p = some (.lst xs)) (m : p ∉ ρ) : RepS Y K ρ (upd H p (.lst ys)) s :=
  ⟨h.len, h.nd, fun i c a q z => (h.cell i c a q z).ext0 (Ext0.grown p n) (upd_ne fun e => m (e ▸ List.mem_of_getElem? z))⟩
/-- .. which was new -/
theorem Ext.grown (e : Ext ρ1 H1 ρ H) (p : Addr) (o : HO) (n : H1 p = none) : Ext ρ1 H1 ρ (upd H p o) :=
  ⟨e.pre, e.new, fun a u q f => by
    rw [upd_ne (ne_of_none q n)]
    exact e.kep a u q f⟩
/-- .. which the store takes in -/
theorem RepS.takeIn (h : RepS Y K ρ H s) {p : Addr} (m : p ∉ ρ) {c : Cell} (hc : RepC Y K (ρ ++ [p]) H p c) : RepS Y K (ρ ++ [p]) H (s ++ [c]) := by
  refine ⟨by simp [h.len], ?_, fun i c' a q z => ?_⟩
  · rw [List.nodup_append]
    exact ⟨h.nd, by simp, fun a ha b hb e => m (by rw [List.mem_singleton.mp hb] at e; exact e ▸ ha)⟩
  · by_cases hi : i < s.length
    · rw [List.getElem?_append_left hi] at q
      rw [List.getElem?_append_left (by rw [h.len]; exact hi)] at z
      exact (h.cell i c' a q z).ext0 ⟨⟨[p], rfl⟩, fun _ _ x _ => x⟩ rfl
    · have hi' : i < s.length + 1 := by simpa using (List.getElem?_eq_some_iff.mp q).1
      have e : i = s.length := by omega
      subst e
      rw [List.getElem?_append_right (Nat.le_refl _)] at q
      rw [← h.len, List.getElem?_append_right (Nat.le_refl _)] at z
      simp at q z
      subst q z
      exact hc
theorem Ext.takeIn (e : Ext ρ1 H1 ρ H) {p : Addr} (n : H1 p = none) : Ext ρ1 H1 (ρ ++ [p]) H := by
  obtain ⟨m, q⟩ := e.pre
  refine ⟨⟨m ++ [p], by rw [q, List.append_assoc]⟩, fun a ha => ?_, fun a o q f => e.kep a o q f⟩
  rcases List.mem_append.mp ha with ha | ha
  · exact e.new a ha
  · rw [List.mem_singleton.mp ha]; exact .inr n
/-- a new cell -/
theorem Ext.made (p : Addr) (o : HO) (n : H p = none) : Ext ρ H (ρ ++ [p]) (upd H p o) :=
  ⟨⟨[p], rfl⟩, fun a h => by
    rcases List.mem_append.mp h with h | h
    · exact .inl h
    · rw [List.mem_singleton.mp h]; exact .inr n, fun a u q _ => by rw [upd_ne (ne_of_none q n)]; exact q⟩
theorem RepS.made (h : RepS Y K ρ H s) (p : Addr) (o : HO) (n : H p = none) {c : Cell} (hc : RepC Y K (ρ ++ [p]) (upd H p o) p c) : RepS Y K (ρ ++ [p]) (upd H p o) (s ++ [c]) := by
  have hp := h.fresh n
  refine ⟨by simp [h.len], ?_, fun i c' a q z => ?_⟩
  · rw [List.nodup_append]
    exact ⟨h.nd, by simp, fun a ha b hb e => hp (by rw [List.mem_singleton.mp hb] at e; exact e ▸ ha)⟩
  · by_cases hi : i < s.length
    · rw [List.getElem?_append_left hi] at q
      rw [List.getElem?_append_left (by rw [h.len]; exact hi)] at z
      exact (h.cell i c' a q z).ext (Ext.made p o n) (upd_ne fun w => hp (w ▸ List.mem_of_getElem? z))
    · have hi' : i < s.length + 1 := by simpa using (List.getElem?_eq_some_iff.mp q).1
      have e : i = s.length := by omega
      subst e
      rw [List.getElem?_append_right (Nat.le_refl _)] at q
      rw [← h.len, List.getElem?_append_right (Nat.le_refl _)] at z
      simp at q z
      subst q z
      exact hc
theorem made_at (h : RepS Y K ρ H s) (p : Addr) : (ρ ++ [p])[s.length]? = some p := by
  rw [← h.len, List.getElem?_append_right (Nat.le_refl _)]; simp
theorem RepS.newL (h : RepS Y K ρ H s) {p : Addr} (n : H p = none) {ds : List D} {vs : List V} (r : RepL K ρ H ds vs) : RepS Y K (ρ ++ [p]) (upd H p (.lst vs)) (s ++ [.lst ds]) :=
  h.made p _ n ⟨vs, upd_same, r.ext (Ext.made p _ n)⟩
/-- a cell is written -/
theorem Ext.wrote {n : Nat} {a : Addr} {u : HO} (o : HO) (z : ρ[n]? = some a) (q : H a = some u) (f : ¬ Fix u) : Ext ρ H ρ (upd H a o) :=
  ⟨⟨[], by simp⟩, fun _ h => .inl h, fun b w q' hf => by
    rw [upd_ne fun e => ?_]
    · exact q'
    · subst e
      rcases hf with hf | hf
      · exact hf (List.mem_of_getElem? z)
      · rw [q] at q'; cases q'; exact f hf⟩
theorem RepS.wrote (h : RepS Y K ρ H s) {n : Nat} {a : Addr} {u o : HO} (z : ρ[n]? = some a) (q : H a = some u) (f : ¬ Fix u) {c : Cell} (hc : RepC Y K ρ (upd H a o) a c) : RepS Y K ρ (upd H a o) (s.set n c) := by
  refine ⟨by simp [h.len], h.nd, fun i c' b q' z' => ?_⟩
  by_cases hi : n = i
  · subst hi
    rw [z] at z'; cases z'
    have hl : n < s.length := by rw [← h.len]; exact (List.getElem?_eq_some_iff.mp z).1
    rw [List.getElem?_set_self hl] at q'
    cases q'
    exact hc
  · rw [List.getElem?_set_ne hi] at q'
    refine (h.cell i c' b q' z').ext (Ext.wrote o z q f) (upd_ne fun e => ?_)
    subst e
    obtain ⟨h1, e1⟩ := List.getElem?_eq_some_iff.mp z
    obtain ⟨h2, e2⟩ := List.getElem?_eq_some_iff.mp z'
    exact hi ((List.getElem_inj h.nd).mp (e1.trans e2.symm))
theorem RepS.setL (h : RepS Y K ρ H s) {n : Nat} {a : Addr} {us : List V} (z : ρ[n]? = some a) (q : H a = some (.lst us)) {ds : List D} {vs : List V} (r : RepL K ρ H ds vs) : RepS Y K ρ (upd H a (.lst vs)) (s.set n (.lst ds)) :=
  h.wrote z q (fun x => x) ⟨vs, upd_same, r.ext (Ext.wrote _ z q fun x => x)⟩
/-- the list at a place -/
theorem RepS.gL (h : RepS Y K ρ H s) {n : Nat} {ds : List D} (q : Pv.lstAt s n = some ds) : ∃ a vs, ρ[n]? = some a ∧ H a = some (.lst vs) ∧ RepL K ρ H ds vs := by
  unfold Pv.lstAt at q
  split at q
  · rename_i ds' e
    cases q
    obtain ⟨a, z, vs, hv, r⟩ := h.cellAt e
    exact ⟨a, vs, z, hv, r⟩
  · cases q
theorem RepS.gI (h : RepS Y K ρ H s) {n : Nat} {c : Nat} {fs : List (Nat × D)} (q : Pv.insAt s n = some (c, fs)) : ∃ a dx gs, ρ[n]? = some a ∧ H a = some (.ins (Y.cad c) dx gs) ∧ Paired (RepF Y K ρ H) fs gs := by
  unfold Pv.insAt at q
  split at q
  · rename_i c' fs' e
    cases q
    obtain ⟨a, z, dx, gs, hv, r⟩ := h.cellAt e
    exact ⟨a, dx, gs, z, hv, r⟩
  · cases q
theorem Rep.ref_at {n : Nat} {v : V} (r : Rep K ρ H (.ref n) v) {a : Addr} (z : ρ[n]? = some a) : v = .ref a := by
  cases r with
  | ref h => rw [z] at h; cases h; rfl
/-- a list or a tuple's items -/
theorem RepS.gItems (h : RepS Y K ρ H s) {d : D} {ds : List D} (q : itemsOf s d = some ds) {v : V} (r : Rep K ρ H d v) : ∃ a vs, v = .ref a ∧ (SqL K H a vs ∨ (SqT K H a vs ∧ ∃ es, d = .tup es)) ∧ RepL K ρ H ds vs := by
  cases d with
  | tup es =>
    cases q
    cases r with
    | tup h1 h2 => exact ⟨_, _, rfl, .inr ⟨h1, _, rfl⟩, h2⟩
  | ref n =>
    obtain ⟨a, vs, z, hv, rl⟩ := h.gL q
    exact ⟨a, vs, r.ref_at z, .inl (SqL.of hv), rl⟩
  | rol es =>
    cases q
    cases r with
    | rol h1 h2 => exact ⟨_, _, rfl, .inl h1.l, h2⟩
  | non => cases q
  | bl b => cases q
  | int i => cases q
  | str x => cases q
theorem allBl_rep : ∀ {ds : List D} {bs : List Bool} {vs : List V}, allBl ds = some bs → RepL K ρ H ds vs → vs = bs.map V.bl
  | [], bs, _, h, .nil => by cases h; rfl
  | .bl b :: ds, bs, _, h, .cons r k => by
    unfold allBl at h
    split at h
    · rename_i bs' e
      cases h
      cases r
      rw [allBl_rep e k]; rfl
    · cases h
  | .non :: _, _, _, h, _ => by cases h
  | .int _ :: _, _, _, h, _ => by cases h
  | .str _ :: _, _, _, h, _ => by cases h
  | .tup _ :: _, _, _, h, _ => by cases h
  | .rol _ :: _, _, _, h, _ => by cases h
  | .ref _ :: _, _, _, h, _ => by cases h
theorem allInt_rep : ∀ {ds : List D} {bs : List Int} {vs : List V}, allInt ds = some bs → RepL K ρ H ds vs → vs = bs.map V.int
  | [], bs, _, h, .nil => by cases h; rfl
  | .int b :: ds, bs, _, h, .cons r k => by
    unfold allInt at h
    split at h
    · rename_i bs' e
      cases h
      cases r
      rw [allInt_rep e k]; rfl
    · cases h
  | .non :: _, _, _, h, _ => by cases h
  | .bl _ :: _, _, _, h, _ => by cases h
  | .str _ :: _, _, _, h, _ => by cases h
  | .tup _ :: _, _, _, h, _ => by cases h
  | .rol _ :: _, _, _, h, _ => by cases h
  | .ref _ :: _, _, _, h, _ => by cases h
theorem repInts : ∀ (ns : List Int), RepL K ρ H (ns.map .int) (ns.map V.int)
  | [] => .nil
  | n :: ns => .cons (.int n) (repInts ns)
mutual
theorem toPy_dp : ∀ {d : D} {p : PyData} {v : V}, toPy d = some p → Rep K ρ H d v → Dp K H v p
  | .non, p, _, h, r => by cases h; cases r; exact .non
  | .bl b, p, _, h, r => by cases h; cases r; exact .bl b
  | .int b, p, _, h, r => by cases h; cases r; exact .int b
  | .str b, p, _, h, r => by cases h; cases r; exact .str b
  | .tup ds, p, _, h, r => by
    unfold toPy at h
    split at h
    · rename_i xs e
      cases h
      cases r with
      | tup h1 h2 => exact .tup h1 (toPyL_dp e h2)
    · cases h
  | .rol ds, p, _, h, r => by
    unfold toPy at h
    split at h
    · rename_i xs e
      cases h
      cases r with
      | rol h1 h2 => exact .lst h1.l (toPyL_dp e h2)
    · cases h
  | .ref n, p, _, h, r => by cases h
theorem toPyL_dp : ∀ {ds : List D} {ps : List PyData} {vs : List V}, toPyL ds = some ps → RepL K ρ H ds vs → DpAll K H vs ps
  | [], ps, _, h, .nil => by cases h; exact .nil
  | d :: ds, ps, _, h, .cons r k => by
    unfold toPyL at h
    split at h
    · rename_i x e
      split at h
      · rename_i xs e2
        cases h
        exact .cons (toPy_dp e r) (toPyL_dp e2 k)
      · cases h
    · cases h
end
theorem RepS.py (h : RepS Y K ρ H s) {d : D} {p : PyData} (q : pyOf s d = some p) {v : V} (r : Rep K ρ H d v) : Dp K H v p := by
  cases d with
  | ref n =>
    simp only [pyOf] at q
    split at q
    · rename_i ds e
      split at q
      · rename_i xs e2
        cases q
        obtain ⟨a, vs, z, hv, rl⟩ := h.gL e
        rw [r.ref_at z]
        exact .lst (SqL.of hv) (toPyL_dp e2 rl)
      · cases q
    · cases q
  | tup ds => exact toPy_dp (d := .tup ds) q r
  | rol ds => exact toPy_dp (d := .rol ds) q r
  | non => exact toPy_dp (d := .non) q r
  | bl b => exact toPy_dp (d := .bl b) q r
  | int i => exact toPy_dp (d := .int i) q r
  | str x => exact toPy_dp (d := .str x) q r
/-- slots -/
theorem RepE.set {en : Slo} {σ : St} (r : RepE K ρ H en σ) (i : Nat) {d : D} {v : V} (h : Rep K ρ H d v) : RepE K ρ H (en.set i (some d)) (σ.set i (some v)) := by
  refine ⟨by simp [r.len], fun j e q => ?_⟩
  by_cases hj : i = j
  · subst hj
    have hl : i < en.length := by
      have := (List.getElem?_eq_some_iff.mp q).1
      simpa using this
    rw [List.getElem?_set_self hl] at q
    cases q
    exact ⟨v, by rw [List.getElem?_set_self (by rw [← r.len]; exact hl)], h⟩
  · rw [List.getElem?_set_ne hj] at q ⊢
    exact r.get j e q
theorem RepE.wipe {en : Slo} {σ : St} (r : RepE K ρ H en σ) : ∀ is : List Nat, RepE K ρ H (wipeE en is) (L2.wipe σ is)
  | [] => r
  | i :: is => by
    have ih := RepE.wipe r is
    refine ⟨by unfold wipeE L2.wipe; simp [ih.len], fun j e q => ?_⟩
    unfold wipeE at q
    unfold L2.wipe
    by_cases hj : i = j
    · subst hj
      have hl : i < (wipeE en is).length := by
        have := (List.getElem?_eq_some_iff.mp q).1
        simpa using this
      rw [List.getElem?_set_self hl] at q
      cases q
    · rw [List.getElem?_set_ne hj] at q ⊢
      exact ih.get j e q
end
end Pv

end
section
set_option Elab.async false
set_option linter.all false
set_option maxRecDepth 100000
set_option maxHeartbeats 4000000
/-! Operators and built-in calls: what they come to here is what the machine does. -/
namespace Pv
open PySem L2 PySem.Spec PyProof.Rows

/-- what is wanted behind a value d in a store s -/
def Post (Y : Nam) (K : PySem.W.Frag) (ρ : List Addr) (H : Hp) (s : Sto) (d : D) (Q : VK) : Prop :=
  ∀ ρ' H' v, Ext ρ H ρ' H' → RepS Y K ρ' H' s → Rep K ρ' H' d v → Q v H'
def PostB (Y : Nam) (K : PySem.W.Frag) (ρ : List Addr) (H : Hp) (s : Sto) (b : Bool) (Q : Bool → Hp → Prop) : Prop :=
  ∀ ρ' H', Ext ρ H ρ' H' → RepS Y K ρ' H' s → Q b H'
/-- two values, one value, many: the reading -/
def rD2 (Y : Nam) (K : PySem.W.Frag) (f : D → D → Sto → R D) : R2 := fun x y H Q => ∃ ρ s a b d s', RepS Y K ρ H s ∧ Rep K ρ H a x ∧ Rep K ρ H b y ∧ f a b s = .ok d s' ∧ Post Y K ρ H s' d Q
def rB2 (Y : Nam) (K : PySem.W.Frag) (f : D → D → Sto → R Bool) : R2 := fun x y H Q => ∃ ρ s a b k s', RepS Y K ρ H s ∧ Rep K ρ H a x ∧ Rep K ρ H b y ∧ f a b s = .ok k s' ∧ PostB Y K ρ H s' k fun k H' => Q (.bl k) H'
def rDn (Y : Nam) (K : PySem.W.Frag) (f : List D → Sto → R D) : List V → Hp → VK → Prop := fun xs H Q => ∃ ρ s ds d s', RepS Y K ρ H s ∧ RepL K ρ H ds xs ∧ f ds s = .ok d s' ∧ Post Y K ρ H s' d Q

section
variable {Y : Nam} {K : PySem.W.Frag} {ρ : List Addr} {H : Hp} {s : Sto} {d : D} {Q : VK}
theorem Post.now (p : Post Y K ρ H s d Q) (h : RepS Y K ρ H s) {v : V} (r : Rep K ρ H d v) : Q v H := p ρ H v .refl h r
theorem Post.laidT {ds : List D} (p : Post Y K ρ H s (.tup ds) Q) (h : RepS Y K ρ H s) {vs : List V} (r : RepL K ρ H ds vs) : ∀ a, H a = none → Q (.ref a) (upd H a (.tup vs)) := fun a n =>
  p ρ _ _ (.laid a _ n) (h.laid a _ n) (.tup (SqT.of upd_same) (r.ext (.laid a _ n)))
theorem Post.laidL {ds : List D} (p : Post Y K ρ H (s ++ [.lst ds]) (.ref s.length) Q) (h : RepS Y K ρ H s) {vs : List V} (r : RepL K ρ H ds vs) : ∀ a, H a = none → Q (.ref a) (upd H a (.lst vs)) := fun a n =>
  p _ _ _ (.made a _ n) (h.newL n r) (.ref (made_at h a))
theorem Post.ext {ρ1 : List Addr} {H1 : Hp} (e : Ext ρ H ρ1 H1) (p : Post Y K ρ H s d Q) : Post Y K ρ1 H1 s d Q := fun ρ' H' v e' h r => p ρ' H' v (e.trans e') h r
theorem PostB.ext {b : Bool} {Q : Bool → Hp → Prop} {ρ1 : List Addr} {H1 : Hp} (e : Ext ρ H ρ1 H1) (p : PostB Y K ρ H s b Q) : PostB Y K ρ1 H1 s b Q := fun ρ' H' e' h => p ρ' H' (e.trans e') h
theorem rep_int {i : Int} {v : V} (r : Rep K ρ H (.int i) v) : v = .int i := by cases r; rfl
theorem rep_bl {b : Bool} {v : V} (r : Rep K ρ H (.bl b) v) : v = .bl b := by cases r; rfl
theorem rep_str {x : Str} {v : V} (r : Rep K ρ H (.str x) v) : v = .str x := by cases r; rfl
theorem rep_non {v : V} (r : Rep K ρ H .non v) : v = .non := by cases r; rfl
end

def Bop.op : Bop → Operator
  | .add => .Add
  | .sub => .Sub
  | .mul => .Mult
  | .fdiv => .FloorDiv
  | .mod => .Mod
  | .pow => .Pow
  | .band => .BitAnd
  | .bor => .BitOr
  | .bxor => .BitXor
  | .shl => .LShift
  | .shr => .RShift
def Cop.op : Cop → CmpOp
  | .lt => .Lt
  | .le => .LtE
  | .gt => .Gt
  | .ge => .GtE
  | .eq => .Eq
  | .ne => .NotEq
  | .is_ => .Is
  | .isn => .IsNot
  | .in_ => .In
  | .nin => .NotIn

section
variable {Y : Nam} {X : Cx}
theorem op_powW : OpR X (binaryOp .Pow) (rI (fun i j => 0 ≤ j ∧ (Builtin.Int.intBits i : Int) * j ≤ 2 ^ 27) fun i j => .int (i ^ j.toNat)) := opI fun _ _ _ _ _ _ _ hc q => pow_int hc.1 hc.2 q

theorem bin_ok (o : Bop) : OpR X (binaryOp o.op) (rD2 Y X.K (binD o)) := by
  intro pins s σ H x y v u Q I rx ry h
  obtain ⟨ρ, st, a, b, d, s', hs, ra, rb, hf, p⟩ := h
  cases o with
  | add =>
    simp only [binD] at hf
    split at hf
    · cases hf; cases ra; cases rb
      exact op_add pins s σ H _ _ v u Q I rx ry ⟨_, _, rfl, rfl, p.now hs (.int _)⟩
    · split at hf
      · rename_i hl
        cases hf; cases ra; cases rb
        exact op_add_str pins s σ H _ _ v u Q I rx ry ⟨_, _, rfl, rfl, hl, p.now hs (.str _)⟩
      · cases hf
    · split at hf
      · rename_i as bs hl
        cases hf
        cases ra with
        | tup h1 h2 =>
          cases rb with
          | tup h3 h4 =>
            refine op_catA pins s σ H _ _ v u Q I rx ry ⟨_, _, _, _, rfl, rfl, h1, h3, by rw [← h2.length, ← h4.length]; exact hl, fun e => ?_, fun _ e => ?_, fun _ _ => ?_⟩
            · subst e
              cases h2
              exact p.now hs (.tup h3 h4)
            · subst e
              cases h4
              exact p.now hs (.tup h1 (by rw [List.append_nil]; exact h2))
            · exact p.laidT hs (h2.append h4)
      · cases hf
    · split at hf
      · rename_i m n as bs e1 e2
        split at hf
        · rename_i hl
          cases hf
          obtain ⟨a1, vs, z1, q1, r1⟩ := hs.gL e1
          obtain ⟨a2, us, z2, q2, r2⟩ := hs.gL e2
          cases ra.ref_at z1
          cases rb.ref_at z2
          exact op_cat pins s σ H _ _ v u Q I rx ry ⟨_, _, _, _, rfl, rfl, q1, q2, by rw [← r1.length, ← r2.length]; exact hl, p.laidL hs (r1.append r2)⟩
        · cases hf
      · cases hf
    · cases hf
  | sub =>
    simp only [binD] at hf
    split at hf
    · cases hf; cases ra; cases rb
      exact op_sub pins s σ H _ _ v u Q I rx ry ⟨_, _, rfl, rfl, p.now hs (.int _)⟩
    · cases hf
  | mul =>
    simp only [binD] at hf
    split at hf
    · split at hf
      · rename_i hc
        cases hf; cases ra; cases rb
        exact op_mulW pins s σ H _ _ v u Q I rx ry ⟨_, _, rfl, rfl, hc, p.now hs (.int _)⟩
      · cases hf
    · split at hf
      · rename_i m j a e1
        split at hf
        · rename_i hl
          cases hf
          obtain ⟨a1, vs, z1, q1, r1⟩ := hs.gL e1
          cases ra.ref_at z1
          cases rb
          have rep : ∀ k : Nat, RepL X.K ρ H (List.replicate k a).flatten (List.replicate k vs).flatten := fun k => by
            induction k with
            | zero => exact .nil
            | succ k ih =>
              rw [List.replicate_succ, List.replicate_succ, List.flatten_cons, List.flatten_cons]
              exact r1.append ih
          exact op_rep pins s σ H _ _ v u Q I rx ry ⟨_, _, _, rfl, rfl, q1, by omega, by omega, by rw [← r1.length]; exact hl.2, p.laidL hs (rep _)⟩
        · cases hf
      · cases hf
    · cases hf
  | fdiv =>
    simp only [binD] at hf
    split at hf
    · split at hf
      · rename_i hc
        cases hf; cases ra; cases rb
        exact op_fdivW pins s σ H _ _ v u Q I rx ry ⟨_, _, rfl, rfl, hc, p.now hs (.int _)⟩
      · cases hf
    · cases hf
  | mod =>
    simp only [binD] at hf
    split at hf
    · split at hf
      · rename_i hc
        cases hf; cases ra; cases rb
        exact op_mod pins s σ H _ _ v u Q I rx ry ⟨_, _, rfl, rfl, hc, p.now hs (.int _)⟩
      · cases hf
    · cases hf
  | pow =>
    simp only [binD] at hf
    split at hf
    · split at hf
      · rename_i hc
        cases hf; cases ra; cases rb
        exact op_powW pins s σ H _ _ v u Q I rx ry ⟨_, _, rfl, rfl, hc, p.now hs (.int _)⟩
      · cases hf
    · cases hf
  | band => cases hf
  | bor => cases hf
  | bxor => cases hf
  | shl => cases hf
  | shr => cases hf

theorem neg_ok : UnR X (unaryOp .USub) (fun x H Q => ∃ ρ s i, RepS Y X.K ρ H s ∧ Rep X.K ρ H (.int i) x ∧ Post Y X.K ρ H s (.int (-i)) Q) := by
  intro pins s σ H x v Q I rx h
  obtain ⟨ρ, st, i, hs, ra, p⟩ := h
  cases ra
  exact un_neg pins s σ H _ v Q I rx ⟨_, rfl, p.now hs (.int _)⟩

theorem flat_v {ρ : List Addr} {H : Hp} {a : D} {x : V} (r : Rep X.K ρ H a x) (f : flatD a = true) : flatV x = true := by
  cases r <;> first | rfl | cases f
theorem flat_all {ρ : List Addr} {H : Hp} : ∀ {ds : List D} {vs : List V}, RepL X.K ρ H ds vs → ds.all flatD = true → vs.all flatV = true
  | _, _, .nil, _ => rfl
  | _, _, .cons r k, h => by
    rw [List.all_cons, Bool.and_eq_true] at h
    rw [List.all_cons, flat_v r h.1, flat_all k h.2]; rfl
theorem eqF_v {ρ : List Addr} {H : Hp} {a b : D} {x y : V} (ra : Rep X.K ρ H a x) (rb : Rep X.K ρ H b y) (fa : flatD a = true) (fb : flatD b = true) : eqV x y = eqF a b := by
  cases ra <;> cases rb <;> first | rfl | cases fa | cases fb
theorem any_v {ρ : List Addr} {H : Hp} {b : D} {y : V} (rb : Rep X.K ρ H b y) (fb : flatD b = true) : ∀ {ds : List D} {vs : List V}, RepL X.K ρ H ds vs → ds.all flatD = true → (vs.any fun z => eqV z y) = ds.any fun z => eqF z b
  | _, _, .nil, _ => rfl
  | _, _, .cons r k, h => by
    rw [List.all_cons, Bool.and_eq_true] at h
    rw [List.any_cons, List.any_cons, eqF_v r rb h.1 fb, any_v rb fb k h.2]

/-- the comparisons that need no def -/
theorem eqD_ok (hu : X.A.units + 64 < cLine) : OpR X (compareOp .Eq) (rB2 Y X.K fun a b s => match eqD s a b with | some k => .ok k s | none => .no) := by
  intro pins s σ H x y v u Q I rx ry h
  obtain ⟨ρ, st, a, b, d, s', hs, ra, rb, hf, p⟩ := h
  dsimp only at hf
  split at hf
  · rename_i k e
    cases hf
    unfold eqD at e
    split at e
    · rename_i pa pb ea eb
      split at e
      · rename_i hh
        cases e
        exact op_eqD hu pins s σ H _ _ v u Q I rx ry ⟨pa, pb, hs.py ea ra, hs.py eb rb, hh.1, hh.2, p ρ H .refl hs⟩
      · cases e
    · cases e
  · cases hf
theorem neD_ok (hu : X.A.units + 64 < cLine) : OpR X (compareOp .NotEq) (rB2 Y X.K fun a b s => match eqD s a b with | some k => .ok (!k) s | none => .no) := by
  intro pins s σ H x y v u Q I rx ry h
  obtain ⟨ρ, st, a, b, d, s', hs, ra, rb, hf, p⟩ := h
  dsimp only at hf
  split at hf
  · rename_i k e
    cases hf
    unfold eqD at e
    split at e
    · rename_i pa pb ea eb
      split at e
      · rename_i hh
        cases e
        exact op_neD hu pins s σ H _ _ v u Q I rx ry ⟨pa, pb, hs.py ea ra, hs.py eb rb, hh.1, hh.2, p ρ H .refl hs⟩
      · cases e
    · cases e
  · cases hf

/-! ### built-in calls -/
theorem repl1 {K : PySem.W.Frag} {ρ : List Addr} {H : Hp} {d : D} {xs : List V} (r : RepL K ρ H [d] xs) : ∃ x, xs = [x] ∧ Rep K ρ H d x := by
  cases r with
  | cons a b => cases b; exact ⟨_, rfl, a⟩
theorem repl2 {K : PySem.W.Frag} {ρ : List Addr} {H : Hp} {d e : D} {xs : List V} (r : RepL K ρ H [d, e] xs) : ∃ x y, xs = [x, y] ∧ Rep K ρ H d x ∧ Rep K ρ H e y := by
  cases r with
  | cons a b => cases b with
    | cons c f => cases f; exact ⟨_, _, rfl, a, c⟩

theorem abs_ok : CallR X (.builtin "abs") (rDn Y X.K (biD .abs)) := by
  intro pins s σ H xs us Q I r h
  obtain ⟨ρ, st, ds, d, s', hs, rl, hf, p⟩ := h
  simp only [biD] at hf
  split at hf
  · cases hf
    obtain ⟨x, rfl, rx⟩ := repl1 rl
    cases rx
    exact call_abs pins s σ H _ us Q I r ⟨_, rfl, p.now hs (.int _)⟩
  · cases hf
theorem max2_ok (hc : X.calm = true) : CallR X (.builtin "max") (rDn Y X.K (biD .max2)) := by
  intro pins s σ H xs us Q I r h
  obtain ⟨ρ, st, ds, d, s', hs, rl, hf, p⟩ := h
  simp only [biD] at hf
  split at hf
  · cases hf
    obtain ⟨x, y, rfl, rx, ry⟩ := repl2 rl
    cases rx; cases ry
    exact call_max2 hc pins s σ H _ us Q I r ⟨_, _, rfl, p.now hs (.int _)⟩
  · cases hf
theorem min2_ok (hc : X.calm = true) : CallR X (.builtin "min") (rDn Y X.K (biD .min2)) := by
  intro pins s σ H xs us Q I r h
  obtain ⟨ρ, st, ds, d, s', hs, rl, hf, p⟩ := h
  simp only [biD] at hf
  split at hf
  · cases hf
    obtain ⟨x, y, rfl, rx, ry⟩ := repl2 rl
    cases rx; cases ry
    exact call_min2 hc pins s σ H _ us Q I r ⟨_, _, rfl, p.now hs (.int _)⟩
  · cases hf
theorem int_ok : CallR X (.type "int") (rDn Y X.K (biD .int)) := by
  intro pins s σ H xs us Q I r h
  obtain ⟨ρ, st, ds, d, s', hs, rl, hf, p⟩ := h
  simp only [biD] at hf
  split at hf
  · cases hf
    obtain ⟨x, rfl, rx⟩ := repl1 rl
    cases rx
    exact call_int1 pins s σ H _ us Q I r (.inl ⟨_, rfl, p.now hs (.int _)⟩)
  · cases hf
    obtain ⟨x, rfl, rx⟩ := repl1 rl
    cases rx
    exact call_int1 pins s σ H _ us Q I r (.inr ⟨_, rfl, p.now hs (.int _)⟩)
  · cases hf
theorem bool_ok : CallR X (.type "bool") (rDn Y X.K (biD .bool)) := by
  intro pins s σ H xs us Q I r h
  obtain ⟨ρ, st, ds, d, s', hs, rl, hf, p⟩ := h
  simp only [biD] at hf
  split at hf
  · cases hf
    obtain ⟨x, rfl, rx⟩ := repl1 rl
    cases rx
    exact call_bool1 pins s σ H _ us Q I r (.inl ⟨_, rfl, p.now hs (.bl _)⟩)
  · cases hf
    obtain ⟨x, rfl, rx⟩ := repl1 rl
    cases rx
    exact call_bool1 pins s σ H _ us Q I r (.inr ⟨_, rfl, p.now hs (.bl _)⟩)
  · cases hf
theorem str_ok : CallR X (.type "str") (rDn Y X.K (biD .str)) := by
  intro pins s σ H xs us Q I r h
  obtain ⟨ρ, st, ds, d, s', hs, rl, hf, p⟩ := h
  simp only [biD] at hf
  split at hf
  · split at hf
    · rename_i hc
      cases hf
      obtain ⟨x, rfl, rx⟩ := repl1 rl
      cases rx
      exact call_str_int pins s σ H _ us Q I r ⟨_, rfl, hc, p.now hs (.str _)⟩
    · cases hf
  · cases hf
theorem divmod_ok : CallR X (.builtin "divmod") (rDn Y X.K (biD .divmod)) := by
  intro pins s σ H xs us Q I r h
  obtain ⟨ρ, st, ds, d, s', hs, rl, hf, p⟩ := h
  simp only [biD] at hf
  split at hf
  · split at hf
    · rename_i hc
      cases hf
      obtain ⟨x, y, rfl, rx, ry⟩ := repl2 rl
      cases rx; cases ry
      exact call_divmodW pins s σ H _ us Q I r ⟨_, _, rfl, hc, p.laidT hs (.cons (.int _) (.cons (.int _) .nil))⟩
    · cases hf
  · cases hf

/-! ### isinstance -/
/-- the type of a value's kind -/
theorem tyx_tup {ρ : List Addr} {H : Hp} {ds : List D} {v : V} (r : Rep X.K ρ H (.tup ds) v) : TyX X.K H v (.type "tuple") := by
  cases r with
  | tup h _ =>
    rcases h with (h | ⟨o, h⟩) | ⟨o, its, n, h, hc, _⟩
    · exact .base (.tup h)
    · exact .fTuple h
    · exact .kTuple h hc
theorem isi_ok (b : Bi) (T : String) (hb : (b = .isInt ∧ T = "int") ∨ (b = .isBool ∧ T = "bool") ∨ (b = .isStr ∧ T = "str") ∨ (b = .isTup ∧ T = "tuple")) :
    CallR X (.builtin "isinstance") (fun xs H Q => ∃ ρ s a x d s', xs = [x, .ty T] ∧ RepS Y X.K ρ H s ∧ Rep X.K ρ H a x ∧ biD b [a] s = .ok d s' ∧ Post Y X.K ρ H s' d Q) := by
  intro pins s σ H xs us Q I r h
  obtain ⟨ρ, st, a, x, d, s', rfl, hs, ra, hf, p⟩ := h
  have go : ∀ (t : String) (k : Bool), TyX X.K H x (.type t) → PySem.W.kitOne X.K (.type t) (.type T) = some k → Q (.bl k) H → wpAny (model X.prog X.w) X.A (call (.builtin "isinstance") us) (EP X pins σ Q) X.xe s := fun t k ty e q =>
    call_isi pins s σ H _ us Q I r ⟨x, .ty T, _, _, k, rfl, .ty T, ty, e, q⟩
  have lst : ∀ {n : Nat} {ds : List D}, a = .ref n → st[n]? = some (.lst ds) → TyX X.K H x (.type "list") := fun {n ds} e q => by
    subst e
    obtain ⟨ad, z, vs, hv, _⟩ := hs.cellAt q
    rw [ra.ref_at z]
    exact .base (.lst hv)
  rcases hb with ⟨rfl, rfl⟩ | ⟨rfl, rfl⟩ | ⟨rfl, rfl⟩ | ⟨rfl, rfl⟩
  all_goals
    cases a with
    | int i => simp only [biD] at hf; cases hf; cases ra; exact go "int" _ (.base (.int i)) (by first | rfl | kernel_rfl) (p.now hs (.bl _))
    | bl i => simp only [biD] at hf; cases hf; cases ra; exact go "bool" _ (.base (.bl i)) (by first | rfl | kernel_rfl) (p.now hs (.bl _))
    | str i => simp only [biD] at hf; cases hf; cases ra; exact go "str" _ (.base (.str i)) (by first | rfl | kernel_rfl) (p.now hs (.bl _))
    | non => simp only [biD] at hf; cases hf; cases ra; exact go "NoneType" _ (.base .non) (by first | rfl | kernel_rfl) (p.now hs (.bl _))
    | tup ds => simp only [biD] at hf; cases hf; exact go "tuple" _ (tyx_tup ra) (by first | rfl | kernel_rfl) (p.now hs (.bl _))
    | rol ds => simp only [biD] at hf; cases hf
    | ref n =>
      simp only [biD] at hf
      split at hf
      · rename_i q
        cases hf
        exact go "list" _ (lst rfl q) (by first | rfl | kernel_rfl) (p.now hs (.bl _))
      · cases hf
end
end Pv

end
section
set_option Elab.async false
set_option linter.all false
set_option maxRecDepth 100000
set_option maxHeartbeats 4000000
/-! What is reckoned of the items of a list or a tuple. -/
namespace PySem
section
variable {prog : Program} {w : World} {A : Around} {E : Value → Shared → Prop} {s : Shared} {l : Addr} {xs : Array (Int × Tok)}
/-- behind the iterator over a tuple all is kept -/
theorem pv_kept {h' : Heap} {o0 : Obj} (hk : ∀ c o, c ∉ [s.heap.objs.size] → (s.heap.push o0).get? c = some o → h'.get? c = some o) : ∀ c o, s.heap.get? c = some o → h'.get? c = some o := fun c o e => by
  refine hk c o (fun m => ?_) (Heap.get?_push_of_some _ e)
  have q : c = s.heap.objs.size := by simpa using m
  exact absurd (q ▸ Heap.lt_size e) (Nat.lt_irrefl _)
theorem pv_sum_tup {Q : Value → Shared → Prop} (hh : A.handled = none) (ht : s.heap.IsTuple l (intItems xs))
    (h : ∀ h' tk t', (∀ b o, s.heap.get? b = some o → h'.get? b = some o) → Q (.int (preSum (numAt xs) xs.size) t') { s with heap := h', toks := tk }) :
    wpAny (model prog w) A (call (.builtin "sum") [.ref l]) Q E s := by
  refine call_sum_walkG (wpAny_pyIter_tuple ht ?_)
  have lt : l < s.heap.objs.size := by obtain ⟨o, e, _⟩ := ht; exact Heap.lt_size e
  refine ⟨_, [_, l], [_], _, _, _, numAt xs, rfl, Walks.tuple (A := A.in1) hh _ l (Nat.ne_of_lt lt) (intItems xs), ⟨⟨_, Heap.get?_push_size _ rfl, rfl, rfl⟩, ht.push _⟩, fun c hc => ?_, (fun _ _ => intItems_at), fun h' tk t' hk => ?_⟩
  · show c < (s.heap.push _).objs.size
    rw [Heap.size_push]
    rcases List.mem_cons.mp hc with e | hc
    · rw [e]; exact Nat.lt_succ_self _
    · rw [List.mem_singleton.mp hc]; exact Nat.lt_succ_of_lt lt
  · have q := h h' tk t' (pv_kept hk)
    simpa [intItems] using q
theorem pv_max_tup {Q : Value → Shared → Prop} (hh : A.handled = none) (ht : s.heap.IsTuple l (intItems xs)) (hne : 0 < xs.size)
    (h : ∀ v h' tk, (intItems xs)[argBest (fun i j => decide (numAt xs i > numAt xs j)) (xs.size - 1)]? = some v → (∀ b o, s.heap.get? b = some o → h'.get? b = some o) → Q v { s with heap := h', toks := tk }) :
    wpAny (model prog w) A (call (.builtin "max") [.ref l]) Q E s := by
  refine call_max_walk (wpAny_pyIter_tuple ht ?_)
  have lt : l < s.heap.objs.size := by obtain ⟨o, e, _⟩ := ht; exact Heap.lt_size e
  refine ⟨_, [_, l], [_], _, _, _, _, rfl, Walks.tuple (A := A.in1) hh _ l (Nat.ne_of_lt lt) (intItems xs), ⟨⟨_, Heap.get?_push_size _ rfl, rfl, rfl⟩, ht.push _⟩, fun c hc => ?_, by simpa [intItems] using hne, CmpOf.ints_gt (numAt xs) (fun _ _ => intItems_at), fun v h' tk hP hk => ?_⟩
  · show c < (s.heap.push _).objs.size
    rw [Heap.size_push]
    rcases List.mem_cons.mp hc with e | hc
    · rw [e]; exact Nat.lt_succ_self _
    · rw [List.mem_singleton.mp hc]; exact Nat.lt_succ_of_lt lt
  · exact h v h' tk (by simpa [intItems] using hP) (pv_kept hk)
theorem pv_min_tup {Q : Value → Shared → Prop} (hh : A.handled = none) (ht : s.heap.IsTuple l (intItems xs)) (hne : 0 < xs.size)
    (h : ∀ v h' tk, (intItems xs)[argBest (fun i j => decide (numAt xs i < numAt xs j)) (xs.size - 1)]? = some v → (∀ b o, s.heap.get? b = some o → h'.get? b = some o) → Q v { s with heap := h', toks := tk }) :
    wpAny (model prog w) A (call (.builtin "min") [.ref l]) Q E s := by
  refine call_min_walk (wpAny_pyIter_tuple ht ?_)
  have lt : l < s.heap.objs.size := by obtain ⟨o, e, _⟩ := ht; exact Heap.lt_size e
  refine ⟨_, [_, l], [_], _, _, _, _, rfl, Walks.tuple (A := A.in1) hh _ l (Nat.ne_of_lt lt) (intItems xs), ⟨⟨_, Heap.get?_push_size _ rfl, rfl, rfl⟩, ht.push _⟩, fun c hc => ?_, by simpa [intItems] using hne, CmpOf.ints_lt (numAt xs) (fun _ _ => intItems_at), fun v h' tk hP hk => ?_⟩
  · show c < (s.heap.push _).objs.size
    rw [Heap.size_push]
    rcases List.mem_cons.mp hc with e | hc
    · rw [e]; exact Nat.lt_succ_self _
    · rw [List.mem_singleton.mp hc]; exact Nat.lt_succ_of_lt lt
  · exact h v h' tk (by simpa [intItems] using hP) (pv_kept hk)
end
end PySem

namespace Pv
open PySem L2 PySem.Spec PyProof.Rows
/-! ### lists of ints -/
theorem maxI_mem : ∀ (ns : List Int) (m : Int), maxI m ns ∈ m :: ns
  | [], m => List.mem_cons_self
  | y :: ys, m => by
    unfold maxI
    rcases List.mem_cons.mp (maxI_mem ys (if m < y then y else m)) with e | e
    · rw [e]; split
      · exact List.mem_cons_of_mem _ List.mem_cons_self
      · exact List.mem_cons_self
    · exact List.mem_cons_of_mem _ (List.mem_cons_of_mem _ e)
theorem maxI_ge : ∀ (ns : List Int) (m : Int), ∀ y ∈ m :: ns, y ≤ maxI m ns
  | [], m, y, h => by rw [List.mem_singleton.mp h]; exact Int.le_refl _
  | z :: zs, m, y, h => by
    have b := maxI_ge zs (if m < z then z else m) _ List.mem_cons_self
    show y ≤ maxI (if m < z then z else m) zs
    have c : m ≤ (if m < z then z else m) ∧ z ≤ (if m < z then z else m) := by split <;> omega
    rcases List.mem_cons.mp h with e | h
    · rw [e]; exact Int.le_trans c.1 b
    · rcases List.mem_cons.mp h with e | h
      · rw [e]; exact Int.le_trans c.2 b
      · exact maxI_ge zs _ y (List.mem_cons_of_mem _ h)
theorem minI_mem : ∀ (ns : List Int) (m : Int), minI m ns ∈ m :: ns
  | [], m => List.mem_cons_self
  | y :: ys, m => by
    unfold minI
    rcases List.mem_cons.mp (minI_mem ys (if y < m then y else m)) with e | e
    · rw [e]; split
      · exact List.mem_cons_of_mem _ List.mem_cons_self
      · exact List.mem_cons_self
    · exact List.mem_cons_of_mem _ (List.mem_cons_of_mem _ e)
theorem minI_le : ∀ (ns : List Int) (m : Int), ∀ y ∈ m :: ns, minI m ns ≤ y
  | [], m, y, h => by rw [List.mem_singleton.mp h]; exact Int.le_refl _
  | z :: zs, m, y, h => by
    have b := minI_le zs (if z < m then z else m) _ List.mem_cons_self
    show minI (if z < m then z else m) zs ≤ y
    have c : (if z < m then z else m) ≤ m ∧ (if z < m then z else m) ≤ z := by split <;> omega
    rcases List.mem_cons.mp h with e | h
    · rw [e]; exact Int.le_trans b c.1
    · rcases List.mem_cons.mp h with e | h
      · rw [e]; exact Int.le_trans b c.2
      · exact minI_le zs _ y (List.mem_cons_of_mem _ h)
theorem insI_perm (x : Int) : ∀ ns : List Int, (insI x ns).Perm (x :: ns)
  | [] => .refl _
  | y :: ys => by
    unfold insI
    split
    · exact .refl _
    · exact ((insI_perm x ys).cons y).trans (.swap x y ys)
theorem sortI_perm : ∀ ns : List Int, (sortI ns).Perm ns
  | [] => .refl _
  | x :: xs => (insI_perm x _).trans ((sortI_perm xs).cons x)
theorem insI_sorted (x : Int) : ∀ ns : List Int, ns.Pairwise (· ≤ ·) → (insI x ns).Pairwise (· ≤ ·)
  | [], _ => List.pairwise_singleton _ _
  | y :: ys, h => by
    obtain ⟨h1, h2⟩ := List.pairwise_cons.mp h
    unfold insI
    split
    · rename_i hx
      exact List.pairwise_cons.mpr ⟨fun z hz => (List.mem_cons.mp hz).elim (fun e => e ▸ hx) fun hz => Int.le_trans hx (h1 z hz), h⟩
    · rename_i hx
      refine List.pairwise_cons.mpr ⟨fun z hz => ?_, insI_sorted x ys h2⟩
      rcases List.mem_cons.mp ((insI_perm x ys).mem_iff.mp hz) with e | e
      · omega
      · exact h1 z e
theorem sortI_sorted : ∀ ns : List Int, (sortI ns).Pairwise (· ≤ ·)
  | [] => .nil
  | x :: xs => insI_sorted x _ (sortI_sorted xs)
theorem sorted_one : ∀ {xs ys : List Int}, xs.Perm ys → xs.Pairwise (· ≤ ·) → ys.Pairwise (· ≤ ·) → xs = ys
  | [], ys, p, _, _ => (List.nil_perm.mp p).symm
  | x :: xs, [], p, _, _ => absurd (List.perm_nil.mp p) (by simp)
  | x :: xs, y :: ys, p, h, k => by
    obtain ⟨h1, h2⟩ := List.pairwise_cons.mp h
    obtain ⟨k1, k2⟩ := List.pairwise_cons.mp k
    have e : x = y := by
      have a : x ≤ y := (List.mem_cons.mp (p.mem_iff.mpr List.mem_cons_self)).elim (fun e => e ▸ Int.le_refl _) (h1 y)
      have b : y ≤ x := (List.mem_cons.mp (p.mem_iff.mp List.mem_cons_self)).elim (fun e => e ▸ Int.le_refl _) (k1 x)
      omega
    subst e
    rw [sorted_one (p.cons_inv) h2 k2]

section
variable {Y : Nam} {X : Cx}
theorem sumT_raw {pins : List (Addr × Obj)} {σ : L2.St} {H : Hp} {s : Shared} {Q : VK} {a : Addr} {ns : List Int} (I : Inv X pins σ H s) (hc : X.calm = true) (hs : SqT X.K H a (ns.map V.int)) (q : Q (.int ns.sum) H) :
    wpAny (model X.prog X.w) X.A (call (.builtin "sum") [.ref a]) (EP X pins σ Q) X.xe s := by
  obtain ⟨its, rv, ht, _⟩ := I.tuple hs
  have hi := rv.ints
  obtain ⟨xs, e⟩ := hi.allInts.items
  have hn : numsOf (intItems xs).toList = ns := by rw [← e]; exact hi.numsOf
  rw [nums_intItems] at hn
  rw [e] at ht
  refine PySem.pv_sum_tup (I.ok.hd hc) ht fun h' tk t' hk => ⟨.int _, H, I.kept hk, ⟨t', rfl⟩, ?_⟩
  rw [preSum_eq, List.take_of_length_le (by simp), hn]
  exact q
theorem bestT_raw {pins : List (Addr × Obj)} {σ : L2.St} {H : Hp} {s : Shared} {Q : VK} {a : Addr} {ns : List Int} (I : Inv X pins σ H s) (hc : X.calm = true) (hs : SqT X.K H a (ns.map V.int)) (hne : 0 < ns.length) :
    ((∀ m, m ∈ ns → (∀ y, y ∈ ns → y ≤ m) → Q (.int m) H) → wpAny (model X.prog X.w) X.A (call (.builtin "max") [.ref a]) (EP X pins σ Q) X.xe s) ∧
    ((∀ m, m ∈ ns → (∀ y, y ∈ ns → m ≤ y) → Q (.int m) H) → wpAny (model X.prog X.w) X.A (call (.builtin "min") [.ref a]) (EP X pins σ Q) X.xe s) := by
  obtain ⟨its, rv, ht, _⟩ := I.tuple hs
  have hi := rv.ints
  obtain ⟨xs, e⟩ := hi.allInts.items
  have hn : numsOf (intItems xs).toList = ns := by rw [← e]; exact hi.numsOf
  rw [nums_intItems] at hn
  rw [e] at ht
  subst hn
  have hsz : 0 < xs.size := by simpa using hne
  constructor
  · intro q
    refine PySem.pv_max_tup (I.ok.hd hc) ht hsz fun v h' tk hv hk => ?_
    obtain ⟨t, rfl⟩ := intItems_at hv
    obtain ⟨h1, h2⟩ := argBest_gt (numAt xs) (xs.size - 1)
    refine ⟨.int _, H, I.kept hk, ⟨t, rfl⟩, q _ ?_ fun y hy => ?_⟩
    · rw [numAt_eq]; exact PySem.getD_mem (by rw [List.length_map, Array.length_toList]; omega)
    · obtain ⟨j, hj, rfl⟩ := mem_getD hy
      rw [List.length_map, Array.length_toList] at hj
      rw [← numAt_eq]; exact h2 j (by omega)
  · intro q
    refine PySem.pv_min_tup (I.ok.hd hc) ht hsz fun v h' tk hv hk => ?_
    obtain ⟨t, rfl⟩ := intItems_at hv
    obtain ⟨h1, h2⟩ := argBest_lt (numAt xs) (xs.size - 1)
    refine ⟨.int _, H, I.kept hk, ⟨t, rfl⟩, q _ ?_ fun y hy => ?_⟩
    · rw [numAt_eq]; exact PySem.getD_mem (by rw [List.length_map, Array.length_toList]; omega)
    · obtain ⟨j, hj, rfl⟩ := mem_getD hy
      rw [List.length_map, Array.length_toList] at hj
      rw [← numAt_eq]; exact h2 j (by omega)
end
end Pv
namespace Pv
open PySem L2 PySem.Spec PyProof.Rows
/-- the items at a are reckoned -/
def rFold (Y : Nam) (K : PySem.W.Frag) (b : Fb) : List V → Hp → VK → Prop := fun xs H Q => ∃ ρ s ds vs a d s', xs = [.ref a] ∧ RepS Y K ρ H s ∧ (SqL K H a vs ∨ SqT K H a vs) ∧ RepL K ρ H ds vs ∧ foldD b ds s = .ok d s' ∧ Post Y K ρ H s' d Q ∧ ((b = .all ∨ b = .any ∨ b = .sorted) → SqL K H a vs)
section
variable {Y : Nam} {X : Cx}
theorem fold_all (hc : X.calm = true) : CallR X (.builtin "all") (rFold Y X.K .all) := by
  intro pins s σ H xs us Q I r h
  obtain ⟨ρ, st, ds, vs, a, d, s', rfl, hs, hq, rl, hf, p, hl⟩ := h
  simp only [foldD] at hf
  split at hf
  · rename_i bs e
    cases hf
    have e2 := allBl_rep e rl
    subst e2
    exact cr_all hc pins s σ H _ us Q I r ⟨a, bs, rfl, hl (.inl rfl), p.now hs (.bl _)⟩
  · cases hf
theorem fold_any (hc : X.calm = true) : CallR X (.builtin "any") (rFold Y X.K .any) := by
  intro pins s σ H xs us Q I r h
  obtain ⟨ρ, st, ds, vs, a, d, s', rfl, hs, hq, rl, hf, p, hl⟩ := h
  simp only [foldD] at hf
  split at hf
  · rename_i bs e
    cases hf
    have e2 := allBl_rep e rl
    subst e2
    exact cr_any hc pins s σ H _ us Q I r ⟨a, bs, rfl, hl (.inr (.inl rfl)), p.now hs (.bl _)⟩
  · cases hf
theorem fold_sum (hc : X.calm = true) : CallR X (.builtin "sum") (rFold Y X.K .sum) := by
  intro pins s σ H xs us Q I r h
  obtain ⟨ρ, st, ds, vs, a, d, s', rfl, hs, hq, rl, hf, p, hl⟩ := h
  simp only [foldD] at hf
  split at hf
  · rename_i ns e
    cases hf
    have e2 := allInt_rep e rl
    subst e2
    rcases hq with hq | hq
    · exact cr_sum hc pins s σ H _ us Q I r ⟨a, ns, rfl, hq, p.now hs (.int _)⟩
    · rw [Vals.ref1 r]
      exact sumT_raw I hc hq (p.now hs (.int _))
  · cases hf
theorem fold_len : CallR X (.builtin "len") (rFold Y X.K .len) := by
  intro pins s σ H xs us Q I r h
  obtain ⟨ρ, st, ds, vs, a, d, s', rfl, hs, hq, rl, hf, p, hl⟩ := h
  simp only [foldD] at hf
  cases hf
  exact call_len_seq pins s σ H _ us Q I r ⟨a, vs, rfl, hq, by rw [← rl.length]; exact p.now hs (.int _)⟩
theorem fold_tuple : CallR X (.type "tuple") (rFold Y X.K .tuple) := by
  intro pins s σ H xs us Q I r h
  obtain ⟨ρ, st, ds, vs, a, d, s', rfl, hs, hq, rl, hf, p, hl⟩ := h
  simp only [foldD] at hf
  cases hf
  refine call_tuple_of pins s σ H _ us Q I r ⟨a, vs, rfl, ?_⟩
  rcases hq with hq | hq
  · exact .inl ⟨hq, p.laidT hs rl⟩
  · exact .inr ⟨hq, p.now hs (.tup hq rl)⟩
theorem fold_list : CallR X (.type "list") (rFold Y X.K .list) := by
  intro pins s σ H xs us Q I r h
  obtain ⟨ρ, st, ds, vs, a, d, s', rfl, hs, hq, rl, hf, p, hl⟩ := h
  simp only [foldD, newL] at hf
  cases hf
  exact call_list_of pins s σ H _ us Q I r ⟨a, vs, rfl, hq, p.laidL hs rl⟩
theorem fold_max (hc : X.calm = true) : CallR X (.builtin "max") (rFold Y X.K .max) := by
  intro pins s σ H xs us Q I r h
  obtain ⟨ρ, st, ds, vs, a, d, s', rfl, hs, hq, rl, hf, p, hl⟩ := h
  simp only [foldD] at hf
  split at hf
  · rename_i n ns e
    cases hf
    have e2 := allInt_rep e rl
    subst e2
    have fin : ∀ m, m ∈ n :: ns → (∀ y, y ∈ n :: ns → y ≤ m) → Q (.int m) H := fun m h1 h2 => by
      have q : m = maxI n ns := by
        have a := maxI_ge ns n m h1
        have b := h2 _ (maxI_mem ns n)
        omega
      subst q
      exact p.now hs (.int _)
    rcases hq with hq | hq
    · exact cr_max hc pins s σ H _ us Q I r ⟨a, n :: ns, rfl, hq, by simp, fin⟩
    · rw [Vals.ref1 r]
      exact (bestT_raw I hc hq (by simp)).1 fin
  · cases hf
theorem fold_min (hc : X.calm = true) : CallR X (.builtin "min") (rFold Y X.K .min) := by
  intro pins s σ H xs us Q I r h
  obtain ⟨ρ, st, ds, vs, a, d, s', rfl, hs, hq, rl, hf, p, hl⟩ := h
  simp only [foldD] at hf
  split at hf
  · rename_i n ns e
    cases hf
    have e2 := allInt_rep e rl
    subst e2
    have fin : ∀ m, m ∈ n :: ns → (∀ y, y ∈ n :: ns → m ≤ y) → Q (.int m) H := fun m h1 h2 => by
      have q : m = minI n ns := by
        have a := minI_le ns n m h1
        have b := h2 _ (minI_mem ns n)
        omega
      subst q
      exact p.now hs (.int _)
    rcases hq with hq | hq
    · exact cr_min hc pins s σ H _ us Q I r ⟨a, n :: ns, rfl, hq, by simp, fin⟩
    · rw [Vals.ref1 r]
      exact (bestT_raw I hc hq (by simp)).2 fin
  · cases hf
theorem fold_sorted : CallR X (.builtin "sorted") (rFold Y X.K .sorted) := by
  intro pins s σ H xs us Q I r h
  obtain ⟨ρ, st, ds, vs, a, d, s', rfl, hs, hq, rl, hf, p, hl⟩ := h
  simp only [foldD] at hf
  split at hf
  · rename_i ns e
    simp only [newL] at hf
    cases hf
    have e2 := allInt_rep e rl
    subst e2
    refine cr_sortedI pins s σ H _ us Q I r ⟨a, ns, rfl, hl (.inr (.inr rfl)), fun ns' p' pm so n => ?_⟩
    rw [sorted_one (pm.trans (sortI_perm ns).symm) so (sortI_sorted ns)]
    exact p.laidL hs (repInts _) p' n
  · cases hf
end
end Pv

end
section
set_option Elab.async false
set_option linter.all false
set_option maxRecDepth 100000
set_option maxHeartbeats 400000
/-! Calls of defs where nothing is being shown (no guards): promises, and the rules for them. -/
namespace Pv
open PySem L2 PySem.Spec PyProof.Rows

/-- as FnOk, where no repr runs around -/
structure FnG (P : Program) (w : World) (K : PySem.W.Frag) (mg : Str → Option Value) (base : Heap) (CX : CXT) (k : Nat) (f : Addr) (fd : FuncData) (ps : List Str) (sp : Sp) : Prop where
  len : ∀ vs H Q E, sp vs H Q E → vs.length = ps.length
  run : ∀ (A : Around) (outer : List Env) (s : Shared) (H : Hp) (as : Args) (us : List Value) (vs : List V) (Q : VK) (E : XK), Room k A → A.guards = some [] → Env0 P w K mg base A outer s H → BindsTo s fd as (ps.zip us) → Vals vs us →
    sp vs H Q E → codeAny (model P w) A (.call (.ref f) as) (CR CX outer P w H s Q E) s

/-- no star among the arguments -/
def noStar : List Expr → Bool
  | [] => true
  | .Starred _ _ :: _ => false
  | _ :: es => noStar es
theorem star_of {env : Env} : ∀ {es : List Expr}, noStar es = true → starEach es env = es.map fun e => (false, eval e env)
  | [], _ => rfl
  | e :: es, h => by
    have ih : noStar es = true → _ := star_of (env := env) (es := es)
    cases e <;> first | cases h | (simp only [starEach, List.map_cons]; rw [ih h])
theorem back_of {pos : Pos} {env : Env} (es : List Expr) : ((backTo pos (es.map fun e => (false, eval e env))).any (·.1)) = false := by
  induction es with
  | nil => rfl
  | cons e es ih => simpa [backTo] using ih
theorem backAll_of {pos : Pos} {env : Env} (es : List Expr) : ((backTo pos (es.map fun e => (false, eval e env))).all fun x => !x.1) = true := by
  induction es with
  | nil => rfl
  | cons e es ih => simpa [backTo] using ih
theorem noStar_tail {e : Expr} {es : List Expr} (h : noStar (e :: es) = true) : noStar es = true := by
  cases e <;> first | cases h | exact h

section
variable {X : Cx} {CX : CXT} {k : Nat} {f C : Addr} {fd : FuncData} {ps : List Str} {sp : Sp} {E : XK} {x m : Str} {p pos apos : Pos} {o : Expr} {es : List Expr} {ta : TE} {t : TA}
theorem FnG.go {pins : List (Addr × Obj)} {σ : L2.St} {H : Hp} {s : Shared} {Q : VK} {us : List Value} {vs : List V} (F : FnG X.prog X.w X.K X.mg X.base CX k f fd ps sp) (hr : Room k X.A) (gu : X.A.guards = some []) (hb : Binds X.K fd ps [])
    (hx : Passes CX X E) (I : Inv X pins σ H s) (r : Vals vs us) (h : sp vs H Q E) : wpAny (model X.prog X.w) X.A (call (.ref f) us) (EP X pins σ Q) X.xe s := by
  have hl : us.length = ps.length := by rw [← r.length]; exact F.len _ _ _ _ h
  have b := hb s us I.kIn (by simpa using hl)
  rw [List.append_nil] at b
  refine wpAny_call (codeAny_mono (F.run X.A X.stack s H ⟨us, []⟩ us vs Q E hr gu I.env0 b r h) fun z s' hq => ?_)
  match z, hq with
  | .error e, hq => exact hx pins σ H s e s' I hq
  | .ok (.ret u), hq => exact I.after hq

/-- arguments, then a call of what is kept -/
theorem args_then {pins : List (Addr × Obj)} {σ : L2.St} {H : Hp} {s : Shared} {Q : VK} {cal : Value} {first : List Value} {R : List V → Hp → Prop} (I : Inv X pins σ H s) (hk : PySem.W.keepIn X.K cal = true) (ns : noStar es = true) (nil : es = [] → ∀ σ H R, t σ H R → R [] H) (ha : PA X es t) (h : t σ H R)
    (go : ∀ us vs s1 H1, Inv X pins σ H1 s1 → Vals vs us → R vs H1 → wpAny (model X.prog X.w) X.A (call cal (first ++ us)) (EP X pins σ Q) X.xe s1) :
    wpAny (model X.prog X.w) X.A (callWith pos cal first (backTo pos (starEach es X.env)) []) (EP X pins σ Q) X.xe s := by
  cases es with
  | nil => exact PySem.W.callWith_K0 I.kIn hk (go [] [] s H I .nil (nil rfl σ H R h))
  | cons e rest =>
    have run := ha.run pos pins s σ H R I h
    have st := star_of (env := X.env) (noStar_tail ns)
    refine PySem.W.callWith_K (h₀ := X.base) I.ok.mod.kin hk (thn run fun us s1 ⟨vs, H1, I1, r, q⟩ => ⟨I1.kIn, go us vs s1 H1 I1 r q⟩) ?_ ?_
    · rw [star_of ns, st]; rfl
    · rw [st]; exact back_of _

theorem pe_callG (F : FnG X.prog X.w X.K X.mg X.base CX k f fd ps sp) (hr : Room k X.A) (gu : X.A.guards = some []) (hg : Gl X x) (hm : X.mg x = some (.ref f)) (hk : PySem.W.keepIn X.K (.ref f) = true) (hb : Binds X.K fd ps []) (hx : Passes CX X E)
    (ns : noStar es = true) (nil : es = [] → ∀ σ H R, t σ H R → R [] H) (ha : PA X es t) (hd : (x == ("__debug__" : Str)) = false) : PE X (.Call (.Name x p) es [] pos) (fun σ H Q => t σ H fun vs H1 => sp vs H1 Q E) := by
  refine ⟨fun pins s σ H Q I h => wpAny_Call_Name_kw (ld_glob I hg hm ?_ hd)⟩
  exact args_then (first := []) I hk ns nil ha h fun us vs s1 H1 I1 r q => F.go hr gu hb hx I1 r q

/-- o.m(..), o an instance -/
theorem pe_methG (he : PE X o ta) (cl : Cls X.K C) (hm : Meth X.K C m f) (F : FnG X.prog X.w X.K X.mg X.base CX k f fd ps sp) (hr : Room k X.A) (gu : X.A.guards = some []) (hb : Binds X.K fd ps []) (hx : Passes CX X E) (ns : noStar es = true) (nil : es = [] → ∀ σ H R, t σ H R → R [] H) (ha : PA X es t)
    (base : attributeBase o m X.env (eval o X.env) = eval o X.env) (few : es.length < 30) (line : (apos.endLine == pos.line) = true) :
    PE X (.Call (.Attribute o m apos) es [] pos) (fun σ H Q => ta σ H fun x H1 => ∃ a dx fs, x = .ref a ∧ H1 a = some (.ins C dx fs) ∧ fs.lookup m = none ∧ t σ H1 fun vs H2 => sp (x :: vs) H2 Q E) := by
  refine ⟨fun pins s σ H Q I h => ?_⟩
  have form : methodCallForm (es.length + ([] : List Keyword).length) (backTo pos (starEach es X.env)) (backToKw pos (keywordEach [] X.env)) = true := by
    unfold methodCallForm
    rw [star_of ns, backAll_of]
    simp only [Bool.true_and, Bool.and_eq_true, decide_eq_true_eq]
    exact ⟨rfl, by show es.length + 0 + 0 < 30; omega⟩
  have at_ : methodCallPos true o X.env apos pos = pure pos := by unfold methodCallPos; simp [line]
  rw [arm_eval_Call, base]
  refine wpAny_bind (thn (he.run pins s σ H _ I h) fun u s1 ⟨x, H1, I1, rx, a, dx, fs, ex, ea, lk, q⟩ => wpAny_bind (wpAny_standAt ?_))
  subst ex
  obtain rfl : u = Value.ref a := rx
  unfold methodCall
  rw [form]
  refine wpAny_bind (wpAny_holding (getmeth_ok I1 ea cl hm lk ?_))
  refine wpAny_bind (wpAny_of_eq at_ ?_)
  exact args_then (first := [.ref a]) I1 hm.kp ns nil ha q fun us vs s2 H2 I2 r q2 => F.go (us := Value.ref a :: us) (vs := V.ref a :: vs) hr gu hb hx I2 (.cons rfl r) q2

/-- C(..) -/
theorem FnG.make {pins : List (Addr × Obj)} {σ : L2.St} {H : Hp} {s : Shared} {Q : VK} {us : List Value} {vs : List V} (M : Mk X.K C f) (F : FnG X.prog X.w X.K X.mg X.base CX k f fd ps sp) (hr : Room (k + 1) X.A) (gu : X.A.guards = some [])
    (hb : Binds X.K fd ps []) (hx : Passes CX X E) (I : Inv X pins σ H s) (r : Vals vs us)
    (h : ∀ x dx, H x = none → H dx = none → dx ≠ x → sp (.ref x :: vs) (upd (upd H dx (.own x)) x (.ins C dx [])) (fun v H2 => v = .non ∧ Q (.ref x) H2) E) :
    wpAny (model X.prog X.w) X.A (call (.ref C) us) (EP X pins σ Q) X.xe s := by
  have want := h (s.heap.objs.size + 1) s.heap.objs.size (I.hok.fresh (Nat.le_succ _)) (I.hok.fresh (Nat.le_refl _)) (Nat.ne_of_lt (Nat.lt_succ_self _))
  have I2 := Inv.made (C := C) I
  have r2 : Vals (V.ref (s.heap.objs.size + 1) :: vs) (Value.ref (s.heap.objs.size + 1) :: us) := .cons rfl r
  have hl : (Value.ref (s.heap.objs.size + 1) :: us).length = ps.length := by rw [← r2.length]; exact F.len _ _ _ _ want
  have b := hb _ (Value.ref (s.heap.objs.size + 1) :: us) I2.kIn (by simpa using hl)
  rw [List.append_nil] at b
  have gu2 : (X.A.under (.builtin "type.__call__" ⟨.ref C :: us, []⟩)).guards = some [] := by
    simp [Around.under, pushGuards, gu, Code.guards, Code.isGuard, guardIds]
  have run := F.run _ X.stack _ _ ⟨Value.ref (s.heap.objs.size + 1) :: us, []⟩ _ _ _ E (hr.make C us []) gu2 (I2.env0.make C us []) b r2 want
  refine wpAny_call (make_map (f := f) I.kIn M.makes M.init (beq_iff_eq.mp M.fn) (codeAny_mono run fun z s' hz => ?_))
  match z, hz with
  | .error e, hz => exact hx pins σ _ _ e s' I2 hz
  | .ok (.ret u), hz =>
    obtain ⟨v, H', I3, rv, ev, q3⟩ := I2.after hz
    cases ev
    exact ⟨rv, V.ref (s.heap.objs.size + 1), H', I3, rfl, q3⟩
theorem pe_makeG (M : Mk X.K C f) (F : FnG X.prog X.w X.K X.mg X.base CX k f fd ps sp) (hr : Room (k + 1) X.A) (gu : X.A.guards = some []) (hg : Gl X x) (hm : X.mg x = some (.ref C)) (hb : Binds X.K fd ps []) (hx : Passes CX X E)
    (ns : noStar es = true) (nil : es = [] → ∀ σ H R, t σ H R → R [] H) (ha : PA X es t) (hd : (x == ("__debug__" : Str)) = false) : PE X (.Call (.Name x p) es [] pos) (fun σ H Q => t σ H fun vs H1 => ∀ y dx, H1 y = none → H1 dx = none → dx ≠ y →
      sp (.ref y :: vs) (upd (upd H1 dx (.own y)) y (.ins C dx [])) (fun v H2 => v = .non ∧ Q (.ref y) H2) E) := by
  refine ⟨fun pins s σ H Q I h => wpAny_Call_Name_kw (ld_glob I hg hm ?_ hd)⟩
  exact args_then (first := []) I M.kp ns nil ha h fun us vs s1 H1 I1 r q => F.make M hr gu hb hx I1 r q

/-- o.f, a property -/
theorem pe_propG (he : PE X o ta) (cl : Cls X.K C) {pa : Addr} (hp : PropOf X.K C m pa f) (F : FnG X.prog X.w X.K X.mg X.base CX k f fd ps sp) (hr : Room (k + 1) X.A) (gu : X.A.guards = some []) (hb : Binds X.K fd ps []) (hx : Passes CX X.nox E)
    (hab : attributeBase o m X.env (eval o X.env) = eval o X.env) : PE X (.Attribute o m pos) (fun σ H Q => ta σ H fun x H1 => ∃ a dx fs, x = .ref a ∧ H1 a = some (.ins C dx fs) ∧ sp [.ref a] H1 Q E) := by
  refine ⟨fun pins s0 σ H Q I0 h => attr_of hab (thn (he.run pins s0 σ H _ I0 h) fun u s ⟨x, H1, I, rx, a, dx, fs, ex, ea, q⟩ => ?_)⟩
  subst ex
  obtain rfl : u = Value.ref a := rx
  obtain ⟨mA, O, _⟩ := ins_get I.hok ea
  obtain ⟨od, J, _⟩ := O.look
  obtain ⟨more, hrec⟩ := hp.rec_
  have I1 := I.tok (s.toks + 1)
  have hl : [Value.ref a].length = ps.length := F.len _ _ _ _ q
  have b := hb { s with toks := s.toks + 1 } [.ref a] I1.kIn (by simpa using hl)
  rw [List.append_nil] at b
  have isc : (PySem.W.clsIn X.K C).isSome = true := by
    obtain ⟨cd, z, _⟩ := PySem.W.any_some cl.hd
    rw [z]; rfl
  have pg := PySem.W.plainGet_of (cl.get m)
  refine PySem.W.get_bind I.kIn J pg.1 (PySem.W.findObj_data isc hp.at_ hp.get hp.tak) pg.2 (wpAny_call (PySem.W.prop_get (s := { s with toks := s.toks + 1 }) I.kIn hrec ?_))
  refine codeAny_mono (F.run X.A.in1 X.stack { s with toks := s.toks + 1 } H1 ⟨[Value.ref a], []⟩ [Value.ref a] [V.ref a] Q E hr.in1 gu I1.env0.in1 b (.cons rfl .nil) q) fun z s' hz => ?_
  match z, hz with
  | .error e, hz => exact (hx pins σ H1 _ e s' (I1.wish _) hz).elim
  | .ok (.ret u), hz =>
    obtain ⟨v, H', I3, rv, q3⟩ := I1.after hz
    show wpAny _ _ (handedOut u) _ _ _
    rw [PySem.W.handedOut_of (handed_of rv)]
    exact wpAny_pure ⟨v, H', I3, rv, q3⟩

/-- x in o, o an instance whose class has __contains__ -/
theorem op_inG {pins : List (Addr × Obj)} {σ : L2.St} {H : Hp} {s : Shared} {Q : VK} {a dx : Addr} {fs : List (Str × V)} {y : V} {u : Value} (I : Inv X pins σ H s) (ea : H a = some (.ins C dx fs)) (ry : RelV y u)
    (hs : PySem.W.findIn X.K (.ref C) "__contains__" = some (some (.ref f))) (hf : PySem.W.isFn X.K (.ref f) = true) (F : FnG X.prog X.w X.K X.mg X.base CX k f fd ps sp) (hr : Room k X.A) (gu : X.A.guards = some []) (hb : Binds X.K fd ps []) (hx : Passes CX X E) :
    (sp [.ref a, y] H (fun v H' => ∃ b, v = .bl b ∧ Q (.bl b) H') E → wpAny (model X.prog X.w) X.A (compareOp .In u (.ref a)) (EP X pins σ Q) X.xe s) ∧
    (sp [.ref a, y] H (fun v H' => ∃ b, v = .bl b ∧ Q (.bl (!b)) H') E → wpAny (model X.prog X.w) X.A (compareOp .NotIn u (.ref a)) (EP X pins σ Q) X.xe s) := by
  obtain ⟨mA, O, _⟩ := ins_get I.hok ea
  obtain ⟨od, J, _⟩ := O.look
  obtain ⟨m0, fr⟩ := I.fr
  constructor
  · intro h
    refine PySem.W.in_K fr I.ok.mod.kin J hs hf ?_
    refine thn (F.go (vs := [V.ref a, y]) (us := [Value.ref a, u]) hr gu hb hx I (.cons rfl (.cons ry .nil)) h) fun r s' ⟨v, H', I2, rv, b, ev, q⟩ => ?_
    subst ev
    cases rv
    exact wpAny_truthy_bool ⟨.bl b, H', I2, rfl, q⟩
  · intro h
    refine PySem.W.notIn_K fr I.ok.mod.kin J hs hf ?_
    refine thn (F.go (vs := [V.ref a, y]) (us := [Value.ref a, u]) hr gu hb hx I (.cons rfl (.cons ry .nil)) h) fun r s' ⟨v, H', I2, rv, b, ev, q⟩ => ?_
    subst ev
    cases rv
    exact wpAny_truthy_bool ⟨.bl (!b), H', I2, rfl, q⟩
end

/-! ### repr -/
theorem repr_ok {Y : Nam} {X : Cx} (gu : X.A.guards = some []) (hu : X.A.units + 64 < cLine) : CallR X (.builtin "repr") (rDn Y X.K (biD .repr)) := by
  intro pins s σ H xs us Q I r h
  obtain ⟨ρ, st, ds, d, s', hs, rl, hf, p⟩ := h
  have obj : ∀ {e : D} {q : PyData}, ds = [e] → (∀ v, Rep X.K ρ H e v → ∃ a, v = .ref a) → pyOf st e = some q → (q.showable = true ∧ q.hasDict = false ∧ q.shown.length ≤ sizeLine ∧ q.depth ≤ 60) → R.ok (.str q.shown) st = R.ok d s' →
      wpAny (model X.prog X.w) X.A (call (.builtin "repr") us) (EP X pins σ Q) X.xe s := fun {e q} ee ev ep ⟨h1, h2, h3, h4⟩ hok => by
    subst ee
    cases hok
    obtain ⟨x, rfl, rx⟩ := repl1 rl
    obtain ⟨a, rfl⟩ := ev x rx
    rw [Vals.ref1 r]
    obtain ⟨as, rd⟩ := Dp.reads I q (.ref a) (.ref a) (hs.py ep rx) rfl
    exact repr_of_reads' rd h1 (PyData.noDict_hsm h2) gu (by omega) (fun _ _ e => e) (fun h' u tk hk => ⟨.str _, H, I.kept hk, ⟨u, rfl⟩, p.now hs (.str _)⟩) h3
  simp only [biD] at hf
  split at hf
  · split at hf
    · rename_i i hc
      cases hf
      obtain ⟨x, rfl, rx⟩ := repl1 rl
      cases rx
      exact SkE.call_repr_int pins s σ H _ us Q I r ⟨_, rfl, hc, p.now hs (.str _)⟩
    · cases hf
  · cases hf
    obtain ⟨x, rfl, rx⟩ := repl1 rl
    cases rx
    obtain ⟨u, rfl, ru⟩ := vals1 r
    cases ru
    exact PySem.P.repr_of_none ⟨.str _, H, I.tok _, ⟨_, rfl⟩, p.now hs (.str _)⟩
  · split at hf
    · rename_i q e
      split at hf
      · rename_i hc
        exact obj rfl (fun v rv => by cases rv; exact ⟨_, rfl⟩) e hc hf
      · cases hf
    · cases hf
  · split at hf
    · rename_i q e
      split at hf
      · rename_i hc
        exact obj rfl (fun v rv => by cases rv; exact ⟨_, rfl⟩) e hc hf
      · cases hf
    · cases hf
  · cases hf

/-! ### a def by its body -/
theorem fnG_of {CX : CXT} {P : Program} {w : World} {K : PySem.W.Frag} {mg : Str → Option Value} {base : Heap} {k : Nat} {f : Addr} {x qual : Str} {st : Stmt} {fd : FuncData} {N ps : List Str} {sp : Sp} (F : Fun K x qual st f fd) (S : FnScope N ps (defScope st))
    (len : ∀ vs H Q E, sp vs H Q E → vs.length = ps.length)
    (body : ∀ (cdv : Value) (A : Around) (outer : List Env) (s : Shared) (H : Hp) (vs : List V) (Q : VK) (E : XK), Room k (A.deeper (envOfC qual (defScope st) s.heap.objs.size f cdv)) → A.guards = some [] → sp vs H Q E →
      ∃ t, PSs (cxOf CX P w K mg base N qual (defScope st) f cdv A outer s H E) (defBody st) t ∧ t { nx := fun _ H' => Q .non H', rt := Q } (start N vs) H) :
    FnG P w K mg base CX (k + 1) f fd ps sp := by
  obtain ⟨oc, od, kV, doc, pm, an, cdv, ct, osl, rfl, lk, hcd⟩ := F.ex
  refine ⟨len, fun A outer s H as us vs Q E hr gu e0 hb r hsp => ?_⟩
  -- the promise of FnOk's rule, taken at this one caller
  have one : ∀ vs' H' Q' E', (vs' = vs ∧ H' = H ∧ Q' = Q ∧ E' = E ∧ A.guards = some []) → vs'.length = ps.length := fun vs' H' Q' E' z => z.1 ▸ len vs H Q E hsp
  have kin : K.In s.heap := e0.mod.kin.keeps fun b o e => (e0.bs b o e).1
  have lim : s.heap.NoLimit := e0.mod.nolimit.keeps fun b o e => (e0.bs b o e).1
  have hl := len _ _ _ _ hsp
  have par : ∀ y ∈ ps.zip us, (defScope st).names.lookup y.1 = some .local ∨ ((defScope st).names.lookup y.1 = some .cell ∧ ((cellsFrom (s.heap.objs.size + 1) (defScope st).names []).lookup y.1).isSome = true) := by
    rintro ⟨n, v⟩ hy
    exact (S.par n (List.of_mem_zip hy).1).imp id fun q => ⟨q, PySem.W.cellsFrom_some _ _ _ (.inl q)⟩
  refine codeAny_call_function hr.depth (kin _ _ lk) rfl S.co S.gen rfl (PySem.W.codeRec_of kin hcd) (hb _ _ _ _ ?_)
  refine wpAny_newFunctionEnv_cells S.kind par fun env he s1 ic => ?_
  subst he
  refine ⟨lim.keeps ic.toInCall.keep, codeAny_func ?_⟩
  obtain ⟨t, ht, hq⟩ := body cdv A outer s H vs Q E (hr.deeper _) gu hsp
  have I := inv_start (CX := CX) (P := P) (w := w) (E := E) (outer := outer) (cd := cdv) (f := f) (qual := qual) S hr.hd e0 hl r ic
  refine wpAny_mono (ht.run [] s1 (start N vs) H _ I hq) (fun fl s' hs => ?_) fun e s' hs => hs
  have fin : ∀ {σ' : L2.St} {H' : Hp} {v : V} {u : Value}, Inv (cxOf CX P w K mg base N qual (defScope st) f cdv A outer s H E) [] σ' H' s' → RelV v u → Q v H' → CE outer P w H s Q u s' := fun J rv q => ⟨_, _, J.os, J.bare, J.base, J.hok, rv, q⟩
  cases fl with
  | ret u =>
    obtain ⟨v, σ', H', J, rv, q⟩ := hs
    exact fin J rv q
  | next =>
    obtain ⟨σ', H', J, q⟩ := hs
    exact fin (v := .non) (u := .none) J rfl q
  | brk =>
    obtain ⟨σ', H', J, q⟩ := hs
    exact q.elim
  | cont =>
    obtain ⟨σ', H', J, q⟩ := hs
    exact q.elim
end Pv

end
section
set_option Elab.async false
set_option linter.all false
set_option maxRecDepth 100000
set_option maxHeartbeats 1000000
/-! The own syntax beside the program's: chk looks whether they are the same. -/
namespace Pv
open PySem L2 PySem.Spec PyProof.Rows

structure FnR where
  name : Str
  glob : Bool
  ar : Nat
  N : List Str
  body : Ss
structure ClsR where
  name : Str
  k : Klass
structure Tabs where
  nm : List Str
  fns : List FnR
  cons : List (Str × D)
  cls : List ClsR

def vis (sc : Scope) (x : Str) : Bool := match sc.names.lookup x with
  | some .local => true
  | some .cell => true
  | some .free => true
  | _ => false
def loc (sc : Scope) (x : Str) : Bool := match sc.names.lookup x with
  | some .local => true
  | _ => false
/-- a name that a statement stores: a local one, or a cell of the def's own -/
def sto (sc : Scope) (x : Str) : Bool := match sc.names.lookup x with
  | some .local => true
  | some .cell => true
  | _ => false
def gl (sc : Scope) (x : Str) : Bool := match sc.names.lookup x with
  | some .globalImplicit => x != ("__debug__" : Str) && x != ("__name__" : Str)
  | _ => false
def noSuper : Expr → Bool
  | .Call (.Name _ _) [] [] _ => false
  | _ => true
def isComp : Expr → Bool
  | .ListComp .. => true
  | .SetComp .. => true
  | .DictComp .. => true
  | _ => false
def isSlice : Expr → Bool
  | .Slice .. => true
  | _ => false
def isSet : Expr → Bool
  | .Set .. => true
  | _ => false

def Bi.name : Bi → Str
  | .abs => "abs"
  | .max2 => "max"
  | .min2 => "min"
  | .int => "int"
  | .bool => "bool"
  | .str => "str"
  | .divmod => "divmod"
  | .repr => "repr"
  | _ => "isinstance"
def Bi.ty : Bi → Option Str
  | .isInt => some "int"
  | .isBool => some "bool"
  | .isStr => some "str"
  | .isTup => some "tuple"
  | _ => none
def Fb.name : Fb → Str
  | .all => "all"
  | .any => "any"
  | .sum => "sum"
  | .len => "len"
  | .tuple => "tuple"
  | .list => "list"
  | .max => "max"
  | .min => "min"
  | .sorted => "sorted"
def Bm.name : Bm → Str
  | .append => "append"
  | .extend => "extend"
def opIs : Bop → Operator → Bool
  | .add, .Add => true
  | .sub, .Sub => true
  | .mul, .Mult => true
  | .fdiv, .FloorDiv => true
  | .mod, .Mod => true
  | .pow, .Pow => true
  | _, _ => false
def copIs : Cop → CmpOp → Bool
  | .lt, .Lt => true
  | .le, .LtE => true
  | .gt, .Gt => true
  | .ge, .GtE => true
  | .eq, .Eq => true
  | .ne, .NotEq => true
  | .is_, .Is => true
  | .isn, .IsNot => true
  | .in_, .In => true
  | .nin, .NotIn => true
  | _, _ => false
def litIs : D → Expr → Bool
  | .int i, .Constant (.int j) _ _ => i == j
  | .bl i, .Constant (.bool j) _ _ => i == j
  | .str i, .Constant (.str j) _ _ => i == j
  | .non, .Constant .none _ _ => true
  | _, _ => false
/-- a test that is not looked at by its form -/
def plainTest : Expr → Bool
  | .UnaryOp .Not _ _ => false
  | .BoolOp .. => false
  | .IfExp .. => false
  | .Compare .. => false
  | _ => true

def T.slots : T → List Nat
  | .nm i => [i]
  | .tp is => is
def chkNames (N : List Str) (sc : Scope) : List Nat → List Expr → Bool
  | [], [] => true
  | i :: is, .Name x _ :: es => N[i]? == some x && sto sc x && chkNames N sc is es
  | _, _ => false
def chkT (N : List Str) (sc : Scope) : T → Expr → Bool
  | .nm i, .Name x _ => N[i]? == some x && sto sc x
  | .tp is, .Tuple es _ _ => chkNames N sc is es
  | _, _ => false
def ownOf (N : List Str) (own : List Nat) : List (Str × Nat) := own.map fun i => (N.getD i Str.empty, i)

/-- keys and items in turn -/
def zipD : List (Option Expr) → List Expr → List Expr
  | some k :: ks, v :: vs => k :: v :: zipD ks vs
  | _, _ => []
section
variable (Z : Tabs) (N : List Str)
mutual
/-- m: a test -/
def chkE : Bool → Scope → E → Expr → Bool
  | m, sc, .var i, x => match x with
    | .Name y _ => N[i]? == some y && vis sc y && y != ("__debug__" : Str) && y != ("__classdict__" : Str)
    | _ => false
  | m, _, .lit d, x => litIs d x
  | m, sc, .glob k, x => match x with
    | .Name y _ => (match Z.cons[k]? with | some (z, _) => z == y | none => false) && gl sc y
    | _ => false
  | m, sc, .bin o a b, x => match x with
    | .BinOp l p r _ => opIs o p && chkE false sc a l && chkE false sc b r
    | _ => false
  | m, sc, .neg a, x => match x with
    | .UnaryOp .USub y _ => chkE false sc a y
    | _ => false
  | m, sc, .cmp o a b, x => match x with
    | .Compare l [p] [r] _ => copIs o p && !isSet r && chkE false sc a l && chkE false sc b r
    | _ => false
  | m, sc, .chain o p a b c, x => match x with
    | .Compare l [q, q'] [r, r'] _ => copIs o q && copIs p q' && !isSet r && !isSet r' && chkE false sc a l && chkE false sc b r && chkE false sc c r'
    | _ => false
  | m, sc, .not_ a, x => match x with
    | .UnaryOp .Not y _ => chkE m sc a y
    | _ => false
  | m, sc, .and_ a b, x => match x with
    | .BoolOp .And [y, z] _ => chkE m sc a y && chkE m sc b z
    | .BoolOp .And (y :: z :: u :: r) p => chkE m sc a y && chkE m sc b (.BoolOp .And (z :: u :: r) p)
    | _ => false
  | m, sc, .or_ a b, x => match x with
    | .BoolOp .Or [y, z] _ => chkE m sc a y && chkE m sc b z
    | .BoolOp .Or (y :: z :: u :: r) p => chkE m sc a y && chkE m sc b (.BoolOp .Or (z :: u :: r) p)
    | _ => false
  | m, sc, .ite c a b, x => match x with
    | .IfExp t l r _ => !m && chkE true sc c t && chkE false sc a l && chkE false sc b r
    | _ => false
  | m, sc, .fld a k, x => match x with
    | .Attribute y f _ => Z.nm[k]? == some f && noSuper y && chkE false sc a y
    | _ => false
  | m, sc, .tup es, x => match x with
    | .Tuple xs _ _ => noStar xs && chkEs sc es xs
    | _ => false
  | m, sc, .new l, x => chkL sc l x
  | m, sc, .call f es, x => match x with
    | .Call (.Name y _) xs [] _ => (match Z.fns[f]? with | some r => r.glob && r.name == y | none => false) && gl sc y && noStar xs && chkEs sc es xs
    | _ => false
  | m, sc, .meth o k es, x => match x with
    | .Call (.Attribute y f ap) xs [] p => Z.nm[k]? == some f && noSuper y && noStar xs && decide (xs.length < 30) && (ap.endLine == p.line) && chkE false sc o y && chkEs sc es xs
    | _ => false
  | m, sc, .make c es, x => match x with
    | .Call (.Name y _) xs [] _ => (match Z.cls[c]? with | some r => r.name == y | none => false) && gl sc y && noStar xs && chkEs sc es xs
    | _ => false
  | m, sc, .bi b es, x => match x with
    | .Call (.Name y _) xs [] _ => b.name == y && gl sc y && (match b.ty with
      | some t => match xs with
        | [u, .Name v _] => t == v && gl sc v && noStar [u] && chkEs sc es [u]
        | _ => false
      | none => noStar xs && chkEs sc es xs)
    | _ => false
  | m, sc, .fold b l, x => match x with
    | .Call (.Name y _) [u] [] _ => b.name == y && gl sc y && chkL sc l u
    | _ => false
  | m, sc, .foldv b e, x => match x with
    | .Call (.Name y _) [u] [] _ => b.name == y && gl sc y && noStar [u] && chkE false sc e u
    | _ => false
  | m, sc, .bm k o e, x => match x with
    | .Call (.Attribute y f ap) [u] [] p => k.name == f && noSuper y && noStar [u] && (ap.endLine == p.line) && chkE false sc o y && chkE false sc e u
    | _ => false
  | m, sc, .ix a i, x => match x with
    | .Subscript y z _ => !isSlice z && chkE false sc a y && chkE false sc i z
    | _ => false
  | m, sc, .sl a lo hi, x => match x with
    | .Subscript y (.Slice l h none _) _ => chkE false sc a y && (match l with
      | none => isNon lo
      | some u => !isNon lo && chkE false sc lo u) && (match h with
      | none => isNon hi
      | some u => !isNon hi && chkE false sc hi u)
    | _ => false
  | m, sc, .slk a lo hi st, x => match x with
    | .Subscript y (.Slice l h (some w) _) _ => chkE false sc a y && (match l with
      | none => isNon lo
      | some u => !isNon lo && chkE false sc lo u) && (match h with
      | none => isNon hi
      | some u => !isNon hi && chkE false sc hi u) && chkE false sc st w
    | _ => false
  | m, sc, .dct es, x => match x with
    | .Dict ks vs _ => ks.all (·.isSome) && ks.length == vs.length && decide (ks.length ≤ 15) && !ks.isEmpty && chkEs sc es (zipD ks vs)
    | _ => false
  | m, sc, .dix o i, x => match x with
    | .Subscript y z _ => !isSlice z && chkE false sc o y && chkE false sc i z
    | _ => false
def chkEs : Scope → Es → List Expr → Bool
  | _, .nil, [] => true
  | sc, .cons e es, x :: xs => chkE false sc e x && chkEs sc es xs
  | _, _, _ => false
def chkL : Scope → L → Expr → Bool
  | sc, .comp own elt t it cond, x => match x with
    | .ListComp y [⟨tg, iter, ifs, 0⟩] scope _ => blkC N sc scope (ownOf N own) && !isSet iter && chkI sc it tg iter && (t.slots.all fun i => own.contains i) && chkT N scope t tg && chkE false (relS scope sc) elt y && chkC (relS scope sc) cond ifs
    | _ => false
  | sc, .disp es, x => match x with
    | .List xs _ => noStar xs && chkEs sc es xs
    | _ => false
  | sc, .range es, x => match x with
    | .Call (.Name y _) [.Call (.Name z _) [u] [] _] [] _ => y == ("list" : Str) && gl sc y && z == ("range" : Str) && gl sc z && noStar [u] && chkEs sc es [u]
    | .Call (.Name y _) [.Call (.Name z _) [u, v] [] _] [] _ => y == ("list" : Str) && gl sc y && z == ("range" : Str) && gl sc z && noStar [u, v] && chkEs sc es [u, v]
    | _ => false
/-- no condition, or one -/
def chkC : Scope → Es → List Expr → Bool
  | _, .nil, [] => true
  | sc, .cons c es, [u] => chkE true sc c u && (match es with
    | .nil => true
    | _ => false)
  | _, _, _ => false
def chkI : Scope → I → Expr → Expr → Bool
  | sc, .seq e, _, x => chkE false sc e x
  | sc, .fresh l, _, x => chkL sc l x
  | sc, .range es, _, x => match x with
    | .Call (.Name y _) [u] [] _ => y == ("range" : Str) && gl sc y && noStar [u] && chkEs sc es [u]
    | .Call (.Name y _) [u, v] [] _ => y == ("range" : Str) && gl sc y && noStar [u, v] && chkEs sc es [u, v]
    | _ => false
  | sc, .enum e, tg, x => match tg, x with
    | .Tuple _ _ _, .Call (.Name y _) [u] [] _ => y == ("enumerate" : Str) && gl sc y && noStar [u] && chkE false sc e u
    | _, _ => false
  | sc, .zip a b, tg, x => match tg, x with
    | .Tuple _ _ _, .Call (.Name y _) [u, v] [] _ => y == ("zip" : Str) && gl sc y && noStar [u, v] && chkE false sc a u && chkE false sc b v
    | _, _ => false
end

/-! ### statements -/
/-- what a, b = x, y stores in one go -/
def swapC (sc : Scope) (ts vs : List Expr) : Option (Option (List Str)) :=
  if (!(ts.length == 2 || ts.length == 3) || vs.length != ts.length) = true then some none else
  let line := (ts.head?.map (·.pos.line)).getD 0
  let names := ts.filterMap fun
    | .Name id pos => if sc.names.lookup id == some .local && pos.line == line then some id else none
    | _ => none
  if (names.length != ts.length || names.eraseDups.length != names.length) = true then some none
  else if vs.all (foldedForSure 8) = true then some none
  else if vs.all (constantsAlone 8) = true then none
  else some (some names)
mutual
def chkS : S → Stmt → Scope → Bool
  | .asg t e, x, sc => match x with
    | .Assign [tg] v _ => chkT N sc t tg && chkE Z N false sc e v && (match t with | .nm _ => true | .tp _ => !isComp v) && (match tg, v with
      | .Tuple ts _ _, .Tuple vs _ _ => (match swapC sc ts vs with | some none => true | _ => false)
      | _, _ => true)
    | _ => false
  | .par i j a b, x, sc => match x with
    | .Assign [.Tuple [.Name y py, .Name z pz] _ _] (.Tuple [u, v] _ _) _ => N[i]? == some y && N[j]? == some z && i != j && loc sc y && loc sc z && noStar [u, v] && chkEs Z N sc (.cons a (.cons b .nil)) [u, v] &&
      (match swapC sc [.Name y py, .Name z pz] [u, v] with | some (some l) => l == [y, z] | _ => false)
    | _ => false
  | .par3 i j k a b c, x, sc => match x with
    | .Assign [.Tuple [.Name y py, .Name z pz, .Name w pw] _ _] (.Tuple [u, v, q] _ _) _ => N[i]? == some y && N[j]? == some z && N[k]? == some w && i != j && i != k && j != k && loc sc y && loc sc z && loc sc w && noStar [u, v, q] && chkEs Z N sc (.cons a (.cons b (.cons c .nil))) [u, v, q] &&
      (match swapC sc [.Name y py, .Name z pz, .Name w pw] [u, v, q] with | some (some l) => l == [y, z, w] | _ => false)
    | _ => false
  | .setF o k e, x, sc => match x with
    | .Assign [.Attribute y f _] v _ => Z.nm[k]? == some f && chkE Z N false sc o y && chkE Z N false sc e v
    | _ => false
  | .setI o i e, x, sc => match x with
    | .Assign [.Subscript y z _] v _ => !isSlice z && chkE Z N false sc o y && chkE Z N false sc i z && chkE Z N false sc e v
    | _ => false
  | .ex e, x, sc => match x with
    | .Expr v _ => !isComp v && chkE Z N false sc e v
    | _ => false
  | .ret e, x, sc => match x with
    | .Return (some v) _ => chkE Z N false sc e v
    | _ => false
  | .retN, x, _ => match x with
    | .Return none _ => true
    | _ => false
  | .ite c a b, x, sc => match x with
    | .If t u v _ => chkE Z N true sc c t && chkSs a u sc && chkSs b v sc
    | _ => false
  | .whl c b, x, sc => match x with
    | .While t u [] _ => chkE Z N true sc c t && chkSs b u sc
    | _ => false
  | .for_ t it b, x, sc => match x with
    | .For tg iter u [] _ => !isSet iter && chkT N sc t tg && chkI Z N sc it tg iter && chkSs b u sc
    | _ => false
  | .pass, x, _ => match x with
    | .Pass _ => true
    | _ => false
  | .brk, x, _ => match x with
    | .Break _ => true
    | _ => false
  | .cnt, x, _ => match x with
    | .Continue _ => true
    | _ => false
  | .never, _, _ => true
def chkSs : Ss → List Stmt → Scope → Bool
  | .nil, [], _ => true
  | .cons s ss, x :: xs, sc => chkS s x sc && chkSs ss xs sc
  | _, _, _ => false
end
end
end Pv

end
section
set_option Elab.async false
set_option linter.all false
set_option maxRecDepth 100000
set_option maxHeartbeats 1000000
/-! What the own syntax comes to is what the program's does: expressions. -/
namespace Pv
open PySem L2 PySem.Spec PyProof.Rows

structure Pla where
  fa : Nat → Addr
  fd : Nat → FuncData
  cad : Nat → Addr
def FnR.fn (r : FnR) : Fn := ⟨r.ar, r.N.length, r.body⟩
def FnR.ps (r : FnR) : List Str := r.N.take r.ar
def Tabs.con (Z : Tabs) (k : Nat) : Option D := (Z.cons[k]?).map (·.2)
def Tabs.kl (Z : Tabs) (c : Nat) : Option Klass := (Z.cls[c]?).map (·.k)
def Tabs.fn (Z : Tabs) (f : Nat) : Option Fn := (Z.fns[f]?).map FnR.fn
def Tabs.nam (Z : Tabs) (L : Pla) : Nam := ⟨Z.nm, L.cad⟩
def gOf (Z : Tabs) (fuel n : Nat) : G := ⟨fnN Z.fn Z.con Z.kl fuel n, Z.con, Z.kl, fuel⟩
/-- a def's promise -/
def spF (Y : Nam) (K : PySem.W.Frag) (fn : List D → Sto → R D) (ar : Nat) : Sp := fun vs H Q _ => ∃ ρ ds s d s', vs.length = ar ∧ RepL K ρ H ds vs ∧ RepS Y K ρ H s ∧ fn ds s = .ok d s' ∧ Post Y K ρ H s' d Q
def builtinNames : List Str := ["abs", "max", "min", "int", "bool", "str", "divmod", "repr", "isinstance", "all", "any", "sum", "len", "tuple", "list", "sorted", "range", "enumerate", "zip"]
/-- where the program's things stand -/
structure Fac (Z : Tabs) (L : Pla) (K : PySem.W.Frag) (mg : Str → Option Value) : Prop where
  bind : ∀ (f : Nat) (r : FnR), Z.fns[f]? = some r → Binds K (L.fd f) r.ps []
  glob : ∀ (f : Nat) (r : FnR), Z.fns[f]? = some r → r.glob = true → mg r.name = some (.ref (L.fa f)) ∧ PySem.W.keepIn K (.ref (L.fa f)) = true
  con : ∀ (k : Nat) (x : Str) (d : D), Z.cons[k]? = some (x, d) → ∃ v u, mg x = some u ∧ RelV v u ∧ ∀ ρ H, Rep K ρ H d v
  cname : ∀ (c : Nat) (r : ClsR), Z.cls[c]? = some r → mg r.name = some (.ref (L.cad c))
  ccls : ∀ (c : Nat) (r : ClsR), Z.cls[c]? = some r → L2.Cls K (L.cad c)
  cmk : ∀ (c : Nat) (r : ClsR), Z.cls[c]? = some r → Mk K (L.cad c) (L.fa r.k.init) ∧ (Z.fns[r.k.init]?).isSome = true
  cfld : ∀ (c : Nat) (r : ClsR) (k : Nat) (x : Str), Z.cls[c]? = some r → r.k.fields.contains k = true → Z.nm[k]? = some x → NoAttr K (L.cad c) x
  cmeth : ∀ (c : Nat) (r : ClsR) (m : Nat) (x : Str) (f : Nat), Z.cls[c]? = some r → r.k.meths.lookup m = some f → Z.nm[m]? = some x → Meth K (L.cad c) x (L.fa f) ∧ (Z.fns[f]?).isSome = true
  cprop : ∀ (c : Nat) (r : ClsR) (m : Nat) (x : Str) (f : Nat), Z.cls[c]? = some r → r.k.props.lookup m = some f → Z.nm[m]? = some x → (∃ p, PropOf K (L.cad c) x p (L.fa f)) ∧ (Z.fns[f]?).isSome = true
  cin : ∀ (c : Nat) (r : ClsR) (f : Nat), Z.cls[c]? = some r → r.k.contains = some f → PySem.W.findIn K (.ref (L.cad c)) "__contains__" = some (some (.ref (L.fa f))) ∧ PySem.W.isFn K (.ref (L.fa f)) = true ∧ (Z.fns[f]?).isSome = true
  bi : ∀ x ∈ builtinNames, mg x = none
structure Good (Z : Tabs) (L : Pla) (fuel n : Nat) (X : Cx) : Prop where
  nd : X.N.Nodup
  calm : X.calm = true
  gu : X.A.guards = some []
  names : Z.nm.Nodup
  room : Room (2 * n + 1) X.A
  fac : Fac Z L X.K X.mg
  fns : ∀ (f : Nat) (r : FnR), Z.fns[f]? = some r → FnG X.prog X.w X.K X.mg X.base CX0 (2 * n) (L.fa f) (L.fd f) r.ps (spF (Z.nam L) X.K ((gOf Z fuel n).fn f) r.ar)

section
variable {Z : Tabs} {L : Pla} {fuel n : Nat} {X : Cx}
theorem Good.units (h : Good Z L fuel n X) : X.A.units + 64 < cLine := h.room.units
theorem Good.blk (h : Good Z L fuel n X) (s : Shared) (H : Hp) (sc : Scope) (ce : PySem.Env) (fp : List Addr) : Good Z L fuel n (X.blk s H sc ce fp) := ⟨h.nd, h.calm, h.gu, h.names, h.room, h.fac, h.fns⟩
theorem Good.fn (h : Good Z L fuel n X) {f : Nat} (q : (Z.fns[f]?).isSome = true) : ∃ r, Z.fns[f]? = some r := Option.isSome_iff_exists.mp q

/-! ### readings -/
def tE (Y : Nam) (K : PySem.W.Frag) (g : G) (c : E) : TE := fun σ H Q => ∃ ρ en s d s', RepE K ρ H en σ ∧ RepS Y K ρ H s ∧ evE g c en s = .ok d s' ∧ Post Y K ρ H s' d Q
def tB (Y : Nam) (K : PySem.W.Frag) (g : G) (c : E) : TT := fun σ H Q => ∃ ρ en s b s', RepE K ρ H en σ ∧ RepS Y K ρ H s ∧ truR (evE g c en s) = .ok b s' ∧ PostB Y K ρ H s' b Q
def tEs (Y : Nam) (K : PySem.W.Frag) (g : G) (es : Es) : TA := fun σ H Q => ∃ ρ en s ds s', RepE K ρ H en σ ∧ RepS Y K ρ H s ∧ evEs g es en s = .ok ds s' ∧ ∀ ρ' H' vs, Ext ρ H ρ' H' → RepS Y K ρ' H' s' → RepL K ρ' H' ds vs → Q vs H'
/-- a new list that the store doesn't know -/
def PostL (Y : Nam) (K : PySem.W.Frag) (ρ : List Addr) (H : Hp) (s : Sto) (ds : List D) (Q : VK) : Prop :=
  ∀ ρ' H' p vs, Ext ρ H ρ' H' → RepS Y K ρ' H' s → p ∉ ρ' → H p = none → H' p = some (.lst vs) → RepL K ρ' H' ds vs → Q (.ref p) H'
def tL (Y : Nam) (K : PySem.W.Frag) (g : G) (l : Pv.L) : TE := fun σ H Q => ∃ ρ en s ds s', RepE K ρ H en σ ∧ RepS Y K ρ H s ∧ evL g l en s = .ok ds s' ∧ PostL Y K ρ H s' ds Q
/-- their walks are ours -/
def ItR (Y : Nam) (K : PySem.W.Frag) (ρ : List Addr) (H : Hp) (it : Pv.It) (J : L2.It) : Prop := ∀ ρ' H' s i, Ext ρ H ρ' H' → RepS Y K ρ' H' s → (it.at s i = some none → J.stop i H') ∧
  ∀ d, it.at s i = some (some d) → J.go i H' ∧ ∀ x H'', J.yld i H' x H'' → Ext ρ' H' ρ' H'' ∧ RepS Y K ρ' H'' s ∧ Rep K ρ' H'' d x
def tI (Y : Nam) (K : PySem.W.Frag) (g : G) (it : Pv.I) : TI := fun σ H R => ∃ ρ en s j s', RepE K ρ H en σ ∧ RepS Y K ρ H s ∧ evI g it en s = .ok j s' ∧ ∀ ρ' H' J, Ext ρ H ρ' H' → RepS Y K ρ' H' s' → ItR Y K ρ' H' j J → R J H'

section
variable {Y : Nam} {K : PySem.W.Frag} {g : G} {ρ : List Addr} {en : Slo} {s s' : Sto} {σ : L2.St} {H : Hp} {d : D} {ds : List D}
theorem goE {c : E} {Q : VK} (he : RepE K ρ H en σ) (hs : RepS Y K ρ H s) (h : evE g c en s = .ok d s') (k : ∀ ρ' H' v, Ext ρ H ρ' H' → RepS Y K ρ' H' s' → RepE K ρ' H' en σ → Rep K ρ' H' d v → Q v H') : tE Y K g c σ H Q :=
  ⟨ρ, en, s, d, s', he, hs, h, fun ρ' H' v e h' r => k ρ' H' v e h' (he.ext e) r⟩
theorem goB {c : E} {b : Bool} {Q : Bool → Hp → Prop} (he : RepE K ρ H en σ) (hs : RepS Y K ρ H s) (h : truR (evE g c en s) = .ok b s') (k : ∀ ρ' H', Ext ρ H ρ' H' → RepS Y K ρ' H' s' → RepE K ρ' H' en σ → Q b H') : tB Y K g c σ H Q :=
  ⟨ρ, en, s, b, s', he, hs, h, fun ρ' H' e h' => k ρ' H' e h' (he.ext e)⟩
theorem goEs {c : Es} {Q : List V → Hp → Prop} (he : RepE K ρ H en σ) (hs : RepS Y K ρ H s) (h : evEs g c en s = .ok ds s') (k : ∀ ρ' H' vs, Ext ρ H ρ' H' → RepS Y K ρ' H' s' → RepE K ρ' H' en σ → RepL K ρ' H' ds vs → Q vs H') : tEs Y K g c σ H Q :=
  ⟨ρ, en, s, ds, s', he, hs, h, fun ρ' H' v e h' r => k ρ' H' v e h' (he.ext e) r⟩
theorem goL {c : Pv.L} {Q : VK} (he : RepE K ρ H en σ) (hs : RepS Y K ρ H s) (h : evL g c en s = .ok ds s')
    (k : ∀ ρ' H' p vs, Ext ρ H ρ' H' → RepS Y K ρ' H' s' → RepE K ρ' H' en σ → p ∉ ρ' → H p = none → H' p = some (.lst vs) → RepL K ρ' H' ds vs → Q (.ref p) H') : tL Y K g c σ H Q :=
  ⟨ρ, en, s, ds, s', he, hs, h, fun ρ' H' p vs e h' m n hp r => k ρ' H' p vs e h' (he.ext e) m n hp r⟩
end

theorem _root_.L2.PE.via {x : Expr} {t t' : TE} (h : PE X x t) (f : ∀ σ H Q, t' σ H Q → t σ H Q) : PE X x t' := ⟨fun pins s σ H Q I w => h.run pins s σ H Q I (f _ _ _ w)⟩
theorem _root_.L2.PT.via {x : Expr} {t t' : TT} (h : PT X x t) (f : ∀ σ H Q, t' σ H Q → t σ H Q) : PT X x t' := ⟨fun pins s σ H Q I w => h.run pins s σ H Q I (f _ _ _ w)⟩
theorem _root_.L2.PA.via {x : List Expr} {t t' : TA} (h : PA X x t) (f : ∀ σ H Q, t' σ H Q → t σ H Q) : PA X x t' := ⟨fun pos pins s σ H Q I w => h.run pos pins s σ H Q I (f _ _ _ w)⟩
/-- the rule may be chosen by what the reading says -/
theorem _root_.L2.PE.by_ {x : Expr} {t' : TE} (f : ∀ σ H Q, t' σ H Q → ∃ t, PE X x t ∧ t σ H Q) : PE X x t' := ⟨fun pins s σ H Q I w => by
  obtain ⟨t, h, w'⟩ := f _ _ _ w
  exact h.run pins s σ H Q I w'⟩
theorem _root_.L2.PI.by_ {tg x : Expr} {t' : TI} (f : ∀ σ H R, t' σ H R → ∃ t, PI X tg x t ∧ t σ H R) : PI X tg x t' := ⟨fun pins s σ H R I w => by
  obtain ⟨t, h, w'⟩ := f _ _ _ w
  exact h.run pins s σ H R I w'⟩

/-! ### names -/
theorem vis_of {sc : Scope} {x : Str} (h : vis sc x = true) : Vis sc x := by
  unfold vis at h
  split at h <;> first | exact .inl (by assumption) | exact .inr (.inl (by assumption)) | exact .inr (.inr (by assumption)) | cases h
theorem sto_of {sc : Scope} {x : Str} (h : sto sc x = true) : Loc sc x := by
  unfold sto at h
  split at h <;> first | exact .inl (by assumption) | exact .inr (by assumption) | cases h
theorem loc_of {sc : Scope} {x : Str} (h : loc sc x = true) : sc.names.lookup x = some .local := by
  unfold loc at h
  split at h <;> first | assumption | cases h
theorem gl_of {x : Str} (h : gl X.env.scope x = true) : Gl X x ∧ (x == ("__debug__" : Str)) = false ∧ x ≠ "__name__" := by
  unfold gl at h
  split at h
  · rename_i q
    rw [Bool.and_eq_true] at h
    refine ⟨q, ?_, ?_⟩
    · have := h.1; simpa using this
    · have := h.2; simpa using this
  · cases h
theorem base_of {x : Expr} {f : Str} (h : noSuper x = true) (w : Sem Value) : attributeBase x f X.env w = w := by
  unfold attributeBase
  split
  · cases h
  · rfl
theorem star1 {u : Expr} {env : PySem.Env} (h : noStar [u] = true) : starEach [u] env = (false, eval u env) :: starEach [] env := by rw [star_of h]; rfl
theorem star2 {u v : Expr} {env : PySem.Env} (h : noStar [u, v] = true) : starEach [u, v] env = (false, eval u env) :: starEach [v] env := by rw [star_of h, star_of (noStar_tail h)]; rfl
theorem star_cons {u : Expr} {us : List Expr} {env : PySem.Env} (h : noStar (u :: us) = true) : starEach (u :: us) env = (false, eval u env) :: starEach us env := by rw [star_of h, star_of (noStar_tail h)]; rfl
theorem starAny {us : List Expr} {pos : Pos} {env : PySem.Env} (h : noStar us = true) : ((backTo pos (starEach us env)).any (·.1)) = false := by rw [star_of h]; exact back_of _

theorem boot_of {x : Str} (h : x ∈ builtinNames) : (bootBuiltins x).isSome = true := by
  have all : ∀ y ∈ builtinNames, (bootBuiltins y).isSome = true := by decide +kernel
  exact all x h
end
end Pv

end
section
set_option Elab.async false
set_option linter.all false
set_option maxRecDepth 100000
set_option maxHeartbeats 1000000
namespace Pv
open PySem L2 PySem.Spec PyProof.Rows

def OkE (Z : Tabs) (L : Pla) (fuel n : Nat) (c : E) : Prop :=
  (∀ (X : Cx) (x : Expr), Good Z L fuel n X → chkE Z X.N false X.env.scope c x = true → PE X x (tE (Z.nam L) X.K (gOf Z fuel n) c)) ∧
  ∀ (X : Cx) (x : Expr), Good Z L fuel n X → chkE Z X.N true X.env.scope c x = true → PT X x (tB (Z.nam L) X.K (gOf Z fuel n) c)
def OkAll (Z : Tabs) (L : Pla) (fuel n : Nat) : Es → Prop
  | .nil => True
  | .cons e es => OkE Z L fuel n e ∧ OkAll Z L fuel n es
def OkEs (Z : Tabs) (L : Pla) (fuel n : Nat) (es : Es) : Prop :=
  (∀ (X : Cx) (xs : List Expr), Good Z L fuel n X → chkEs Z X.N X.env.scope es xs = true → noStar xs = true → PA X xs (tEs (Z.nam L) X.K (gOf Z fuel n) es)) ∧
  OkAll Z L fuel n es
def OkL (Z : Tabs) (L : Pla) (fuel n : Nat) (l : Pv.L) : Prop :=
  ∀ (X : Cx) (x : Expr), Good Z L fuel n X → chkL Z X.N X.env.scope l x = true → PE X x (tL (Z.nam L) X.K (gOf Z fuel n) l)
def OkI (Z : Tabs) (L : Pla) (fuel n : Nat) (it : Pv.I) : Prop :=
  ∀ (X : Cx) (tg x : Expr), Good Z L fuel n X → chkI Z X.N X.env.scope it tg x = true → PI X tg x (tI (Z.nam L) X.K (gOf Z fuel n) it)

section
variable {Z : Tabs} {L : Pla} {fuel n : Nat}

theorem tru_v {Y : Nam} {K : PySem.W.Frag} {ρ : List Addr} {H : Hp} {s : Sto} {d : D} {v : V} {b : Bool} (hs : RepS Y K ρ H s) (r : Rep K ρ H d v) (h : tru s d = some b) : TruV K v H b := by
  cases d with
  | non => cases r; cases h; exact rfl
  | bl c => cases r; cases h; exact rfl
  | int i => cases r; cases h; exact rfl
  | str x =>
    cases r
    simp only [tru] at h
    split at h
    · rename_i hl
      cases h
      refine ⟨hl, ?_⟩
      generalize x.length = k
      cases k <;> rfl
    · cases h
  | tup ds =>
    cases r with
    | tup h1 h2 =>
      cases h
      refine .inr (.inl ⟨_, h1, ?_⟩)
      cases h2 <;> rfl
  | rol ds =>
    cases r with
    | rol h1 h2 =>
      cases h
      refine .inl ⟨_, h1.l, ?_⟩
      cases h2 <;> rfl
  | ref m =>
    simp only [tru] at h
    split at h
    · rename_i ds e
      cases h
      obtain ⟨a, vs, z, hv, rl⟩ := hs.gL e
      rw [r.ref_at z]
      refine .inl ⟨vs, SqL.of hv, ?_⟩
      cases rl <;> rfl
    · cases h
theorem truR_eq {r : R D} {b : Bool} {s' : Sto} (h : truR r = .ok b s') : ∃ d, r = .ok d s' ∧ tru s' d = some b := by
  unfold truR at h
  obtain ⟨d, s, e, h⟩ := R.bind_eq h
  split at h
  · cases h; exact ⟨d, e, by assumption⟩
  · cases h
theorem truR_of {d : D} {b : Bool} {s' : Sto} (h : tru s' d = some b) : truR (.ok d s') = .ok b s' := by
  simp only [truR, R.bind_ok, h]
theorem test_of {X : Cx} {x : Expr} (h : plainTest x = true) (w : Sem Value) : PySem.isTrue x X.env w = (do let v ← w; standAt x.pos; holding [v] (truthy v)) := by
  cases x with
  | UnaryOp op y p => cases op <;> first | rfl | cases h
  | BoolOp => cases h
  | IfExp => cases h
  | Compare => cases h
  | _ => rfl
/-- a test by its value -/
theorem test_val {c : E} {X : Cx} {x : Expr} (hp : plainTest x = true) (h : PE X x (tE (Z.nam L) X.K (gOf Z fuel n) c)) : PT X x (tB (Z.nam L) X.K (gOf Z fuel n) c) := by
  refine (pt_truth h (test_of hp)).via fun σ H Q ⟨ρ, en, s, b, s', he, hs, hv, q⟩ => ?_
  obtain ⟨d, e, t⟩ := truR_eq hv
  exact goE he hs e fun ρ' H' v ex hs' _ r => ⟨b, tru_v hs' r t, q ρ' H' ex hs'⟩

/-! ### names, constants -/
theorem c_var (i : Nat) : OkE Z L fuel n (.var i) := by
  have go : ∀ (m : Bool) (X : Cx) (x : Expr), chkE Z X.N m X.env.scope (.var i) x = true → plainTest x = true ∧ PE X x (tE (Z.nam L) X.K (gOf Z fuel n) (.var i)) := fun m X x h => by
    simp only [chkE] at h
    split at h
    · simp only [Bool.and_eq_true, bne_iff_ne, ne_eq, beq_iff_eq] at h
      obtain ⟨⟨⟨h1, h2⟩, h3⟩, h4⟩ := h
      refine ⟨rfl, (pe_var h1 (vis_of h2) (by simpa using h3) (by simpa using h4)).via fun σ H Q ⟨ρ, en, s, d, s', he, hs, hv, q⟩ => ?_⟩
      simp only [evE] at hv
      split at hv
      · cases hv
        obtain ⟨v, e, r⟩ := he.get i _ (by assumption)
        exact ⟨v, e, q.now hs r⟩
      · cases hv
    · cases h
  exact ⟨fun X x _ h => (go _ X x h).2, fun X x _ h => test_val (go _ X x h).1 (go _ X x h).2⟩
theorem c_lit (d : D) : OkE Z L fuel n (.lit d) := by
  have go : ∀ (m : Bool) (X : Cx) (x : Expr), chkE Z X.N m X.env.scope (.lit d) x = true → plainTest x = true ∧ PE X x (tE (Z.nam L) X.K (gOf Z fuel n) (.lit d)) := fun m X x h => by
    simp only [chkE] at h
    have fin : ∀ {v : V}, (∀ ρ H, Rep X.K ρ H d v) → PE X x (tC v) → PE X x (tE (Z.nam L) X.K (gOf Z fuel n) (.lit d)) := fun {v} r p => p.via fun σ H Q ⟨ρ, en, s, d', s', he, hs, hv, q⟩ => by
      simp only [evE] at hv
      cases hv
      exact q.now hs (r _ _)
    unfold litIs at h
    split at h
    · cases (beq_iff_eq.mp h); exact ⟨rfl, fin (fun _ _ => .int _) pe_int⟩
    · cases (beq_iff_eq.mp h); exact ⟨rfl, fin (fun _ _ => .bl _) pe_bl⟩
    · cases (beq_iff_eq.mp h); exact ⟨rfl, fin (fun _ _ => .str _) pe_str⟩
    · exact ⟨rfl, fin (fun _ _ => .non) pe_non⟩
    · cases h
  exact ⟨fun X x _ h => (go _ X x h).2, fun X x _ h => test_val (go _ X x h).1 (go _ X x h).2⟩
theorem c_glob (k : Nat) : OkE Z L fuel n (.glob k) := by
  have go : ∀ (m : Bool) (X : Cx) (x : Expr), Good Z L fuel n X → chkE Z X.N m X.env.scope (.glob k) x = true → plainTest x = true ∧ PE X x (tE (Z.nam L) X.K (gOf Z fuel n) (.glob k)) := fun m X x G h => by
    simp only [chkE] at h
    split at h
    · simp only [Bool.and_eq_true] at h
      obtain ⟨h1, h2⟩ := h
      split at h1
      · rename_i z d0 e
        obtain rfl := beq_iff_eq.mp h1
        obtain ⟨gx, gd, _⟩ := gl_of h2
        obtain ⟨v, u, hm, rv, rep⟩ := G.fac.con k z d0 e
        refine ⟨rfl, (pe_glob gx hm rv gd).via fun σ H Q ⟨ρ, en, s, d', s', he, hs, hv, q⟩ => ?_⟩
        simp only [evE, gOf, Tabs.con, e, Option.map_some] at hv
        cases hv
        exact q.now hs (rep _ _)
      · cases h1
    · cases h
  exact ⟨fun X x G h => (go _ X x G h).2, fun X x G h => test_val (go _ X x G h).1 (go _ X x G h).2⟩

/-! ### operators -/
theorem op_of {o : Bop} {p : Operator} (h : opIs o p = true) : p = o.op := by cases o <;> cases p <;> first | rfl | cases h
theorem cop_of {o : Cop} {p : CmpOp} (h : copIs o p = true) : p = o.op := by cases o <;> cases p <;> first | rfl | cases h
theorem c_bin (o : Bop) {a b : E} (ha : OkE Z L fuel n a) (hb : OkE Z L fuel n b) : OkE Z L fuel n (.bin o a b) := by
  have go : ∀ (m : Bool) (X : Cx) (x : Expr), Good Z L fuel n X → chkE Z X.N m X.env.scope (.bin o a b) x = true → plainTest x = true ∧ PE X x (tE (Z.nam L) X.K (gOf Z fuel n) (.bin o a b)) := fun m X x G h => by
    simp only [chkE] at h
    split at h
    · simp only [Bool.and_eq_true] at h
      obtain ⟨⟨h1, h2⟩, h3⟩ := h
      obtain rfl := op_of h1
      refine ⟨rfl, (pe_op (bin_ok (Y := Z.nam L) o) (ha.1 X _ G h2) (hb.1 X _ G h3)).via fun σ H Q ⟨ρ, en, s, d', s', he, hs, hv, q⟩ => ?_⟩
      simp only [evE] at hv
      obtain ⟨x1, s1, e1, hv⟩ := R.bind_eq hv
      obtain ⟨y1, s2, e2, hv⟩ := R.bind_eq hv
      exact goE he hs e1 fun ρ1 H1 v1 x1 hs1 he1 r1 => goE he1 hs1 e2 fun ρ2 H2 v2 x2 hs2 he2 r2 => ⟨ρ2, s2, _, _, _, _, hs2, r1.ext x2, r2, hv, Post.ext (x1.trans x2) q⟩
    · cases h
  exact ⟨fun X x G h => (go _ X x G h).2, fun X x G h => test_val (go _ X x G h).1 (go _ X x G h).2⟩
theorem c_neg {a : E} (ha : OkE Z L fuel n a) : OkE Z L fuel n (.neg a) := by
  have go : ∀ (m : Bool) (X : Cx) (x : Expr), Good Z L fuel n X → chkE Z X.N m X.env.scope (.neg a) x = true → plainTest x = true ∧ PE X x (tE (Z.nam L) X.K (gOf Z fuel n) (.neg a)) := fun m X x G h => by
    simp only [chkE] at h
    split at h
    · refine ⟨rfl, (pe_un (neg_ok (Y := Z.nam L)) (ha.1 X _ G h)).via fun σ H Q ⟨ρ, en, s, d', s', he, hs, hv, q⟩ => ?_⟩
      simp only [evE] at hv
      obtain ⟨x1, s1, e1, hv⟩ := R.bind_eq hv
      split at hv
      · cases hv
        exact goE he hs e1 fun ρ1 H1 v1 x1 hs1 he1 r1 => ⟨ρ1, _, _, hs1, r1, Post.ext x1 q⟩
      · cases hv
    · cases h
  exact ⟨fun X x G h => (go _ X x G h).2, fun X x G h => test_val (go _ X x G h).1 (go _ X x G h).2⟩

/-- x in y, x not in y -/
theorem in_ok {X : Cx} (G : Good Z L fuel n X) (neg : Bool) : OpR X (compareOp (if neg then .NotIn else .In)) (rB2 (Z.nam L) X.K fun a b s => R.bind (inD (gOf Z fuel n) a b s) fun k s1 => .ok (if neg then !k else k) s1) := by
  intro pins s σ H x y v u Q I rx ry h
  obtain ⟨ρ, st, a, b, k, s', hs, ra, rb, hf, p⟩ := h
  obtain ⟨k1, s1, e, hf⟩ := R.bind_eq hf
  cases hf
  have seq : ∀ {ds : List D} {vs : List V} {ad : Addr}, y = .ref ad → (SqL X.K H ad vs ∨ SqT X.K H ad vs) → RepL X.K ρ H ds vs → RepS (Z.nam L) X.K ρ H s' → (if flatD a = true ∧ ds.all flatD = true then R.ok (ds.any fun z => eqF z a) st else R.no) = R.ok k1 s' →
      wpAny (model X.prog X.w) X.A (compareOp (if neg then .NotIn else .In) v u) (EP X pins σ Q) X.xe s := fun {ds vs ad} ey hq rl hs' e => by
    split at e
    · rename_i hc
      cases e
      have w : inV x vs = ds.any fun z => eqF z a := any_v ra hc.1 rl hc.2
      have pq := p ρ H .refl hs
      cases neg with
      | true => exact op_notIn_seq pins s σ H x y v u Q I rx ry ⟨ad, vs, ey, hq, flat_v ra hc.1, flat_all rl hc.2, by rw [w]; exact pq⟩
      | false => exact op_in_seq pins s σ H x y v u Q I rx ry ⟨ad, vs, ey, hq, flat_v ra hc.1, flat_all rl hc.2, by rw [w]; exact pq⟩
    · cases e
  have st_of : ∀ {c : Bool} {b' : Bool} {s2 : Sto}, (if c = true then R.ok b' st else R.no) = R.ok k1 s2 → s2 = st := fun {c b' s2} e => by
    split at e
    · cases e; rfl
    · cases e
  unfold inD at e
  cases b with
  | non => cases e
  | bl _ => cases e
  | int _ => cases e
  | str z =>
    simp only at e
    split at e
    · cases e; cases ra; cases rb
      have pq := p ρ H .refl hs
      cases neg with
      | true => exact op_notin_str pins s σ H _ _ v u Q I rx ry ⟨_, _, rfl, rfl, pq⟩
      | false => exact op_in_str pins s σ H _ _ v u Q I rx ry ⟨_, _, rfl, rfl, pq⟩
    · cases e
  | tup ds =>
    simp only at e
    cases rb with
    | tup h1 h2 =>
      have : s' = st := by split at e <;> cases e; rfl
      subst this
      exact seq rfl (.inr h1) h2 hs e
  | rol ds =>
    simp only at e
    cases rb with
    | rol h1 h2 =>
      have : s' = st := by split at e <;> cases e; rfl
      subst this
      exact seq rfl (.inl h1.l) h2 hs e
  | ref m =>
    simp only at e
    split at e
    · rename_i c fs ei
      split at e
      · rename_i q ek
        split at e
        · rename_i f ef
          obtain ⟨d, s2, e2, e⟩ := R.bind_eq e
          obtain ⟨ad, dx, gs, z, hv, _⟩ := hs.gI ei
          have yr := rb.ref_at z
          subst yr
          obtain rfl : u = Value.ref ad := ry
          have ek' : (Z.cls[c]?).map (·.k) = some q := ek
          obtain ⟨r, hr, rfl⟩ := Option.map_eq_some_iff.mp ek'
          obtain ⟨f1, f2, f3⟩ := G.fac.cin c r f hr ef
          obtain ⟨fr, hfr⟩ := G.fn f3
          have pb : ∀ (R : Bool → Hp → Prop), PostB (Z.nam L) X.K ρ H s' k1 R → spF (Z.nam L) X.K ((gOf Z fuel n).fn f) fr.ar [.ref ad, x] H (fun v H' => ∃ b, v = .bl b ∧ R b H') E0 := fun R pr => by
            have hl := (G.fns f fr hfr).len
            split at e
            · cases e
              refine ⟨ρ, [.ref m, a], st, .bl k1, s', ?_, .cons (.ref z) (.cons ra .nil), hs, e2, fun ρ' H' v' ex hs' rv => ⟨k1, rep_bl rv, pr ρ' H' ex hs'⟩⟩
              have e3 := e2
              show 2 = fr.ar
              cases n with
              | zero => cases e3
              | succ n' =>
                simp only [gOf, fnN, Tabs.fn, hfr, Option.map_some] at e3
                split at e3
                · rename_i hh; exact hh
                · cases e3
            · cases e
          have w := op_inG (E := E0) (Q := Q) (y := x) I hv rx f1 f2 (G.fns f fr hfr) (G.room.mono (by omega)) G.gu (G.fac.bind f fr hfr) pass0
          cases neg with
          | true => exact w.2 (pb _ fun ρ' H' ex hs' => p ρ' H' ex hs')
          | false => exact w.1 (pb _ fun ρ' H' ex hs' => p ρ' H' ex hs')
        · cases e
      · cases e
    · split at e
      · rename_i ds el
        obtain ⟨ad, vs, z, hv, rl⟩ := hs.gL el
        have : s' = st := by split at e <;> cases e; rfl
        subst this
        exact seq (rb.ref_at z) (.inl (SqL.of hv)) rl hs e
      · cases e
end
end Pv

end
section
set_option Elab.async false
set_option linter.all false
set_option maxRecDepth 100000
set_option maxHeartbeats 1000000
namespace Pv
open PySem L2 PySem.Spec PyProof.Rows
section
variable {Z : Tabs} {L : Pla} {fuel n : Nat}

theorem cmp_ok {X : Cx} (G : Good Z L fuel n X) (o : Cop) : OpR X (compareOp o.op) (rB2 (Z.nam L) X.K (cmpD (gOf Z fuel n) o)) := by
  cases o with
  | in_ =>
    intro pins s σ H x y v u Q I rx ry ⟨ρ, st, a, b, k, s', hs, ra, rb, hf, p⟩
    refine in_ok G false pins s σ H x y v u Q I rx ry ⟨ρ, st, a, b, k, s', hs, ra, rb, ?_, p⟩
    simp only [cmpD] at hf
    show R.bind (inD (gOf Z fuel n) a b st) _ = _
    rw [hf]; rfl
  | nin =>
    intro pins s σ H x y v u Q I rx ry ⟨ρ, st, a, b, k, s', hs, ra, rb, hf, p⟩
    exact in_ok G true pins s σ H x y v u Q I rx ry ⟨ρ, st, a, b, k, s', hs, ra, rb, hf, p⟩
  | eq =>
    intro pins s σ H x y v u Q I rx ry ⟨ρ, st, a, b, k, s', hs, ra, rb, hf, p⟩
    exact eqD_ok (Y := Z.nam L) G.units pins s σ H x y v u Q I rx ry ⟨ρ, st, a, b, k, s', hs, ra, rb, hf, p⟩
  | ne =>
    intro pins s σ H x y v u Q I rx ry ⟨ρ, st, a, b, k, s', hs, ra, rb, hf, p⟩
    exact neD_ok (Y := Z.nam L) G.units pins s σ H x y v u Q I rx ry ⟨ρ, st, a, b, k, s', hs, ra, rb, hf, p⟩
  | lt =>
    intro pins s σ H x y v u Q I rx ry ⟨ρ, st, a, b, k, s', hs, ra, rb, hf, p⟩
    simp only [cmpD] at hf
    split at hf
    · cases hf; cases ra; cases rb
      exact op_lt pins s σ H _ _ v u Q I rx ry ⟨_, _, rfl, rfl, p ρ H .refl hs⟩
    · cases hf
  | le =>
    intro pins s σ H x y v u Q I rx ry ⟨ρ, st, a, b, k, s', hs, ra, rb, hf, p⟩
    simp only [cmpD] at hf
    split at hf
    · cases hf; cases ra; cases rb
      exact op_le pins s σ H _ _ v u Q I rx ry ⟨_, _, rfl, rfl, p ρ H .refl hs⟩
    · cases hf
  | gt =>
    intro pins s σ H x y v u Q I rx ry ⟨ρ, st, a, b, k, s', hs, ra, rb, hf, p⟩
    simp only [cmpD] at hf
    split at hf
    · cases hf; cases ra; cases rb
      exact op_gt pins s σ H _ _ v u Q I rx ry ⟨_, _, rfl, rfl, p ρ H .refl hs⟩
    · cases hf
  | ge =>
    intro pins s σ H x y v u Q I rx ry ⟨ρ, st, a, b, k, s', hs, ra, rb, hf, p⟩
    simp only [cmpD] at hf
    split at hf
    · cases hf; cases ra; cases rb
      exact op_ge pins s σ H _ _ v u Q I rx ry ⟨_, _, rfl, rfl, p ρ H .refl hs⟩
    · cases hf
  | is_ =>
    intro pins s σ H x y v u Q I rx ry ⟨ρ, st, a, b, k, s', hs, ra, rb, hf, p⟩
    simp only [cmpD] at hf
    split at hf
    · cases hf
      cases rb
      have q := p ρ H .refl hs
      refine op_isN pins s σ H _ _ v u Q I rx ry ⟨rfl, ?_⟩
      cases ra <;> exact q
    · split at hf
      · cases hf; cases ra; cases rb
        exact op_isBl pins s σ H _ _ v u Q I rx ry ⟨_, _, rfl, rfl, by have q := p ρ H .refl hs; rw [Bool.beq_eq_decide_eq] at q; exact q⟩
      · cases hf
    · cases hf
  | isn =>
    intro pins s σ H x y v u Q I rx ry ⟨ρ, st, a, b, k, s', hs, ra, rb, hf, p⟩
    simp only [cmpD] at hf
    split at hf
    · cases hf
      cases rb
      have q := p ρ H .refl hs
      refine op_notN pins s σ H _ _ v u Q I rx ry ⟨rfl, ?_⟩
      cases ra <;> exact q
    · split at hf
      · cases hf; cases ra; cases rb
        exact op_notBl pins s σ H _ _ v u Q I rx ry ⟨_, _, rfl, rfl, by have q := p ρ H .refl hs; rw [Bool.beq_eq_decide_eq] at q; exact q⟩
      · cases hf
    · cases hf
theorem noMark {op : CmpOp} {r : Expr} (h : (!isSet r) = true) : behindInMarks op r = false := by
  cases r <;> first | rfl | cases h
theorem c_cmp (o : Cop) {a b : E} (ha : OkE Z L fuel n a) (hb : OkE Z L fuel n b) : OkE Z L fuel n (.cmp o a b) := by
  have step : ∀ {X : Cx} {σ : L2.St} {H : Hp} {Q : Bool → Hp → Prop} {ρ : List Addr} {en : Slo} {s s' : Sto} {k : Bool}, RepE X.K ρ H en σ → RepS (Z.nam L) X.K ρ H s → evE (gOf Z fuel n) (.cmp o a b) en s = .ok (.bl k) s' → PostB (Z.nam L) X.K ρ H s' k Q →
      tE (Z.nam L) X.K (gOf Z fuel n) a σ H fun x H1 => tE (Z.nam L) X.K (gOf Z fuel n) b σ H1 fun y H2 => rB2 (Z.nam L) X.K (cmpD (gOf Z fuel n) o) x y H2 fun v H3 => ∃ k, v = .bl k ∧ Q k H3 := fun {X σ H Q ρ en s s' k} he hs hv q => by
    simp only [evE] at hv
    obtain ⟨x1, s1, e1, hv⟩ := R.bind_eq hv
    obtain ⟨y1, s2, e2, hv⟩ := R.bind_eq hv
    obtain ⟨k1, s3, e3, hv⟩ := R.bind_eq hv
    cases hv
    exact goE he hs e1 fun ρ1 H1 v1 x1 hs1 he1 r1 => goE he1 hs1 e2 fun ρ2 H2 v2 x2 hs2 he2 r2 => ⟨ρ2, s2, _, _, _, _, hs2, r1.ext x2, r2, e3, fun ρ' H' e h' => ⟨k, rfl, q ρ' H' ((x1.trans x2).trans e) h'⟩⟩
  have bl : ∀ {en : Slo} {s s' : Sto} {d : D}, evE (gOf Z fuel n) (.cmp o a b) en s = .ok d s' → ∃ k, d = .bl k := fun {en s s' d} hv => by
    simp only [evE] at hv
    obtain ⟨x1, s1, e1, hv⟩ := R.bind_eq hv
    obtain ⟨y1, s2, e2, hv⟩ := R.bind_eq hv
    obtain ⟨k1, s3, e3, hv⟩ := R.bind_eq hv
    cases hv
    exact ⟨_, rfl⟩
  constructor
  · intro X x G h
    simp only [chkE] at h
    split at h
    · simp only [Bool.and_eq_true] at h
      obtain ⟨⟨⟨h1, h0⟩, h2⟩, h3⟩ := h
      obtain rfl := cop_of h1
      refine (pe_cmpR (cmp_ok G o) (ha.1 X _ G h2) (hb.1 X _ G h3) (noMark h0)).via fun σ H Q ⟨ρ, en, s, d, s', he, hs, hv, q⟩ => ?_
      obtain ⟨k, rfl⟩ := bl hv
      have w := step (Q := fun k H' => Q (.bl k) H') he hs hv fun ρ' H' e h' => q ρ' H' _ e h' (.bl k)
      obtain ⟨ρ1, en1, t1, d1, t1', a1, a2, a3, a4⟩ := w
      refine ⟨ρ1, en1, t1, d1, t1', a1, a2, a3, fun ρ' H' v e h' r => ?_⟩
      obtain ⟨ρ2, en2, t2, d2, t2', b1, b2, b3, b4⟩ := a4 ρ' H' v e h' r
      refine ⟨ρ2, en2, t2, d2, t2', b1, b2, b3, fun ρ' H' v e h' r => ?_⟩
      obtain ⟨ρ3, t3, c1, c2, k3, t3', f1, f2, f3, f4, f5⟩ := b4 ρ' H' v e h' r
      refine ⟨ρ3, t3, c1, c2, k3, t3', f1, f2, f3, f4, fun ρ' H' e h' => ?_⟩
      obtain ⟨k', ek, qk⟩ := f5 ρ' H' e h'
      cases ek
      exact qk
    · cases h
  · intro X x G h
    simp only [chkE] at h
    split at h
    · simp only [Bool.and_eq_true] at h
      obtain ⟨⟨⟨h1, h0⟩, h2⟩, h3⟩ := h
      obtain rfl := cop_of h1
      refine (pt_cmpR (cmp_ok G o) (ha.1 X _ G h2) (hb.1 X _ G h3) (noMark h0)).via fun σ H Q ⟨ρ, en, s, d, s', he, hs, hv, q⟩ => ?_
      obtain ⟨d0, hv, ht⟩ := truR_eq hv
      obtain ⟨k, rfl⟩ := bl hv
      cases ht
      exact step he hs hv q
    · cases h
theorem c_chain (o p : Cop) {a b c : E} (ha : OkE Z L fuel n a) (hb : OkE Z L fuel n b) (hc : OkE Z L fuel n c) : OkE Z L fuel n (.chain o p a b c) := by
  have step : ∀ {X : Cx} {σ : L2.St} {H : Hp} {Q : VK} {ρ : List Addr} {en : Slo} {s s' : Sto} {d : D}, RepE X.K ρ H en σ → RepS (Z.nam L) X.K ρ H s → evE (gOf Z fuel n) (.chain o p a b c) en s = .ok d s' → Post (Z.nam L) X.K ρ H s' d Q →
      tChain (rB2 (Z.nam L) X.K (cmpD (gOf Z fuel n) o)) (rB2 (Z.nam L) X.K (cmpD (gOf Z fuel n) p)) (tE (Z.nam L) X.K (gOf Z fuel n) a) (tE (Z.nam L) X.K (gOf Z fuel n) b) (tE (Z.nam L) X.K (gOf Z fuel n) c) σ H Q := fun {X σ H Q ρ en s s' d} he hs hv q => by
    simp only [evE] at hv
    obtain ⟨x1, s1, e1, hv⟩ := R.bind_eq hv
    obtain ⟨y1, s2, e2, hv⟩ := R.bind_eq hv
    obtain ⟨k1, s3, e3, hv⟩ := R.bind_eq hv
    refine goE he hs e1 fun ρ1 H1 v1 x1 hs1 he1 r1 => goE he1 hs1 e2 fun ρ2 H2 v2 x2 hs2 he2 r2 => ⟨ρ2, s2, _, _, _, _, hs2, r1.ext x2, r2, e3, fun ρ3 H3 x3 hs3 => ⟨k1, rfl, ?_⟩⟩
    have x13 := (x1.trans x2).trans x3
    cases k1 with
    | false =>
      cases hv
      exact iteF (q ρ3 H3 _ x13 hs3 (.bl _))
    | true =>
      obtain ⟨z1, s4, e4, hv⟩ := R.bind_eq hv
      obtain ⟨k2, s5, e5, hv⟩ := R.bind_eq hv
      cases hv
      exact iteT (goE (he2.ext x3) hs3 e4 fun ρ4 H4 v4 x4 hs4 he4 r4 => ⟨ρ4, s4, _, _, _, _, hs4, r2.ext (x3.trans x4), r4, e5, fun ρ5 H5 x5 hs5 => q ρ5 H5 _ ((x13.trans x4).trans x5) hs5 (.bl _)⟩)
  have bl : ∀ {en : Slo} {s s' : Sto} {d : D}, evE (gOf Z fuel n) (.chain o p a b c) en s = .ok d s' → ∃ k, d = .bl k := fun {en s s' d} hv => by
    simp only [evE] at hv
    obtain ⟨x1, s1, e1, hv⟩ := R.bind_eq hv
    obtain ⟨y1, s2, e2, hv⟩ := R.bind_eq hv
    obtain ⟨k1, s3, e3, hv⟩ := R.bind_eq hv
    cases k1 with
    | false => cases hv; exact ⟨_, rfl⟩
    | true =>
      obtain ⟨z1, s4, e4, hv⟩ := R.bind_eq hv
      obtain ⟨k2, s5, e5, hv⟩ := R.bind_eq hv
      cases hv; exact ⟨_, rfl⟩
  have marks : ∀ {o1 o2 : CmpOp} {r r' : Expr}, (!isSet r') = true → lastMarks [o1, o2] [r, r'] = false := fun h => noMark h
  constructor
  · intro X x G h
    simp only [chkE] at h
    split at h
    · simp only [Bool.and_eq_true] at h
      obtain ⟨⟨⟨⟨⟨⟨h1, h1'⟩, h0⟩, h0'⟩, h2⟩, h3⟩, h4⟩ := h
      obtain rfl := cop_of h1
      obtain rfl := cop_of h1'
      exact (pe_chain (cmp_ok G o) (cmp_ok G p) (ha.1 X _ G h2) (hb.1 X _ G h3) (hc.1 X _ G h4) (marks h0')).via fun σ H Q ⟨ρ, en, s, d, s', he, hs, hv, q⟩ => step he hs hv q
    · cases h
  · intro X x G h
    simp only [chkE] at h
    split at h
    · simp only [Bool.and_eq_true] at h
      obtain ⟨⟨⟨⟨⟨⟨h1, h1'⟩, h0⟩, h0'⟩, h2⟩, h3⟩, h4⟩ := h
      obtain rfl := cop_of h1
      obtain rfl := cop_of h1'
      refine (pt_chain (cmp_ok G o) (cmp_ok G p) (ha.1 X _ G h2) (hb.1 X _ G h3) (hc.1 X _ G h4) (marks h0')).via fun σ H Q ⟨ρ, en, s, d, s', he, hs, hv, q⟩ => ?_
      obtain ⟨d0, hv, ht⟩ := truR_eq hv
      obtain ⟨k, rfl⟩ := bl hv
      cases ht
      exact step he hs hv fun ρ' H' v e h' r => ⟨_, rep_bl r, q ρ' H' e h'⟩
    · cases h

/-! ### not, and, or -/
theorem c_not {a : E} (ha : OkE Z L fuel n a) : OkE Z L fuel n (.not_ a) := by
  constructor
  · intro X x G h
    simp only [chkE] at h
    split at h
    · refine (pe_notT (ha.1 X _ G h)).via fun σ H Q ⟨ρ, en, s, d, s', he, hs, hv, q⟩ => ?_
      simp only [evE] at hv
      obtain ⟨b, s1, e1, hv⟩ := R.bind_eq hv
      cases hv
      obtain ⟨d0, e0, ht⟩ := truR_eq e1
      exact goE he hs e0 fun ρ1 H1 v1 x1 hs1 he1 r1 => ⟨b, tru_v hs1 r1 ht, q ρ1 H1 _ x1 hs1 (.bl _)⟩
    · cases h
  · intro X x G h
    simp only [chkE] at h
    split at h
    · refine (pt_not (ha.2 X _ G h)).via fun σ H Q ⟨ρ, en, s, d, s', he, hs, hv, q⟩ => ?_
      obtain ⟨d0, hv, ht⟩ := truR_eq hv
      simp only [evE] at hv
      obtain ⟨b, s1, e1, hv⟩ := R.bind_eq hv
      cases hv
      cases ht
      exact goB he hs e1 fun ρ1 H1 x1 hs1 he1 => q ρ1 H1 x1 hs1
    · cases h
theorem and_step {Y : Nam} {K : PySem.W.Frag} {g : G} {a b : E} {σ : L2.St} {H : Hp} {Q : VK} (h : tE Y K g (.and_ a b) σ H Q) : tAndV (tE Y K g a) (tE Y K g b) σ H Q := by
  obtain ⟨ρ, en, s, d, s', he, hs, hv, q⟩ := h
  simp only [evE] at hv
  obtain ⟨x1, s1, e1, hv⟩ := R.bind_eq hv
  refine goE he hs e1 fun ρ1 H1 v1 x1 hs1 he1 r1 => ?_
  split at hv
  · exact ⟨true, rep_bl r1, iteT (goE he1 hs1 hv fun ρ2 H2 v2 x2 hs2 he2 r2 => q ρ2 H2 v2 (x1.trans x2) hs2 r2)⟩
  · cases hv
    exact ⟨false, rep_bl r1, iteF (q ρ1 H1 _ x1 hs1 (.bl _))⟩
  · cases hv
theorem and_stepB {Y : Nam} {K : PySem.W.Frag} {g : G} {a b : E} {σ : L2.St} {H : Hp} {Q : Bool → Hp → Prop} (h : tB Y K g (.and_ a b) σ H Q) : tAnd (tB Y K g a) (tB Y K g b) σ H Q := by
  obtain ⟨ρ, en, s, d, s', he, hs, hv, q⟩ := h
  obtain ⟨d0, hv, ht⟩ := truR_eq hv
  simp only [evE] at hv
  obtain ⟨x1, s1, e1, hv⟩ := R.bind_eq hv
  split at hv
  · exact goB (b := true) he hs (by rw [e1]; rfl) fun ρ1 H1 x1 hs1 he1 => iteT (goB (b := d) he1 hs1 (by rw [hv]; exact truR_of ht) fun ρ2 H2 x2 hs2 he2 => q ρ2 H2 (x1.trans x2) hs2)
  · cases hv
    cases ht
    exact goB (b := false) he hs (by rw [e1]; rfl) fun ρ1 H1 x1 hs1 he1 => iteF (q ρ1 H1 x1 hs1)
  · cases hv
theorem or_step {Y : Nam} {K : PySem.W.Frag} {g : G} {a b : E} {σ : L2.St} {H : Hp} {Q : VK} (h : tE Y K g (.or_ a b) σ H Q) : tOrV (tE Y K g a) (tE Y K g b) σ H Q := by
  obtain ⟨ρ, en, s, d, s', he, hs, hv, q⟩ := h
  simp only [evE] at hv
  obtain ⟨x1, s1, e1, hv⟩ := R.bind_eq hv
  refine goE he hs e1 fun ρ1 H1 v1 x1 hs1 he1 r1 => ?_
  split at hv
  · cases hv
    exact ⟨true, rep_bl r1, iteT (q ρ1 H1 _ x1 hs1 (.bl _))⟩
  · exact ⟨false, rep_bl r1, iteF (goE he1 hs1 hv fun ρ2 H2 v2 x2 hs2 he2 r2 => q ρ2 H2 v2 (x1.trans x2) hs2 r2)⟩
  · cases hv
theorem or_stepB {Y : Nam} {K : PySem.W.Frag} {g : G} {a b : E} {σ : L2.St} {H : Hp} {Q : Bool → Hp → Prop} (h : tB Y K g (.or_ a b) σ H Q) : tOr (tB Y K g a) (tB Y K g b) σ H Q := by
  obtain ⟨ρ, en, s, d, s', he, hs, hv, q⟩ := h
  obtain ⟨d0, hv, ht⟩ := truR_eq hv
  simp only [evE] at hv
  obtain ⟨x1, s1, e1, hv⟩ := R.bind_eq hv
  split at hv
  · cases hv
    cases ht
    exact goB (b := true) he hs (by rw [e1]; rfl) fun ρ1 H1 x1 hs1 he1 => iteT (q ρ1 H1 x1 hs1)
  · exact goB (b := false) he hs (by rw [e1]; rfl) fun ρ1 H1 x1 hs1 he1 => iteF (goB (b := d) he1 hs1 (by rw [hv]; exact truR_of ht) fun ρ2 H2 x2 hs2 he2 => q ρ2 H2 (x1.trans x2) hs2)
  · cases hv
/-- a test over and, or whatever its whole is -/
theorem pw_last {op : BoolOp} {X : Cx} {y : Expr} {pos : Pos} {t : TT} (h : PT X y t) : PW X (.BoolOp op [y] pos) t := by
  cases op with
  | And => exact pw_and1 h
  | Or => exact pw_or1 h
theorem pw_of {op : BoolOp} {X : Cx} {ys : List Expr} {pos : Pos} {t : TT} (h : PT X (.BoolOp op ys pos) t) : PW X (.BoolOp op ys pos) t := ⟨fun w pins s σ H Q I q => by
  have e : ∀ w', PySem.isTrue (.BoolOp op ys pos) X.env w' = allTrue op ys X.env := fun w' => by simp only [PySem.isTrue]
  have r := h.run pins s σ H Q I q
  rw [e] at r ⊢
  exact r⟩
theorem c_and {a b : E} (ha : OkE Z L fuel n a) (hb : OkE Z L fuel n b) : OkE Z L fuel n (.and_ a b) := by
  constructor
  · intro X x G h
    simp only [chkE] at h
    split at h
    · rw [Bool.and_eq_true] at h
      exact (pe_and (ha.1 X _ G h.1) (pe_one (hb.1 X _ G h.2))).via fun σ H Q w => and_step w
    · rw [Bool.and_eq_true] at h
      exact (pe_and (ha.1 X _ G h.1) (hb.1 X _ G h.2)).via fun σ H Q w => and_step w
    · cases h
  · intro X x G h
    simp only [chkE] at h
    split at h
    · rw [Bool.and_eq_true] at h
      exact (pw_and (ha.2 X _ G h.1) (pw_last (hb.2 X _ G h.2))).pt.via fun σ H Q w => and_stepB w
    · rw [Bool.and_eq_true] at h
      exact (pw_and (ha.2 X _ G h.1) (pw_of (hb.2 X _ G h.2))).pt.via fun σ H Q w => and_stepB w
    · cases h
theorem c_or {a b : E} (ha : OkE Z L fuel n a) (hb : OkE Z L fuel n b) : OkE Z L fuel n (.or_ a b) := by
  constructor
  · intro X x G h
    simp only [chkE] at h
    split at h
    · rw [Bool.and_eq_true] at h
      exact (pe_or (ha.1 X _ G h.1) (pe_one (hb.1 X _ G h.2))).via fun σ H Q w => or_step w
    · rw [Bool.and_eq_true] at h
      exact (pe_or (ha.1 X _ G h.1) (hb.1 X _ G h.2)).via fun σ H Q w => or_step w
    · cases h
  · intro X x G h
    simp only [chkE] at h
    split at h
    · rw [Bool.and_eq_true] at h
      exact (pw_or (ha.2 X _ G h.1) (pw_last (hb.2 X _ G h.2))).pt.via fun σ H Q w => or_stepB w
    · rw [Bool.and_eq_true] at h
      exact (pw_or (ha.2 X _ G h.1) (pw_of (hb.2 X _ G h.2))).pt.via fun σ H Q w => or_stepB w
    · cases h
theorem c_ite {c a b : E} (hc : OkE Z L fuel n c) (ha : OkE Z L fuel n a) (hb : OkE Z L fuel n b) : OkE Z L fuel n (.ite c a b) := by
  constructor
  · intro X x G h
    simp only [chkE] at h
    split at h
    · simp only [Bool.and_eq_true] at h
      obtain ⟨⟨⟨_, h1⟩, h2⟩, h3⟩ := h
      refine (pe_ifExp (hc.2 X _ G h1) (ha.1 X _ G h2) (hb.1 X _ G h3)).via fun σ H Q ⟨ρ, en, s, d, s', he, hs, hv, q⟩ => ?_
      simp only [evE] at hv
      obtain ⟨k, s1, e1, hv⟩ := R.bind_eq hv
      refine goB he hs e1 fun ρ1 H1 x1 hs1 he1 => ?_
      cases k with
      | true => exact iteT (goE he1 hs1 hv fun ρ2 H2 v2 x2 hs2 he2 r2 => q ρ2 H2 v2 (x1.trans x2) hs2 r2)
      | false => exact iteF (goE he1 hs1 hv fun ρ2 H2 v2 x2 hs2 he2 r2 => q ρ2 H2 v2 (x1.trans x2) hs2 r2)
    · cases h
  · intro X x G h
    simp only [chkE] at h
    split at h
    · simp at h
    · cases h

/-! ### attributes, displays -/
theorem paired_look {Y : Nam} {K : PySem.W.Frag} {ρ : List Addr} {H : Hp} (nd : Y.nm.Nodup) : ∀ {fs : List (Nat × D)} {gs : List (Str × V)} {k : Nat} {d : D} {x : Str}, Paired (RepF Y K ρ H) fs gs → fs.lookup k = some d → Y.nm[k]? = some x → ∃ v, gs.lookup x = some v ∧ Rep K ρ H d v
  | _, _, _, _, _, .nil, h, _ => by cases h
  | (j, e) :: fs, (y, w) :: gs, k, d, x, .cons r t, h, hx => by
    rw [List.lookup_cons] at h ⊢
    by_cases hk : k = j
    · subst hk
      rw [beq_self_eq_true] at h
      cases h
      have : y = x := by have := r.1; rw [hx] at this; cases this; rfl
      subst this
      rw [beq_self_eq_true]
      exact ⟨w, rfl, r.2⟩
    · have hy : ¬ x = y := fun e => by
        subst e
        obtain ⟨h1, e1⟩ := List.getElem?_eq_some_iff.mp hx
        obtain ⟨h2, e2⟩ := List.getElem?_eq_some_iff.mp r.1
        exact hk ((List.getElem_inj nd).mp (e1.trans e2.symm))
      rw [show (k == j) = false by simpa using hk] at h
      rw [show (x == y) = false by simpa using hy]
      exact paired_look nd t h hx
theorem paired_none {Y : Nam} {K : PySem.W.Frag} {ρ : List Addr} {H : Hp} (nd : Y.nm.Nodup) : ∀ {fs : List (Nat × D)} {gs : List (Str × V)} {k : Nat} {x : Str}, Paired (RepF Y K ρ H) fs gs → fs.lookup k = none → Y.nm[k]? = some x → gs.lookup x = none
  | _, _, _, _, .nil, h, _ => rfl
  | (j, e) :: fs, (y, w) :: gs, k, x, .cons r t, h, hx => by
    rw [List.lookup_cons] at h ⊢
    by_cases hk : k = j
    · subst hk
      rw [beq_self_eq_true] at h
      cases h
    · have hy : ¬ x = y := fun e => by
        subst e
        obtain ⟨h1, e1⟩ := List.getElem?_eq_some_iff.mp hx
        obtain ⟨h2, e2⟩ := List.getElem?_eq_some_iff.mp r.1
        exact hk ((List.getElem_inj nd).mp (e1.trans e2.symm))
      rw [show (k == j) = false by simpa using hk] at h
      rw [show (x == y) = false by simpa using hy]
      exact paired_none nd t h hx
/-- a promise taken at the right place -/
theorem spF_of {Y : Nam} {K : PySem.W.Frag} {fuel n f : Nat} {Z : Tabs} {r : FnR} (hr : Z.fns[f]? = some r) {ρ : List Addr} {H : Hp} {ds : List D} {vs : List V} {s s' : Sto} {d : D} {Q : VK} {E : XK} (hs : RepS Y K ρ H s) (rl : RepL K ρ H ds vs)
    (hv : (gOf Z fuel n).fn f ds s = .ok d s') (q : Post Y K ρ H s' d Q) : spF Y K ((gOf Z fuel n).fn f) r.ar vs H Q E := by
  refine ⟨ρ, ds, s, d, s', ?_, rl, hs, hv, q⟩
  rw [← rl.length]
  cases n with
  | zero => cases hv
  | succ m =>
    simp only [gOf, fnN, Tabs.fn, hr, Option.map_some] at hv
    split at hv
    · rename_i hh; exact hh
    · cases hv
theorem kl_of {Z : Tabs} {c : Nat} {q : Klass} {fuel n : Nat} (h : (gOf Z fuel n).cls c = some q) : ∃ r, Z.cls[c]? = some r ∧ r.k = q := by
  have h : (Z.cls[c]?).map (·.k) = some q := h
  obtain ⟨r, a, b⟩ := Option.map_eq_some_iff.mp h
  exact ⟨r, a, b⟩
theorem c_fld {a : E} (k : Nat) (ha : OkE Z L fuel n a) : OkE Z L fuel n (.fld a k) := by
  have go : ∀ (m : Bool) (X : Cx) (x : Expr), Good Z L fuel n X → chkE Z X.N m X.env.scope (.fld a k) x = true → plainTest x = true ∧ PE X x (tE (Z.nam L) X.K (gOf Z fuel n) (.fld a k)) := fun m X x G h => by
    simp only [chkE] at h
    split at h
    · simp only [Bool.and_eq_true, beq_iff_eq] at h
      obtain ⟨⟨h1, h0⟩, h2⟩ := h
      have hA := ha.1 X _ G h2
      refine ⟨rfl, PE.by_ fun σ H Q ⟨ρ, en, s, d, s', he, hs, hv, q⟩ => ?_⟩
      simp only [evE] at hv
      obtain ⟨x1, s1, e1, hv⟩ := R.bind_eq hv
      split at hv
      · rename_i m'
        split at hv
        · rename_i c fs ei
          split at hv
          · rename_i kl ek
            obtain ⟨r, hr, rfl⟩ := kl_of ek
            split at hv
            · rename_i f ef
              -- a property
              obtain ⟨⟨pa, hp⟩, isf⟩ := G.fac.cprop c r k _ f hr ef h1
              obtain ⟨fr, hfr⟩ := G.fn isf
              refine ⟨_, pe_propG (E := E0) hA (G.fac.ccls c r hr) hp (G.fns f fr hfr) (G.room.mono (by omega)) G.gu (G.fac.bind f fr hfr) pass0 (base_of h0 _), ?_⟩
              refine goE he hs e1 fun ρ1 H1 v1 x1 hs1 he1 r1 => ?_
              obtain ⟨ad, dx, gs, z, hv1, pf⟩ := hs1.gI ei
              exact ⟨ad, dx, gs, r1.ref_at z, hv1, spF_of hfr hs1 (.cons (.ref z) .nil) hv (Post.ext x1 q)⟩
            · split at hv
              · rename_i d1 ed
                split at hv
                · rename_i ic
                  cases hv
                  refine ⟨_, pe_fld hA (base_of h0 _), ?_⟩
                  refine goE he hs e1 fun ρ1 H1 v1 x1 hs1 he1 r1 => ?_
                  obtain ⟨ad, dx, gs, z, hv1, pf⟩ := hs1.gI ei
                  obtain ⟨v, lk, rv⟩ := paired_look G.names pf ed h1
                  exact ⟨ad, _, dx, gs, v, r1.ref_at z, hv1, G.fac.ccls c r hr, G.fac.cfld c r k _ hr ic h1, lk, q ρ1 H1 v x1 hs1 rv⟩
                · cases hv
              · cases hv
          · cases hv
        · cases hv
      · cases hv
    · cases h
  exact ⟨fun X x G h => (go _ X x G h).2, fun X x G h => test_val (go _ X x G h).1 (go _ X x G h).2⟩
end
end Pv

end
section
set_option Elab.async false
set_option linter.all false
set_option maxRecDepth 100000
set_option maxHeartbeats 1000000
namespace Pv
open PySem L2 PySem.Spec PyProof.Rows
section
variable {Z : Tabs} {L : Pla} {fuel n : Nat}

theorem es_nil : OkEs Z L fuel n .nil := by
  refine ⟨fun X xs G h ns => ?_, trivial⟩
  cases xs with
  | nil =>
    refine pa_nil.via fun σ H Q ⟨ρ, en, s, ds, s', he, hs, hv, q⟩ => ?_
    simp only [evEs] at hv
    cases hv
    exact q ρ H [] .refl hs .nil
  | cons x xs => cases h
theorem es_cons {e : E} {es : Es} (h1 : OkE Z L fuel n e) (h2 : OkEs Z L fuel n es) : OkEs Z L fuel n (.cons e es) := by
  refine ⟨fun X xs G h ns => ?_, h1, h2.2⟩
  cases xs with
  | nil => cases h
  | cons x xs =>
    simp only [chkEs, Bool.and_eq_true] at h
    refine (pa_cons (h1.1 X _ G h.1) (h2.1 X _ G h.2 (noStar_tail ns)) (star_cons ns)).via fun σ H Q ⟨ρ, en, s, ds, s', he, hs, hv, q⟩ => ?_
    simp only [evEs] at hv
    obtain ⟨x1, s1, e1, hv⟩ := R.bind_eq hv
    obtain ⟨y1, s2, e2, hv⟩ := R.bind_eq hv
    cases hv
    exact goE he hs e1 fun ρ1 H1 v1 x1 hs1 he1 r1 => goEs he1 hs1 e2 fun ρ2 H2 v2 x2 hs2 he2 r2 => q ρ2 H2 _ (x1.trans x2) hs2 (.cons (r1.ext x2) r2)
theorem es_len {g : G} : ∀ {es : Es} {en : Slo} {s s' : Sto} {ds : List D} {sc : Scope} {N : List Str} {xs : List Expr}, chkEs Z N sc es xs = true → evEs g es en s = .ok ds s' → ds.length = xs.length
  | .nil, _, _, _, _, _, _, [], _, hv => by simp only [evEs] at hv; cases hv; rfl
  | .cons e es, _, _, _, _, _, _, x :: xs, h, hv => by
    simp only [chkEs, Bool.and_eq_true] at h
    simp only [evEs] at hv
    obtain ⟨x1, s1, e1, hv⟩ := R.bind_eq hv
    obtain ⟨y1, s2, e2, hv⟩ := R.bind_eq hv
    cases hv
    rw [List.length_cons, List.length_cons, es_len h.2 e2]
  | .nil, _, _, _, _, _, _, _ :: _, h, _ => by cases h
  | .cons _ _, _, _, _, _, _, _, [], h, _ => by cases h
/-- nothing is asked of no arguments -/
theorem es_none {X : Cx} {es : Es} {xs : List Expr} (h : chkEs Z X.N X.env.scope es xs = true) : xs = [] → ∀ σ H R, tEs (Z.nam L) X.K (gOf Z fuel n) es σ H R → R [] H := fun e σ H R ⟨ρ, en, s, ds, s', he, hs, hv, q⟩ => by
  have l := es_len h hv
  subst e
  have e : ds = [] := List.length_eq_zero_iff.mp l
  subst e
  have : s' = s := by
    cases es with
    | nil => simp only [evEs] at hv; cases hv; rfl
    | cons e es => cases h
  subst this
  exact q ρ H [] .refl hs .nil

theorem c_tup {es : Es} (h1 : OkEs Z L fuel n es) : OkE Z L fuel n (.tup es) := by
  have go : ∀ (m : Bool) (X : Cx) (x : Expr), Good Z L fuel n X → chkE Z X.N m X.env.scope (.tup es) x = true → plainTest x = true ∧ PE X x (tE (Z.nam L) X.K (gOf Z fuel n) (.tup es)) := fun m X x G h => by
    simp only [chkE] at h
    split at h
    · rw [Bool.and_eq_true] at h
      refine ⟨rfl, (pe_tup (h1.1 X _ G h.2 h.1)).via fun σ H Q ⟨ρ, en, s, d, s', he, hs, hv, q⟩ => ?_⟩
      simp only [evE] at hv
      obtain ⟨x1, s1, e1, hv⟩ := R.bind_eq hv
      split at hv
      · rename_i hl
        cases hv
        exact goEs he hs e1 fun ρ1 H1 v1 x1 hs1 he1 r1 => ⟨by rw [← r1.length]; exact hl, Post.laidT (Post.ext x1 q) hs1 r1⟩
      · cases hv
    · cases h
  exact ⟨fun X x G h => (go _ X x G h).2, fun X x G h => test_val (go _ X x G h).1 (go _ X x G h).2⟩
theorem l_plain {l : Pv.L} {x : Expr} {sc : Scope} {N : List Str} (h : chkL Z N sc l x = true) : plainTest x = true := by
  cases l with
  | comp own elt t it cond =>
    simp only [chkL] at h
    split at h
    · rfl
    · cases h
  | disp es =>
    simp only [chkL] at h
    split at h
    · rfl
    · cases h
  | range es =>
    simp only [chkL] at h
    split at h
    · rfl
    · rfl
    · cases h
theorem c_new {l : Pv.L} (h1 : OkL Z L fuel n l) : OkE Z L fuel n (.new l) := by
  have go : ∀ (m : Bool) (X : Cx) (x : Expr), Good Z L fuel n X → chkE Z X.N m X.env.scope (.new l) x = true → plainTest x = true ∧ PE X x (tE (Z.nam L) X.K (gOf Z fuel n) (.new l)) := fun m X x G h => by
    simp only [chkE] at h
    refine ⟨l_plain h, (h1 X x G h).via fun σ H Q ⟨ρ, en, s, d, s', he, hs, hv, q⟩ => ?_⟩
    simp only [evE] at hv
    obtain ⟨ds, s1, e1, hv⟩ := R.bind_eq hv
    simp only [newL] at hv
    cases hv
    refine goL he hs e1 fun ρ1 H1 p vs x1 hs1 he1 m0 n0 hp r => ?_
    exact q (ρ1 ++ [p]) H1 _ (x1.takeIn n0) (hs1.takeIn m0 ⟨vs, hp, r.ext0 ⟨⟨[p], rfl⟩, fun _ _ e _ => e⟩⟩) (.ref (made_at hs1 p))
  exact ⟨fun X x G h => (go _ X x G h).2, fun X x G h => test_val (go _ X x G h).1 (go _ X x G h).2⟩

/-! ### calls of defs -/
theorem c_call (f : Nat) {es : Es} (h1 : OkEs Z L fuel n es) : OkE Z L fuel n (.call f es) := by
  have go : ∀ (m : Bool) (X : Cx) (x : Expr), Good Z L fuel n X → chkE Z X.N m X.env.scope (.call f es) x = true → plainTest x = true ∧ PE X x (tE (Z.nam L) X.K (gOf Z fuel n) (.call f es)) := fun m X x G h => by
    simp only [chkE] at h
    split at h
    · simp only [Bool.and_eq_true] at h
      obtain ⟨⟨⟨h2, h3⟩, h4⟩, h5⟩ := h
      split at h2
      · rename_i r hr
        rw [Bool.and_eq_true] at h2
        obtain rfl := beq_iff_eq.mp h2.2
        obtain ⟨mg, kp⟩ := G.fac.glob f r hr h2.1
        obtain ⟨gx, gd, _⟩ := gl_of h3
        refine ⟨rfl, (pe_callG (E := E0) (G.fns f r hr) (G.room.mono (by omega)) G.gu gx mg kp (G.fac.bind f r hr) pass0 h4 (es_none h5) (h1.1 X _ G h5 h4) gd).via fun σ H Q ⟨ρ, en, s, d, s', he, hs, hv, q⟩ => ?_⟩
        simp only [evE] at hv
        obtain ⟨ds, s1, e1, hv⟩ := R.bind_eq hv
        exact goEs he hs e1 fun ρ1 H1 vs x1 hs1 he1 r1 => spF_of hr hs1 r1 hv (Post.ext x1 q)
      · cases h2
    · cases h
  exact ⟨fun X x G h => (go _ X x G h).2, fun X x G h => test_val (go _ X x G h).1 (go _ X x G h).2⟩
theorem c_meth {o : E} (k : Nat) {es : Es} (ho : OkE Z L fuel n o) (h1 : OkEs Z L fuel n es) : OkE Z L fuel n (.meth o k es) := by
  have go : ∀ (m : Bool) (X : Cx) (x : Expr), Good Z L fuel n X → chkE Z X.N m X.env.scope (.meth o k es) x = true → plainTest x = true ∧ PE X x (tE (Z.nam L) X.K (gOf Z fuel n) (.meth o k es)) := fun m X x G h => by
    simp only [chkE] at h
    split at h
    · simp only [Bool.and_eq_true, decide_eq_true_eq] at h
      obtain ⟨⟨⟨⟨⟨⟨h2, h3⟩, h4⟩, h5⟩, h6⟩, h7⟩, h8⟩ := h
      have h2 := beq_iff_eq.mp h2
      refine ⟨rfl, PE.by_ fun σ H Q ⟨ρ, en, s, d, s', he, hs, hv, q⟩ => ?_⟩
      simp only [evE] at hv
      obtain ⟨x1, s1, e1, hv⟩ := R.bind_eq hv
      split at hv
      · rename_i m'
        split at hv
        · rename_i c fs ei
          split at hv
          · rename_i kl ek
            obtain ⟨r, hr, rfl⟩ := kl_of ek
            split at hv
            · rename_i f ef
              split at hv
              · rename_i en0
                obtain ⟨ds, s2, e2, hv⟩ := R.bind_eq hv
                obtain ⟨hm, isf⟩ := G.fac.cmeth c r k _ f hr ef h2
                obtain ⟨fr, hfr⟩ := G.fn isf
                refine ⟨_, pe_methG (E := E0) (ho.1 X _ G h7) (G.fac.ccls c r hr) hm (G.fns f fr hfr) (G.room.mono (by omega)) G.gu (G.fac.bind f fr hfr) pass0 h4 (es_none h8) (h1.1 X _ G h8 h4) (base_of h3 _) h5 h6, ?_⟩
                refine goE he hs e1 fun ρ1 H1 v1 x1 hs1 he1 r1 => ?_
                obtain ⟨ad, dx, gs, z, hv1, pf⟩ := hs1.gI ei
                refine ⟨ad, dx, gs, r1.ref_at z, hv1, paired_none G.names pf en0 h2, ?_⟩
                exact goEs he1 hs1 e2 fun ρ2 H2 vs x2 hs2 he2 r2 => spF_of hfr hs2 (.cons (r1.ext x2) r2) hv (Post.ext (x1.trans x2) q)
              · cases hv
            · cases hv
          · cases hv
        · cases hv
      · cases hv
    · cases h
  exact ⟨fun X x G h => (go _ X x G h).2, fun X x G h => test_val (go _ X x G h).1 (go _ X x G h).2⟩
theorem c_make (c : Nat) {es : Es} (h1 : OkEs Z L fuel n es) : OkE Z L fuel n (.make c es) := by
  have go : ∀ (m : Bool) (X : Cx) (x : Expr), Good Z L fuel n X → chkE Z X.N m X.env.scope (.make c es) x = true → plainTest x = true ∧ PE X x (tE (Z.nam L) X.K (gOf Z fuel n) (.make c es)) := fun m X x G h => by
    simp only [chkE] at h
    split at h
    · simp only [Bool.and_eq_true] at h
      obtain ⟨⟨⟨h2, h3⟩, h4⟩, h5⟩ := h
      split at h2
      · rename_i r hr
        obtain rfl := beq_iff_eq.mp h2
        obtain ⟨gx, gd, _⟩ := gl_of h3
        obtain ⟨mk, isf⟩ := G.fac.cmk c r hr
        obtain ⟨fr, hfr⟩ := G.fn isf
        refine ⟨rfl, (pe_makeG (E := E0) mk (G.fns r.k.init fr hfr) (G.room.mono (by omega)) G.gu gx (G.fac.cname c r hr) (G.fac.bind _ fr hfr) pass0 h4 (es_none h5) (h1.1 X _ G h5 h4) gd).via fun σ H Q ⟨ρ, en, s, d, s', he, hs, hv, q⟩ => ?_⟩
        simp only [evE] at hv
        obtain ⟨ds, s1, e1, hv⟩ := R.bind_eq hv
        have ek : (gOf Z fuel n).cls c = some r.k := by show (Z.cls[c]?).map (·.k) = _; rw [hr]; rfl
        rw [ek] at hv
        obtain ⟨d1, s2, e2, hv⟩ := R.bind_eq hv
        split at hv
        · cases hv
          refine goEs he hs e1 fun ρ1 H1 vs x1 hs1 he1 r1 => fun y dx ny ndx ne => ?_
          have ny2 : upd H1 dx (.own y) y = none := by rw [upd_ne (Ne.symm ne)]; exact ny
          have xa : Ext ρ1 H1 ρ1 (upd H1 dx (.own y)) := .laid dx _ ndx
          have xb := Ext.made (ρ := ρ1) y (.ins (L.cad c) dx []) ny2
          have hs2 := (hs1.laid dx (.own y) ndx).made (c := .ins c []) y (.ins (L.cad c) dx []) ny2 ⟨dx, [], upd_same, .nil⟩
          refine spF_of hfr hs2 (.cons (.ref (made_at hs1 y)) (r1.ext (xa.trans xb))) e2 fun ρ' H' v e h' rv => ⟨rep_non rv, ?_⟩
          exact q ρ' H' _ (((x1.trans xa).trans xb).trans e) h' (.ref (e.w.at (made_at hs1 y)))
        · cases hv
      · cases h2
    · cases h
  exact ⟨fun X x G h => (go _ X x G h).2, fun X x G h => test_val (go _ X x G h).1 (go _ X x G h).2⟩

/-! ### built-in calls -/
theorem biD_nil (b : Bi) (s : Sto) : biD b [] s = .no := by cases b <;> rfl
theorem bi_b {X : Cx} {b : Bi} {id : String} {es : Es} {xs : List Expr} {y : Str} {p pos : Pos} (G : Good Z L fuel n X) (h1 : OkEs Z L fuel n es) (rule : CallR X (.builtin id) (rDn (Z.nam L) X.K (biD b))) (by_ : bootBuiltins y = some (.builtin id)) (mem : y ∈ builtinNames)
    (hg : gl X.env.scope y = true) (ns : noStar xs = true) (hc : chkEs Z X.N X.env.scope es xs = true) : PE X (.Call (.Name y p) xs [] pos) (tE (Z.nam L) X.K (gOf Z fuel n) (.bi b es)) := by
  obtain ⟨gx, gd, gn⟩ := gl_of hg
  cases xs with
  | nil =>
    refine PE.by_ fun σ H Q ⟨ρ, en, s, d, s', he, hs, hv, q⟩ => ?_
    simp only [evE] at hv
    obtain ⟨ds, s1, e1, hv⟩ := R.bind_eq hv
    rw [List.length_eq_zero_iff.mp (es_len hc e1), biD_nil] at hv
    cases hv
  | cons u us =>
    refine (pe_callB rule gx (G.fac.bi y mem) by_ (h1.1 X _ G hc ns) gn gd (star_cons ns) (starAny (noStar_tail ns))).via fun σ H Q ⟨ρ, en, s, d, s', he, hs, hv, q⟩ => ?_
    simp only [evE] at hv
    obtain ⟨ds, s1, e1, hv⟩ := R.bind_eq hv
    exact goEs he hs e1 fun ρ1 H1 vs x1 hs1 he1 r1 => ⟨ρ1, s1, ds, _, _, hs1, r1, hv, Post.ext x1 q⟩
theorem bi_t {X : Cx} {b : Bi} {T : String} {es : Es} {xs : List Expr} {y : Str} {p pos : Pos} (G : Good Z L fuel n X) (h1 : OkEs Z L fuel n es) (rule : CallR X (.type T) (rDn (Z.nam L) X.K (biD b))) (by_ : bootBuiltins y = some (.type T)) (mem : y ∈ builtinNames)
    (hg : gl X.env.scope y = true) (ns : noStar xs = true) (hc : chkEs Z X.N X.env.scope es xs = true) : PE X (.Call (.Name y p) xs [] pos) (tE (Z.nam L) X.K (gOf Z fuel n) (.bi b es)) := by
  obtain ⟨gx, gd, gn⟩ := gl_of hg
  cases xs with
  | nil =>
    refine PE.by_ fun σ H Q ⟨ρ, en, s, d, s', he, hs, hv, q⟩ => ?_
    simp only [evE] at hv
    obtain ⟨ds, s1, e1, hv⟩ := R.bind_eq hv
    rw [List.length_eq_zero_iff.mp (es_len hc e1), biD_nil] at hv
    cases hv
  | cons u us =>
    refine (pe_callTy rule gx (G.fac.bi y mem) by_ (h1.1 X _ G hc ns) gn gd (star_cons ns) (starAny (noStar_tail ns))).via fun σ H Q ⟨ρ, en, s, d, s', he, hs, hv, q⟩ => ?_
    simp only [evE] at hv
    obtain ⟨ds, s1, e1, hv⟩ := R.bind_eq hv
    exact goEs he hs e1 fun ρ1 H1 vs x1 hs1 he1 r1 => ⟨ρ1, s1, ds, _, _, hs1, r1, hv, Post.ext x1 q⟩
theorem bi_i {X : Cx} {b : Bi} {T : String} {es : Es} {u : Expr} {y v : Str} {p p' pos : Pos} (G : Good Z L fuel n X) (h1 : OkEs Z L fuel n es) (kind : (b = .isInt ∧ T = "int") ∨ (b = .isBool ∧ T = "bool") ∨ (b = .isStr ∧ T = "str") ∨ (b = .isTup ∧ T = "tuple"))
    (by_ : bootBuiltins y = some (.builtin "isinstance")) (bv : bootBuiltins v = some (.type T)) (mem : y ∈ builtinNames) (mev : v ∈ builtinNames) (hg : gl X.env.scope y = true) (hgv : gl X.env.scope v = true) (ns : noStar [u] = true) (hc : chkEs Z X.N X.env.scope es [u] = true) :
    PE X (.Call (.Name y p) [u, .Name v p'] [] pos) (tE (Z.nam L) X.K (gOf Z fuel n) (.bi b es)) := by
  obtain ⟨gx, gd, gn⟩ := gl_of hg
  obtain ⟨gxv, gdv, gnv⟩ := gl_of hgv
  cases es with
  | nil => cases hc
  | cons e es =>
    have hc1 : chkE Z X.N false X.env.scope e u = true ∧ chkEs Z X.N X.env.scope es [] = true := by simpa only [chkEs, Bool.and_eq_true] using hc
    have hn : es = .nil := by
      cases es with
      | nil => rfl
      | cons _ _ => cases hc1.2
    subst hn
    have ns2 : noStar [u, .Name v p'] = true := by cases u <;> first | rfl | cases ns
    have ty : PE X (.Name v p') (tC (.ty T)) := pe_bltn gxv (G.fac.bi v mev) bv rfl gnv gdv
    refine (pe_callB (isi_ok (Y := Z.nam L) b T kind) gx (G.fac.bi y mem) by_ (pa_cons (h1.2.1.1 X u G hc1.1) (pa_cons ty pa_nil) (star_cons ns2)) gn gd (star_cons ns2) (starAny (noStar_tail ns2))).via fun σ H Q ⟨ρ, en, s, d, s', he, hs, hv, q⟩ => ?_
    simp only [evE, evEs] at hv
    obtain ⟨ds, s1, e1, hv⟩ := R.bind_eq hv
    obtain ⟨x1, s2, e2, e1⟩ := R.bind_eq e1
    cases e1
    exact goE he hs e2 fun ρ1 H1 v1 x1 hs1 he1 r1 => ⟨ρ1, _, _, v1, _, _, rfl, hs1, r1, hv, Post.ext x1 q⟩
theorem c_bi (b : Bi) {es : Es} (h1 : OkEs Z L fuel n es) : OkE Z L fuel n (.bi b es) := by
  have go : ∀ (m : Bool) (X : Cx) (x : Expr), Good Z L fuel n X → chkE Z X.N m X.env.scope (.bi b es) x = true → plainTest x = true ∧ PE X x (tE (Z.nam L) X.K (gOf Z fuel n) (.bi b es)) := fun m X x G h => by
    simp only [chkE] at h
    split at h
    · simp only [Bool.and_eq_true] at h
      obtain ⟨⟨h2, h3⟩, h4⟩ := h
      obtain rfl := beq_iff_eq.mp h2
      refine ⟨rfl, ?_⟩
      split at h4
      · rename_i t et
        split at h4
        · simp only [Bool.and_eq_true] at h4
          obtain ⟨⟨⟨h5, h6⟩, h7⟩, h8⟩ := h4
          obtain rfl := beq_iff_eq.mp h5
          cases b with
          | isInt => cases et; exact bi_i G h1 (.inl ⟨rfl, rfl⟩) (by decide +kernel) (by decide +kernel) (by decide +kernel) (by decide +kernel) h3 h6 h7 h8
          | isBool => cases et; exact bi_i G h1 (.inr (.inl ⟨rfl, rfl⟩)) (by decide +kernel) (by decide +kernel) (by decide +kernel) (by decide +kernel) h3 h6 h7 h8
          | isStr => cases et; exact bi_i G h1 (.inr (.inr (.inl ⟨rfl, rfl⟩))) (by decide +kernel) (by decide +kernel) (by decide +kernel) (by decide +kernel) h3 h6 h7 h8
          | isTup => cases et; exact bi_i G h1 (.inr (.inr (.inr ⟨rfl, rfl⟩))) (by decide +kernel) (by decide +kernel) (by decide +kernel) (by decide +kernel) h3 h6 h7 h8
          | _ => cases et
        · cases h4
      · rename_i et
        rw [Bool.and_eq_true] at h4
        cases b with
        | isInt => cases et
        | isBool => cases et
        | isStr => cases et
        | isTup => cases et
        | abs => exact bi_b G h1 abs_ok (by decide +kernel) (by decide +kernel) h3 h4.1 h4.2
        | max2 => exact bi_b G h1 (max2_ok G.calm) (by decide +kernel) (by decide +kernel) h3 h4.1 h4.2
        | min2 => exact bi_b G h1 (min2_ok G.calm) (by decide +kernel) (by decide +kernel) h3 h4.1 h4.2
        | int => exact bi_t G h1 int_ok (by decide +kernel) (by decide +kernel) h3 h4.1 h4.2
        | bool => exact bi_t G h1 bool_ok (by decide +kernel) (by decide +kernel) h3 h4.1 h4.2
        | str => exact bi_t G h1 str_ok (by decide +kernel) (by decide +kernel) h3 h4.1 h4.2
        | divmod => exact bi_b G h1 divmod_ok (by decide +kernel) (by decide +kernel) h3 h4.1 h4.2
        | repr => exact bi_b G h1 (repr_ok G.gu G.units) (by decide +kernel) (by decide +kernel) h3 h4.1 h4.2
        | isCls c =>
          refine PE.by_ fun σ H Q ⟨ρ, en, s, d, s', he, hs, hv, q⟩ => ?_
          simp only [evE] at hv
          obtain ⟨ds, s1, e1, hv⟩ := R.bind_eq hv
          cases hv
    · cases h
  exact ⟨fun X x G h => (go _ X x G h).2, fun X x G h => test_val (go _ X x G h).1 (go _ X x G h).2⟩
end
end Pv

end
section
set_option Elab.async false
set_option linter.all false
set_option maxRecDepth 100000
set_option maxHeartbeats 1000000
namespace Pv
open PySem L2 PySem.Spec PyProof.Rows
section
variable {Z : Tabs} {L : Pla} {fuel n : Nat}

/-! ### what is reckoned of items -/
theorem fb_call {X : Cx} (G : Good Z L fuel n X) (b : Fb) {u : Expr} {t : TE} {p pos : Pos} (hg : gl X.env.scope b.name = true) (ns : noStar [u] = true) (h : PE X u t) :
    ∃ r, PE X (.Call (.Name b.name p) [u] [] pos) r ∧ ∀ σ H Q, (t σ H fun v H1 => rFold (Z.nam L) X.K b [v] H1 Q) → r σ H Q := by
  obtain ⟨gx, gd, gn⟩ := gl_of hg
  have pa := pa_cons h pa_nil (star1 ns)
  have an : ((backTo pos (starEach [] X.env)).any fun x => x.1) = false := rfl
  cases b with
  | all => exact ⟨_, pe_callB (fold_all G.calm) gx (G.fac.bi _ (by decide +kernel)) (by decide +kernel) pa gn gd (star1 ns) an, fun σ H Q w => w⟩
  | any => exact ⟨_, pe_callB (fold_any G.calm) gx (G.fac.bi _ (by decide +kernel)) (by decide +kernel) pa gn gd (star1 ns) an, fun σ H Q w => w⟩
  | sum => exact ⟨_, pe_callB (fold_sum G.calm) gx (G.fac.bi _ (by decide +kernel)) (by decide +kernel) pa gn gd (star1 ns) an, fun σ H Q w => w⟩
  | len => exact ⟨_, pe_callB fold_len gx (G.fac.bi _ (by decide +kernel)) (by decide +kernel) pa gn gd (star1 ns) an, fun σ H Q w => w⟩
  | tuple => exact ⟨_, pe_callTy fold_tuple gx (G.fac.bi _ (by decide +kernel)) (by decide +kernel) pa gn gd (star1 ns) an, fun σ H Q w => w⟩
  | list => exact ⟨_, pe_callTy fold_list gx (G.fac.bi _ (by decide +kernel)) (by decide +kernel) pa gn gd (star1 ns) an, fun σ H Q w => w⟩
  | max => exact ⟨_, pe_callB (fold_max G.calm) gx (G.fac.bi _ (by decide +kernel)) (by decide +kernel) pa gn gd (star1 ns) an, fun σ H Q w => w⟩
  | min => exact ⟨_, pe_callB (fold_min G.calm) gx (G.fac.bi _ (by decide +kernel)) (by decide +kernel) pa gn gd (star1 ns) an, fun σ H Q w => w⟩
  | sorted => exact ⟨_, pe_callB fold_sorted gx (G.fac.bi _ (by decide +kernel)) (by decide +kernel) pa gn gd (star1 ns) an, fun σ H Q w => w⟩
theorem l_star {l : Pv.L} {u : Expr} {sc : Scope} {N : List Str} (h : chkL Z N sc l u = true) : noStar [u] = true := by
  have p : ∀ y : Expr, (∃ a b, y = .Starred a b) ∨ noStar [y] = true := fun y => by cases y <;> first | exact .inr rfl | exact .inl ⟨_, _, rfl⟩
  rcases p u with ⟨a, b, rfl⟩ | e
  · cases l <;> simp [chkL] at h
  · exact e
theorem c_fold (b : Fb) {l : Pv.L} (h1 : OkL Z L fuel n l) : OkE Z L fuel n (.fold b l) := by
  have go : ∀ (m : Bool) (X : Cx) (x : Expr), Good Z L fuel n X → chkE Z X.N m X.env.scope (.fold b l) x = true → plainTest x = true ∧ PE X x (tE (Z.nam L) X.K (gOf Z fuel n) (.fold b l)) := fun m X x G h => by
    simp only [chkE] at h
    split at h
    · simp only [Bool.and_eq_true] at h
      obtain ⟨⟨h2, h3⟩, h4⟩ := h
      obtain rfl := beq_iff_eq.mp h2
      obtain ⟨r, hr, w⟩ := fb_call G b h3 (l_star h4) (h1 X _ G h4)
      refine ⟨rfl, hr.via fun σ H Q ⟨ρ, en, s, d, s', he, hs, hv, q⟩ => w σ H Q ?_⟩
      simp only [evE] at hv
      obtain ⟨ds, s1, e1, hv⟩ := R.bind_eq hv
      exact goL he hs e1 fun ρ1 H1 p vs x1 hs1 he1 m0 n0 hp r1 => ⟨ρ1, s1, ds, vs, p, d, s', rfl, hs1, .inl (SqL.of hp), r1, hv, Post.ext x1 q, fun _ => SqL.of hp⟩
    · cases h
  exact ⟨fun X x G h => (go _ X x G h).2, fun X x G h => test_val (go _ X x G h).1 (go _ X x G h).2⟩
theorem c_foldv (b : Fb) {e : E} (h1 : OkE Z L fuel n e) : OkE Z L fuel n (.foldv b e) := by
  have go : ∀ (m : Bool) (X : Cx) (x : Expr), Good Z L fuel n X → chkE Z X.N m X.env.scope (.foldv b e) x = true → plainTest x = true ∧ PE X x (tE (Z.nam L) X.K (gOf Z fuel n) (.foldv b e)) := fun m X x G h => by
    simp only [chkE] at h
    split at h
    · simp only [Bool.and_eq_true] at h
      obtain ⟨⟨⟨h2, h3⟩, h5⟩, h4⟩ := h
      obtain rfl := beq_iff_eq.mp h2
      obtain ⟨r, hr, w⟩ := fb_call G b h3 h5 (h1.1 X _ G h4)
      refine ⟨rfl, hr.via fun σ H Q ⟨ρ, en, s, d, s', he, hs, hv, q⟩ => w σ H Q ?_⟩
      simp only [evE] at hv
      obtain ⟨x1, s1, e1, hv⟩ := R.bind_eq hv
      split at hv
      · rename_i ds ei
        split at hv
        · rename_i ok
          refine goE he hs e1 fun ρ1 H1 v1 x1 hs1 he1 r1 => ?_
          obtain ⟨a, vs, rfl, hq, rl⟩ := hs1.gItems ei r1
          refine ⟨ρ1, s1, ds, vs, a, d, s', rfl, hs1, hq.imp id (·.1), rl, hv, Post.ext x1 q, fun kb => ?_⟩
          rcases hq with hq | ⟨_, es, rfl⟩
          · exact hq
          · rcases kb with rfl | rfl | rfl <;> cases ok
        · cases hv
      · cases hv
    · cases h
  exact ⟨fun X x G h => (go _ X x G h).2, fun X x G h => test_val (go _ X x G h).1 (go _ X x G h).2⟩
end
end Pv

end
section
set_option Elab.async false
set_option linter.all false
set_option maxRecDepth 100000
set_option maxHeartbeats 1000000
namespace Pv
open PySem L2 PySem.Spec PyProof.Rows
section
variable {Z : Tabs} {L : Pla} {fuel n : Nat}

theorem plainIx_of {z : Expr} (h : (!isSlice z) = true) : PlainIx z := fun o i => by
  cases z <;> first | rfl | cases h
theorem atI_rep {K : PySem.W.Frag} {ρ : List Addr} {H : Hp} {ds : List D} {vs : List V} {k : Int} {d : D} (r : RepL K ρ H ds vs) (h : atI ds k = some d) : ∃ v, atI vs k = some v ∧ Rep K ρ H d v := by
  unfold atI at h ⊢
  rw [← r.length]
  cases e : ixN ds.length k with
  | none => rw [e] at h; cases h
  | some j => rw [e] at h; exact r.get h
theorem c_ix {a i : E} (ha : OkE Z L fuel n a) (hi : OkE Z L fuel n i) : OkE Z L fuel n (.ix a i) := by
  have go : ∀ (m : Bool) (X : Cx) (x : Expr), Good Z L fuel n X → chkE Z X.N m X.env.scope (.ix a i) x = true → plainTest x = true ∧ PE X x (tE (Z.nam L) X.K (gOf Z fuel n) (.ix a i)) := fun m X x G h => by
    simp only [chkE] at h
    split at h
    · simp only [Bool.and_eq_true] at h
      obtain ⟨⟨h1, h2⟩, h3⟩ := h
      refine ⟨rfl, PE.by_ fun σ H Q ⟨ρ, en, s, d, s', he, hs, hv, q⟩ => ?_⟩
      simp only [evE] at hv
      obtain ⟨x1, s1, e1, hv⟩ := R.bind_eq hv
      obtain ⟨y1, s2, e2, hv⟩ := R.bind_eq hv
      unfold ixD at hv
      split at hv
      · rename_i k
        split at hv
        · rename_i ds ei
          split at hv
          · rename_i d1 ea
            cases hv
            have main : ∀ ρ1 H1 v1, Ext ρ H ρ1 H1 → RepS (Z.nam L) X.K ρ1 H1 s1 → RepE X.K ρ1 H1 en σ → Rep X.K ρ1 H1 x1 v1 → ∀ ρ2 H2 v2, Ext ρ1 H1 ρ2 H2 → RepS (Z.nam L) X.K ρ2 H2 s' → RepE X.K ρ2 H2 en σ → Rep X.K ρ2 H2 (.int k) v2 →
                ∃ ad vs v, v1 = .ref ad ∧ v2 = .int k ∧ (SqL X.K H2 ad vs ∨ (SqT X.K H2 ad vs ∧ ∃ es, x1 = .tup es)) ∧ atI vs k = some v ∧ Q v H2 := fun ρ1 H1 v1 x1 hs1 he1 r1 ρ2 H2 v2 x2 hs2 he2 r2 => by
              obtain ⟨ad, vs, rfl, hq, rl⟩ := hs2.gItems ei (r1.ext x2)
              obtain ⟨v, e, rv⟩ := atI_rep rl ea
              exact ⟨ad, vs, v, rfl, rep_int r2, hq, e, q ρ2 H2 v (x1.trans x2) hs2 rv⟩
            refine ⟨_, pe_ix ix_seq (ha.1 X _ G h2) (hi.1 X _ G h3) (plainIx_of h1), goE he hs e1 fun ρ1 H1 v1 x1 hs1 he1 r1 => goE he1 hs1 e2 fun ρ2 H2 v2 x2 hs2 he2 r2 => ?_⟩
            obtain ⟨ad, vs, v, e3, e4, hq, e5, q5⟩ := main ρ1 H1 v1 x1 hs1 he1 r1 ρ2 H2 v2 x2 hs2 he2 r2
            rcases hq with hq | ⟨hq, _⟩
            · exact .inl ⟨ad, vs, k, v, e3, e4, hq, e5, q5⟩
            · exact .inr (.inl ⟨ad, vs, k, v, e3, e4, hq, e5, q5⟩)
          · cases hv
        · cases hv
      · cases hv
    · cases h
  exact ⟨fun X x G h => (go _ X x G h).2, fun X x G h => test_val (go _ X x G h).1 (go _ X x G h).2⟩
theorem isNon_of {e : E} (h : isNon e = true) : e = .lit .non := by
  unfold isNon at h
  split at h
  · rfl
  · cases h
/-- a part of a slice -/
theorem po_of {X : Cx} {e : E} {l : Option Expr} (G : Good Z L fuel n X) (hE : OkE Z L fuel n e) (h : (match l with | none => isNon e | some u => !isNon e && chkE Z X.N false X.env.scope e u) = true) :
    PO X l (fun σ H Q => ∃ ρ en s d s' o, RepE X.K ρ H en σ ∧ RepS (Z.nam L) X.K ρ H s ∧ evE (gOf Z fuel n) e en s = .ok d s' ∧ bnd e d = some o ∧ ∀ ρ' H', Ext ρ H ρ' H' → RepS (Z.nam L) X.K ρ' H' s' → Q o H') := by
  cases l with
  | none =>
    obtain rfl := isNon_of h
    refine ⟨fun pins s σ H Q I ⟨ρ, en, st, d, s', o, he, hs, hv, hb, q⟩ => po_none.run pins s σ H Q I ?_⟩
    simp only [evE] at hv
    cases hv
    cases hb
    exact q ρ H .refl hs
  | some u =>
    rw [Bool.and_eq_true] at h
    refine ⟨fun pins s σ H Q I ⟨ρ, en, st, d, s', o, he, hs, hv, hb, q⟩ => (po_some (hE.1 X u G h.2)).run pins s σ H Q I (goE he hs hv fun ρ1 H1 v1 x1 hs1 he1 r1 => ?_)⟩
    unfold bnd at hb
    rw [if_neg (by simpa using h.1)] at hb
    split at hb
    · cases hb
      exact ⟨_, rep_int r1, q ρ1 H1 x1 hs1⟩
    · cases hb
theorem cut_rep {K : PySem.W.Frag} {ρ : List Addr} {H : Hp} {ds : List D} {vs : List V} (r : RepL K ρ H ds vs) (l h : Option Int) : RepL K ρ H (cutD ds l h) (cutV vs l h) := by
  unfold cutD cutV
  rw [← r.length]
  exact (r.drop _).take _
theorem cut_whole {ds : List D} {l h : Option Int} (w : HT.sIx ds.length 0 l = 0 ∧ HT.sIx ds.length ds.length h = ds.length) : cutD ds l h = ds := by
  unfold cutD
  rw [w.1, w.2]
  simp
theorem c_sl {a lo hi : E} (ha : OkE Z L fuel n a) (hl : OkE Z L fuel n lo) (hh : OkE Z L fuel n hi) : OkE Z L fuel n (.sl a lo hi) := by
  have go : ∀ (m : Bool) (X : Cx) (x : Expr), Good Z L fuel n X → chkE Z X.N m X.env.scope (.sl a lo hi) x = true → plainTest x = true ∧ PE X x (tE (Z.nam L) X.K (gOf Z fuel n) (.sl a lo hi)) := fun m X x G h => by
    simp only [chkE] at h
    split at h
    · rename_i y l u p1 p2
      rw [Bool.and_eq_true, Bool.and_eq_true] at h
      obtain ⟨⟨h1, h2⟩, h3⟩ := h
      have pl := po_of G hl h2
      have pu := po_of G hh h3
      refine ⟨rfl, PE.by_ fun σ H Q ⟨ρ, en, s, d, s', he, hs, hv, q⟩ => ?_⟩
      simp only [evE] at hv
      obtain ⟨x1, s1, e1, hv⟩ := R.bind_eq hv
      obtain ⟨y1, s2, e2, hv⟩ := R.bind_eq hv
      obtain ⟨z1, s3, e3, hv⟩ := R.bind_eq hv
      split at hv
      · rename_i ol oh el eh
        refine ⟨_, pe_slice (sl_list.or sl_tupA) (ha.1 X _ G h1) pl pu, goE he hs e1 fun ρ1 H1 v1 x1' hs1 he1 r1 => ⟨ρ1, en, s1, y1, s2, ol, he1, hs1, e2, el, fun ρ2 H2 x2 hs2 => ⟨ρ2, en, s2, z1, s3, oh, he1.ext x2, hs2, e3, eh, fun ρ3 H3 x3 hs3 => ?_⟩⟩⟩
        have r3 := r1.ext (x2.trans x3)
        have q3 := Post.ext ((x1'.trans x2).trans x3) q
        cases x1 with
        | tup ds =>
          simp only [slD] at hv
          cases hv
          cases r3 with
          | tup k1 k2 =>
            refine .inr ⟨_, _, rfl, k1, fun w => ?_, fun _ => q3.laidT hs3 (cut_rep k2 ol oh)⟩
            rw [← k2.length] at w
            exact q3.now hs3 (.tup k1 (by rw [cut_whole w]; exact k2))
        | rol ds =>
          simp only [slD, newL] at hv
          cases hv
          cases r3 with
          | rol k1 k2 => exact .inl ⟨_, _, rfl, k1.l, q3.laidL hs3 (cut_rep k2 ol oh)⟩
        | ref m0 =>
          simp only [slD] at hv
          split at hv
          · rename_i ds ed
            simp only [newL] at hv
            cases hv
            obtain ⟨ad, vs, z, hv1, rl⟩ := hs3.gL ed
            exact .inl ⟨ad, vs, r3.ref_at z, SqL.of hv1, q3.laidL hs3 (cut_rep rl ol oh)⟩
          · cases hv
        | non => cases hv
        | bl _ => cases hv
        | int _ => cases hv
        | str _ => cases hv
      · cases hv
    · cases h
  exact ⟨fun X x G h => (go _ X x G h).2, fun X x G h => test_val (go _ X x G h).1 (go _ X x G h).2⟩

/-! ### methods of lists -/
theorem few1 {u : Expr} {env : PySem.Env} {cpos : Pos} (ns : noStar [u] = true) : (((backTo cpos (starEach [u] env)).all fun x => !x.1) && (backToKw cpos (keywordEach [] env)).all (fun x => x.1.isSome)
    && decide ([u].length + ([] : List Keyword).length + (if ([] : List Keyword).isEmpty then 0 else 1) < 30)) = true := by
  rw [star1 ns]; rfl
theorem c_bm (k : Bm) {o e : E} (ho : OkE Z L fuel n o) (h1 : OkE Z L fuel n e) : OkE Z L fuel n (.bm k o e) := by
  have go : ∀ (m : Bool) (X : Cx) (x : Expr), Good Z L fuel n X → chkE Z X.N m X.env.scope (.bm k o e) x = true → plainTest x = true ∧ PE X x (tE (Z.nam L) X.K (gOf Z fuel n) (.bm k o e)) := fun m X x G h => by
    simp only [chkE] at h
    split at h
    · simp only [Bool.and_eq_true] at h
      obtain ⟨⟨⟨⟨⟨h2, h3⟩, h4⟩, h6⟩, h7⟩, h8⟩ := h
      obtain rfl := beq_iff_eq.mp h2
      have pa := pa_cons (h1.1 X _ G h8) pa_nil (star1 h4)
      refine ⟨rfl, PE.by_ fun σ H Q ⟨ρ, en, s, d, s', he, hs, hv, q⟩ => ?_⟩
      simp only [evE] at hv
      obtain ⟨x1, s1, e1, hv⟩ := R.bind_eq hv
      split at hv
      · rename_i m0
        split at hv
        · rename_i ds0 ed0
          obtain ⟨y1, s2, e2, hv⟩ := R.bind_eq hv
          split at hv
          · rename_i ds ed
            cases k with
            | append =>
              simp only at hv
              split at hv
              · rename_i hl
                cases hv
                refine ⟨_, pe_bm PySem.F.plainAttrs_list PySem.F.slot_list_append PySem.F.type_list_append mt_append (ho.1 X _ G h7) pa (base_of h3 _) (few1 h4) h6 (star1 h4) rfl, goE he hs e1 fun ρ1 H1 v1 x1' hs1 he1 r1 => ?_⟩
                obtain ⟨ad, vs0, z, hv0, _⟩ := hs1.gL ed0
                rw [r1.ref_at z]
                refine ⟨.inl ⟨rfl, vs0, SqL.of hv0⟩, goE he1 hs1 e2 fun ρ2 H2 v2 x2 hs2 he2 r2 => ?_⟩
                obtain ⟨ad2, vs, z2, hv2, rl⟩ := hs2.gL ed
                have z3 := x2.w.at z
                rw [z2] at z3
                cases z3
                refine ⟨ad, vs, v2, rfl, rfl, hv2, by rw [← rl.length]; exact hl, ?_⟩
                have xw := Ext.wrote (.lst (vs ++ [v2])) z2 hv2 (fun x => x)
                exact q ρ2 _ _ ((x1'.trans x2).trans xw) (hs2.setL z2 hv2 (rl.append (.cons r2 .nil))) .non
              · cases hv
            | extend =>
              simp only at hv
              split at hv
              · rename_i k0
                split at hv
                · rename_i es ee
                  split at hv
                  · rename_i hl
                    cases hv
                    refine ⟨_, pe_bm PySem.F.plainAttrs_list PySem.F.slot_list_extend PySem.F.type_list_extend mt_extend (ho.1 X _ G h7) pa (base_of h3 _) (few1 h4) h6 (star1 h4) rfl, goE he hs e1 fun ρ1 H1 v1 x1' hs1 he1 r1 => ?_⟩
                    obtain ⟨ad, vs0, z, hv0, _⟩ := hs1.gL ed0
                    rw [r1.ref_at z]
                    refine ⟨.inl ⟨rfl, vs0, SqL.of hv0⟩, goE he1 hs1 e2 fun ρ2 H2 v2 x2 hs2 he2 r2 => ?_⟩
                    obtain ⟨ad2, vs, z2, hv2, rl⟩ := hs2.gL ed
                    obtain ⟨ad3, us, z4, hv4, rl2⟩ := hs2.gL ee
                    have z3 := x2.w.at z
                    rw [z2] at z3
                    cases z3
                    rw [r2.ref_at z4]
                    refine ⟨ad, ad3, vs, us, rfl, rfl, hv2, hv4, by rw [← rl.length, ← rl2.length]; exact hl, ?_⟩
                    have xw := Ext.wrote (.lst (vs ++ us)) z2 hv2 (fun x => x)
                    exact q ρ2 _ _ ((x1'.trans x2).trans xw) (hs2.setL z2 hv2 (rl.append rl2)) .non
                  · cases hv
                · cases hv
              · cases hv
          · cases hv
        · cases hv
      · cases hv
    · cases h
  exact ⟨fun X x G h => (go _ X x G h).2, fun X x G h => test_val (go _ X x G h).1 (go _ X x G h).2⟩
end
end Pv

end
section
set_option Elab.async false
set_option linter.all false
set_option maxRecDepth 100000
set_option maxHeartbeats 1000000
/-! Dicts whose keys are ints and texts. -/
namespace Pv
open PySem L2 PySem.Spec PyProof.Rows
section
variable {Z : Tabs} {L : Pla} {fuel n : Nat}
theorem rep_key {K : PySem.W.Frag} {ρ : List Addr} {H : Hp} {d : D} {v : V} {k : Key} (r : Rep K ρ H d v) (h : keyOf d = some k) : v = kV k := by
  cases d with
  | int i => cases r; cases h; rfl
  | str x => cases r; cases h; rfl
  | _ => cases h
theorem put_rep {K : PySem.W.Frag} {ρ : List Addr} {H : Hp} {kvs : List (Key × D)} {gs : List (Key × V)} (r : Paired (RepK K ρ H) kvs gs) (k : Key) {d : D} {v : V} (h : Rep K ρ H d v) : Paired (RepK K ρ H) (putKD kvs k d) (putK gs k v) := by
  have any : ∀ {kvs : List (Key × D)} {gs : List (Key × V)}, Paired (RepK K ρ H) kvs gs → (kvs.any fun kv => decide (kv.1 = k)) = (gs.any fun kv => decide (kv.1 = k)) := by
    intro kvs gs r
    induction r with
    | nil => rfl
    | @cons p q ps qs a t ih => rw [List.any_cons, List.any_cons, ih, a.1]
  have map : ∀ {kvs : List (Key × D)} {gs : List (Key × V)}, Paired (RepK K ρ H) kvs gs → Paired (RepK K ρ H) (kvs.map fun kv => if kv.1 = k then (kv.1, d) else kv) (gs.map fun kv => if kv.1 = k then (kv.1, v) else kv) := by
    intro kvs gs r
    induction r with
    | nil => exact .nil
    | @cons p q ps qs a t ih =>
      rw [List.map_cons, List.map_cons]
      refine .cons ?_ ih
      rw [← a.1]
      by_cases hk : p.1 = k
      · rw [if_pos hk, if_pos hk]; exact ⟨rfl, h⟩
      · rw [if_neg hk, if_neg hk]; exact a
  have app : ∀ {kvs : List (Key × D)} {gs : List (Key × V)}, Paired (RepK K ρ H) kvs gs → Paired (RepK K ρ H) (kvs ++ [(k, d)]) (gs ++ [(k, v)]) := by
    intro kvs gs r
    induction r with
    | nil => exact .cons ⟨rfl, h⟩ .nil
    | @cons p q ps qs a t ih => exact .cons a ih
  unfold putKD putK
  rw [any r]
  split
  · exact map r
  · exact app r
theorem merge_rep {K : PySem.W.Frag} {ρ : List Addr} {H : Hp} {more : List (Key × D)} {ms : List (Key × V)} (m : Paired (RepK K ρ H) more ms) : ∀ {kvs : List (Key × D)} {gs : List (Key × V)}, Paired (RepK K ρ H) kvs gs → Paired (RepK K ρ H) (mergeD kvs more) (mergeK gs ms) := by
  induction m with
  | nil => intro kvs gs r; exact r
  | @cons p q ps qs a t ih =>
    intro kvs gs r
    have := put_rep r p.1 a.2
    refine ih (show Paired (RepK K ρ H) (putKD kvs p.1 p.2) (putK gs q.1 q.2) from ?_)
    rw [← a.1]
    exact this
theorem val_rep {K : PySem.W.Frag} {ρ : List Addr} {H : Hp} {k : Key} : ∀ {kvs : List (Key × D)} {gs : List (Key × V)}, Paired (RepK K ρ H) kvs gs → (∀ d, valD kvs k = some d → ∃ v, valV gs k = some v ∧ Rep K ρ H d v) ∧ (valD kvs k = none → valV gs k = none) := by
  intro kvs gs r
  induction r with
  | nil => exact ⟨fun d h => (by cases (show (none : Option D) = some d from h)), fun _ => rfl⟩
  | @cons p q ps qs a t ih =>
    unfold valD valV at *
    rw [List.find?_cons, List.find?_cons, ← a.1]
    by_cases hk : p.1 = k
    · rw [decide_eq_true hk]
      exact ⟨fun d h => by cases h; exact ⟨_, rfl, a.2⟩, fun h => by cases h⟩
    · rw [decide_eq_false hk]
      exact ih
theorem paired_len2 {K : PySem.W.Frag} {ρ : List Addr} {H : Hp} {kvs : List (Key × D)} {gs : List (Key × V)} (r : Paired (RepK K ρ H) kvs gs) : kvs.length = gs.length := by
  induction r with
  | nil => rfl
  | cons a t ih => rw [List.length_cons, List.length_cons, ih]
/-- o[k], o a dict -/
theorem c_dix {a i : E} (ha : OkE Z L fuel n a) (hi : OkE Z L fuel n i) : OkE Z L fuel n (.dix a i) := by
  have go : ∀ (m : Bool) (X : Cx) (x : Expr), Good Z L fuel n X → chkE Z X.N m X.env.scope (.dix a i) x = true → plainTest x = true ∧ PE X x (tE (Z.nam L) X.K (gOf Z fuel n) (.dix a i)) := fun m X x G h => by
    simp only [chkE] at h
    split at h
    · rename_i y z p
      simp only [Bool.and_eq_true] at h
      obtain ⟨⟨h1, h2⟩, h3⟩ := h
      have u1 : X.A.units + 1 < cLine := Nat.lt_of_le_of_lt (Nat.add_le_add_left (by decide : 1 ≤ 64) _) G.units
      refine ⟨rfl, (pe_dget u1 (ha.1 X _ G h2) (hi.1 X _ G h3) (fun ov iv => by cases z <;> first | rfl | cases h1)).via fun σ H Q ⟨ρ, en, s, d, s', he, hs, hv, q⟩ => ?_⟩
      simp only [evE] at hv
      obtain ⟨x1, s1, e1, hv1⟩ := R.bind_eq hv
      clear hv
      obtain ⟨y1, s2, e2, hv⟩ := R.bind_eq hv1
      clear hv1
      split at hv
      · rename_i k
        split at hv
        · rename_i kvs ed
          split at hv
          · rename_i key ek
            split at hv
            · rename_i d1 ev
              obtain ⟨rfl, rfl⟩ : d1 = d ∧ s2 = s' := by cases hv; exact ⟨rfl, rfl⟩
              refine goE he hs e1 fun ρ1 H1 v1 x1' hs1 he1 r1 => goE he1 hs1 e2 fun ρ2 H2 v2 x2 hs2 he2 r2 => ?_
              have ec : s2[k]? = some (Cell.dct kvs) := by
                unfold dctAt at ed
                split at ed
                · rename_i e; cases ed; exact e
                · cases ed
              obtain ⟨ad, z, gs, hd, pr⟩ := hs2.cellAt ec
              obtain ⟨v, e5, rv⟩ := (val_rep pr).1 d1 ev
              obtain rfl := rep_key r2 ek
              refine ⟨ad, v, (r1.ext x2).ref_at z, ?_, q ρ2 H2 v (x1'.trans x2) hs2 rv⟩
              rw [← e5]
              exact DGet.k hd
            · cases hv
          · cases hv
        · cases hv
      · cases hv
    · cases h
  exact ⟨fun X x G h => (go _ X x G h).2, fun X x G h => test_val (go _ X x G h).1 (go _ X x G h).2⟩
/-- the pairs of a display -/
theorem pps_of {X : Cx} {pos : Pos} (G : Good Z L fuel n X) : ∀ (ks : List (Option Expr)) (vs : List Expr) (es : Es), OkAll Z L fuel n es → chkEs Z X.N X.env.scope es (zipD ks vs) = true → ks.all (·.isSome) = true → ks.length = vs.length →
    ∃ trs, PPs X pos ks vs trs ∧ ∀ ρ en s xs s' kvs σ H Q, RepE X.K ρ H en σ → RepS (Z.nam L) X.K ρ H s → evEs (gOf Z fuel n) es en s = .ok xs s' → pairsD xs = some kvs →
      (∀ ρ' H' gs, Ext ρ H ρ' H' → RepS (Z.nam L) X.K ρ' H' s' → Paired (RepK X.K ρ' H') kvs gs → Q (gs.map fun kv => (kV kv.1, kv.2)) H') → tPairs trs σ H Q
  | [], [], es, ok, ch, _, _ => by
    refine ⟨[], pps_nil, fun ρ en s xs s' kvs σ H Q he hs hv hp k => ?_⟩
    cases es with
    | nil =>
      simp only [evEs] at hv
      cases hv
      cases hp
      exact k ρ H [] .refl hs .nil
    | cons e r => cases ch
  | some a :: ks, v :: vs, es, ok, ch, al, ln => by
    cases es with
    | nil => cases ch
    | cons e1 r1 =>
      cases r1 with
      | nil => simp [zipD, chkEs] at ch
      | cons e2 r2 =>
        simp only [zipD, chkEs, Bool.and_eq_true] at ch
        obtain ⟨c1, c2, c3⟩ := ch
        rw [List.all_cons, Bool.and_eq_true] at al
        rw [List.length_cons, List.length_cons] at ln
        obtain ⟨trs, pp, rd⟩ := pps_of G ks vs r2 ok.2.2 c3 al.2 (by omega)
        refine ⟨_, pps_cons (ok.1.1 X a G c1) (ok.2.1.1 X v G c2) pp, fun ρ en s xs s' kvs σ H Q he hs hv hp k => ?_⟩
        simp only [evEs] at hv
        obtain ⟨x1, s1, q1, hv1⟩ := R.bind_eq hv
        obtain ⟨xr, s2, q2, hv2⟩ := R.bind_eq hv1
        cases hv2
        obtain ⟨x2, s3, q3, hv3⟩ := R.bind_eq q2
        obtain ⟨xr2, s4, q4, hv4⟩ := R.bind_eq hv3
        cases hv4
        simp only [pairsD] at hp
        split at hp
        · rename_i key ek
          split at hp
          · rename_i ps ep
            cases hp
            refine goE he hs q1 fun ρ1 H1 v1 y1 hs1 he1 r1 => goE he1 hs1 q3 fun ρ2 H2 v2 y2 hs2 he2 r2 => ?_
            refine rd ρ2 en s3 xr2 s' ps σ H2 _ he2 hs2 q4 ep fun ρ3 H3 gs y3 hs3 pr => ?_
            obtain rfl := rep_key r1 ek
            exact k ρ3 H3 ((key, v2) :: gs) ((y1.trans y2).trans y3) hs3 (.cons ⟨rfl, r2.ext y3⟩ pr)
          · cases hp
        · cases hp
  | none :: _, _, _, _, _, al, _ => by simp at al
  | some _ :: _, [], _, _, _, _, ln => by simp at ln
  | [], _ :: _, _, _, _, _, ln => by simp at ln
/-- {k: v, ..} -/
theorem c_dct {es : Es} (h1 : OkEs Z L fuel n es) : OkE Z L fuel n (.dct es) := by
  have go : ∀ (m : Bool) (X : Cx) (x : Expr), Good Z L fuel n X → chkE Z X.N m X.env.scope (.dct es) x = true → plainTest x = true ∧ PE X x (tE (Z.nam L) X.K (gOf Z fuel n) (.dct es)) := fun m X x G h => by
    simp only [chkE] at h
    split at h
    · rename_i ks vs pos
      simp only [Bool.and_eq_true] at h
      obtain ⟨⟨⟨⟨a1, a2⟩, a3⟩, a4⟩, a5⟩ := h
      obtain ⟨trs, pp, rd⟩ := pps_of (pos := pos) G ks vs es h1.2 a5 a1 (eq_of_beq a2)
      have ne : ks ≠ [] := fun e => by subst e; cases a4
      refine ⟨rfl, (pe_disp pp a1 (eq_of_beq a2) ne (of_decide_eq_true a3)).via fun σ H Q ⟨ρ, en, s, d, s', he, hs, hv, q⟩ => ?_⟩
      simp only [evE] at hv
      obtain ⟨xs, s1, e1, hv1⟩ := R.bind_eq hv
      clear hv
      split at hv1
      · rename_i kvs ep
        split at hv1
        · rename_i hl
          cases hv1
          intro p n0
          have pn : p ∉ ρ := hs.fresh n0
          refine rd ρ en s xs s1 kvs σ _ _ (he.ext (.laid p _ n0)) (hs.laid p (.dK []) n0) e1 ep fun ρ' H' gs x' hs' pr => ?_
          have hp : H' p = some (.dK []) := x'.kep p _ upd_same (.inl pn)
          have pn' : p ∉ ρ' := fun m => by
            rcases x'.new p m with z | z
            · exact pn z
            · rw [upd_same] at z; cases z
          refine ⟨hp, gs, rfl, by rw [← paired_len2 pr]; exact hl, ?_⟩
          have nep : ∀ a : Addr, a ∈ ρ' → a ≠ p := fun a ha e => pn' (e ▸ ha)
          have ex0 : Ext0 ρ' H' (ρ' ++ [p]) (upd H' p (.dK (mergeK [] gs))) := ⟨⟨[p], rfl⟩, fun a o ha hf => by
            by_cases e : a = p
            · subst e
              rw [hp] at ha
              cases ha
              exact (show False from hf).elim
            · rw [upd_ne e]; exact ha⟩
          obtain ⟨more, em⟩ := x'.pre
          refine q (ρ' ++ [p]) (upd H' p (.dK (mergeK [] gs))) (.ref p) ⟨⟨more ++ [p], by rw [em, List.append_assoc]⟩, fun a ha => ?_, fun a o ha hf => ?_⟩ ⟨by rw [List.length_append, List.length_append, hs'.len]; rfl, ?_, fun i c a hc ha => ?_⟩ (.ref ?_)
          · rcases List.mem_append.mp ha with h2 | h2
            · rcases x'.new a h2 with z | z
              · exact .inl z
              · right
                rw [upd_ne (nep a h2)] at z
                exact z
            · rw [List.mem_singleton.mp h2]
              exact .inr n0
          · have nap : a ≠ p := fun e => by subst e; rw [n0] at ha; cases ha
            rw [upd_ne nap]
            exact x'.kep a o (by rw [upd_ne nap]; exact ha) hf
          · rw [List.nodup_append]
            refine ⟨hs'.nd, by simp, fun a ha b hb e => ?_⟩
            rw [List.mem_singleton.mp hb] at e
            exact nep a ha e
          · by_cases hi : i < s1.length
            · rw [List.getElem?_append_left hi] at hc
              rw [List.getElem?_append_left (by rw [hs'.len]; exact hi)] at ha
              have := hs'.cell i c a hc ha
              exact this.ext0 ex0 (upd_ne (nep a (List.mem_of_getElem? ha)))
            · have hi2 : i = s1.length := by
                have := (List.getElem?_eq_some_iff.mp hc).1
                rw [List.length_append, List.length_singleton] at this
                omega
              subst hi2
              rw [List.getElem?_append_right (Nat.le_refl _), Nat.sub_self] at hc
              rw [← hs'.len, List.getElem?_append_right (Nat.le_refl _), Nat.sub_self] at ha
              cases hc
              cases ha
              exact ⟨_, upd_same, merge_rep (Paired.mapP pr fun _ _ z => ⟨z.1, z.2.ext0 ex0⟩) .nil⟩
          · rw [← hs'.len, List.getElem?_append_right (Nat.le_refl _), Nat.sub_self]
            rfl
        · cases hv1
      · cases hv1
    · cases h
  exact ⟨fun X x G h => (go _ X x G h).2, fun X x G h => test_val (go _ X x G h).1 (go _ X x G h).2⟩
end
end Pv

end
section
set_option Elab.async false
set_option linter.all false
set_option maxRecDepth 100000
set_option maxHeartbeats 1000000
/-! Slices with a step, of lists. -/
namespace Pv
open PySem L2 PySem.Spec PyProof.Rows
section
variable {X : Cx} {e st : Expr} {te : TE} {lo hi : Option Expr} {tl th ts' : TO} {pos p2 : Pos}
def tSlk (K : PySem.W.Frag) (te : TE) (tl th : TO) (ts : TO) : TE := fun σ H Q => te σ H fun x H1 => tl σ H1 fun l H2 => th σ H2 fun u H3 => ts σ H3 fun o H4 => ∃ a xs c, o = some c ∧ c ≠ 0 ∧ x = .ref a ∧ SqL K H4 a xs ∧ ∀ p, H4 p = none → Q (.ref p) (upd H4 p (.lst (stepL xs l u c)))
theorem step_len {α : Type} (xs : List α) (lo hi : Option Int) (c : Int) : (stepL xs lo hi c).length ≤ xs.length := by
  unfold stepL
  refine Nat.le_trans (List.length_filterMap_le _ _) (sliceRange_length_le _ _ _ _ (fun hc => ?_) fun hc => ?_)
  · simp only [sliceBounds] at hc ⊢
    simp only [hc, if_true]
    constructor
    · cases lo with
      | none => simp
      | some i => dsimp only; omega
    · cases hi with
      | none => simp
      | some i => dsimp only; omega
  · simp only [sliceBounds] at hc ⊢
    simp only [hc, if_false]
    constructor
    · cases lo with
      | none => simp
      | some i => dsimp only; omega
    · cases hi with
      | none => simp
      | some i => dsimp only; omega
theorem vals_pick {vs : List V} {us : List Value} (r : Vals vs us) : ∀ is : List Nat, Vals (is.filterMap fun i => vs[i]?) (is.filterMap fun i => us[i]?)
  | [] => .nil
  | i :: is => by
    have ih := vals_pick r is
    rw [List.filterMap_cons, List.filterMap_cons]
    have len := r.length
    by_cases hi : i < vs.length
    · obtain ⟨u, e1, e2⟩ := r.get (List.getElem?_eq_getElem hi)
      rw [List.getElem?_eq_getElem hi, e1]
      exact .cons e2 ih
    · rw [List.getElem?_eq_none (by omega), List.getElem?_eq_none (by omega)]
      exact ih
theorem pe_slk (he : PE X e te) (hl : PO X lo tl) (hu : PO X hi th) (hs : PO X (some st) ts') : PE X (.Subscript e (.Slice lo hi (some st) p2) pos) (tSlk X.K te tl th ts') := by
  refine ⟨fun pins s σ H Q I h => ?_⟩
  refine Subscript_ (thn (he.run pins s σ H _ I h) fun v s1 ⟨x, H1, I1, r1, q1⟩ => ?_)
  refine wpAny_Slice (thn (hl.run pins s1 σ H1 _ I1 q1) fun vl s2 ⟨l, H2, I2, pl, q2⟩ => thn (hu.run pins s2 σ H2 _ I2 q2) fun vu s3 ⟨u, H3, I3, pu, q3⟩ => ?_)
  refine thn (hs.run pins s3 σ H3 _ I3 q3) fun vs s4 ⟨o, H4, I4, ps, q4⟩ => ?_
  obtain ⟨a, xs, c, eo, c0, ex, hx, q⟩ := q4
  subst eo ex
  cases r1
  have I5 : Inv X pins σ H4 { s4 with heap := s4.heap.push { cls := .type "slice", data := .fields #[vl, vu, vs] } } := I4.kept (t' := s4.toks) fun b ob q => Heap.get?_push_of_some _ q
  obtain ⟨its, r, ht, hz⟩ := I5.list hx
  have hlen := r.length
  show wpAny (model X.prog X.w) X.A (subscriptTail e (.Slice lo hi (some st) p2) (.ref a) (.ref s4.heap.objs.size)) (EP X pins σ Q) X.xe { s4 with heap := s4.heap.push { cls := .type "slice", data := .fields #[vl, vu, vs] } }
  refine tail_any (ops := [.ref a, .ref s4.heap.objs.size]) ht.isList.typeIs (PySem.slot_list_getitem.lookup) ?_ (by with_unfolding_all rfl)
  refine wpAny_getItem_list_slice ht.isList (Heap.IsSliceOf.new _ vl vu vs) pl pu ps (fun e => c0 (by cases e; rfl)) ?_ (by rw [List.size_toArray]; omega)
  have ep : slicePick its.toArray l u (some c) = (stepL its l u c).toArray := by
    unfold slicePick stepL
    rw [List.size_toArray]
    simp
  rw [ep]
  refine ⟨.ref _, _, I5.laid (t' := s4.toks) (o := .lst (stepL xs l u c)) (fun b ob q => Heap.get?_push_of_some _ q) (Nat.le_refl _) ?_, rfl, q _ (I5.hok.fresh (Nat.le_refl _))⟩
  refine ⟨Nat.le_trans (step_len _ _ _ _) hz, _, 0, ?_, Heap.get?_push_size _ rfl⟩
  unfold stepL
  rw [hlen]
  exact vals_pick r _
end
section
variable {Z : Tabs} {L : Pla} {fuel n : Nat}
theorem step_rep {K : PySem.W.Frag} {ρ : List Addr} {H : Hp} {ds : List D} {vs : List V} (r : RepL K ρ H ds vs) (l h : Option Int) (c : Int) : RepL K ρ H (stepL ds l h c) (stepL vs l h c) := by
  unfold stepL
  rw [← r.length]
  generalize sliceRange _ _ _ = is
  induction is with
  | nil => exact .nil
  | cons i is ih =>
    rw [List.filterMap_cons, List.filterMap_cons]
    have len := r.length
    by_cases hi : i < ds.length
    · obtain ⟨u, e1, e2⟩ := r.get (List.getElem?_eq_getElem hi)
      rw [List.getElem?_eq_getElem hi, e1]
      exact .cons e2 ih
    · rw [List.getElem?_eq_none (by omega), List.getElem?_eq_none (by omega)]
      exact ih
theorem c_slk {a lo hi st : E} (ha : OkE Z L fuel n a) (hl : OkE Z L fuel n lo) (hh : OkE Z L fuel n hi) (ht : OkE Z L fuel n st) : OkE Z L fuel n (.slk a lo hi st) := by
  have go : ∀ (m : Bool) (X : Cx) (x : Expr), Good Z L fuel n X → chkE Z X.N m X.env.scope (.slk a lo hi st) x = true → plainTest x = true ∧ PE X x (tE (Z.nam L) X.K (gOf Z fuel n) (.slk a lo hi st)) := fun m X x G h => by
    simp only [chkE] at h
    split at h
    · rename_i y l u w p1 p2
      rw [Bool.and_eq_true, Bool.and_eq_true, Bool.and_eq_true] at h
      obtain ⟨⟨⟨h1, h2⟩, h3⟩, h4⟩ := h
      have pl := po_of G hl h2
      have pu := po_of G hh h3
      refine ⟨rfl, (pe_slk (ha.1 X _ G h1) pl pu (po_some (ht.1 X w G h4))).via fun σ H Q ⟨ρ, en, s, d, s', he, hs, hv, q⟩ => ?_⟩
      simp only [evE] at hv
      obtain ⟨x1, s1, e1, hv1⟩ := R.bind_eq hv
      clear hv
      obtain ⟨y1, s2, e2, hv2⟩ := R.bind_eq hv1
      clear hv1
      obtain ⟨z1, s3, e3, hv3⟩ := R.bind_eq hv2
      clear hv2
      obtain ⟨w1, s4, e4, hv⟩ := R.bind_eq hv3
      clear hv3
      split at hv
      · rename_i ol oh c el eh
        refine goE he hs e1 fun ρ1 H1 v1 x1' hs1 he1 r1 => ⟨ρ1, en, s1, y1, s2, ol, he1, hs1, e2, el, fun ρ2 H2 x2 hs2 => ⟨ρ2, en, s2, z1, s3, oh, he1.ext x2, hs2, e3, eh, fun ρ3 H3 x3 hs3 => goE ((he1.ext x2).ext x3) hs3 e4 fun ρ4 H4 v4 x4 hs4 he4 r4 => ?_⟩⟩
        have r3 := r1.ext ((x2.trans x3).trans x4)
        have q3 := Post.ext (((x1'.trans x2).trans x3).trans x4) q
        refine ⟨c, rep_int r4, ?_⟩
        unfold slkD at hv
        split at hv
        · cases hv
        · rename_i c0
          cases x1 with
          | rol ds =>
            simp only [newL] at hv
            cases hv
            cases r3 with
            | rol k1 k2 => exact ⟨_, _, c, rfl, c0, rfl, k1.l, q3.laidL hs4 (step_rep k2 ol oh c)⟩
          | ref m0 =>
            simp only at hv
            split at hv
            · rename_i ds ed
              simp only [newL] at hv
              cases hv
              obtain ⟨ad, vs, z, hv1, rl⟩ := hs4.gL ed
              exact ⟨ad, vs, c, rfl, c0, r3.ref_at z, SqL.of hv1, q3.laidL hs4 (step_rep rl ol oh c)⟩
            · cases hv
          | tup _ => cases hv
          | non => cases hv
          | bl _ => cases hv
          | int _ => cases hv
          | str _ => cases hv
      · cases hv
    · cases h
  exact ⟨fun X x G h => (go _ X x G h).2, fun X x G h => test_val (go _ X x G h).1 (go _ X x G h).2⟩
end
end Pv

end
section
set_option Elab.async false
set_option linter.all false
set_option maxRecDepth 100000
set_option maxHeartbeats 1000000
namespace Pv
open PySem L2 PySem.Spec PyProof.Rows
section
variable {Z : Tabs} {L : Pla} {fuel n : Nat}

theorem l_disp {es : Es} (h1 : OkEs Z L fuel n es) : OkL Z L fuel n (.disp es) := by
  intro X x G h
  simp only [chkL] at h
  split at h
  · rw [Bool.and_eq_true] at h
    refine (pe_lst (h1.1 X _ G h.2 h.1)).via fun σ H Q ⟨ρ, en, s, ds, s', he, hs, hv, q⟩ => ?_
    simp only [evL] at hv
    obtain ⟨xs, s1, e1, hv⟩ := R.bind_eq hv
    split at hv
    · rename_i hl
      cases hv
      exact goEs he hs e1 fun ρ1 H1 vs x1 hs1 he1 r1 => ⟨by rw [← r1.length]; exact hl, fun p n0 =>
        q ρ1 _ p vs (x1.trans (.laid p _ n0)) (hs1.laid p _ n0) (hs1.fresh n0) (by
          cases e : H p with
          | none => rfl
          | some o =>
            by_cases hm : p ∈ ρ
            · exact absurd (by obtain ⟨m, em⟩ := x1.pre; rw [em]; exact List.mem_append_left _ hm) (hs1.fresh n0)
            · rw [x1.kep p o e (.inl hm)] at n0; cases n0) upd_same (r1.ext (.laid p _ n0))⟩
    · cases hv
  · cases h
/-- what is new now was new before -/
theorem Ext.none_of {ρ ρ1 : List Addr} {H H1 : Hp} (e : Ext ρ H ρ1 H1) {p : Addr} (m : p ∉ ρ1) (n0 : H1 p = none) : H p = none := by
  cases q : H p with
  | none => rfl
  | some o =>
    have hm : p ∉ ρ := fun h => m (by obtain ⟨l, em⟩ := e.pre; rw [em]; exact List.mem_append_left _ h)
    rw [e.kep p o q (.inl hm)] at n0; cases n0
theorem range_rep {K : PySem.W.Frag} {ρ : List Addr} {H : Hp} (lo : Int) (k : Nat) : RepL K ρ H (rangeI lo k) ((List.range k).map fun i => V.int (lo + (i : Nat))) := by
  unfold rangeI
  generalize List.range k = l
  induction l with
  | nil => exact .nil
  | cons a l ih => exact .cons (.int _) ih
theorem es_one {N : List Str} {sc : Scope} {es : Es} {u : Expr} (h : chkEs Z N sc es [u] = true) : ∃ e, es = .cons e .nil ∧ chkE Z N false sc e u = true := by
  cases es with
  | nil => cases h
  | cons e es =>
    simp only [chkEs, Bool.and_eq_true] at h
    cases es with
    | nil => exact ⟨e, rfl, h.1⟩
    | cons _ _ => cases h.2
theorem es_two {N : List Str} {sc : Scope} {es : Es} {u v : Expr} (h : chkEs Z N sc es [u, v] = true) : ∃ e e', es = .cons e (.cons e' .nil) ∧ chkE Z N false sc e u = true ∧ chkE Z N false sc e' v = true := by
  cases es with
  | nil => cases h
  | cons e es =>
    simp only [chkEs, Bool.and_eq_true] at h
    obtain ⟨e', rfl, h2⟩ := es_one h.2
    exact ⟨e, e', rfl, h.1, h2⟩
theorem l_range {es : Es} (h1 : OkEs Z L fuel n es) : OkL Z L fuel n (.range es) := by
  intro X x G h
  simp only [chkL] at h
  split at h
  · simp only [Bool.and_eq_true] at h
    obtain ⟨⟨⟨⟨⟨h2, h3⟩, h4⟩, h5⟩, h6⟩, h7⟩ := h
    obtain rfl := beq_iff_eq.mp h2
    obtain rfl := beq_iff_eq.mp h4
    obtain ⟨e, rfl, h8⟩ := es_one h7
    · refine (pe_listRg G.calm (gl_of h3).1 (G.fac.bi _ (by decide +kernel)) (prg_1 (gl_of h5).1 (G.fac.bi _ (by decide +kernel)) (h1.2.1.1 X _ G h8) (star1 h6)) rfl).via fun σ H Q ⟨ρ, en, s, ds, s', he, hs, hv, q⟩ => ?_
      simp only [evL, evEs] at hv
      obtain ⟨xs, s1, e1, hv⟩ := R.bind_eq hv
      obtain ⟨x1, s2, e2, e1⟩ := R.bind_eq e1
      cases e1
      split at hv
      · rename_i ds' er
        split at hv
        · rename_i hl
          cases hv
          unfold rangeD at er
          split at er
          · rename_i e0
            cases e0
            split at er
            · rename_i hb
              cases er
              refine goE he hs e2 fun ρ1 H1 v1 x1 hs1 he1 r1 => ⟨_, rep_int r1, ⟨by decide, by decide, hb.1, hb.2, ?_⟩, fun p n0 => ?_⟩
              · unfold rangeI at hl
                rw [List.length_map, List.length_range, sizeLine_eq] at hl
                simpa using hl
              · refine q ρ1 _ p _ (x1.trans (.laid p _ n0)) (hs1.laid p _ n0) (hs1.fresh n0) (x1.none_of (hs1.fresh n0) n0) upd_same ?_
                unfold rgV
                rw [Int.sub_zero]
                exact range_rep 0 _
            · cases er
          · rename_i e0
            cases e0
          · cases er
        · cases hv
      · cases hv
  · simp only [Bool.and_eq_true] at h
    obtain ⟨⟨⟨⟨⟨h2, h3⟩, h4⟩, h5⟩, h6⟩, h7⟩ := h
    obtain rfl := beq_iff_eq.mp h2
    obtain rfl := beq_iff_eq.mp h4
    obtain ⟨e, e', rfl, h8⟩ := es_two h7
    · refine (pe_listRg G.calm (gl_of h3).1 (G.fac.bi _ (by decide +kernel)) (prg_2 (gl_of h5).1 (G.fac.bi _ (by decide +kernel)) (h1.2.1.1 X _ G h8.1) (h1.2.2.1.1 X _ G h8.2) (star2 h6) (star1 (noStar_tail h6)) (starAny (noStar_tail h6))) rfl).via fun σ H Q ⟨ρ, en, s, ds, s', he, hs, hv, q⟩ => ?_
      simp only [evL, evEs] at hv
      obtain ⟨xs, s1, e1, hv⟩ := R.bind_eq hv
      obtain ⟨x1, s2, e2, e1⟩ := R.bind_eq e1
      obtain ⟨xs', s3, e3, e1⟩ := R.bind_eq e1
      cases e1
      obtain ⟨y1, s4, e4, e3⟩ := R.bind_eq e3
      cases e3
      split at hv
      · rename_i ds' er
        split at hv
        · rename_i hl
          cases hv
          unfold rangeD at er
          split at er
          · rename_i e0
            cases e0
          · rename_i e0
            cases e0
            split at er
            · rename_i hb
              cases er
              refine goE he hs e2 fun ρ1 H1 v1 x1 hs1 he1 r1 => goE he1 hs1 e4 fun ρ2 H2 v2 x2 hs2 he2 r2 => ⟨_, _, rep_int (r1.ext x2), rep_int r2, ⟨hb.1.1, hb.1.2, hb.2.1, hb.2.2, ?_⟩, fun p n0 => ?_⟩
              · unfold rangeI at hl
                rw [List.length_map, List.length_range, sizeLine_eq] at hl
                exact hl
              · exact q ρ2 _ p _ ((x1.trans x2).trans (.laid p _ n0)) (hs2.laid p _ n0) (hs2.fresh n0) ((x1.trans x2).none_of (hs2.fresh n0) n0) upd_same (range_rep _ _)
            · cases er
          · cases er
        · cases hv
      · cases hv
  · cases h

/-! ### what is walked -/
theorem itR_tup {Y : Nam} {K : PySem.W.Frag} {ρ : List Addr} {H : Hp} {a : Addr} {ds : List D} {vs : List V} (h : SqT K H a vs) (r : RepL K ρ H ds vs) : ItR Y K ρ H (.fix ds) (Itt K a) := fun ρ' H' s i e hs => by
  have h' := SqT.ext e.w h
  have r' := r.ext e
  refine ⟨fun q => ⟨vs, h', ?_⟩, fun d q => ?_⟩
  · have q : ds[i]? = none := Option.some.inj q
    rw [← r'.length]
    exact List.getElem?_eq_none_iff.mp q
  · have q : ds[i]? = some d := Option.some.inj q
    obtain ⟨v, e1, rv⟩ := r'.get q
    refine ⟨⟨vs, v, h', e1⟩, fun x H'' ⟨eh, ex⟩ => ?_⟩
    subst eh
    have := ex vs h'
    rw [e1] at this
    cases this
    exact ⟨.refl, hs, rv⟩
theorem itR_rol {Y : Nam} {K : PySem.W.Frag} {ρ : List Addr} {H : Hp} {a : Addr} {ds : List D} {vs : List V} (h : SqR K H a vs) (r : RepL K ρ H ds vs) : ItR Y K ρ H (.fix ds) (Itl K a) := fun ρ' H' s i e hs => by
  have h' := (SqR.ext e.w h).l
  have r' := r.ext e
  refine ⟨fun q => ⟨vs, h', ?_⟩, fun d q => ?_⟩
  · have q : ds[i]? = none := Option.some.inj q
    rw [← r'.length]
    exact List.getElem?_eq_none_iff.mp q
  · have q : ds[i]? = some d := Option.some.inj q
    obtain ⟨v, e1, rv⟩ := r'.get q
    refine ⟨⟨vs, v, h', e1⟩, fun x H'' ⟨eh, ex⟩ => ?_⟩
    subst eh
    have := ex vs h'
    rw [e1] at this
    cases this
    exact ⟨.refl, hs, rv⟩
theorem itR_new {Y : Nam} {K : PySem.W.Frag} {ρ : List Addr} {H : Hp} {p : Addr} {ds : List D} {vs : List V} (hp : H p = some (.lst vs)) (m : p ∉ ρ) (r : RepL K ρ H ds vs) : ItR Y K ρ H (.fix ds) (Itl K p) := fun ρ' H' s i e hs => by
  have h' : SqL K H' p vs := SqL.of (e.kep p _ hp (.inl m))
  have r' := r.ext e
  refine ⟨fun q => ⟨vs, h', ?_⟩, fun d q => ?_⟩
  · have q : ds[i]? = none := Option.some.inj q
    rw [← r'.length]
    exact List.getElem?_eq_none_iff.mp q
  · have q : ds[i]? = some d := Option.some.inj q
    obtain ⟨v, e1, rv⟩ := r'.get q
    refine ⟨⟨vs, v, h', e1⟩, fun x H'' ⟨eh, ex⟩ => ?_⟩
    subst eh
    have := ex vs h'
    rw [e1] at this
    cases this
    exact ⟨.refl, hs, rv⟩
theorem itR_lst {Y : Nam} {K : PySem.W.Frag} {ρ : List Addr} {H : Hp} {a : Addr} {m : Nat} (z : ρ[m]? = some a) : ItR Y K ρ H (.lst m) (Itl K a) := fun ρ' H' s i e hs => by
  refine ⟨fun q => ?_, fun d q => ?_⟩
  · simp only [Pv.It.at] at q
    split at q
    · rename_i ds el
      obtain ⟨a', vs, z', hv, rl⟩ := hs.gL el
      rw [e.w.at z] at z'
      cases z'
      have q : ds[i]? = none := Option.some.inj q
      exact ⟨vs, SqL.of hv, by rw [← rl.length]; exact List.getElem?_eq_none_iff.mp q⟩
    · cases q
  · simp only [Pv.It.at] at q
    split at q
    · rename_i ds el
      obtain ⟨a', vs, z', hv, rl⟩ := hs.gL el
      rw [e.w.at z] at z'
      cases z'
      have q : ds[i]? = some d := Option.some.inj q
      obtain ⟨v, e1, rv⟩ := rl.get q
      refine ⟨⟨vs, v, SqL.of hv, e1⟩, fun x H'' ⟨eh, ex⟩ => ?_⟩
      subst eh
      have := ex vs (SqL.of hv)
      rw [e1] at this
      cases this
      exact ⟨.refl, hs, rv⟩
    · cases q
theorem itR_rng {Y : Nam} {K : PySem.W.Frag} {ρ : List Addr} {H : Hp} (lo : Int) (k : Nat) : ItR Y K ρ H (.fix (rangeI lo k)) (Itr lo k) := fun ρ' H' s i e hs => by
  have at_ : ∀ d, (rangeI lo k)[i]? = some d → i < k ∧ d = .int (lo + i) := fun d q => by
    unfold rangeI at q
    rw [List.getElem?_map] at q
    cases e : (List.range k)[i]? with
    | none => rw [e] at q; cases q
    | some j =>
      rw [e] at q
      obtain ⟨h1, h2⟩ := List.getElem?_eq_some_iff.mp e
      rw [List.getElem_range] at h2
      subst h2
      cases q
      exact ⟨by simpa using h1, rfl⟩
  refine ⟨fun q => ?_, fun d q => ?_⟩
  · have q : (rangeI lo k)[i]? = none := Option.some.inj q
    have := List.getElem?_eq_none_iff.mp q
    unfold rangeI at this
    show k ≤ i
    simpa using this
  · obtain ⟨h1, rfl⟩ := at_ d (Option.some.inj q)
    refine ⟨h1, fun x H'' ⟨eh, ex⟩ => ?_⟩
    subst eh ex
    exact ⟨.refl, hs, .int _⟩
theorem itR_enum {Y : Nam} {K : PySem.W.Frag} {ρ : List Addr} {H : Hp} {a : Addr} {m : Nat} (z : ρ[m]? = some a) : ItR Y K ρ H (.enumL m) (Ite K a) := fun ρ' H' s i e hs => by
  refine ⟨fun q => ?_, fun d q => ?_⟩
  · simp only [Pv.It.at] at q
    split at q
    · rename_i ds el
      obtain ⟨a', vs, z', hv, rl⟩ := hs.gL el
      rw [e.w.at z] at z'
      cases z'
      split at q
      · cases q
      · rename_i eq
        exact ⟨vs, SqL.of hv, by rw [← rl.length]; exact List.getElem?_eq_none_iff.mp eq⟩
    · cases q
  · simp only [Pv.It.at] at q
    split at q
    · rename_i ds el
      obtain ⟨a', vs, z', hv, rl⟩ := hs.gL el
      rw [e.w.at z] at z'
      cases z'
      split at q
      · rename_i d1 eq
        cases q
        obtain ⟨v, e1, rv⟩ := rl.get eq
        refine ⟨⟨vs, v, SqL.of hv, e1⟩, fun x H'' ⟨T, x', ex, nT, eh, ey⟩ => ?_⟩
        subst ex eh
        have := ey vs (SqL.of hv)
        rw [e1] at this
        cases this
        have xl := Ext.laid (ρ := ρ') T (.tup [.int (i : Int), v]) nT
        exact ⟨xl, hs.laid T _ nT, .tup (SqT.of upd_same) (.cons (.int _) (.cons (rv.ext xl) .nil))⟩
      · cases q
    · cases q
theorem itR_zip {Y : Nam} {K : PySem.W.Frag} {ρ : List Addr} {H : Hp} {a b : Addr} {m k : Nat} (z : ρ[m]? = some a) (w : ρ[k]? = some b) : ItR Y K ρ H (.zipL m k) (Itz K a b) := fun ρ' H' s i e hs => by
  refine ⟨fun q => ?_, fun d q => ?_⟩
  · simp only [Pv.It.at] at q
    split at q
    · rename_i as bs el el2
      obtain ⟨a', vs, z', hv, rl⟩ := hs.gL el
      obtain ⟨b', us, w', hu, rl2⟩ := hs.gL el2
      rw [e.w.at z] at z'
      rw [e.w.at w] at w'
      cases z'; cases w'
      refine ⟨vs, us, SqL.of hv, SqL.of hu, ?_⟩
      rw [← rl.length, ← rl2.length]
      split at q
      · cases q
      · rename_i no
        cases ea : as[i]? with
        | none => exact .inl (List.getElem?_eq_none_iff.mp ea)
        | some x =>
          cases eb : bs[i]? with
          | none => exact .inr (List.getElem?_eq_none_iff.mp eb)
          | some y => exact (no x y ea eb).elim
    · cases q
  · simp only [Pv.It.at] at q
    split at q
    · rename_i as bs el el2
      obtain ⟨a', vs, z', hv, rl⟩ := hs.gL el
      obtain ⟨b', us, w', hu, rl2⟩ := hs.gL el2
      rw [e.w.at z] at z'
      rw [e.w.at w] at w'
      cases z'; cases w'
      split at q
      · rename_i x y ea eb
        cases q
        obtain ⟨v, e1, rv⟩ := rl.get ea
        obtain ⟨u, e2, ru⟩ := rl2.get eb
        refine ⟨⟨vs, us, v, u, SqL.of hv, SqL.of hu, e1, e2⟩, fun x' H'' ⟨T, x2, y2, ex, nT, eh, ey, ez⟩ => ?_⟩
        subst ex eh
        have t1 := ey vs (SqL.of hv)
        rw [e1] at t1
        cases t1
        have t2 := ez us (SqL.of hu)
        rw [e2] at t2
        cases t2
        have xl := Ext.laid (ρ := ρ') T (.tup [v, u]) nT
        exact ⟨xl, hs.laid T _ nT, .tup (SqT.of upd_same) (.cons (rv.ext xl) (.cons (ru.ext xl) .nil))⟩
      · cases q
    · cases q
end
end Pv

end
section
set_option Elab.async false
set_option linter.all false
set_option maxRecDepth 100000
set_option maxHeartbeats 1000000
namespace Pv
open PySem L2 PySem.Spec PyProof.Rows
section
variable {Z : Tabs} {L : Pla} {fuel n : Nat}

/-! ### targets -/
theorem wipe_get (σ : L2.St) : ∀ (vs : List Nat) (j : Nat), (L2.wipe σ vs)[j]? = if j ∈ vs then (if j < σ.length then some none else none) else σ[j]?
  | [], j => by unfold L2.wipe; simp
  | v :: vs, j => by
    unfold L2.wipe
    by_cases h : v = j
    · subst h
      simp only [List.mem_cons_self, if_true]
      by_cases hl : v < σ.length
      · rw [List.getElem?_set_self (by rw [L2.wipe_length]; exact hl), if_pos hl]
      · rw [List.getElem?_eq_none (by rw [List.length_set, L2.wipe_length]; omega), if_neg hl]
    · rw [List.getElem?_set_ne h, wipe_get σ vs j]
      have e : (j ∈ v :: vs) ↔ j ∈ vs := by
        constructor
        · intro q
          rcases List.mem_cons.mp q with q | q
          · exact absurd q.symm h
          · exact q
        · exact List.mem_cons_of_mem _
      simp only [e]
theorem wipe_set {σ : L2.St} {i : Nat} {x : Option V} {vs : List Nat} (h : i ∈ vs) : L2.wipe (σ.set i x) vs = L2.wipe σ vs := by
  apply List.ext_getElem?
  intro j
  rw [wipe_get, wipe_get, List.length_set]
  by_cases hj : j ∈ vs
  · rw [if_pos hj, if_pos hj]
  · rw [if_neg hj, if_neg hj, List.getElem?_set_ne]
    rintro rfl
    exact hj h

def StoOk (X : Cx) (sc : Scope) : Prop := ∀ x, sto sc x = true → Loc X.env.scope x ∧ (X.fn x = true ∨ X.env.scope.names.lookup x = some .local)
def tGs (X : Cx) (is : List Nat) : TGs := fun vs σ H Q => ∃ ρ en ds e1, RepE X.K ρ H en σ ∧ RepL X.K ρ H ds vs ∧ setAll en is ds = some e1 ∧ ∀ σ', RepE X.K ρ H e1 σ' → (∀ ws : List Nat, (∀ i ∈ is, i ∈ ws) → L2.wipe σ' ws = L2.wipe σ ws) → Q σ' H
def tG (X : Cx) (t : T) : TG := fun v σ H Q => ∃ ρ en d e1, RepE X.K ρ H en σ ∧ Rep X.K ρ H d v ∧ t.put d en = some e1 ∧ ∀ σ', RepE X.K ρ H e1 σ' → (∀ ws : List Nat, (∀ i ∈ t.slots, i ∈ ws) → L2.wipe σ' ws = L2.wipe σ ws) → Q σ' H
theorem _root_.L2.PG.via {X : Cx} {x : Expr} {t t' : TG} (h : PG X x t) (f : ∀ v σ H Q, t' v σ H Q → t v σ H Q) : PG X x t' := ⟨fun pins s σ H x' v Q I r w => h.run pins s σ H x' v Q I r (f _ _ _ _ w)⟩
theorem _root_.L2.PGs.via {X : Cx} {x : List Expr} {t t' : TGs} (h : PGs X x t) (f : ∀ v σ H Q, t' v σ H Q → t v σ H Q) : PGs X x t' := ⟨fun pins s σ H x' v Q I r w => h.run pins s σ H x' v Q I r (f _ _ _ _ w)⟩
theorem pgs_of {X : Cx} (nd : X.N.Nodup) {sc : Scope} (ok : StoOk X sc) : ∀ {is : List Nat} {es : List Expr}, chkNames X.N sc is es = true → PGs X es (tGs X is)
  | [], [], _ => pgs_nil.via fun v σ H Q ⟨ρ, en, ds, e1, he, rl, hp, q⟩ => by
    cases ds with
    | nil =>
      cases rl
      cases hp
      exact ⟨rfl, q σ he fun _ _ => rfl⟩
    | cons _ _ => cases hp
  | i :: is, e :: es, h => by
    unfold chkNames at h
    split at h
    · rename_i e0; cases e0
    · rename_i i' is' x p es' e1 e2
      cases e1; cases e2
      simp only [Bool.and_eq_true, beq_iff_eq] at h
      obtain ⟨⟨h1, h2⟩, h3⟩ := h
      obtain ⟨l1, l2⟩ := ok x h2
      refine (pgs_cons (pg_name nd h1 l1 l2) (pgs_of nd ok h3)).via fun v σ H Q ⟨ρ, en, ds, e1, he, rl, hp, q⟩ => ?_
      cases ds with
      | nil => cases hp
      | cons d ds =>
        cases rl with
        | cons r rl =>
          refine ⟨_, _, rfl, ρ, _, ds, e1, he.set i r, rl, hp, fun σ' he' hw => q σ' he' fun ws hs => ?_⟩
          rw [hw ws fun j hj => hs j (List.mem_cons_of_mem _ hj), wipe_set (hs i List.mem_cons_self)]
    · cases h
  | [], _ :: _, h => by cases h
  | _ :: _, [], h => by cases h
theorem set_len : ∀ {is : List Nat} {ds : List D} {en e1 : Slo}, setAll en is ds = some e1 → ds.length = is.length
  | [], [], _, _, _ => rfl
  | i :: is, d :: ds, en, e1, h => by rw [List.length_cons, List.length_cons, set_len (is := is) (ds := ds) h]
  | [], _ :: _, _, _, h => by cases h
  | _ :: _, [], _, _, h => by cases h
theorem names_len {N : List Str} {sc : Scope} : ∀ {is : List Nat} {es : List Expr}, chkNames N sc is es = true → is.length = es.length
  | [], [], _ => rfl
  | i :: is, e :: es, h => by
    unfold chkNames at h
    split at h
    · rename_i e0; cases e0
    · rename_i i' is' x p es' e1 e2
      cases e1; cases e2
      simp only [Bool.and_eq_true] at h
      rw [List.length_cons, List.length_cons, names_len h.2]
    · cases h
  | [], _ :: _, h => by cases h
  | _ :: _, [], h => by cases h
theorem names_each {env : PySem.Env} {N : List Str} {sc : Scope} : ∀ {is : List Nat} {es : List Expr}, chkNames N sc is es = true → (assignEach es env).length = is.length ∧ (assignEach es env).findIdx? (·.1) = none
  | [], [], _ => ⟨rfl, rfl⟩
  | i :: is, e :: es, h => by
    unfold chkNames at h
    split at h
    · rename_i e0; cases e0
    · rename_i i' is' x p es' e1 e2
      cases e1; cases e2
      simp only [Bool.and_eq_true] at h
      obtain ⟨h1, h2⟩ := names_each (env := env) h.2
      simp only [assignEach, List.length_cons, h1, List.findIdx?_cons, h2]
      exact ⟨trivial, rfl⟩
    · cases h
  | [], _ :: _, h => by cases h
  | _ :: _, [], h => by cases h
theorem pg_of {X : Cx} (nd : X.N.Nodup) (calm : X.calm = true) {sc : Scope} (ok : StoOk X sc) {t : T} {tg : Expr} (h : chkT X.N sc t tg = true) : PG X tg (tG X t) := by
  unfold chkT at h
  split at h
  · rename_i i x p
    simp only [Bool.and_eq_true, beq_iff_eq] at h
    obtain ⟨l1, l2⟩ := ok x h.2
    refine (pg_name nd h.1 l1 l2).via fun v σ H Q ⟨ρ, en, d, e1, he, r, hp, q⟩ => ?_
    cases hp
    exact q _ (he.set i r) fun ws hs => wipe_set (hs i (List.mem_singleton.mpr rfl))
  · rename_i is es k p
    obtain ⟨h1, h2⟩ := names_each (env := X.env) h
    refine (pg_tup calm (pgs_of nd ok h) h1 h2).via fun v σ H Q ⟨ρ, en, d, e1, he, r, hp, q⟩ => ?_
    cases d with
    | tup ds =>
      cases r with
      | tup k1 k2 =>
        have hp : setAll en is ds = some e1 := hp
        exact ⟨_, _, rfl, k1, by rw [← k2.length]; exact set_len hp, ρ, en, ds, e1, he, k2, hp, q⟩
    | _ => cases hp
  · cases h
/-- in a def's own body -/
theorem sto_def {X : Cx} (h : ∀ x, X.fn x = true) : StoOk X X.env.scope := fun x hx => ⟨sto_of hx, .inl (h x)⟩
/-- in a comprehension's block -/
theorem sto_blk {X : Cx} (s : Shared) (H : Hp) (scope : Scope) (C : Addr) (cl : List (Str × Addr)) (fp : List Addr) : StoOk (X.blk s H scope (compEnvC scope cl C X.env) fp) scope := fun x hx => by
  unfold sto at hx
  split at hx
  · rename_i e
    have k := lookup_relS_keep (sc := X.env.scope) (by decide) e
    exact ⟨.inl k, .inr k⟩
  · rename_i e
    have k := lookup_relS_keep (sc := X.env.scope) (by decide) e
    refine ⟨.inr k, .inl ?_⟩
    show (scope.names.lookup x == some .cell) = true
    rw [e]; rfl
  · cases hx

/-! ### what is walked -/
theorem i_seq {e : E} (h1 : OkE Z L fuel n e) : OkI Z L fuel n (.seq e) := by
  intro X tg x G h
  simp only [chkI] at h
  have hE := h1.1 X x G h
  refine PI.by_ fun σ H RR ⟨ρ, en, s, j, s', he, hs, hv, q⟩ => ?_
  simp only [evI] at hv
  obtain ⟨x1, s1, e1, hv⟩ := R.bind_eq hv
  split at hv
  · cases hv
    refine ⟨_, pi_tup hE, goE he hs e1 fun ρ1 H1 v1 x1 hs1 he1 r1 => ?_⟩
    cases r1 with
    | tup k1 k2 => exact ⟨_, rfl, ⟨_, k1⟩, q ρ1 H1 _ x1 hs1 (itR_tup k1 k2)⟩
  · cases hv
    refine ⟨_, pi_list hE, goE he hs e1 fun ρ1 H1 v1 x1 hs1 he1 r1 => ?_⟩
    cases r1 with
    | rol k1 k2 => exact ⟨_, rfl, ⟨_, k1.l⟩, q ρ1 H1 _ x1 hs1 (itR_rol k1 k2)⟩
  · split at hv
    · rename_i ds ed
      cases hv
      refine ⟨_, pi_list hE, goE he hs e1 fun ρ1 H1 v1 x1 hs1 he1 r1 => ?_⟩
      obtain ⟨ad, vs, z, hv1, rl⟩ := hs1.gL ed
      exact ⟨ad, r1.ref_at z, ⟨vs, SqL.of hv1⟩, q ρ1 H1 _ x1 hs1 (itR_lst z)⟩
    · cases hv
  · cases hv
theorem i_fresh {l : Pv.L} (h1 : OkL Z L fuel n l) : OkI Z L fuel n (.fresh l) := by
  intro X tg x G h
  simp only [chkI] at h
  refine PI.by_ fun σ H RR ⟨ρ, en, s, j, s', he, hs, hv, q⟩ => ?_
  simp only [evI] at hv
  obtain ⟨ds, s1, e1, hv⟩ := R.bind_eq hv
  cases hv
  exact ⟨_, pi_list (h1 X x G h), goL he hs e1 fun ρ1 H1 p vs x1 hs1 he1 m0 n0 hp r1 => ⟨p, rfl, ⟨vs, SqL.of hp⟩, q ρ1 H1 _ x1 hs1 (itR_new hp m0 r1)⟩⟩
theorem i_range {es : Es} (h1 : OkEs Z L fuel n es) : OkI Z L fuel n (.range es) := by
  intro X tg x G h
  simp only [chkI] at h
  split at h
  · simp only [Bool.and_eq_true] at h
    obtain ⟨⟨⟨h2, h3⟩, h4⟩, h5⟩ := h
    obtain rfl := beq_iff_eq.mp h2
    obtain ⟨e, rfl, h8⟩ := es_one h5
    refine PI.by_ fun σ H RR ⟨ρ, en, s, j, s', he, hs, hv, q⟩ => ?_
    simp only [evI] at hv
    obtain ⟨ds, s1, e1, hv⟩ := R.bind_eq hv
    refine ⟨_, pi_range1 (gl_of h3).1 (G.fac.bi _ (by decide +kernel)) (h1.1 X _ G h5 h4) (star1 h4), goEs he hs e1 fun ρ1 H1 vs x1 hs1 he1 r1 => ?_⟩
    have l1 := es_len h5 e1
    split at hv
    · rename_i ds' er
      cases hv
      unfold rangeD at er
      split at er
      · split at er
        · rename_i hb
          cases er
          obtain ⟨v, rfl, rv⟩ := repl1 r1
          exact ⟨_, by rw [rep_int rv], hb.1, hb.2, q ρ1 H1 _ x1 hs1 (itR_rng 0 _)⟩
        · cases er
      · cases l1
      · cases er
    · cases hv
  · simp only [Bool.and_eq_true] at h
    obtain ⟨⟨⟨h2, h3⟩, h4⟩, h5⟩ := h
    obtain rfl := beq_iff_eq.mp h2
    obtain ⟨e, e', rfl, h8⟩ := es_two h5
    refine PI.by_ fun σ H RR ⟨ρ, en, s, j, s', he, hs, hv, q⟩ => ?_
    simp only [evI] at hv
    obtain ⟨ds, s1, e1, hv⟩ := R.bind_eq hv
    refine ⟨_, pi_range2 (gl_of h3).1 (G.fac.bi _ (by decide +kernel)) (h1.1 X _ G h5 h4) (by rw [star2 h4, star1 (noStar_tail h4)]; rfl) (star1 (noStar_tail h4)), goEs he hs e1 fun ρ1 H1 vs x1 hs1 he1 r1 => ?_⟩
    have l1 := es_len h5 e1
    split at hv
    · rename_i ds' er
      cases hv
      unfold rangeD at er
      split at er
      · cases l1
      · split at er
        · rename_i hb
          cases er
          obtain ⟨v, w, rfl, rv, rw'⟩ := repl2 r1
          exact ⟨_, _, by rw [rep_int rv, rep_int rw'], ⟨hb.1.1, hb.1.2, hb.2.1, hb.2.2⟩, q ρ1 H1 _ x1 hs1 (itR_rng _ _)⟩
        · cases er
      · cases er
    · cases hv
  · cases h
theorem i_enum {e : E} (h1 : OkE Z L fuel n e) : OkI Z L fuel n (.enum e) := by
  intro X tg x G h
  simp only [chkI] at h
  split at h
  · simp only [Bool.and_eq_true] at h
    obtain ⟨⟨⟨h2, h3⟩, h4⟩, h5⟩ := h
    obtain rfl := beq_iff_eq.mp h2
    refine PI.by_ fun σ H RR ⟨ρ, en, s, j, s', he, hs, hv, q⟩ => ?_
    simp only [evI] at hv
    obtain ⟨x1, s1, e1, hv⟩ := R.bind_eq hv
    split at hv
    · split at hv
      · rename_i ds ed
        cases hv
        refine ⟨_, pi_enum (gl_of h3).1 (G.fac.bi _ (by decide +kernel)) (pa_cons (h1.1 X _ G h5) pa_nil (star1 h4)) (star1 h4), goE he hs e1 fun ρ1 H1 v1 x1 hs1 he1 r1 => ?_⟩
        obtain ⟨ad, vs, z, hv1, rl⟩ := hs1.gL ed
        exact ⟨ad, vs, by rw [r1.ref_at z], SqL.of hv1, q ρ1 H1 _ x1 hs1 (itR_enum z)⟩
      · cases hv
    · cases hv
  · cases h
theorem i_zip {a b : E} (ha : OkE Z L fuel n a) (hb : OkE Z L fuel n b) : OkI Z L fuel n (.zip a b) := by
  intro X tg x G h
  simp only [chkI] at h
  split at h
  · simp only [Bool.and_eq_true] at h
    obtain ⟨⟨⟨⟨h2, h3⟩, h4⟩, h5⟩, h6⟩ := h
    obtain rfl := beq_iff_eq.mp h2
    refine PI.by_ fun σ H RR ⟨ρ, en, s, j, s', he, hs, hv, q⟩ => ?_
    simp only [evI] at hv
    obtain ⟨x1, s1, e1, hv⟩ := R.bind_eq hv
    obtain ⟨y1, s2, e2, hv⟩ := R.bind_eq hv
    split at hv
    · split at hv
      · rename_i ds es ed ee
        cases hv
        have n2 := noStar_tail h4
        refine ⟨_, pi_zip (gl_of h3).1 (G.fac.bi _ (by decide +kernel)) (pa_cons (ha.1 X _ G h5) (pa_cons (hb.1 X _ G h6) pa_nil (star1 n2)) (star_cons h4)) (star_cons h4) (starAny n2), goE he hs e1 fun ρ1 H1 v1 x1 hs1 he1 r1 => goE he1 hs1 e2 fun ρ2 H2 v2 x2 hs2 he2 r2 => ?_⟩
        obtain ⟨ad, vs, z, hv1, rl⟩ := hs2.gL ed
        obtain ⟨ad2, us, z2, hv2, rl2⟩ := hs2.gL ee
        exact ⟨ad, ad2, vs, us, by rw [(r1.ext x2).ref_at z, r2.ref_at z2], SqL.of hv1, SqL.of hv2, q ρ2 H2 _ (x1.trans x2) hs2 (itR_zip z z2)⟩
      · cases hv
    · cases hv
  · cases h
end
end Pv

end
section
set_option Elab.async false
set_option linter.all false
set_option maxRecDepth 100000
set_option maxHeartbeats 1000000
namespace Pv
open PySem L2 PySem.Spec PyProof.Rows
section
variable {Z : Tabs} {L : Pla} {fuel n : Nat}

theorem wipe_idem {σ : L2.St} {vs : List Nat} : L2.wipe (L2.wipe σ vs) vs = L2.wipe σ vs := by
  apply List.ext_getElem?
  intro j
  rw [wipe_get, wipe_get, L2.wipe_length]
  by_cases hj : j ∈ vs
  · rw [if_pos hj, if_pos hj]
  · rw [if_neg hj, if_neg hj]
def tC_ (Y : Nam) (K : PySem.W.Frag) (g : G) (c : Es) : TT := match c with
  | .nil => tYes
  | .cons c _ => tB Y K g c
theorem cnd_go {Y : Nam} {K : PySem.W.Frag} {g : G} {c : Es} {ρ : List Addr} {en : Slo} {s s' : Sto} {σ : L2.St} {H : Hp} {b : Bool} {Q : Bool → Hp → Prop} (he : RepE K ρ H en σ) (hs : RepS Y K ρ H s) (h : evC g c en s = .ok b s')
    (k : ∀ ρ' H', Ext ρ H ρ' H' → RepS Y K ρ' H' s' → RepE K ρ' H' en σ → Q b H') : tC_ Y K g c σ H Q := by
  cases c with
  | nil =>
    simp only [evC] at h
    cases h
    exact k ρ H .refl hs he
  | cons c cs =>
    simp only [evC] at h
    exact goB he hs h k
theorem pts_of {X : Cx} {scope : Scope} {c : Es} {ifs : List Expr} (G : Good Z L fuel n X) (hc : OkAll Z L fuel n c) (h : chkC Z X.N (relS scope X.env.scope) c ifs = true) (s : Shared) (H : Hp) (C : Addr) (cl : List (Str × Addr)) (fp : List Addr) :
    PTs (X.blk s H scope (compEnvC scope cl C X.env) fp) ifs (tC_ (Z.nam L) X.K (gOf Z fuel n) c) := by
  cases c with
  | nil =>
    cases ifs with
    | nil => exact pts_nil
    | cons _ _ => cases h
  | cons c cs =>
    cases ifs with
    | nil => cases h
    | cons u us =>
      cases us with
      | nil =>
        simp only [chkC, Bool.and_eq_true] at h
        exact pts_one (hc.1.2 (X.blk s H scope (compEnvC scope cl C X.env) fp) u (G.blk s H scope _ fp) h.1)
      | cons _ _ => cases h
theorem own_snd (N : List Str) (own : List Nat) : (ownOf N own).map (·.2) = own := by
  unfold ownOf
  rw [List.map_map]
  exact List.map_id' own
theorem notSet_of {x : Expr} {env : PySem.Env} (h : (!isSet x) = true) (v : Value) : foldedSetIterable x env v = pure v := by
  cases x <;> first | rfl | cases h
/-- the turns of a comprehension -/
theorem comp_turns {Y : Nam} {K : PySem.W.Frag} {g : G} {elt : E} {t : T} {own : List Nat} {c : Es} {j : Pv.It} {J : L2.It} {X : Cx} (hX : X.K = K) (hsl : ∀ i ∈ t.slots, i ∈ own) {ρ ρ1 : List Addr} {en : Slo} {s1 s' : Sto} {σ : L2.St} {H H1 : Hp} {ds : List D} {Q : VK} {fuel : Nat}
    (he : RepE K ρ H en σ) (x1 : Ext ρ H ρ1 H1) (hs1 : RepS Y K ρ1 H1 s1) (hJ : ItR Y K ρ1 H1 j J) (hv : compR j t (wipeE en own) (fun e1 s => evC g c e1 s) (fun e1 s => evE g elt e1 s) fuel 0 [] s1 = .ok ds s') (q : PostL Y K ρ H s' ds Q) (D : Addr) (nD : H1 D = none) :
    ∃ W : Nat → Nat → Hp → Prop, (∃ m, W 0 m (upd H1 D (.lst []))) ∧ ∀ i m H, W i m H →
      (J.stop i H ∧ Q (.ref D) H) ∨ (J.go i H ∧ ∃ Nx : Hp → Prop, (∀ H', Nx H' → ∃ m', m' < m ∧ W (i + 1) m' H') ∧ ∀ x H', J.yld i H x H' → tG X t x (L2.wipe σ own) H' fun σ2 H2 => L2.wipe σ2 own = L2.wipe σ own ∧ tC_ Y K g c σ2 H2 fun b H3 =>
        if b = true then tE Y K g elt σ2 H3 fun y H4 => ∃ acc, H4 D = some (.lst acc) ∧ acc.length < sizeLine ∧ Nx (upd H4 D (.lst (acc ++ [y]))) else Nx H3) := by
  subst hX
  let W : Nat → Nat → Hp → Prop := fun i m H' => ∃ ρ2 acc accv s2, Ext ρ1 H1 ρ2 H' ∧ RepS Y X.K ρ2 H' s2 ∧ D ∉ ρ2 ∧ H' D = some (.lst accv) ∧ RepL X.K ρ2 H' acc accv ∧ compR j t (wipeE en own) (fun e1 s => evC g c e1 s) (fun e1 s => evE g elt e1 s) m i acc s2 = .ok ds s'
  have fD := hs1.fresh nD
  refine ⟨W, ⟨fuel, ρ1, [], [], s1, .laid D _ nD, hs1.laid D _ nD, fD, upd_same, .nil, hv⟩, ?_⟩
  rintro i m H' ⟨ρ2, acc, accv, s2, x2, hs2, mD, hD, ra, hc⟩
  have he2 : RepE X.K ρ2 H' (wipeE en own) (L2.wipe σ own) := ((he.ext x1).ext x2).wipe own
  cases m with
  | zero => cases hc
  | succ m =>
    unfold compR at hc
    split at hc
    · cases hc
    · rename_i ea
      cases hc
      exact .inl ⟨(hJ ρ2 H' _ i x2 hs2).1 ea, q ρ2 H' D accv (x1.trans x2) hs2 mD (x1.none_of fD nD) hD ra⟩
    · rename_i d ea
      obtain ⟨go, yl⟩ := (hJ ρ2 H' s2 i x2 hs2).2 d ea
      split at hc
      · cases hc
      · rename_i e1 ep
        obtain ⟨b, s3, ec, hc⟩ := R.bind_eq hc
        refine .inr ⟨go, fun H'' => W (i + 1) m H'', fun H'' w => ⟨m, Nat.lt_succ_self m, w⟩, fun x H'' y => ?_⟩
        obtain ⟨x3, hs3, rx⟩ := yl x H'' y
        have hD3 : H'' D = some (.lst accv) := x3.kep D _ hD (.inl mD)
        refine ⟨ρ2, wipeE en own, d, e1, he2.ext x3, rx, ep, fun σ' he3 hw => ⟨by rw [hw own hsl]; exact wipe_idem, ?_⟩⟩
        refine cnd_go he3 hs3 ec fun ρ3 H3 x4 hs4 he4 => ?_
        have mD3 : D ∉ ρ3 := fun h => (x4.new D h).elim mD fun e => by rw [hD3] at e; cases e
        have hD4 : H3 D = some (.lst accv) := x4.kep D _ hD3 (.inl mD)
        cases b with
        | false => exact iteF ⟨ρ3, acc, accv, s3, (x2.trans x3).trans x4, hs4, mD3, hD4, (ra.ext x3).ext x4, hc⟩
        | true =>
          obtain ⟨v, s4, ev, hc⟩ := R.bind_eq hc
          refine iteT (goE he4 hs4 ev fun ρ4 H4 y x5 hs5 he5 ry => ?_)
          have mD4 : D ∉ ρ4 := fun h => (x5.new D h).elim mD3 fun e => by rw [hD4] at e; cases e
          have hD5 : H4 D = some (.lst accv) := x5.kep D _ hD4 (.inl mD3)
          split at hc
          · rename_i hl
            refine ⟨accv, hD5, by rw [← ra.length]; exact hl, ρ4, acc ++ [v], accv ++ [y], s4, ?_, hs5.grown D hD5 mD4, mD4, upd_same, ?_, hc⟩
            · exact (((x2.trans x3).trans x4).trans x5).grown D _ nD
            · exact ((((ra.ext x3).ext x4).ext x5).append (.cons ry .nil)).ext0 (Ext0.grown D hD5)
          · cases hc
theorem comp_read {X : Cx} {own : List Nat} {elt : E} {t : T} {it : Pv.I} {c : Es} (h4 : (t.slots.all fun i => own.contains i) = true) {σ : L2.St} {H : Hp} {Q : VK} (w : tL (Z.nam L) X.K (gOf Z fuel n) (.comp own elt t it c) σ H Q) :
    tLc (tI (Z.nam L) X.K (gOf Z fuel n) it) (tG X t) (tC_ (Z.nam L) X.K (gOf Z fuel n) c) (tE (Z.nam L) X.K (gOf Z fuel n) elt) own σ H Q := by
  obtain ⟨ρ, en, s, ds, s', he, hs, hv, q⟩ := w
  simp only [evL] at hv
  obtain ⟨j, s1, e1, hv⟩ := R.bind_eq hv
  refine ⟨ρ, en, s, j, s1, he, hs, e1, fun ρ1 H1 J x1 hs1 hJ D nD => ?_⟩
  refine comp_turns (X := X) rfl (fun i hi => ?_) he x1 hs1 hJ hv q D nD
  have := List.all_eq_true.mp h4 i hi
  simpa using this
theorem l_comp (own : List Nat) {elt : E} (t : T) {it : Pv.I} {c : Es} (hI : OkI Z L fuel n it) (hE : OkE Z L fuel n elt) (hC : OkAll Z L fuel n c) : OkL Z L fuel n (.comp own elt t it c) := by
  intro X x G h
  simp only [chkL] at h
  split at h
  · rename_i y tg iter ifs scope p
    simp only [Bool.and_eq_true] at h
    obtain ⟨⟨⟨⟨⟨⟨h1, h2⟩, h3⟩, h4⟩, h5⟩, h6⟩, h7⟩ := h
    refine (pe_lc (own := ownOf X.N own) (g := tG X t) (te := tE (Z.nam L) X.K (gOf Z fuel n) elt) G.calm G.nd (hI X tg iter G h3) (blkOk_by h1) (fun s H C cl fp => pg_of (X := X.blk s H scope (compEnvC scope cl C X.env) fp) G.nd G.calm (sto_blk s H scope C cl fp) h5)
      (pts_of G hC h7) (fun s H C cl fp => hE.1 (X.blk s H scope (compEnvC scope cl C X.env) fp) y (G.blk s H scope _ fp) h6) (notSet_of h2)).via fun σ H Q w => ?_
    rw [own_snd]
    exact comp_read h4 w
  · cases h

/-! ### all expressions -/
mutual
theorem okE (Z : Tabs) (L : Pla) (fuel n : Nat) : ∀ c : E, OkE Z L fuel n c
  | .var i => c_var i
  | .lit d => c_lit d
  | .glob k => c_glob k
  | .bin o a b => c_bin o (okE Z L fuel n a) (okE Z L fuel n b)
  | .neg a => c_neg (okE Z L fuel n a)
  | .cmp o a b => c_cmp o (okE Z L fuel n a) (okE Z L fuel n b)
  | .chain o p a b c => c_chain o p (okE Z L fuel n a) (okE Z L fuel n b) (okE Z L fuel n c)
  | .not_ a => c_not (okE Z L fuel n a)
  | .and_ a b => c_and (okE Z L fuel n a) (okE Z L fuel n b)
  | .or_ a b => c_or (okE Z L fuel n a) (okE Z L fuel n b)
  | .ite c a b => c_ite (okE Z L fuel n c) (okE Z L fuel n a) (okE Z L fuel n b)
  | .fld a k => c_fld k (okE Z L fuel n a)
  | .tup es => c_tup (okEs Z L fuel n es)
  | .new l => c_new (okL Z L fuel n l)
  | .call f es => c_call f (okEs Z L fuel n es)
  | .meth o m es => c_meth m (okE Z L fuel n o) (okEs Z L fuel n es)
  | .make c es => c_make c (okEs Z L fuel n es)
  | .bi b es => c_bi b (okEs Z L fuel n es)
  | .fold b l => c_fold b (okL Z L fuel n l)
  | .foldv b e => c_foldv b (okE Z L fuel n e)
  | .bm m o e => c_bm m (okE Z L fuel n o) (okE Z L fuel n e)
  | .ix a i => c_ix (okE Z L fuel n a) (okE Z L fuel n i)
  | .dix a i => c_dix (okE Z L fuel n a) (okE Z L fuel n i)
  | .dct es => c_dct (okEs Z L fuel n es)
  | .sl a lo hi => c_sl (okE Z L fuel n a) (okE Z L fuel n lo) (okE Z L fuel n hi)
  | .slk a lo hi st => c_slk (okE Z L fuel n a) (okE Z L fuel n lo) (okE Z L fuel n hi) (okE Z L fuel n st)
theorem okEs (Z : Tabs) (L : Pla) (fuel n : Nat) : ∀ es : Es, OkEs Z L fuel n es
  | .nil => es_nil
  | .cons e es => es_cons (okE Z L fuel n e) (okEs Z L fuel n es)
theorem okL (Z : Tabs) (L : Pla) (fuel n : Nat) : ∀ l : Pv.L, OkL Z L fuel n l
  | .comp own elt t it c => l_comp own t (okI Z L fuel n it) (okE Z L fuel n elt) (okEs Z L fuel n c).2
  | .disp es => l_disp (okEs Z L fuel n es)
  | .range es => l_range (okEs Z L fuel n es)
theorem okI (Z : Tabs) (L : Pla) (fuel n : Nat) : ∀ it : Pv.I, OkI Z L fuel n it
  | .seq e => i_seq (okE Z L fuel n e)
  | .fresh l => i_fresh (okL Z L fuel n l)
  | .range es => i_range (okEs Z L fuel n es)
  | .enum e => i_enum (okE Z L fuel n e)
  | .zip a b => i_zip (okE Z L fuel n a) (okE Z L fuel n b)
end
end
end Pv

end
section
set_option Elab.async false
set_option linter.all false
set_option maxRecDepth 100000
set_option maxHeartbeats 1000000
namespace Pv
open PySem L2 PySem.Spec PyProof.Rows

def PostS (Y : Nam) (K : PySem.W.Frag) (ρ : List Addr) (H : Hp) (D : Ends) : Fl → Prop
  | .nx e s => ∀ ρ' H' σ', Ext ρ H ρ' H' → RepS Y K ρ' H' s → RepE K ρ' H' e σ' → D.nx σ' H'
  | .rt d s => ∀ ρ' H' v, Ext ρ H ρ' H' → RepS Y K ρ' H' s → Rep K ρ' H' d v → D.rt v H'
  | .bk e s => ∀ ρ' H' σ', Ext ρ H ρ' H' → RepS Y K ρ' H' s → RepE K ρ' H' e σ' → D.bk σ' H'
  | .ct e s => ∀ ρ' H' σ', Ext ρ H ρ' H' → RepS Y K ρ' H' s → RepE K ρ' H' e σ' → D.ct σ' H'
  | .no => False
theorem PostS.ext {Y : Nam} {K : PySem.W.Frag} {ρ ρ1 : List Addr} {H H1 : Hp} {D : Ends} {f : Fl} (e : Ext ρ H ρ1 H1) (p : PostS Y K ρ H D f) : PostS Y K ρ1 H1 D f := by
  cases f with
  | nx en s => exact fun ρ' H' σ' e' h r => p ρ' H' σ' (e.trans e') h r
  | rt d s => exact fun ρ' H' σ' e' h r => p ρ' H' σ' (e.trans e') h r
  | bk en s => exact fun ρ' H' σ' e' h r => p ρ' H' σ' (e.trans e') h r
  | ct en s => exact fun ρ' H' σ' e' h r => p ρ' H' σ' (e.trans e') h r
  | no => exact p
def tS (Y : Nam) (K : PySem.W.Frag) (g : G) (c : Pv.S) : TS := fun D σ H => ∃ ρ en s, RepE K ρ H en σ ∧ RepS Y K ρ H s ∧ PostS Y K ρ H D (evS g c en s)
def tSs (Y : Nam) (K : PySem.W.Frag) (g : G) (c : Ss) : TS := fun D σ H => ∃ ρ en s, RepE K ρ H en σ ∧ RepS Y K ρ H s ∧ PostS Y K ρ H D (evSs g c en s)
theorem _root_.L2.PS.via {X : Cx} {x : Stmt} {t t' : TS} (h : PS X x t) (f : ∀ D σ H, t' D σ H → t D σ H) : PS X x t' := ⟨fun pins s σ H D I w => h.run pins s σ H D I (f _ _ _ w)⟩
theorem _root_.L2.PSs.via {X : Cx} {x : List Stmt} {t t' : TS} (h : PSs X x t) (f : ∀ D σ H, t' D σ H → t D σ H) : PSs X x t' := ⟨fun pins s σ H D I w => h.run pins s σ H D I (f _ _ _ w)⟩
/-- the rule may know that the frame is a def's -/
theorem _root_.L2.PS.by_ {X : Cx} {x : Stmt} {t' : TS} (f : ∀ D σ H, X.env.scope.kind = .function → t' D σ H → ∃ t, PS X x t ∧ t D σ H) : PS X x t' := ⟨fun pins s σ H D I w => by
  obtain ⟨t, h, w'⟩ := f _ _ _ I.ok.kind w
  exact h.run pins s σ H D I w'⟩

structure Body (X : Cx) : Prop where
  fn : ∀ x, X.fn x = true
  xe : X.xe = fun _ _ => False
def OkS (Z : Tabs) (L : Pla) (fuel n : Nat) (c : Pv.S) : Prop := ∀ (X : Cx) (st : Stmt), Good Z L fuel n X → Body X → chkS Z X.N c st X.env.scope = true → PS X st (tS (Z.nam L) X.K (gOf Z fuel n) c)
def OkSs (Z : Tabs) (L : Pla) (fuel n : Nat) (c : Ss) : Prop := ∀ (X : Cx) (st : List Stmt), Good Z L fuel n X → Body X → chkSs Z X.N c st X.env.scope = true → PSs X st (tSs (Z.nam L) X.K (gOf Z fuel n) c)

section
variable {Z : Tabs} {L : Pla} {fuel n : Nat}
theorem Body.passes {X : Cx} (b : Body X) : PassesOwn (model X.prog X.w) X.A X.env X.xe := by rw [b.xe]; exact PassesOwn.never

/-! ### assignments -/
theorem swap_no {X : Cx} {v : Expr} {tg : Option Expr} {line : Nat} (h : isComp v = false) : swapsWith v tg line X.env = pure false := by
  cases v <;> first | rfl | cases h
theorem swap_sub {X : Cx} {v tg : Expr} {line : Nat} (h : ∀ x p, tg ≠ .Name x p) : swapsWith v (some tg) line X.env = pure false := by
  cases v <;> first | rfl | (cases tg <;> first | rfl | exact absurd rfl (h _ _))
/-- a comprehension is one of ours -/
theorem comp_only {N : List Str} {sc : Scope} {e : E} {v : Expr} (h : chkE Z N false sc e v = true) (hc : isComp v = true) : ∃ own elt t it c, e = .new (.comp own elt t it c) := by
  cases e with
  | new l =>
    cases l with
    | comp own elt t it c => exact ⟨_, _, _, _, _, rfl⟩
    | disp es => exfalso; cases v <;> first | (simp [chkE, chkL] at h; done) | (cases hc; done)
    | range es => exfalso; cases v <;> first | (simp [chkE, chkL] at h; done) | (cases hc; done)
  | lit d => exfalso; cases v <;> first | (cases d <;> simp [chkE, litIs] at h; done) | (cases hc; done)
  | _ => exfalso; cases v <;> first | (simp [chkE] at h; done) | (cases hc; done)
theorem swapped_of {X : Cx} {ts vs : List Expr} {k k2 : Nat} {p p2 : Pos} {r : Option (List Str)} (kind : X.env.scope.kind = .function) (ns : noStar vs = true) (h : swapC X.env.scope ts vs = some r) : swappedStores [.Tuple ts k p] (.Tuple vs k2 p2) X.env = pure r := by
  have bk : X.env.blockKind = .function := by
    unfold PySem.Env.blockKind
    rw [kind]; rfl
  have st : (vs.any fun | .Starred .. => true | _ => false) = false := by
    clear h
    induction vs with
    | nil => rfl
    | cons e es ih =>
      have := ih (noStar_tail ns)
      rw [List.any_cons, this]
      cases e <;> first | rfl | cases ns
  have nb : (X.env.blockKind != ScopeKind.function) = false := by rw [bk]; rfl
  unfold swapC at h
  unfold swappedStores
  split at h
  · rename_i c
    cases h
    exact if_pos (by rw [nb, Bool.or_false]; exact c)
  · rename_i c
    refine Eq.trans (if_neg (by rw [nb, Bool.or_false]; exact c)) ?_
    refine Eq.trans (if_neg (fun q => Bool.false_ne_true (st.symm.trans q))) ?_
    dsimp only at h
    split at h
    · rename_i c2
      cases h
      exact if_pos c2
    · rename_i c2
      refine Eq.trans (if_neg c2) ?_
      split at h
      · rename_i c3
        cases h
        exact if_pos c3
      · rename_i c3
        refine Eq.trans (if_neg c3) ?_
        split at h
        · cases h
        · rename_i c4
          cases h
          exact if_neg c4
theorem asg_read {X : Cx} {t : T} {e : E} {D : Ends} {σ : L2.St} {H : Hp} (w : tS (Z.nam L) X.K (gOf Z fuel n) (.asg t e) D σ H) : tE (Z.nam L) X.K (gOf Z fuel n) e σ H fun x H1 => tG X t x σ H1 D.nx := by
  obtain ⟨ρ, en, s, he, hs, q⟩ := w
  simp only [evS] at q
  split at q
  · rename_i d s1 e1
    split at q
    · rename_i en1 ep
      exact goE he hs e1 fun ρ1 H1 v x1 hs1 he1 r => ⟨ρ1, en, d, en1, he1, r, ep, fun σ' he' _ => q ρ1 H1 σ' x1 hs1 he'⟩
    · exact q.elim
  · exact q.elim
theorem each_one {X : Cx} {t : T} {tg : Expr} {sc : Scope} {N : List Str} (h : chkT N sc t tg = true) : (assignEach [tg] X.env).map (·.2) = [assign tg X.env] := by
  unfold chkT at h
  split at h
  · rfl
  · rfl
  · cases h
theorem s_asg (t : T) (e : E) : OkS Z L fuel n (.asg t e) := by
  intro X st G B h
  simp only [chkS] at h
  split at h
  · rename_i tg v p
    simp only [Bool.and_eq_true] at h
    obtain ⟨⟨⟨h1, h2⟩, h3⟩, h4⟩ := h
    have pv := (okE Z L fuel n e).1 X v G h2
    have pt := pg_of G.nd G.calm (sto_def B.fn) h1
    refine PS.by_ fun D σ H kind w => ?_
    have rd := asg_read w
    cases hc : isComp v with
    | false =>
      refine ⟨_, ps_asg pv pt ?_ ?_ (each_one h1), rd⟩
      · exact swap_no hc
      · unfold chkT at h1
        split at h1
        · rfl
        · rename_i is es k p1
          by_cases hv : ∃ vs k2 p2, v = .Tuple vs k2 p2
          · obtain ⟨vs, k2, p2, rfl⟩ := hv
            simp only at h4
            split at h4
            · rename_i e4
              refine swapped_of kind ?_ e4
              -- no star in the value
              cases e with
              | tup es' =>
                simp only [chkE, Bool.and_eq_true] at h2
                exact h2.1
              | lit d => simp [chkE, litIs] at h2
              | new l => cases l <;> simp [chkE, chkL] at h2
              | _ => simp [chkE] at h2
            · cases h4
          · cases v <;> first | rfl | exact absurd ⟨_, _, _, rfl⟩ hv
        · cases h1
    | true =>
      obtain ⟨own, elt, t', it, c, rfl⟩ := comp_only h2 hc
      cases t with
      | tp is => rw [hc] at h3; cases h3
      | nm i =>
        unfold chkT at h1
        split at h1
        · rename_i i' y py ei
          cases ei
          simp only [Bool.and_eq_true, beq_iff_eq] at h1
          simp only [chkE, chkL] at h2
          split at h2
          · rename_i y' tg' iter ifs scope p'
            -- whether the comprehension stores by itself
            cases hb : (X.env.blockKind == .function && X.env.kindOf y == some .local && py.line == (Expr.ListComp y' [⟨tg', iter, ifs, 0⟩] scope p').pos.line && !(scope.names.any fun (m, k) => m == y && (k == .local || k == .cell))) with
            | false =>
              have hsw : swapsWith (Expr.ListComp y' [⟨tg', iter, ifs, 0⟩] scope p') (some (.Name y py)) p.line X.env = pure false := by
                show (pure _ : Sem Bool) = pure false
                exact congrArg _ hb
              exact ⟨_, ps_asg pv pt hsw rfl rfl, rd⟩
            | true =>
              have hsw : swapsWith (Expr.ListComp y' [⟨tg', iter, ifs, 0⟩] scope p') (some (.Name y py)) p.line X.env = pure true := by
                show (pure _ : Sem Bool) = pure true
                exact congrArg _ hb
              have lc : X.env.scope.names.lookup y = some .local := by
                simp only [Bool.and_eq_true] at hb
                exact eq_of_beq hb.1.1.2
              simp only [Bool.and_eq_true] at h2
              obtain ⟨⟨⟨⟨⟨⟨g1, g2⟩, g3⟩, g4⟩, g5⟩, g6⟩, g7⟩ := h2
              refine ⟨_, ps_setLc (own := ownOf X.N own) (g := tG X t') (te := tE (Z.nam L) X.K (gOf Z fuel n) elt) G.calm G.nd h1.1 lc hsw (okI Z L fuel n it X tg' iter G g3) (blkOk_by g1)
                (fun s H C cl fp => pg_of (X := X.blk s H scope (compEnvC scope cl C X.env) fp) G.nd G.calm (sto_blk s H scope C cl fp) g5) (pts_of G (okEs Z L fuel n c).2 g7)
                (fun s H C cl fp => (okE Z L fuel n elt).1 (X.blk s H scope (compEnvC scope cl C X.env) fp) y' (G.blk s H scope _ fp) g6) (notSet_of g2), ?_⟩
              rw [own_snd]
              refine comp_read g4 ?_
              -- from the list as a cell to the list alone
              obtain ⟨ρ, en, s, he, hs, q⟩ := w
              simp only [evS, evE] at q
              cases hl : evL (gOf Z fuel n) (.comp own elt t' it c) en s with
              | no => rw [hl] at q; exact q.elim
              | ok ds s1 =>
                rw [hl] at q
                simp only [R.bind_ok, newL, T.put] at q
                refine goL he hs hl fun ρ1 H1 pa vs x1 hs1 he1 m0 n0 hp r => ?_
                have x2 : Ext0 ρ1 H1 (ρ1 ++ [pa]) H1 := ⟨⟨[pa], rfl⟩, fun _ _ e _ => e⟩
                exact q (ρ1 ++ [pa]) H1 _ (x1.takeIn n0) (hs1.takeIn m0 ⟨vs, hp, r.ext0 x2⟩) ((he1.ext0 x2).set i (.ref (made_at hs1 pa)))
          · cases h2
        · rename_i ei; cases ei
        · cases h1
  · cases h
end
end Pv

end
section
set_option Elab.async false
set_option linter.all false
set_option maxRecDepth 100000
set_option maxHeartbeats 1000000
namespace Pv
open PySem L2 PySem.Spec PyProof.Rows
section
variable {Z : Tabs} {L : Pla} {fuel n : Nat}

theorem s_par (i j : Nat) (a b : E) : OkS Z L fuel n (.par i j a b) := by
  intro X st G B h
  simp only [chkS] at h
  split at h
  · simp only [Bool.and_eq_true, beq_iff_eq, bne_iff_ne, ne_eq] at h
    obtain ⟨⟨⟨⟨⟨⟨⟨h1, h2⟩, h3⟩, h4⟩, h5⟩, h6⟩, h7⟩, h8⟩ := h
    refine PS.by_ fun D σ H kind w => ?_
    split at h8
    · rename_i l el
      obtain rfl := eq_of_beq h8
      refine ⟨_, ps_par G.calm G.nd h1 h2 h3 (loc_of h4) (loc_of h5) ((okEs Z L fuel n (.cons a (.cons b .nil))).1 X _ G h7 h6) (swapped_of kind h6 el) rfl, ?_⟩
      obtain ⟨ρ, en, s, he, hs, q⟩ := w
      simp only [evS] at q
      split at q
      · rename_i x s1 e1
        split at q
        · rename_i y s2 e2
          refine goEs he hs (ds := [x, y]) (s' := s2) (by simp only [evEs, e1, R.bind_ok, e2]) fun ρ1 H1 vs x1 hs1 he1 r => ?_
          obtain ⟨v, w, rfl, rv, rw'⟩ := repl2 r
          exact ⟨v, w, rfl, q ρ1 H1 _ x1 hs1 ((he1.set i rv).set j rw')⟩
        · exact q.elim
      · exact q.elim
    · exact (Bool.false_ne_true h8).elim
  · cases h
theorem repl3 {K : PySem.W.Frag} {ρ : List Addr} {H : Hp} {d e f : D} {xs : List V} (r : RepL K ρ H [d, e, f] xs) : ∃ x y z, xs = [x, y, z] ∧ Rep K ρ H d x ∧ Rep K ρ H e y ∧ Rep K ρ H f z := by
  cases r with
  | cons a b =>
    obtain ⟨y, z, rfl, ry, rz⟩ := repl2 b
    exact ⟨_, y, z, rfl, a, ry, rz⟩
theorem s_par3 (i j k : Nat) (a b c : E) : OkS Z L fuel n (.par3 i j k a b c) := by
  intro X st G B h
  simp only [chkS] at h
  split at h
  · simp only [Bool.and_eq_true, beq_iff_eq, bne_iff_ne, ne_eq] at h
    obtain ⟨⟨⟨⟨⟨⟨⟨⟨⟨⟨⟨h1, h2⟩, h3⟩, h4⟩, h5⟩, h6⟩, h7⟩, h8⟩, h9⟩, h10⟩, h11⟩, h12⟩ := h
    refine PS.by_ fun D σ H kind w => ?_
    split at h12
    · rename_i l el
      obtain rfl := eq_of_beq h12
      refine ⟨_, ps_par3 G.calm G.nd h1 h2 h3 h4 h5 h6 (loc_of h7) (loc_of h8) (loc_of h9) ((okEs Z L fuel n (.cons a (.cons b (.cons c .nil)))).1 X _ G h11 h10) (swapped_of kind h10 el) rfl, ?_⟩
      obtain ⟨ρ, en, s, he, hs, q⟩ := w
      simp only [evS] at q
      split at q
      · rename_i x s1 e1
        split at q
        · rename_i y s2 e2
          split at q
          · rename_i z s3 e3
            refine goEs he hs (ds := [x, y, z]) (s' := s3) (by simp only [evEs, e1, R.bind_ok, e2, e3]) fun ρ1 H1 vs x1 hs1 he1 r => ?_
            obtain ⟨v, w, u, rfl, rv, rw', ru⟩ := repl3 r
            exact ⟨v, w, u, rfl, q ρ1 H1 _ x1 hs1 (((he1.set i rv).set j rw').set k ru)⟩
          · exact q.elim
        · exact q.elim
      · exact q.elim
    · exact (Bool.false_ne_true h12).elim
  · cases h

theorem paired_put {Y : Nam} {K : PySem.W.Frag} {ρ : List Addr} {H : Hp} (nd : Y.nm.Nodup) {k : Nat} {d : D} {x : Str} {v : V} (hx : Y.nm[k]? = some x) (r : Rep K ρ H d v) : ∀ {fs : List (Nat × D)} {gs : List (Str × V)}, Paired (RepF Y K ρ H) fs gs → Paired (RepF Y K ρ H) (putD k d fs) (putF x v gs)
  | _, _, .nil => .cons ⟨hx, r⟩ .nil
  | (j, e) :: fs, (y, w) :: gs, .cons r0 t => by
    show Paired _ (if j = k then (k, d) :: fs else (j, e) :: putD k d fs) (if y = x then (y, v) :: gs else (y, w) :: putF x v gs)
    by_cases hk : j = k
    · subst hk
      have : y = x := by have := r0.1; rw [hx] at this; cases this; rfl
      subst this
      rw [if_pos rfl, if_pos rfl]
      exact .cons ⟨hx, r⟩ t
    · have hy : ¬ y = x := fun e => by
        subst e
        obtain ⟨h1, e1⟩ := List.getElem?_eq_some_iff.mp hx
        obtain ⟨h2, e2⟩ := List.getElem?_eq_some_iff.mp r0.1
        exact hk ((List.getElem_inj nd).mp (e2.trans e1.symm))
      rw [if_neg hk, if_neg hy]
      exact .cons r0 (paired_put nd hx r t)
theorem paired_len {Y : Nam} {K : PySem.W.Frag} {ρ : List Addr} {H : Hp} : ∀ {fs : List (Nat × D)} {gs : List (Str × V)}, Paired (RepF Y K ρ H) fs gs → fs.length = gs.length
  | _, _, .nil => rfl
  | _, _, .cons _ t => by rw [List.length_cons, List.length_cons, paired_len t]
theorem s_setF (o : E) (k : Nat) (e : E) : OkS Z L fuel n (.setF o k e) := by
  intro X st G B h
  simp only [chkS] at h
  split at h
  · simp only [Bool.and_eq_true, beq_iff_eq] at h
    obtain ⟨⟨h1, h2⟩, h3⟩ := h
    refine (ps_fld ((okE Z L fuel n o).1 X _ G h2) ((okE Z L fuel n e).1 X _ G h3) (by exact swap_sub fun x p q => by cases q)).via fun D σ H ⟨ρ, en, s, he, hs, q⟩ => ?_
    simp only [evS] at q
    split at q
    · rename_i d s1 e1
      split at q
      · rename_i x s2 e2
        split at q
        · rename_i m
          split at q
          · rename_i c fs ei
            split at q
            · rename_i kl ek
              obtain ⟨r, hr, rfl⟩ := kl_of ek
              split at q
              · rename_i hc
                refine goE he hs e1 fun ρ1 H1 v1 x1 hs1 he1 r1 => goE he1 hs1 e2 fun ρ2 H2 v2 x2 hs2 he2 r2 => ?_
                obtain ⟨ad, dx, gs, z, hv, pf⟩ := hs2.gI ei
                refine ⟨ad, L.cad c, dx, gs, r2.ref_at z, hv, G.fac.ccls c r hr, G.fac.cfld c r k _ hr hc.1 h1, by rw [← paired_len pf]; exact hc.2, ?_⟩
                rename_i f _ _ _
                have nf : ¬ Fix (HO.ins ((Z.nam L).cad c) dx gs) := fun x => x
                have xw : ∀ o', Ext ρ2 H2 ρ2 (upd H2 ad o') := fun o' => Ext.wrote o' z hv nf
                refine q ρ2 _ σ ((x1.trans x2).trans (xw _)) (hs2.wrote z hv nf ⟨dx, _, upd_same, ?_⟩) (he2.ext (xw _))
                exact Paired.mapP (paired_put G.names h1 (r1.ext x2) pf) fun _ _ w => w.ext (xw _)
              · exact q.elim
            · exact q.elim
          · exact q.elim
        · exact q.elim
      · exact q.elim
    · exact q.elim
  · cases h
theorem s_setI (o i e : E) : OkS Z L fuel n (.setI o i e) := by
  intro X st G B h
  simp only [chkS] at h
  split at h
  · rename_i y z p1 v p2
    simp only [Bool.and_eq_true] at h
    obtain ⟨⟨⟨h0, h1⟩, h2⟩, h3⟩ := h
    have asn : ∀ w : Value, assign (Expr.Subscript y z p1) X.env w = (do
        let ov ← holding [w] (eval y X.env)
        let iv ← holding [w, ov] (eval z X.env)
        standAt p1
        holding [w, ov, iv] (setItem ov iv w)
        release [w, ov, iv] []) := fun w => by cases z <;> first | rfl | cases h0
    refine (ps_asg ((okE Z L fuel n e).1 X _ G h3) (pg_sub ((okE Z L fuel n o).1 X _ G h1) ((okE Z L fuel n i).1 X _ G h2) set_list asn) (swap_sub (X := X) (v := v) (tg := Expr.Subscript y z p1) (line := p2.line) fun x p q => by cases q) rfl rfl).via fun D σ H ⟨ρ, en, s, he, hs, q⟩ => ?_
    simp only [evS] at q
    split at q
    · rename_i d s1 e1
      split at q
      · rename_i x s2 e2
        split at q
        · rename_i k s3 e3
          split at q
          · rename_i m k'
            split at q
            · rename_i ds ed
              split at q
              · rename_i jx ej
                refine goE he hs e1 fun ρ1 H1 v1 x1 hs1 he1 r1 => goE he1 hs1 e2 fun ρ2 H2 v2 x2 hs2 he2 r2 => goE he2 hs2 e3 fun ρ3 H3 v3 x3 hs3 he3 r3 => ?_
                obtain ⟨ad, vs, z1, hv, rl⟩ := hs3.gL ed
                have xw := Ext.wrote (.lst (vs.set jx v1)) z1 hv (fun x => x)
                refine ⟨ad, vs, k', jx, (r2.ext x3).ref_at z1, rep_int r3, hv, by rw [← rl.length]; exact ej, ?_⟩
                exact q ρ3 _ σ (((x1.trans x2).trans x3).trans xw) (hs3.setL z1 hv (RepL.set (r1.ext (x2.trans x3)) jx rl)) (he3.ext xw)
              · exact q.elim
            · exact q.elim
          · exact q.elim
        · exact q.elim
      · exact q.elim
    · exact q.elim
  · cases h
theorem s_ex (e : E) : OkS Z L fuel n (.ex e) := by
  intro X st G B h
  simp only [chkS] at h
  split at h
  · simp only [Bool.and_eq_true] at h
    refine (ps_expr ((okE Z L fuel n e).1 X _ G h.2) (swap_no (by simpa using h.1))).via fun D σ H ⟨ρ, en, s, he, hs, q⟩ => ?_
    simp only [evS] at q
    split at q
    · rename_i d s1 e1
      exact goE he hs e1 fun ρ1 H1 v1 x1 hs1 he1 r1 => q ρ1 H1 σ x1 hs1 he1
    · exact q.elim
  · cases h
theorem s_ret (e : E) : OkS Z L fuel n (.ret e) := by
  intro X st G B h
  simp only [chkS] at h
  split at h
  · refine (ps_ret ((okE Z L fuel n e).1 X _ G h)).via fun D σ H ⟨ρ, en, s, he, hs, q⟩ => ?_
    simp only [evS] at q
    split at q
    · rename_i d s1 e1
      exact goE he hs e1 fun ρ1 H1 v1 x1 hs1 he1 r1 => q ρ1 H1 v1 x1 hs1 r1
    · exact q.elim
  · cases h
theorem s_retN : OkS Z L fuel n .retN := by
  intro X st G B h
  simp only [chkS] at h
  split at h
  · exact ps_retN.via fun D σ H ⟨ρ, en, s, he, hs, q⟩ => q ρ H .non .refl hs .non
  · cases h
theorem s_pass : OkS Z L fuel n .pass := by
  intro X st G B h
  simp only [chkS] at h
  split at h
  · exact ps_pass.via fun D σ H ⟨ρ, en, s, he, hs, q⟩ => q ρ H σ .refl hs he
  · cases h
theorem s_brk : OkS Z L fuel n .brk := by
  intro X st G B h
  simp only [chkS] at h
  split at h
  · exact ps_break.via fun D σ H ⟨ρ, en, s, he, hs, q⟩ => q ρ H σ .refl hs he
  · cases h
theorem s_cnt : OkS Z L fuel n .cnt := by
  intro X st G B h
  simp only [chkS] at h
  split at h
  · exact ps_continue.via fun D σ H ⟨ρ, en, s, he, hs, q⟩ => q ρ H σ .refl hs he
  · cases h
theorem s_never : OkS Z L fuel n .never := fun X st G B h => ps_never.via fun D σ H ⟨ρ, en, s, he, hs, q⟩ => q.elim

theorem s_ite (c : E) {a b : Ss} (ha : OkSs Z L fuel n a) (hb : OkSs Z L fuel n b) : OkS Z L fuel n (.ite c a b) := by
  intro X st G B h
  simp only [chkS] at h
  split at h
  · simp only [Bool.and_eq_true] at h
    obtain ⟨⟨h1, h2⟩, h3⟩ := h
    refine (ps_if ((okE Z L fuel n c).2 X _ G h1) (ha X _ G B h2) (hb X _ G B h3)).via fun D σ H ⟨ρ, en, s, he, hs, q⟩ => ?_
    simp only [evS] at q
    split at q
    · rename_i s1 e1
      exact goB he hs e1 fun ρ1 H1 x1 hs1 he1 => iteT ⟨ρ1, en, s1, he1, hs1, q.ext x1⟩
    · rename_i s1 e1
      exact goB he hs e1 fun ρ1 H1 x1 hs1 he1 => iteF ⟨ρ1, en, s1, he1, hs1, q.ext x1⟩
    · exact q.elim
  · cases h
theorem s_whl (c : E) {b : Ss} (hb : OkSs Z L fuel n b) : OkS Z L fuel n (.whl c b) := by
  intro X st G B h
  simp only [chkS] at h
  split at h
  · simp only [Bool.and_eq_true] at h
    refine (ps_while B.passes ((okE Z L fuel n c).2 X _ G h.1) (hb X _ G B h.2)).via fun D σ H ⟨ρ, en, s, he, hs, q⟩ => ?_
    simp only [evS] at q
    refine ⟨fun m σ1 H1 => ∃ ρ1 en1 s1, RepE X.K ρ1 H1 en1 σ1 ∧ RepS (Z.nam L) X.K ρ1 H1 s1 ∧ PostS (Z.nam L) X.K ρ1 H1 D (whlR (fun e s => truR (evE (gOf Z fuel n) c e s)) (fun e s => evSs (gOf Z fuel n) b e s) m en1 s1), ⟨_, ρ, en, s, he, hs, q⟩, ?_⟩
    rintro m σ1 H1 ⟨ρ1, en1, s1, he1, hs1, q1⟩
    cases m with
    | zero => exact q1.elim
    | succ m =>
      unfold whlR at q1
      split at q1
      · exact q1.elim
      · rename_i s2 e2
        exact goB he1 hs1 e2 fun ρ2 H2 x2 hs2 he2 => iteF (q1 ρ2 H2 σ1 x2 hs2 he2)
      · rename_i s2 e2
        refine goB he1 hs1 e2 fun ρ2 H2 x2 hs2 he2 => iteT ?_
        have q2 := q1.ext x2
        refine ⟨fun σ' H' => ∃ ρ1 en1 s1, RepE X.K ρ1 H' en1 σ' ∧ RepS (Z.nam L) X.K ρ1 H' s1 ∧ PostS (Z.nam L) X.K ρ1 H' D (whlR (fun e s => truR (evE (gOf Z fuel n) c e s)) (fun e s => evSs (gOf Z fuel n) b e s) m en1 s1), fun σ' H' w => ⟨m, Nat.lt_succ_self m, w⟩, ρ2, en1, s2, he2, hs2, ?_⟩
        cases hb2 : evSs (gOf Z fuel n) b en1 s2 with
        | nx e3 s3 => rw [hb2] at q2; exact fun ρ' H' σ' x h r => ⟨ρ', e3, s3, r, h, q2.ext x⟩
        | ct e3 s3 => rw [hb2] at q2; exact fun ρ' H' σ' x h r => ⟨ρ', e3, s3, r, h, q2.ext x⟩
        | bk e3 s3 => rw [hb2] at q2; exact q2
        | rt d s3 => rw [hb2] at q2; exact q2
        | no => rw [hb2] at q2; exact q2
  · cases h
theorem s_for (t : T) (it : Pv.I) {b : Ss} (hb : OkSs Z L fuel n b) : OkS Z L fuel n (.for_ t it b) := by
  intro X st G B h
  simp only [chkS] at h
  split at h
  · simp only [Bool.and_eq_true] at h
    obtain ⟨⟨⟨h1, h2⟩, h3⟩, h4⟩ := h
    refine (ps_for B.passes G.calm (okI Z L fuel n it X _ _ G h3) (pg_of G.nd G.calm (sto_def B.fn) h2) (hb X _ G B h4) (notSet_of h1)).via fun D σ H ⟨ρ, en, s, he, hs, q⟩ => ?_
    simp only [evS] at q
    split at q
    · rename_i j s1 e1
      refine ⟨ρ, en, s, j, s1, he, hs, e1, fun ρ1 H1 J x1 hs1 hJ => ?_⟩
      refine ⟨fun i m σ2 H2 => ∃ ρ2 en2 s2, Ext ρ1 H1 ρ2 H2 ∧ RepE X.K ρ2 H2 en2 σ2 ∧ RepS (Z.nam L) X.K ρ2 H2 s2 ∧ PostS (Z.nam L) X.K ρ2 H2 D (forR j t (fun e s => evSs (gOf Z fuel n) b e s) m i en2 s2), ⟨_, ρ1, en, s1, .refl, he.ext x1, hs1, q.ext x1⟩, ?_⟩
      rintro i m σ2 H2 ⟨ρ2, en2, s2, x2, he2, hs2, q2⟩
      cases m with
      | zero => exact q2.elim
      | succ m =>
        unfold forR at q2
        split at q2
        · exact q2.elim
        · rename_i ea
          exact .inl ⟨(hJ ρ2 H2 s2 i x2 hs2).1 ea, q2 ρ2 H2 σ2 .refl hs2 he2⟩
        · rename_i d ea
          obtain ⟨go, yl⟩ := (hJ ρ2 H2 s2 i x2 hs2).2 d ea
          split at q2
          · exact q2.elim
          · rename_i en3 ep
            refine .inr ⟨go, fun σ' H' => ∃ ρ2 en2 s2, Ext ρ1 H1 ρ2 H' ∧ RepE X.K ρ2 H' en2 σ' ∧ RepS (Z.nam L) X.K ρ2 H' s2 ∧ PostS (Z.nam L) X.K ρ2 H' D (forR j t (fun e s => evSs (gOf Z fuel n) b e s) m (i + 1) en2 s2), fun σ' H' w => ⟨m, Nat.lt_succ_self m, w⟩, fun x H' y => ?_⟩
            obtain ⟨x3, hs3, rx⟩ := yl x H' y
            refine ⟨ρ2, en2, d, en3, he2.ext x3, rx, ep, fun σ' he3 _ => ⟨ρ2, en3, s2, he3, hs3, ?_⟩⟩
            have q3 := q2.ext x3
            cases hb2 : evSs (gOf Z fuel n) b en3 s2 with
            | nx e3 s3 => rw [hb2] at q3; exact fun ρ' H' σ' x h r => ⟨ρ', e3, s3, (x2.trans x3).trans x, r, h, q3.ext x⟩
            | ct e3 s3 => rw [hb2] at q3; exact fun ρ' H' σ' x h r => ⟨ρ', e3, s3, (x2.trans x3).trans x, r, h, q3.ext x⟩
            | bk e3 s3 => rw [hb2] at q3; exact q3
            | rt d s3 => rw [hb2] at q3; exact q3
            | no => rw [hb2] at q3; exact q3
    · exact q.elim
  · cases h
theorem ss_nil : OkSs Z L fuel n .nil := by
  intro X st G B h
  cases st with
  | nil => exact pss_nil.via fun D σ H ⟨ρ, en, s, he, hs, q⟩ => q ρ H σ .refl hs he
  | cons _ _ => cases h
theorem ss_cons {a : Pv.S} {b : Ss} (ha : OkS Z L fuel n a) (hb : OkSs Z L fuel n b) : OkSs Z L fuel n (.cons a b) := by
  intro X st G B h
  cases st with
  | nil => cases h
  | cons x xs =>
    simp only [chkSs, Bool.and_eq_true] at h
    refine (pss_cons (ha X x G B h.1) (hb X xs G B h.2)).via fun D σ H ⟨ρ, en, s, he, hs, q⟩ => ⟨ρ, en, s, he, hs, ?_⟩
    simp only [evSs] at q
    cases hb2 : evS (gOf Z fuel n) a en s with
    | nx e3 s3 => rw [hb2] at q; exact fun ρ' H' σ' x h r => ⟨ρ', e3, s3, r, h, q.ext x⟩
    | ct e3 s3 => rw [hb2] at q; exact q
    | bk e3 s3 => rw [hb2] at q; exact q
    | rt d s3 => rw [hb2] at q; exact q
    | no => rw [hb2] at q; exact q
mutual
theorem okS (Z : Tabs) (L : Pla) (fuel n : Nat) : ∀ c : Pv.S, OkS Z L fuel n c
  | .asg t e => s_asg t e
  | .par i j a b => s_par i j a b
  | .par3 i j k a b c => s_par3 i j k a b c
  | .setF o k e => s_setF o k e
  | .setI o i e => s_setI o i e
  | .ex e => s_ex e
  | .ret e => s_ret e
  | .retN => s_retN
  | .ite c a b => s_ite c (okSs Z L fuel n a) (okSs Z L fuel n b)
  | .whl c b => s_whl c (okSs Z L fuel n b)
  | .for_ t it b => s_for t it (okSs Z L fuel n b)
  | .pass => s_pass
  | .brk => s_brk
  | .cnt => s_cnt
  | .never => s_never
theorem okSs (Z : Tabs) (L : Pla) (fuel n : Nat) : ∀ c : Ss, OkSs Z L fuel n c
  | .nil => ss_nil
  | .cons a b => ss_cons (okS Z L fuel n a) (okSs Z L fuel n b)
end
end
end Pv

end
section
set_option Elab.async false
set_option linter.all false
set_option maxRecDepth 100000
set_option maxHeartbeats 1000000
/-! Every def keeps its promise; the law. -/
namespace Pv
open PySem L2 PySem.Spec PyProof.Rows

/-- a look at each -/
def EachFrom {α : Type} (p : Nat → α → Prop) : Nat → List α → Prop
  | _, [] => True
  | i, x :: xs => p i x ∧ EachFrom p (i + 1) xs
theorem EachFrom.at {α : Type} {p : Nat → α → Prop} : ∀ {l : List α} {i : Nat}, EachFrom p i l → ∀ {j : Nat} {x : α}, l[j]? = some x → p (i + j) x
  | [], _, _, _, _, h => by simp at h
  | y :: ys, i, h, 0, x, e => by simp at e; subst e; exact h.1
  | y :: ys, i, h, j + 1, x, e => by
    have := EachFrom.at h.2 (j := j) (x := x) (by simpa using e)
    rwa [show i + 1 + j = i + (j + 1) by omega] at this
theorem EachFrom.of {α : Type} {p : Nat → α → Prop} {l : List α} (h : EachFrom p 0 l) {j : Nat} {x : α} (e : l[j]? = some x) : p j x := by
  have := h.at e
  rwa [Nat.zero_add] at this

theorem mem_of_look : ∀ {l : List (Nat × Nat)} {k f : Nat}, l.lookup k = some f → (k, f) ∈ l
  | [], _, _, h => by cases h
  | (a, b) :: l, k, f, h => by
    rw [List.lookup_cons] at h
    split at h
    · rename_i e
      cases h
      rw [eq_of_beq e]
      exact List.mem_cons_self ..
    · exact List.mem_cons_of_mem _ (mem_of_look h)
/-- what the text says of a def -/
structure Txt (Z : Tabs) (st : Stmt) (r : FnR) : Prop where
  sc : FnScope r.N r.ps (defScope st)
  ok : chkSs Z r.N r.body (defBody st) (defScope st) = true
  ar : r.ar ≤ r.N.length
/-- the scope, looked at -/
def scopeC (N P : List Str) (z : Scope) : Bool :=
  (z.kind == .function && !z.isCoroutine) && (!z.isGenerator && (N.eraseDups.length == N.length)) && (N.take P.length == P) && (P.all fun x => sto z x) && z.names.all fun y => y.2 != .free
theorem nodup_of {N : List Str} (h : (N.eraseDups.length == N.length) = true) : N.Nodup := by
  have key : ∀ (k : Nat) (l : List Str), l.length ≤ k → l.eraseDups.length ≤ l.length ∧ (l.eraseDups.length = l.length → l.Nodup) := by
    intro k
    induction k with
    | zero =>
      intro l hl
      cases l with
      | nil => simp
      | cons x xs => simp at hl
    | succ k ih =>
      intro l hl
      cases l with
      | nil => simp
      | cons x xs =>
        rw [List.eraseDups_cons, List.length_cons, List.length_cons]
        have hf := List.length_filter_le (fun b => !b == x) xs
        rw [List.length_cons] at hl
        obtain ⟨h1, h2⟩ := ih (xs.filter fun b => !b == x) (by omega)
        refine ⟨by omega, fun e => ?_⟩
        have el : (xs.filter fun b => !b == x).length = xs.length := by omega
        have ef := List.filter_eq_self.mpr (List.length_filter_eq_length_iff.mp el)
        have nx : x ∉ xs := fun hm => by
          have := List.length_filter_eq_length_iff.mp el x hm
          simp at this
        rw [ef] at h2
        exact List.nodup_cons.mpr ⟨nx, h2 (by rw [ef] at h1 e; omega)⟩
  exact (key _ N (Nat.le_refl _)).2 (eq_of_beq h)
theorem scope_of {N P : List Str} {z : Scope} (h : scopeC N P z = true) : FnScope N P z := by
  unfold scopeC at h
  simp only [Bool.and_eq_true, Bool.not_eq_true', List.all_eq_true, beq_iff_eq, bne_iff_ne, ne_eq] at h
  obtain ⟨⟨⟨⟨⟨h1, h2⟩, h3, h4⟩, h5⟩, h6⟩, h7⟩ := h
  exact ⟨h1, h2, h3, nodup_of (by rw [h4]; exact beq_self_eq_true _), h5, fun x hx => sto_of (h6 x hx), h7⟩
/-- all of it, to be looked at by the kernel -/
def txtC (Z : Tabs) (st : Stmt) (r : FnR) : Bool := scopeC r.N r.ps (defScope st) && chkSs Z r.N r.body (defBody st) (defScope st) && decide (r.ar ≤ r.N.length)
theorem txt_of {Z : Tabs} {st : Stmt} {r : FnR} (h : txtC Z st r = true) : Txt Z st r := by
  unfold txtC at h
  simp only [Bool.and_eq_true, decide_eq_true_eq] at h
  exact ⟨scope_of h.1.1, h.1.2, h.2⟩
/-- what stands behind the top -/
structure Has (Z : Tabs) (L : Pla) (K : PySem.W.Frag) (mg : Str → Option Value) (st : Nat → Stmt) : Prop where
  fac : Fac Z L K mg
  names : Z.nm.Nodup
  txt : ∀ (f : Nat) (r : FnR), Z.fns[f]? = some r → Txt Z (st f) r
  fn : ∀ (f : Nat) (r : FnR), Z.fns[f]? = some r → ∃ x qual, Fun K x qual (st f) (L.fa f) (L.fd f)

section
variable {Z : Tabs} {L : Pla} {K : PySem.W.Frag} {mg : Str → Option Value} {st : Nat → Stmt} {fuel : Nat}
theorem ps_len {r : FnR} (h : r.ar ≤ r.N.length) : r.ps.length = r.ar := by
  unfold FnR.ps
  rw [List.length_take]
  omega
theorem rep_start {ρ : List Addr} {H : Hp} {ds : List D} {vs : List V} {N : List Str} {ar : Nat} (r : RepL K ρ H ds vs) (h : vs.length = ar) (hN : ar ≤ N.length) : RepE K ρ H (ds.map some ++ List.replicate (N.length - ar) none) (L2.start N vs) := by
  have e : ds.length = vs.length := r.length
  refine ⟨by unfold L2.start; simp; omega, fun i d q => ?_⟩
  have hi : i < ds.length := by
    apply Classical.byContradiction
    intro z
    rw [List.getElem?_append_right (by rw [List.length_map]; omega)] at q
    have := (List.getElem?_eq_some_iff.mp q)
    obtain ⟨h1, h2⟩ := this
    rw [List.getElem_replicate] at h2
    cases h2
  rw [List.getElem?_append_left (by rw [List.length_map]; exact hi), List.getElem?_map] at q
  obtain ⟨d', h1, h2⟩ := Option.map_eq_some_iff.mp q
  cases h2
  obtain ⟨v, hv, rv⟩ := r.get h1
  refine ⟨v, ?_, rv⟩
  unfold L2.start
  rw [List.getElem?_append_left (by rw [List.length_map]; omega), List.getElem?_map, hv]
  rfl
theorem fns_ok (h : Has Z L K mg st) {P : Program} {w : World} {base : Heap} : ∀ (n f : Nat) (r : FnR), Z.fns[f]? = some r → FnG P w K mg base CX0 (2 * n) (L.fa f) (L.fd f) r.ps (spF (Z.nam L) K ((gOf Z fuel n).fn f) r.ar)
  | 0, f, r, hr => by
    have no : ∀ ds s d s', ((gOf Z fuel 0).fn f) ds s = .ok d s' → False := fun ds s d s' e => by
      have e' : (R.no : R D) = .ok d s' := e
      cases e'
    refine ⟨fun vs H Q E ⟨ρ, ds, s, d, s', h1, h2, h3, h4, h5⟩ => (no _ _ _ _ h4).elim, fun A outer s H as us vs Q E _ _ _ _ _ ⟨ρ, ds, s1, d, s', h1, h2, h3, h4, h5⟩ => (no _ _ _ _ h4).elim⟩
  | n + 1, f, r, hr => by
    obtain ⟨x, qual, F⟩ := h.fn f r hr
    have T := h.txt f r hr
    refine fnG_of (k := 2 * n + 1) F T.sc (fun vs H Q E ⟨ρ, ds, s, d, s', h1, _⟩ => h1.trans (ps_len T.ar).symm) fun cdv A outer s H vs Q E hroom gu hsp => ?_
    have GG : Good Z L fuel n (cxOf CX0 P w K mg base r.N qual (defScope (st f)) (L.fa f) cdv A outer s H E).nox := ⟨T.sc.nd, rfl, gu, h.names, hroom, h.fac, fun f' r' hr' => fns_ok h n f' r' hr'⟩
    refine ⟨_, ((okSs Z L fuel n r.body) _ (defBody (st f)) GG ⟨fun _ => rfl, rfl⟩ T.ok).nox, ?_⟩
    obtain ⟨ρ, ds, s0, d, s', h1, h2, h3, h4, h5⟩ := hsp
    refine ⟨ρ, _, s0, rep_start h2 h1 T.ar, h3, ?_⟩
    have h4' : fnN Z.fn Z.con Z.kl fuel (n + 1) f ds s0 = .ok d s' := h4
    unfold fnN at h4'
    have ef : Z.fn f = some r.fn := by unfold Tabs.fn; rw [hr]; rfl
    rw [ef] at h4'
    simp only at h4'
    rw [if_pos (show ds.length = r.fn.ar from h2.length.trans h1)] at h4'
    have eg : (⟨fnN Z.fn Z.con Z.kl fuel n, Z.con, Z.kl, fuel⟩ : G) = gOf Z fuel n := rfl
    rw [eg] at h4'
    have e2 : r.fn.nn - r.fn.ar = r.N.length - r.ar := rfl
    have e3 : r.fn.body = r.body := rfl
    rw [e2, e3] at h4'
    split at h4'
    · rename_i e1 s1 eq
      cases h4'
      rw [eq]
      exact fun ρ' H' σ' ex hs _ => h5 ρ' H' .non ex hs .non
    · rename_i d1 s1 eq
      cases h4'
      rw [eq]
      exact fun ρ' H' v ex hs rv => h5 ρ' H' v ex hs rv
    · cases h4'

/-! ### the script, the call of the law -/
theorem rol_of {H : Hp} {a : Addr} {ns : List Int} (hO : Only H) (h : SqL K H a (ns.map V.int)) : SqR K H a (ns.map V.int) := by
  rcases h with (h | ⟨o, h⟩) | h
  · rcases hO a with z | ⟨o, xs, z⟩
    · rw [h] at z; cases z
    · rw [h] at z; cases z
  · exact .inl ⟨o, h⟩
  · exact .inr fun _ => .inr h
theorem rep_ints {ρ : List Addr} {H : Hp} : ∀ ns : List Int, RepL K ρ H (ns.map D.int) (ns.map V.int)
  | [] => .nil
  | n :: ns => .cons (.int n) (rep_ints ns)

/-- a law's answer, in our own terms -/
def Answers (Z : Tabs) (fuel n lawf most : Nat) : Prop := ∀ ns : List Int, ns.length ≤ most → ∃ s, fnN Z.fn Z.con Z.kl fuel n lawf [.rol (ns.map D.int)] [] = .ok (.bl true) s

theorem law_sp {n lawf most : Nat} (h : Answers Z fuel n lawf most) {H : Hp} {a : Addr} {ns : List Int} (hl : ns.length ≤ most) (hO : Only H) (hS : SqL K H a (ns.map V.int)) :
    spF (Z.nam L) K ((gOf Z fuel n).fn lawf) 1 [.ref a] H (fun v _ => v = .bl true) fun _ _ _ => False := by
  obtain ⟨s, e⟩ := h ns hl
  refine ⟨[], [.rol (ns.map D.int)], [], .bl true, s, rfl, .cons (.rol (rol_of hO hS) (rep_ints ns)) .nil, ⟨rfl, List.nodup_nil, fun i c a h => by simp at h⟩, e, fun ρ' H' v _ _ r => ?_⟩
  cases r
  rfl

theorem law_goes {P : Program} {w : World} {mb : Str → Option Value} {k : Nat} {fa a : Addr} {fd : FuncData} {x : Str} {sp : Sp} {s₁ : Shared} {vs : List Value} {ns : List Int}
    (hK : K.In s₁.heap) (hg : s₁.heap.Ns mainGlobals mg) (hb : s₁.heap.Ns builtinsNs mb) (hbb : ∀ x : Str, x ≠ "__name__" → mb x = bootBuiltins x) (hm : s₁.heap.NoLimit) (gn : s₁.gens = #[])
    (ha : s₁.heap.get? a = some { cls := .type "list", data := .seq vs.toArray }) (hi : IntsAre vs ns) (hl : ns.length ≤ sizeLine) (hr : Room k callerA)
    (F : ∀ b : Heap, K.In b → b.Ns mainGlobals mg → FnG P w K mg b CX0 k fa fd [x] sp) (bd : Binds K fd [x] [])
    (hsp : ∀ H : Hp, Only H → SqL K H a (ns.map V.int) → sp [.ref a] H (fun v _ => v = .bl true) fun _ _ _ => False) :
    codeAny (model P w) callerA (.call (.ref fa) ⟨[.ref a], []⟩) (fun r s' => r = .ok (.ret (.bool true)) ∧ OldK s₁.heap s'.heap ∧ s'.os = s₁.os ∧ AllBare s'.gens) s₁ := by
  have rvs := vals_ints hi
  have go : ∀ H : Hp, Only H → SqL K H a (ns.map V.int) → HOk P w H s₁.heap → (∀ b u, H b = some u → b = a ∧ K.lookup a = none) →
      codeAny (model P w) callerA (.call (.ref fa) ⟨[.ref a], []⟩) (fun r s' => r = .ok (.ret (.bool true)) ∧ OldK s₁.heap s'.heap ∧ s'.os = s₁.os ∧ AllBare s'.gens) s₁ := by
    intro H hO hS hok only
    have free : ∀ {b : Addr} {o : Obj}, s₁.heap.get? b = some o → (∀ u, H b = some u → False) → (hidT s₁.heap H).get? b = some o := fun {b o} e n => hidT_get e (by
      cases q : H b with
      | none => rfl
      | some u => exact (n u q).elim)
    have nss : ∀ {b : Addr} {m : Str → Option Value}, s₁.heap.Ns b m → (hidT s₁.heap H).Ns b m := fun {b m} ⟨o, es, ep, e, d, r⟩ =>
      ⟨o, es, ep, free e (fun u q => by
        obtain ⟨rfl, _⟩ := only b u q
        rw [ha] at e
        cases e
        have d' : Data.seq vs.toArray _ = Data.dict es ep := d
        cases d'), d, r⟩
    have inK : K.In (hidT s₁.heap H) := fun b o e => free (hK b o e) fun u q => by
      obtain ⟨rfl, n⟩ := only b u q
      rw [n] at e
      cases e
    obtain ⟨mc, hc1, hc2⟩ := hm
    have e0 : Env0 P w K mg (hidT s₁.heap H) callerA [] s₁ H := ⟨rfl, ⟨inK, nss hg, ⟨mb, nss hb, hbb⟩, mc, nss hc1, hc2⟩, fun _ _ e => of_hidT e, Nat.le_of_eq (hidT_size _ _), trivial, fun b z => (List.not_mem_nil z).elim, hok, .of_eq gn⟩
    have bnd : BindsTo s₁ fd ⟨[.ref a], []⟩ ([x].zip [Value.ref a]) := by
      have z := bd s₁ [.ref a] hK rfl
      rwa [List.append_nil] at z
    refine codeAny_mono ((F _ inK (nss hg)).run callerA [] s₁ H ⟨[.ref a], []⟩ [.ref a] [.ref a] _ _ hr rfl e0 bnd (.cons rfl .nil) (hsp H hO hS)) fun r s' q => ?_
    match r, q with
    | .error _, q => exact (show False from q).elim
    | .ok .next, q => exact (show False from q).elim
    | .ok .brk, q => exact (show False from q).elim
    | .ok .cont, q => exact (show False from q).elim
    | .ok (.ret u), q =>
      obtain ⟨v, H', hos, hbare, un, ok', rv, (ev : v = .bl true)⟩ := q
      subst ev
      have eu : u = Value.bool true := rv
      subst eu
      refine ⟨rfl, OldK.of_keep fun b o e => ?_, hos, hbare⟩
      cases z : H b with
      | none => exact un.keep b o e z (fun m => (List.not_mem_nil m).elim) (by simp)
      | some u =>
        rcases hO b with y | ⟨ob, xs, y⟩
        · rw [z] at y
          cases y
        · have z1 := (hok b _ y).1
          have z2 := (ok' b _ (un.frzs b ob _ y)).1
          rw [e] at z1
          cases z1
          exact z2
  cases hk : K.lookup a with
  | some o =>
    have e := hK a o hk
    rw [ha] at e
    cases e
    exact go (fun _ => none) (fun _ => .inl rfl) (.inr ⟨_, vs.toArray, _, hk, rfl, rfl, rfl, by rw [List.size_toArray, hi.length]; exact hl, by simpa using rvs⟩) (fun b u z => by cases (show (none : Option HO) = some u from z)) fun b u z => by cases (show (none : Option HO) = some u from z)
  | none =>
    have at_a : ∀ b u, (if b = a then some (HO.frz { cls := .type "list", data := .seq vs.toArray } (.lst (ns.map V.int))) else none) = some u → b = a ∧ u = .frz { cls := .type "list", data := .seq vs.toArray } (.lst (ns.map V.int)) := fun b u z => by
      by_cases hb : b = a
      · rw [if_pos hb] at z
        exact ⟨hb, (Option.some.inj z).symm⟩
      · rw [if_neg hb] at z
        cases z
    refine go (fun b => if b = a then some (.frz { cls := .type "list", data := .seq vs.toArray } (.lst (ns.map V.int))) else none) (fun b => ?_) (.inl (.inr ⟨_, if_pos rfl⟩)) (fun b u z => ?_) fun b u z => ⟨(at_a b u z).1, hk⟩
    · by_cases hb : b = a
      · exact .inr ⟨_, _, if_pos hb⟩
      · exact .inl (if_neg hb)
    · obtain ⟨rfl, rfl⟩ := at_a b u z
      exact ⟨ha, by rw [List.length_map]; exact hl, vs, _, rvs, ha⟩
end

/-- the goal that the head leaves, from the facts and the answer -/
theorem walk {l : PySem.W.OpenLaw} {q : Program} {loose : List Str} {XP : (Str → Option Value) → Heap → Prop} {YP : World → Heap → Prop} {d : DefRec} {K : Params → PySem.W.Frag} {Z : Tabs} {st : Nat → Stmt} {fuel n lawf most : Nat} {lr : FnR}
    (hn : l.most = some most) (hn2 : most ≤ sizeLine) (hdf : d.params.defaults = []) (hr : Room (2 * n) callerA)
    (hY : ∀ (w : World) (h : Heap), YP w h → (K w.params).In h)
    (hl : Z.fns[lawf]? = some lr) (har : lr.ps = [("script" : Str)]) (ans : Answers Z fuel n lawf most) (har2 : lr.ar = 1)
    (F : ∀ (w : World) (mg : Str → Option Value) (fa : Addr) (h : Heap), (K w.params).In h → h.Ns mainGlobals mg → mg d.name = some (.ref fa) →
      ∃ L : Pla, L.fa lawf = fa ∧ Has Z L (K w.params) mg st) :
    PySem.W.WalkO q loose XP YP l.row.toRowW d [] (fun f vs => PySem.call f vs) := by
  refine Att.attach_call hn hdf fun w s₀ s₁ mg mb fa o pm cd doc a vs ns G Y ho hd hcd hmg hobj hints hlen hg => ?_
  have KX := hY w _ Y
  obtain ⟨L, rfl, hh⟩ := F w mg fa _ KX G.T.g hmg
  have bd := hh.fac.bind lawf lr hl
  rw [har] at bd
  refine law_goes KX G.T.g G.T.b G.T.builtins G.T.nolimit hg hobj hints (Nat.le_trans hlen hn2) hr (fun b _ _ => ?_) bd fun H hO hS => law_sp (L := L) (Z := Z) ans hlen hO hS
  have := fns_ok (fuel := fuel) hh (P := l.prog) (w := w) (base := b) n lawf lr hl
  rw [har, har2] at this
  exact this
end Pv

end
section
set_option Elab.async false
set_option linter.all false
set_option maxRecDepth 100000
set_option maxHeartbeats 1000000
/-! What a program of the small language comes to, read backwards. -/
namespace Pv
open PySem L2

/-- keeps a rewriter from going into what comes later -/
inductive Tag {α : Sort _} (x : α) : Type where
  | mk
def wp {α : Type} (r : R α) (Q : α → Sto → Prop) (_ : Tag Q := .mk) : Prop := match r with
  | .ok a s => Q a s
  | .no => False
theorem wp_ext {α : Type} {r : R α} {Q Q' : α → Sto → Prop} (h : ∀ a s, Q a s = Q' a s) : wp r Q = wp r Q' := by
  cases r with
  | ok a s => exact h a s
  | no => rfl
structure Po where
  nx : Slo → Sto → Prop
  rt : D → Sto → Prop := fun _ _ => False
  bk : Slo → Sto → Prop := fun _ _ => False
  ct : Slo → Sto → Prop := fun _ _ => False
def wf (r : Fl) (P : Po) (_ : Tag P := .mk) : Prop := match r with
  | .nx e s => P.nx e s
  | .rt d s => P.rt d s
  | .bk e s => P.bk e s
  | .ct e s => P.ct e s
  | .no => False

section
variable {α β : Type} {g : G} {env : Slo} {s : Sto} {Q : α → Sto → Prop} {P : Po}
theorem wp_ok (a : α) (s : Sto) : wp (.ok a s) Q = Q a s := id rfl
theorem wp_no : wp (.no : R α) Q = False := id rfl
theorem wp_bind (r : R β) (f : β → Sto → R α) : wp (R.bind r f) Q = wp r (fun a s => wp (f a s) Q) := by cases r <;> rfl
theorem wp_bx {r : R β} {f : β → Sto → R α} {Q' : β → Sto → Prop} (h : ∀ a s, wp (f a s) Q = Q' a s) : wp (R.bind r f) Q = wp r Q' := (wp_bind r f).trans (wp_ext h)
theorem wp_if {c : Prop} [Decidable c] (r : R α) : wp (if c then r else .no) Q = (c ∧ wp r Q) := by
  by_cases h : c
  · rw [if_pos h]; simp [h]
  · rw [if_neg h]; simp [h, wp]
theorem wp_mono {r : R α} {Q' : α → Sto → Prop} (h : wp r Q) (f : ∀ a s, Q a s → Q' a s) : wp r Q' := by
  cases r with
  | ok a s => exact f _ _ h
  | no => exact h
theorem wp_get {r : R α} (h : wp r Q) : ∃ a s, r = .ok a s ∧ Q a s := by
  cases r with
  | ok a s => exact ⟨a, s, rfl, h⟩
  | no => exact h.elim
theorem wp_tru (r : R D) (Q : Bool → Sto → Prop) : wp (truR r) Q = wp r fun d s => match tru s d with | some b => Q b s | none => False := by
  unfold truR
  rw [wp_bind]
  refine wp_ext fun d s => ?_
  cases tru s d <;> rfl
theorem wf_mono {r : Fl} {P P' : Po} (h : wf r P) (f1 : ∀ a s, P.nx a s → P'.nx a s) (f2 : ∀ a s, P.rt a s → P'.rt a s) (f3 : ∀ a s, P.bk a s → P'.bk a s) (f4 : ∀ a s, P.ct a s → P'.ct a s) : wf r P' := by
  cases r with
  | nx e s => exact f1 _ _ h
  | rt d s => exact f2 _ _ h
  | bk e s => exact f3 _ _ h
  | ct e s => exact f4 _ _ h
  | no => exact h

/-! ### statements -/
theorem wf_nil : wf (evSs g .nil env s) P = P.nx env s := id rfl
theorem wf_cons (a : S) (b : Ss) : wf (evSs g (.cons a b) env s) P = wf (evS g a env s) { P with nx := fun e s => wf (evSs g b e s) P } := by
  rw [evSs]
  cases evS g a env s <;> rfl
theorem wf_asg (t : T) (e : E) : wf (evS g (.asg t e) env s) P = wp (evE g e env s) fun d s1 => match t.put d env with | some e1 => P.nx e1 s1 | none => False := by
  rw [evS]
  cases evE g e env s with
  | no => rfl
  | ok d s1 => simp only [wp]; cases t.put d env <;> rfl
theorem wf_par (i j : Nat) (a b : E) : wf (evS g (.par i j a b) env s) P = wp (evE g a env s) fun x s1 => wp (evE g b env s1) fun y s2 => P.nx ((env.set i (some x)).set j (some y)) s2 := by
  rw [evS]
  cases evE g a env s with
  | no => rfl
  | ok d s1 => simp only [wp]; cases evE g b env s1 <;> rfl
theorem wf_par3 (i j k : Nat) (a b c : E) : wf (evS g (.par3 i j k a b c) env s) P = wp (evE g a env s) fun x s1 => wp (evE g b env s1) fun y s2 => wp (evE g c env s2) fun z s3 => P.nx (((env.set i (some x)).set j (some y)).set k (some z)) s3 := by
  rw [evS]
  cases evE g a env s with
  | no => rfl
  | ok d s1 =>
    simp only [wp]
    cases evE g b env s1 with
    | no => rfl
    | ok d s2 => simp only; cases evE g c env s2 <;> rfl
theorem wf_setF (o : E) (k : Nat) (e : E) : wf (evS g (.setF o k e) env s) P = wp (evE g e env s) fun d s1 => wp (evE g o env s1) fun x s2 => ∃ n c fs q, x = .ref n ∧ insAt s2 n = some (c, fs) ∧ g.cls c = some q ∧ (q.fields.contains k = true ∧ fs.length < 1000) ∧ P.nx env (s2.set n (.ins c (putD k d fs))) := by
  rw [evS]
  cases evE g e env s with
  | no => rfl
  | ok d s1 =>
    simp only [wp]
    cases evE g o env s1 with
    | no => rfl
    | ok x s2 =>
      simp only
      cases x with
      | ref n =>
        simp only [D.ref.injEq, exists_and_left, exists_eq_left']
        cases h : insAt s2 n with
        | none => simp [wf]
        | some p =>
          obtain ⟨c, fs⟩ := p
          simp only [Option.some.injEq, Prod.mk.injEq]
          cases h2 : g.cls c with
          | none => simp only [wf]; simp [h2]
          | some q =>
            simp only
            by_cases hc : q.fields.contains k = true ∧ fs.length < 1000
            · rw [if_pos hc]; simp only [wf, eq_iff_iff]
              refine ⟨fun w => ⟨c, fs, ⟨rfl, rfl⟩, q, h2, hc, w⟩, ?_⟩
              rintro ⟨c', fs', ⟨rfl, rfl⟩, q', h2', hc', w⟩
              exact w
            · rw [if_neg hc]; simp only [wf, eq_iff_iff, false_iff]
              rintro ⟨c', fs', ⟨rfl, rfl⟩, q', h2', hc', w⟩
              rw [h2] at h2'; cases h2'
              exact hc hc'
      | _ => simp [wf]
theorem wf_setI (o i e : E) : wf (evS g (.setI o i e) env s) P = wp (evE g e env s) fun d s1 => wp (evE g o env s1) fun x s2 => wp (evE g i env s2) fun k s3 => ∃ n m ds j, x = .ref n ∧ k = .int m ∧ lstAt s3 n = some ds ∧ ixN ds.length m = some j ∧ P.nx env (s3.set n (.lst (ds.set j d))) := by
  rw [evS]
  cases evE g e env s with
  | no => rfl
  | ok d s1 =>
    simp only [wp]
    cases evE g o env s1 with
    | no => rfl
    | ok x s2 =>
      simp only
      cases evE g i env s2 with
      | no => rfl
      | ok k s3 =>
        simp only
        cases x with
        | ref n =>
          cases k with
          | int m =>
            simp only [D.ref.injEq, D.int.injEq, exists_and_left, exists_eq_left']
            cases h : lstAt s3 n with
            | none => simp [wf]
            | some ds =>
              simp only [Option.some.injEq, exists_eq_left']
              cases h2 : ixN ds.length m with
              | none => simp [wf]
              | some j => simp [wf]
          | _ => simp [wf]
        | _ => simp [wf]
theorem wf_ex (e : E) : wf (evS g (.ex e) env s) P = wp (evE g e env s) fun _ s1 => P.nx env s1 := by
  rw [evS]
  cases evE g e env s <;> rfl
theorem wf_ret (e : E) : wf (evS g (.ret e) env s) P = wp (evE g e env s) P.rt := by
  rw [evS]
  cases evE g e env s <;> rfl
theorem wf_retN : wf (evS g .retN env s) P = P.rt .non s := id rfl
theorem wf_pass : wf (evS g .pass env s) P = P.nx env s := id rfl
theorem wf_brk : wf (evS g .brk env s) P = P.bk env s := id rfl
theorem wf_cnt : wf (evS g .cnt env s) P = P.ct env s := id rfl
theorem wf_ite (c : E) (a b : Ss) : wf (evS g (.ite c a b) env s) P = wp (truR (evE g c env s)) fun k s1 => (k = true → wf (evSs g a env s1) P) ∧ (k = false → wf (evSs g b env s1) P) := by
  rw [evS]
  cases truR (evE g c env s) with
  | no => rfl
  | ok k s1 => cases k <;> simp [wp]
theorem wf_for (t : T) (it : I) (b : Ss) : wf (evS g (.for_ t it b) env s) P = wp (evI g it env s) fun j s1 => wf (forR j t (fun e s => evSs g b e s) g.fuel 0 env s1) P := by
  rw [evS]
  cases evI g it env s <;> rfl
/-- a while loop: what holds before each test, and a bound that falls -/
theorem wf_whl {c : E} {b : Ss} (I : Nat → Slo → Sto → Prop) {m : Nat} (hm : m < g.fuel) (h0 : I m env s)
    (h : ∀ m e s, I m e s → wp (truR (evE g c e s)) fun k s1 => (k = false → P.nx e s1) ∧ (k = true → wf (evSs g b e s1) { nx := fun e s => ∃ j, j < m ∧ I j e s, ct := fun e s => ∃ j, j < m ∧ I j e s, bk := P.nx, rt := P.rt })) :
    wf (evS g (.whl c b) env s) P := by
  rw [evS]
  have go : ∀ (f m : Nat) (env : Slo) (s : Sto), m < f → I m env s → wf (whlR (fun e s => truR (evE g c e s)) (fun e s => evSs g b e s) f env s) P := by
    intro f
    induction f with
    | zero => intro m env s hm; omega
    | succ f ih =>
      intro m env s hm hi
      have w := h m env s hi
      rw [whlR]
      cases hc : truR (evE g c env s) with
      | no => rw [hc] at w; exact w
      | ok k s1 =>
        rw [hc] at w
        cases k with
        | false => exact w.1 rfl
        | true =>
          have w2 := w.2 rfl
          simp only
          cases hb : evSs g b env s1 with
          | nx e2 s2 => rw [hb] at w2; obtain ⟨j, hj, hi2⟩ := w2; exact ih j e2 s2 (by omega) hi2
          | ct e2 s2 => rw [hb] at w2; obtain ⟨j, hj, hi2⟩ := w2; exact ih j e2 s2 (by omega) hi2
          | bk e2 s2 => rw [hb] at w2; exact w2
          | rt d s2 => rw [hb] at w2; exact w2
          | no => rw [hb] at w2; exact w2
  exact go g.fuel m env s hm h0
/-- a walk over what is known from the start -/
theorem wf_fix {t : T} {b : Slo → Sto → Fl} {ds : List D} {f : Nat} (I : Nat → Slo → Sto → Prop) (hf : ds.length < f) (h0 : I 0 env s)
    (h : ∀ i d e s, ds[i]? = some d → I i e s → ∃ e1, t.put d e = some e1 ∧ wf (b e1 s) { nx := I (i + 1), ct := I (i + 1), bk := P.nx, rt := P.rt }) (hx : ∀ e s, I ds.length e s → P.nx e s) :
    wf (forR (.fix ds) t b f 0 env s) P := by
  have go : ∀ (f i : Nat) (env : Slo) (s : Sto), ds.length < f + i → i ≤ ds.length → I i env s → wf (forR (.fix ds) t b f i env s) P := by
    intro f
    induction f with
    | zero => intro i env s h1 h2; omega
    | succ f ih =>
      intro i env s h1 h2 hi
      rw [forR]
      simp only [It.at]
      cases hd : ds[i]? with
      | none =>
        have : i = ds.length := by have := List.getElem?_eq_none_iff.mp hd; omega
        subst this
        exact hx _ _ hi
      | some d =>
        have hl := (List.getElem?_eq_some_iff.mp hd).1
        obtain ⟨e1, he, w⟩ := h i d env s hd hi
        simp only [he]
        cases hb : b e1 s with
        | nx e2 s2 => rw [hb] at w; exact ih (i + 1) e2 s2 (by omega) hl w
        | ct e2 s2 => rw [hb] at w; exact ih (i + 1) e2 s2 (by omega) hl w
        | bk e2 s2 => rw [hb] at w; exact w
        | rt d s2 => rw [hb] at w; exact w
        | no => rw [hb] at w; exact w
  exact go f 0 env s (by omega) (Nat.zero_le _) h0
/-- a walk over a list of the store that stays as it is -/
theorem wf_lst {t : T} {b : Slo → Sto → Fl} {k : Nat} {ds : List D} {f : Nat} (I : Nat → Slo → Sto → Prop) (hf : ds.length < f) (h0 : I 0 env s)
    (hl : ∀ i e s, I i e s → lstAt s k = some ds)
    (h : ∀ i d e s, ds[i]? = some d → I i e s → ∃ e1, t.put d e = some e1 ∧ wf (b e1 s) { nx := I (i + 1), ct := I (i + 1), bk := P.nx, rt := P.rt }) (hx : ∀ e s, I ds.length e s → P.nx e s) :
    wf (forR (.lst k) t b f 0 env s) P := by
  have go : ∀ (f i : Nat) (env : Slo) (s : Sto), ds.length < f + i → i ≤ ds.length → I i env s → wf (forR (.lst k) t b f i env s) P := by
    intro f
    induction f with
    | zero => intro i env s h1 h2; omega
    | succ f ih =>
      intro i env s h1 h2 hi
      rw [forR]
      simp only [It.at, hl _ _ _ hi]
      cases hd : ds[i]? with
      | none =>
        have : i = ds.length := by have := List.getElem?_eq_none_iff.mp hd; omega
        subst this
        exact hx _ _ hi
      | some d =>
        have hl := (List.getElem?_eq_some_iff.mp hd).1
        obtain ⟨e1, he, w⟩ := h i d env s hd hi
        simp only [he]
        cases hb : b e1 s with
        | nx e2 s2 => rw [hb] at w; exact ih (i + 1) e2 s2 (by omega) hl w
        | ct e2 s2 => rw [hb] at w; exact ih (i + 1) e2 s2 (by omega) hl w
        | bk e2 s2 => rw [hb] at w; exact w
        | rt d s2 => rw [hb] at w; exact w
        | no => rw [hb] at w; exact w
  exact go f 0 env s (by omega) (Nat.zero_le _) h0
/-- a comprehension: what has been gathered of the first i -/
theorem wp_comp {t : T} {cond : Slo → Sto → R Bool} {elt : Slo → Sto → R D} {ds : List D} {j : It} {f : Nat} {Q : List D → Sto → Prop} (I : Nat → List D → Sto → Prop) (hf : ds.length < f) (h0 : I 0 [] s)
    (hj : ∀ i acc s, I i acc s → j.at s i = some ds[i]?) (hz : ds.length ≤ sizeLine) (hi : ∀ i acc s, I i acc s → acc.length ≤ i)
    (h : ∀ i d acc s, ds[i]? = some d → I i acc s → ∃ e1, t.put d env = some e1 ∧ wp (cond e1 s) fun b s1 => (b = true → wp (elt e1 s1) fun v s2 => I (i + 1) (acc ++ [v]) s2) ∧ (b = false → I (i + 1) acc s1)) (hx : ∀ acc s, I ds.length acc s → Q acc s) :
    wp (compR j t env cond elt f 0 [] s) Q := by
  have go : ∀ (f i : Nat) (acc : List D) (s : Sto), ds.length < f + i → i ≤ ds.length → I i acc s → wp (compR j t env cond elt f i acc s) Q := by
    intro f
    induction f with
    | zero => intro i acc s h1 h2; omega
    | succ f ih =>
      intro i acc s h1 h2 w
      rw [compR, hj _ _ _ w]
      cases hd : ds[i]? with
      | none =>
        have : i = ds.length := by have := List.getElem?_eq_none_iff.mp hd; omega
        subst this
        exact hx _ _ w
      | some d =>
        have hl := (List.getElem?_eq_some_iff.mp hd).1
        obtain ⟨e1, he, w2⟩ := h i d acc s hd w
        simp only [he, wp_bind]
        refine wp_mono w2 fun b s1 ⟨y, n⟩ => ?_
        cases b with
        | true =>
          simp only [wp_bind]
          refine wp_mono (y rfl) fun v s2 w3 => ?_
          rw [wp_if]
          have := hi _ _ _ w
          exact ⟨by omega, ih _ _ _ (by omega) hl w3⟩
        | false => exact ih _ _ _ (by omega) hl (n rfl)
  exact go f 0 [] s (by omega) (Nat.zero_le _) h0
end

/-! ### calls -/
/-- a def's call -/
@[irreducible] def call (Z : Tabs) (fuel n f : Nat) (xs : List D) (s : Sto) : R D := (gOf Z fuel n).fn f xs s
section
variable {Z : Tabs} {fuel n f : Nat} {xs : List D} {s : Sto} {Q : D → Sto → Prop} {r : FnR}
theorem wp_call (hf : Z.fns[f]? = some r) (hx : xs.length = r.ar) (h : wf (evSs (gOf Z fuel n) r.body (xs.map some ++ List.replicate (r.N.length - r.ar) none) s) { nx := fun _ s => Q .non s, rt := Q }) :
    wp (call Z fuel (n + 1) f xs s) Q := by
  unfold call
  show wp (fnN Z.fn Z.con Z.kl fuel (n + 1) f xs s) Q
  rw [fnN]
  have ef : Z.fn f = some r.fn := by unfold Tabs.fn; rw [hf]; rfl
  rw [ef]
  simp only
  rw [if_pos (show xs.length = r.fn.ar from hx)]
  have h' : wf (evSs ⟨fnN Z.fn Z.con Z.kl fuel n, Z.con, Z.kl, fuel⟩ r.fn.body (List.map some xs ++ List.replicate (r.fn.nn - r.fn.ar) none) s) { nx := fun _ s => Q .non s, rt := Q } := h
  cases hb : evSs ⟨fnN Z.fn Z.con Z.kl fuel n, Z.con, Z.kl, fuel⟩ r.fn.body (List.map some xs ++ List.replicate (r.fn.nn - r.fn.ar) none) s with
  | nx e s1 => rw [hb] at h'; exact h'
  | rt d s1 => rw [hb] at h'; exact h'
  | bk e s1 => rw [hb] at h'; exact h'.elim
  | ct e s1 => rw [hb] at h'; exact h'.elim
  | no => rw [hb] at h'; exact h'.elim
end

/-! ### stores -/
/-- all stays but the cell at p -/
def Kp (p : Nat) (s s' : Sto) : Prop := s.length ≤ s'.length ∧ ∀ i c, i ≠ p → s[i]? = some c → s'[i]? = some c
/-- all stays -/
def Gr (s s' : Sto) : Prop := ∀ (i : Nat) (c : Cell), s[i]? = some c → s'[i]? = some c
section
variable {s s1 s2 : Sto} {p : Nat}
theorem Gr.refl : Gr s s := fun _ _ h => h
theorem Gr.trans (a : Gr s s1) (b : Gr s1 s2) : Gr s s2 := fun i c h => b i c (a i c h)
theorem Gr.len (a : Gr s s1) : s.length ≤ s1.length := by
  apply Classical.byContradiction
  intro h
  have hl : s1.length < s.length := by omega
  have := a s1.length _ (List.getElem?_eq_getElem hl)
  have := (List.getElem?_eq_some_iff.mp this).1
  omega
theorem Gr.app (m : Sto) : Gr s (s ++ m) := fun i c h => by rw [List.getElem?_append_left (List.getElem?_eq_some_iff.mp h).1]; exact h
theorem Gr.set (a : Gr s s1) {k : Nat} {c : Cell} (h : s.length ≤ k) : Gr s (s1.set k c) := fun i d e => by
  have hi := (List.getElem?_eq_some_iff.mp e).1
  rw [List.getElem?_set_ne (by omega)]
  exact a i d e
theorem Gr.kp (a : Gr s s1) : Kp p s s1 := ⟨a.len, fun i c _ h => a i c h⟩
theorem Kp.refl : Kp p s s := ⟨Nat.le_refl _, fun _ _ _ h => h⟩
theorem Kp.trans (a : Kp p s s1) (b : Kp p s1 s2) : Kp p s s2 := ⟨Nat.le_trans a.1 b.1, fun i c n h => b.2 i c n (a.2 i c n h)⟩
theorem Kp.set (a : Kp p s s1) {c : Cell} : Kp p s (s1.set p c) := ⟨by rw [List.length_set]; exact a.1, fun i d n h => by rw [List.getElem?_set_ne (Ne.symm n)]; exact a.2 i d n h⟩
theorem Kp.gr (a : Kp p s s1) (b : Gr s1 s2) : Kp p s s2 := a.trans b.kp
theorem Kp.setN (a : Kp p s s1) {k : Nat} {c : Cell} (h : s.length ≤ k) : Kp p s (s1.set k c) := ⟨by rw [List.length_set]; exact a.1, fun i d n e => by
  have hi := (List.getElem?_eq_some_iff.mp e).1
  rw [List.getElem?_set_ne (by omega)]
  exact a.2 i d n e⟩
/-- what is above s stays free: the changes of a walk over a new pot -/
theorem lst_of {ds : List D} (h : s[p]? = some (.lst ds)) : lstAt s p = some ds := by unfold lstAt; rw [h]
theorem of_lst {ds : List D} (h : lstAt s p = some ds) : s[p]? = some (.lst ds) := by
  unfold lstAt at h
  split at h
  · rename_i e; cases h; exact e
  · cases h
theorem ins_of {c : Nat} {fs : List (Nat × D)} (h : s[p]? = some (.ins c fs)) : insAt s p = some (c, fs) := by unfold insAt; rw [h]
theorem of_ins {c : Nat} {fs : List (Nat × D)} (h : insAt s p = some (c, fs)) : s[p]? = some (.ins c fs) := by
  unfold insAt at h
  split at h
  · rename_i e; cases h; exact e
  · cases h
theorem lst_new {ds : List D} : lstAt (s ++ [.lst ds]) s.length = some ds := lst_of (by simp)
theorem lst_set {ds : List D} {c : Cell} (h : s[p]? = some c) : lstAt (s.set p (.lst ds)) p = some ds := lst_of (by rw [List.getElem?_set_self (List.getElem?_eq_some_iff.mp h).1])
theorem Gr.lst (a : Gr s s1) {ds : List D} (h : lstAt s p = some ds) : lstAt s1 p = some ds := lst_of (a _ _ (of_lst h))
theorem Gr.ins (a : Gr s s1) {q : Nat × List (Nat × D)} (h : insAt s p = some q) : insAt s1 p = some q := ins_of (a _ _ (of_ins h))
theorem Kp.lst (a : Kp p s s1) {k : Nat} {ds : List D} (n : k ≠ p) (h : lstAt s k = some ds) : lstAt s1 k = some ds := lst_of (a.2 _ _ n (of_lst h))
theorem Kp.ins (a : Kp p s s1) {k : Nat} {q : Nat × List (Nat × D)} (n : k ≠ p) (h : insAt s k = some q) : insAt s1 k = some q := ins_of (a.2 _ _ n (of_ins h))
end
end Pv

end
section
set_option Elab.async false
set_option linter.all false
set_option maxRecDepth 100000
set_option maxHeartbeats 1000000
/-! The words of the small language, read backwards, one rule each. -/
namespace Pv
open PySem L2

/-- one of two, by a bool -/
def brB (k : Bool) (p q : Prop) (_ : Tag (p, q) := .mk) : Prop := (k = true → p) ∧ (k = false → q)
theorem brB_t {p q : Prop} : brB true p q = p := by simp [brB]
theorem brB_f {p q : Prop} : brB false p q = q := by simp [brB]
theorem brB_d {c : Prop} [Decidable c] {p q : Prop} : brB (decide c) p q = ((c → p) ∧ (¬ c → q)) := by simp [brB]
theorem brB_n {k : Bool} {p q : Prop} : brB (!k) p q = brB k q p := by cases k <;> simp [brB]
theorem brB_and {k j : Bool} {p q : Prop} : brB (k && j) p q = brB k (brB j p q) q := by cases k <;> cases j <;> simp [brB]
theorem brB_or {k j : Bool} {p q : Prop} : brB (k || j) p q = brB k p (brB j p q) := by cases k <;> cases j <;> simp [brB]
/-- one of two, by a value that must be a bool -/
def swB (x : D) (p q : Prop) (_ : Tag (p, q) := .mk) : Prop := match x with
  | .bl k => brB k p q
  | _ => False
theorem swB_bl {k : Bool} {p q : Prop} : swB (.bl k) p q = brB k p q := id rfl
/-- by a value's truth -/
def swT (x : Option Bool) (p q : Prop) (_ : Tag (p, q) := .mk) : Prop := match x with
  | some k => brB k p q
  | none => False
theorem swT_s {k : Bool} {p q : Prop} : swT (some k) p q = brB k p q := id rfl
/-- a slot -/
def onS (x : Option (Option D)) (p : D → Prop) (_ : Tag p := .mk) : Prop := match x with
  | some (some d) => p d
  | _ => False
theorem onS_s {d : D} {p : D → Prop} : onS (some (some d)) p = p d := id rfl
/-- where something is there -/
def onO {α : Type} (x : Option α) (p : α → Prop) (_ : Tag p := .mk) : Prop := match x with
  | some d => p d
  | none => False
theorem onO_s {α : Type} {d : α} {p : α → Prop} : onO (some d) p = p d := id rfl
theorem onO_of {α : Type} {x : Option α} {d : α} {p : α → Prop} (h : x = some d) (q : p d) : onO x p := by rw [h]; exact q
/-- an int -/
def onI (x : D) (p : Int → Prop) (_ : Tag p := .mk) : Prop := match x with
  | .int i => p i
  | _ => False
theorem onI_i {i : Int} {p : Int → Prop} : onI (.int i) p = p i := id rfl
def onR (x : D) (p : Nat → Prop) (_ : Tag p := .mk) : Prop := match x with
  | .ref i => p i
  | _ => False
theorem onR_r {i : Nat} {p : Nat → Prop} : onR (.ref i) p = p i := id rfl

section
variable {g : G} {env : Slo} {s : Sto} {Q : D → Sto → Prop} {P : Po}
theorem wp_var (i : Nat) : wp (evE g (.var i) env s) Q = onS env[i]? fun d => Q d s := by
  rw [evE]
  rcases env[i]? with _ | _ | d <;> rfl
theorem wp_lit (d : D) : wp (evE g (.lit d) env s) Q = Q d s := id rfl
theorem wp_glob (k : Nat) : wp (evE g (.glob k) env s) Q = onO (g.con k) fun d => Q d s := by
  rw [evE]
  cases g.con k <;> rfl
theorem wp_bin (o : Bop) (a b : E) : wp (evE g (.bin o a b) env s) Q = wp (evE g a env s) fun x s1 => wp (evE g b env s1) fun y s2 => wp (binD o x y s2) Q := by
  rw [evE]
  exact wp_bx fun x s1 => wp_bx fun y s2 => rfl
theorem wp_neg (a : E) : wp (evE g (.neg a) env s) Q = wp (evE g a env s) fun x s1 => onI x fun i => Q (.int (-i)) s1 := by
  rw [evE, wp_bind]
  refine wp_ext fun x s1 => ?_
  cases x <;> rfl
theorem wp_cmp (o : Cop) (a b : E) : wp (evE g (.cmp o a b) env s) Q = wp (evE g a env s) fun x s1 => wp (evE g b env s1) fun y s2 => wp (cmpD g o x y s2) fun k s3 => Q (.bl k) s3 := by
  rw [evE]
  exact wp_bx fun x s1 => wp_bx fun y s2 => wp_bx fun k s3 => rfl
theorem wp_chain (o p : Cop) (a b c : E) : wp (evE g (.chain o p a b c) env s) Q = wp (evE g a env s) fun x s1 => wp (evE g b env s1) fun y s2 => wp (cmpD g o x y s2) fun k s3 =>
    brB k (wp (evE g c env s3) fun z s4 => wp (cmpD g p y z s4) fun k2 s5 => Q (.bl k2) s5) (Q (.bl false) s3) := by
  rw [evE]
  refine wp_bx fun x s1 => wp_bx fun y s2 => wp_bx fun k s3 => ?_
  cases k
  · rw [brB_f]; rfl
  · rw [brB_t]
    exact wp_bx fun z s4 => wp_bx fun k s5 => rfl
theorem wp_not (a : E) : wp (evE g (.not_ a) env s) Q = wp (evE g a env s) fun x s1 => onO (tru s1 x) fun k => Q (.bl (!k)) s1 := by
  rw [evE, wp_bind, wp_tru]
  refine wp_ext fun x s1 => ?_
  cases tru s1 x <;> rfl
theorem wp_and (a b : E) : wp (evE g (.and_ a b) env s) Q = wp (evE g a env s) fun x s1 => swB x (wp (evE g b env s1) Q) (Q (.bl false) s1) := by
  rw [evE, wp_bind]
  refine wp_ext fun x s1 => ?_
  cases x with
  | bl k => cases k <;> simp [swB, brB, wp_ok]
  | _ => rfl
theorem wp_or (a b : E) : wp (evE g (.or_ a b) env s) Q = wp (evE g a env s) fun x s1 => swB x (Q (.bl true) s1) (wp (evE g b env s1) Q) := by
  rw [evE, wp_bind]
  refine wp_ext fun x s1 => ?_
  cases x with
  | bl k => cases k <;> simp [swB, brB, wp_ok]
  | _ => rfl
theorem wp_ite (c a b : E) : wp (evE g (.ite c a b) env s) Q = wp (evE g c env s) fun x s1 => swT (tru s1 x) (wp (evE g a env s1) Q) (wp (evE g b env s1) Q) := by
  rw [evE, wp_bind, wp_tru]
  refine wp_ext fun x s1 => ?_
  cases tru s1 x with
  | none => rfl
  | some k => cases k <;> simp [swT, brB]
theorem wp_tup (es : Es) : wp (evE g (.tup es) env s) Q = wp (evEs g es env s) fun xs s1 => xs.length ≤ sizeLine ∧ Q (.tup xs) s1 := by
  rw [evE, wp_bind]
  refine wp_ext fun xs s1 => ?_
  rw [wp_if, wp_ok]
theorem wp_new (l : L) : wp (evE g (.new l) env s) Q = wp (evL g l env s) fun ds s1 => Q (.ref s1.length) (s1 ++ [.lst ds]) := by
  rw [evE, wp_bind]; rfl
theorem wp_bi (b : Bi) (es : Es) : wp (evE g (.bi b es) env s) Q = wp (evEs g es env s) fun xs s1 => wp (biD b xs s1) Q := by rw [evE, wp_bind]
theorem wp_fold (b : Fb) (l : L) : wp (evE g (.fold b l) env s) Q = wp (evL g l env s) fun ds s1 => wp (foldD b ds s1) Q := by rw [evE, wp_bind]
theorem wp_foldv (b : Fb) (e : E) : wp (evE g (.foldv b e) env s) Q = wp (evE g e env s) fun x s1 => onO (itemsOf s1 x) fun ds => tupOk b x = true ∧ wp (foldD b ds s1) Q := by
  rw [evE, wp_bind]
  refine wp_ext fun x s1 => ?_
  cases itemsOf s1 x with
  | none => rfl
  | some ds => simp only [wp_if, onO]
theorem wp_append (o e : E) : wp (evE g (.bm .append o e) env s) Q = wp (evE g o env s) fun x s1 => onR x fun n => onO (lstAt s1 n) fun _ => wp (evE g e env s1) fun y s2 => onO (lstAt s2 n) fun ds => ds.length < sizeLine ∧ Q .non (s2.set n (.lst (ds ++ [y]))) := by
  rw [evE, wp_bind]
  refine wp_ext fun x s1 => ?_
  cases x with
  | ref n =>
    show wp (match lstAt s1 n with | _ => _) Q = onO (lstAt s1 n) _
    cases lstAt s1 n with
    | none => rfl
    | some u =>
      simp only [onO, wp_bind]
      refine wp_ext fun y s2 => ?_
      cases lstAt s2 n with
      | none => rfl
      | some ds => simp only [wp_if, wp_ok]
  | _ => rfl
theorem wp_extend (o e : E) : wp (evE g (.bm .extend o e) env s) Q = wp (evE g o env s) fun x s1 => onR x fun n => onO (lstAt s1 n) fun _ => wp (evE g e env s1) fun y s2 => onO (lstAt s2 n) fun ds => onR y fun k => onO (lstAt s2 k) fun es => ds.length + es.length ≤ sizeLine ∧ Q .non (s2.set n (.lst (ds ++ es))) := by
  rw [evE, wp_bind]
  refine wp_ext fun x s1 => ?_
  cases x with
  | ref n =>
    show wp (match lstAt s1 n with | _ => _) Q = onO (lstAt s1 n) _
    cases lstAt s1 n with
    | none => rfl
    | some u =>
      simp only [onO, wp_bind]
      refine wp_ext fun y s2 => ?_
      cases lstAt s2 n with
      | none => rfl
      | some ds =>
        cases y with
        | ref k =>
          simp only [onR]
          cases lstAt s2 k with
          | none => rfl
          | some es => simp only [wp_if, wp_ok, onO]
        | _ => rfl
  | _ => rfl
theorem wp_ix (a i : E) : wp (evE g (.ix a i) env s) Q = wp (evE g a env s) fun x s1 => wp (evE g i env s1) fun k s2 => onI k fun k => onO (itemsOf s2 x) fun ds => onO (atI ds k) fun d => Q d s2 := by
  rw [evE]
  refine wp_bx fun x s1 => wp_bx fun k s2 => ?_
  cases k with
  | int k =>
    simp only [ixD, onI]
    cases itemsOf s2 x with
    | none => rfl
    | some ds =>
      simp only [onO]
      cases atI ds k <;> rfl
  | _ => rfl
theorem wp_sl (a lo hi : E) : wp (evE g (.sl a lo hi) env s) Q = wp (evE g a env s) fun x s1 => wp (evE g lo env s1) fun l s2 => wp (evE g hi env s2) fun h s3 => onO (bnd lo l) fun ol => onO (bnd hi h) fun oh => wp (slD x ol oh s3) Q := by
  rw [evE]
  refine wp_bx fun x s1 => wp_bx fun l s2 => wp_bx fun h s3 => ?_
  cases bnd lo l with
  | none => rfl
  | some a =>
    simp only [onO]
    cases bnd hi h <;> rfl
theorem wp_enil {Q : List D → Sto → Prop} : wp (evEs g .nil env s) Q = Q [] s := id rfl
theorem wp_econs {Q : List D → Sto → Prop} (e : E) (es : Es) : wp (evEs g (.cons e es) env s) Q = wp (evE g e env s) fun x s1 => wp (evEs g es env s1) fun xs s2 => Q (x :: xs) s2 := by
  rw [evEs]
  exact wp_bx fun x s1 => wp_bx fun y s2 => rfl
theorem wp_disp {Q : List D → Sto → Prop} (es : Es) : wp (evL g (.disp es) env s) Q = wp (evEs g es env s) fun xs s1 => xs.length ≤ sizeLine ∧ Q xs s1 := by
  rw [evL]
  exact wp_bx fun xs s1 => wp_if _
theorem wp_lrange {Q : List D → Sto → Prop} (es : Es) : wp (evL g (.range es) env s) Q = wp (evEs g es env s) fun xs s1 => onO (rangeD xs) fun ds => ds.length ≤ sizeLine ∧ Q ds s1 := by
  rw [evL, wp_bind]
  refine wp_ext fun xs s1 => ?_
  cases rangeD xs with
  | none => rfl
  | some ds => simp only [wp_if, wp_ok, onO]
theorem wp_lcomp {Q : List D → Sto → Prop} (own : List Nat) (elt : E) (t : T) (it : I) (cond : Es) : wp (evL g (.comp own elt t it cond) env s) Q = wp (evI g it env s) fun j s1 => wp (compR j t (wipeE env own) (fun e1 s => evC g cond e1 s) (fun e1 s => evE g elt e1 s) g.fuel 0 [] s1) Q := by
  rw [evL, wp_bind]
theorem wp_cnil {Q : Bool → Sto → Prop} : wp (evC g .nil env s) Q = Q true s := id rfl
theorem wp_ccons {Q : Bool → Sto → Prop} (c : E) (es : Es) : wp (evC g (.cons c es) env s) Q = wp (evE g c env s) fun x s1 => onO (tru s1 x) fun k => Q k s1 := by
  rw [evC, wp_tru]
  refine wp_ext fun x s1 => ?_
  cases tru s1 x <;> rfl
/-- what a walk goes over -/
def walkP (x : D) (s : Sto) (Q : It → Sto → Prop) (_ : Tag Q := .mk) : Prop := match x with
  | .tup ds => Q (.fix ds) s
  | .rol ds => Q (.fix ds) s
  | .ref n => onO (lstAt s n) fun _ => Q (.lst n) s
  | _ => False
theorem wp_seq {Q : It → Sto → Prop} (e : E) : wp (evI g (.seq e) env s) Q = wp (evE g e env s) fun x s1 => walkP x s1 Q := by
  rw [evI, wp_bind]
  refine wp_ext fun x s1 => ?_
  cases x with
  | ref n =>
    simp only [walkP]
    cases lstAt s1 n <;> rfl
  | _ => rfl
theorem wp_fresh {Q : It → Sto → Prop} (l : L) : wp (evI g (.fresh l) env s) Q = wp (evL g l env s) fun ds s1 => Q (.fix ds) s1 := by
  rw [evI]
  exact wp_bx fun xs s1 => rfl
theorem wp_irange {Q : It → Sto → Prop} (es : Es) : wp (evI g (.range es) env s) Q = wp (evEs g es env s) fun xs s1 => onO (rangeD xs) fun ds => Q (.fix ds) s1 := by
  rw [evI, wp_bind]
  refine wp_ext fun xs s1 => ?_
  cases rangeD xs <;> rfl
theorem wp_enum {Q : It → Sto → Prop} (e : E) : wp (evI g (.enum e) env s) Q = wp (evE g e env s) fun x s1 => onR x fun n => onO (lstAt s1 n) fun _ => Q (.enumL n) s1 := by
  rw [evI, wp_bind]
  refine wp_ext fun x s1 => ?_
  cases x with
  | ref n =>
    simp only [onR]
    cases lstAt s1 n <;> rfl
  | _ => rfl
/-! ### statements, once more -/
theorem wg_asg (t : T) (e : E) : wf (evS g (.asg t e) env s) P = wp (evE g e env s) fun d s1 => onO (t.put d env) fun e1 => P.nx e1 s1 := by
  rw [wf_asg]
  refine wp_ext fun d s1 => ?_
  cases t.put d env <;> rfl
theorem wg_ite (c : E) (a b : Ss) : wf (evS g (.ite c a b) env s) P = wp (evE g c env s) fun x s1 => swT (tru s1 x) (wf (evSs g a env s1) P) (wf (evSs g b env s1) P) := by
  rw [wf_ite, wp_tru]
  refine wp_ext fun x s1 => ?_
  cases tru s1 x <;> rfl
theorem wg_setF (o : E) (k : Nat) (e : E) : wf (evS g (.setF o k e) env s) P = wp (evE g e env s) fun d s1 => wp (evE g o env s1) fun x s2 => onR x fun n => onO (insAt s2 n) fun p => onO (g.cls p.1) fun q => (q.fields.contains k = true ∧ p.2.length < 1000) ∧ P.nx env (s2.set n (.ins p.1 (putD k d p.2))) := by
  rw [evS]
  cases evE g e env s with
  | no => rfl
  | ok d s1 =>
    simp only [wp]
    cases evE g o env s1 with
    | no => rfl
    | ok x s2 =>
      simp only
      cases x with
      | ref n =>
        simp only [onR]
        rcases insAt s2 n with _ | ⟨c, fs⟩
        · rfl
        · simp only [onO]
          rcases g.cls c with _ | q
          · rfl
          · simp only
            by_cases hc : q.fields.contains k = true ∧ fs.length < 1000
            · rw [if_pos hc]; simp only [wf, hc, and_true, true_and]
            · rw [if_neg hc]; simp only [wf, hc, false_and]
      | _ => rfl
theorem wg_setI (o i e : E) : wf (evS g (.setI o i e) env s) P = wp (evE g e env s) fun d s1 => wp (evE g o env s1) fun x s2 => wp (evE g i env s2) fun k s3 => onR x fun n => onI k fun m => onO (lstAt s3 n) fun ds => onO (ixN ds.length m) fun j => P.nx env (s3.set n (.lst (ds.set j d))) := by
  rw [evS]
  cases evE g e env s with
  | no => rfl
  | ok d s1 =>
    simp only [wp]
    cases evE g o env s1 with
    | no => rfl
    | ok x s2 =>
      simp only
      cases evE g i env s2 with
      | no => rfl
      | ok k s3 =>
        simp only
        cases x with
        | ref n =>
          cases k with
          | int m =>
            simp only [onR, onI]
            cases lstAt s3 n with
            | none => rfl
            | some ds =>
              simp only [onO]
              cases ixN ds.length m <;> rfl
          | _ => rfl
        | _ => cases k <;> rfl
end

section
variable {Z : Tabs} {fuel n : Nat} {env : Slo} {s : Sto} {Q : D → Sto → Prop}
/-- what an attribute of an instance says -/
def fldP (Z : Tabs) (fuel m : Nat) (k : Nat) (x : D) (s : Sto) (Q : D → Sto → Prop) (_ : Tag Q := .mk) : Prop := onR x fun n => onO (insAt s n) fun p => onO (Z.kl p.1) fun q => match q.props.lookup k with
  | some f => wp (call Z fuel m f [.ref n] s) Q
  | none => onO (p.2.lookup k) fun d => q.fields.contains k = true ∧ Q d s
theorem wp_fld (a : E) (k : Nat) : wp (evE (gOf Z fuel n) (.fld a k) env s) Q = wp (evE (gOf Z fuel n) a env s) fun x s1 => fldP Z fuel n k x s1 Q := by
  unfold fldP call
  rw [evE, wp_bind]
  refine wp_ext fun x s1 => ?_
  cases x with
  | ref k' =>
    show wp (match insAt s1 k' with | _ => _) Q = onO (insAt s1 k') _
    rcases insAt s1 k' with _ | ⟨c, fs⟩
    · rfl
    · show wp (match (gOf Z fuel n).cls c with | _ => _) Q = onO ((gOf Z fuel n).cls c) _
      rcases (gOf Z fuel n).cls c with _ | q
      · rfl
      · simp only [onO]
        cases q.props.lookup k with
        | some f => rfl
        | none =>
          simp only
          cases fs.lookup k with
          | none => rfl
          | some d => simp only [wp_if, wp_ok]
  | _ => rfl
theorem wp_callE (f : Nat) (es : Es) : wp (evE (gOf Z fuel n) (.call f es) env s) Q = wp (evEs (gOf Z fuel n) es env s) fun xs s1 => wp (call Z fuel n f xs s1) Q := by
  unfold call
  rw [evE]
  exact wp_bx fun xs s1 => rfl
theorem wp_meth (o : E) (m : Nat) (es : Es) : wp (evE (gOf Z fuel n) (.meth o m es) env s) Q = wp (evE (gOf Z fuel n) o env s) fun x s1 => onR x fun k' => onO (insAt s1 k') fun p => onO (Z.kl p.1) fun q => onO (q.meths.lookup m) fun f => p.2.lookup m = none ∧ wp (evEs (gOf Z fuel n) es env s1) fun xs s2 => wp (call Z fuel n f (.ref k' :: xs) s2) Q := by
  (try unfold call)
  rw [evE, wp_bind]
  refine wp_ext fun x s1 => ?_
  cases x with
  | ref k' =>
    show wp (match insAt s1 k' with | _ => _) Q = onO (insAt s1 k') _
    rcases insAt s1 k' with _ | ⟨c, fs⟩
    · rfl
    · show wp (match (gOf Z fuel n).cls c with | _ => _) Q = onO ((gOf Z fuel n).cls c) _
      rcases (gOf Z fuel n).cls c with _ | q
      · rfl
      · simp only [onO]
        cases q.meths.lookup m with
        | none => rfl
        | some f =>
          rw [wp_if, wp_bind]
  | _ => rfl
theorem wp_make (c : Nat) (es : Es) : wp (evE (gOf Z fuel n) (.make c es) env s) Q = wp (evEs (gOf Z fuel n) es env s) fun xs s1 => onO (Z.kl c) fun q => wp (call Z fuel n q.init (.ref s1.length :: xs) (s1 ++ [.ins c []])) fun d s2 => d = .non ∧ Q (.ref s1.length) s2 := by
  (try unfold call)
  rw [evE, wp_bind]
  refine wp_ext fun xs s1 => ?_
  show wp (match (gOf Z fuel n).cls c with | _ => _) Q = onO ((gOf Z fuel n).cls c) _
  rcases (gOf Z fuel n).cls c with _ | q
  · rfl
  · refine wp_bx fun d s2 => ?_
    cases d <;> simp [wp]
end
theorem cls_gOf {Z : Tabs} {fuel n c : Nat} : (gOf Z fuel n).cls c = Z.kl c := id rfl
theorem fuel_gOf {Z : Tabs} {fuel n : Nat} : (gOf Z fuel n).fuel = fuel := id rfl
theorem atI_nat {ds : List D} (i : Nat) : atI ds (i : Int) = ds[i]? := by
  unfold atI ixN
  by_cases h : i < ds.length
  · simp [h]
  · simp [h, List.getElem?_eq_none (Nat.le_of_not_lt h)]
theorem atI_0 {a : D} {l : List D} : atI (a :: l) 0 = some a := atI_nat 0
theorem atI_1 {a b : D} {l : List D} : atI (a :: b :: l) 1 = some b := atI_nat 1
theorem atI_2 {a b c : D} {l : List D} : atI (a :: b :: c :: l) 2 = some c := atI_nat 2
theorem atI_3 {a b c d : D} {l : List D} : atI (a :: b :: c :: d :: l) 3 = some d := atI_nat 3
theorem atI_4 {a b c d e : D} {l : List D} : atI (a :: b :: c :: d :: e :: l) 4 = some e := atI_nat 4
theorem wp_cmpEq {g : G} {s : Sto} {x y : D} {Q : Bool → Sto → Prop} : wp (cmpD g .eq x y s) Q = onO (eqD s x y) fun b => Q b s := by
  unfold cmpD
  cases eqD s x y <;> rfl
theorem wp_cmpNe {g : G} {s : Sto} {x y : D} {Q : Bool → Sto → Prop} : wp (cmpD g .ne x y s) Q = onO (eqD s x y) fun b => Q (!b) s := by
  unfold cmpD
  cases eqD s x y <;> rfl
theorem eqD_int {s : Sto} {a b : Int} : eqD s (.int a) (.int b) = some (decide (a = b)) := by
  simp only [eqD, pyOf, toPy]
  rw [if_pos (by constructor <;> rfl)]
  show some (a == b) = _
  rw [Bool.beq_eq_decide_eq]
theorem eqD_str {s : Sto} {a b : Str} (ha : PyData.strOk a = true) (hb : PyData.strOk b = true) : eqD s (.str a) (.str b) = some (decide (a = b)) := by
  simp only [eqD, pyOf, toPy]
  have sh : ∀ {x : Str}, PyData.strOk x = true → SeqAt.shaped (.str x) = true := fun {x} h => by
    unfold SeqAt.shaped PyData.canLay0
    rw [Bool.and_eq_true]
    exact ⟨h, rfl⟩
  rw [if_pos ⟨sh ha, sh hb⟩]
  show some (a == b) = _
  rw [Bool.beq_eq_decide_eq]
theorem eqD_non_int {s : Sto} {b : Int} : eqD s .non (.int b) = some false := by
  simp only [eqD, pyOf, toPy]
  rw [if_pos (by constructor <;> rfl)]
  rfl
theorem toPyL_ints : ∀ xs : List Int, toPyL (xs.map D.int) = some (xs.map PyData.int)
  | [] => rfl
  | x :: xs => by simp [toPyL, toPy, toPyL_ints xs]
theorem wp_cmpIn {g : G} {s : Sto} {x y : D} {Q : Bool → Sto → Prop} : wp (cmpD g .in_ x y s) Q = wp (inD g x y s) Q := by
  unfold cmpD; rfl
theorem wp_nin {g : G} {s : Sto} {x y : D} {Q : Bool → Sto → Prop} : wp (cmpD g .nin x y s) Q = wp (inD g x y s) fun b s1 => Q (!b) s1 := by
  unfold cmpD
  exact wp_bx fun b s1 => rfl
/-- a bool that a call gives -/
def onB (x : D) (p : Bool → Prop) (_ : Tag p := .mk) : Prop := match x with
  | .bl k => p k
  | _ => False
theorem onB_b {k : Bool} {p : Bool → Prop} : onB (.bl k) p = p k := id rfl
theorem wp_inIns {Z : Tabs} {fuel n : Nat} {s : Sto} {x : D} {k c f : Nat} {fs : List (Nat × D)} {q : Klass} {Q : Bool → Sto → Prop} (hi : insAt s k = some (c, fs)) (hc : Z.kl c = some q) (hq : q.contains = some f)
    (h : wp (call Z fuel n f [.ref k, x] s) fun d s1 => onB d fun b => Q b s1) : wp (inD (gOf Z fuel n) x (.ref k) s) Q := by
  unfold inD
  simp only [hi]
  rw [show (gOf Z fuel n).cls c = some q from hc]
  simp only [hq]
  rw [wp_bind]
  unfold call at h
  refine wp_mono h fun d s1 w => ?_
  cases d with
  | bl b => exact w
  | _ => exact w.elim
theorem ixN_30 : ixN 3 0 = some 0 := id rfl
theorem ixN_31 : ixN 3 1 = some 1 := id rfl
theorem ixN_32 : ixN 3 2 = some 2 := id rfl
theorem wp_dct {g : G} {env : Slo} {s : Sto} {Q : D → Sto → Prop} (es : Es) : wp (evE g (.dct es) env s) Q = wp (evEs g es env s) fun xs s1 => onO (pairsD xs) fun kvs => kvs.length ≤ 15 ∧ Q (.ref s1.length) (s1 ++ [.dct (mergeD [] kvs)]) := by
  rw [evE]
  refine wp_bx fun xs s1 => ?_
  cases pairsD xs with
  | none => rfl
  | some kvs => exact wp_if _
theorem wp_dix {g : G} {env : Slo} {s : Sto} {Q : D → Sto → Prop} (o i : E) : wp (evE g (.dix o i) env s) Q = wp (evE g o env s) fun x s1 => wp (evE g i env s1) fun k s2 => onR x fun n => onO (dctAt s2 n) fun kvs => onO (keyOf k) fun q => onO (valD kvs q) fun d => Q d s2 := by
  rw [evE]
  refine wp_bx fun x s1 => wp_bx fun k s2 => ?_
  cases x with
  | ref n =>
    simp only [onR]
    cases dctAt s2 n with
    | none => rfl
    | some kvs =>
      simp only [onO]
      cases keyOf k with
      | none => rfl
      | some q =>
        simp only
        cases valD kvs q <;> rfl
  | _ => rfl
theorem wp_slk {g : G} {env : Slo} {s : Sto} {Q : D → Sto → Prop} (a lo hi st : E) : wp (evE g (.slk a lo hi st) env s) Q = wp (evE g a env s) fun x s1 => wp (evE g lo env s1) fun l s2 => wp (evE g hi env s2) fun h s3 => wp (evE g st env s3) fun k s4 => onO (bnd lo l) fun ol => onO (bnd hi h) fun oh => onI k fun c => wp (slkD x ol oh c s4) Q := by
  rw [evE]
  refine wp_bx fun x s1 => wp_bx fun l s2 => wp_bx fun h s3 => wp_bx fun k s4 => ?_
  cases bnd lo l with
  | none => rfl
  | some a =>
    simp only [onO]
    cases bnd hi h with
    | none => rfl
    | some b => cases k <;> rfl
/-- a statement and what stands between it and the next -/
theorem wf_seq {g : G} {env : Slo} {s : Sto} {P : Po} {a : S} {b : Ss} (M : Slo → Sto → Prop) (h1 : wf (evS g a env s) { P with nx := M }) (h2 : ∀ e s, M e s → wf (evSs g b e s) P) : wf (evSs g (.cons a b) env s) P := by
  rw [wf_cons]
  exact wf_mono h1 h2 (fun _ _ h => h) (fun _ _ h => h) (fun _ _ h => h)
/-- what repr needs of a value -/
structure Sh (n k : Nat) (q : PyData) : Prop where
  sw : q.showable = true
  nd : q.hasDict = false
  ok : PyData.strOk q.shown = true
  len : q.shown.length ≤ 2000 * k
  dep : q.depth ≤ n
theorem wp_show {o : Option PyData} {q : PyData} {s : Sto} {Q : D → Sto → Prop} (e : o = some q) {n k : Nat} (hs : Sh n k q) (hn : n ≤ 60) (hk : k ≤ 8000) (h : Q (.str q.shown) s) :
    wp (match o with | some q => if q.showable = true ∧ q.hasDict = false ∧ q.shown.length ≤ sizeLine ∧ q.depth ≤ 60 then .ok (.str q.shown) s else .no | none => .no) Q := by
  subst e
  simp only
  have := hs.len
  have hz : sizeLine = 16777216 := by decide +kernel
  rw [if_pos ⟨hs.sw, hs.nd, by omega, Nat.le_trans hs.dep hn⟩]
  exact h
theorem eqD_same {s : Sto} {x : Str} (h : PyData.strOk x = true) : eqD s (.str x) (.str x) = some true := by
  rw [eqD_str h h, decide_eq_true rfl]
theorem dct_new {s : Sto} {kvs : List (Key × D)} : dctAt (s ++ [.dct kvs]) s.length = some kvs := by
  unfold dctAt
  simp
end Pv

end
section
set_option Elab.async false
set_option linter.all false
set_option maxRecDepth 100000
set_option maxHeartbeats 4000000
namespace Pv
open PySem L2 PySem.Spec PyProof.Rows
def d_law : FnR := { name := "law", glob := true, ar := 1, N := ["script", "place"], body := .cons (.ret (.fold .all (.comp [1] (.call 1 (.cons (.call 2 (.cons (.var 0) (.cons (.var 1) (.nil)))) (.nil))) (.nm 1) (.seq (.call 3 (.cons (.var 0) (.cons (.lit (.int 2)) (.nil))))) (.nil)))) (.nil) }
def d_law_right : FnR := { name := "_law_right", glob := true, ar := 1, N := ["pot", "grid", "every", "pairs", "some", "one", "great", "made", "lap", "ladder", "other", "number"], body := .cons (.asg (.nm 1) (.call 10 (.cons (.var 0) (.nil)))) (.cons (.asg (.tp [7, 9]) (.tup (.cons (.make 0 (.cons (.ix (.var 1) (.lit (.int 0))) (.cons (.ix (.var 1) (.lit (.int 1))) (.cons (.ix (.var 1) (.lit (.int 2))) (.cons (.ix (.var 1) (.lit (.int 3))) (.nil)))))) (.cons (.call 9 (.cons (.var 1) (.nil))) (.nil))))) (.cons (.asg (.nm 2) (.bin .add (.new (.comp [11] (.neg (.var 11)) (.nm 11) (.seq (.slk (.var 9) (.lit .non) (.lit (.int 0)) (.neg (.lit (.int 1))))) (.nil))) (.var 9))) (.cons (.asg (.nm 3) (.new (.comp [8] (.tup (.cons (.call 7 (.cons (.var 0) (.cons (.var 2) (.nil)))) (.cons (.call 7 (.cons (.var 0) (.cons (.var 2) (.nil)))) (.nil)))) (.nm 8) (.range (.cons (.lit (.int 120)) (.nil))) (.nil)))) (.cons (.asg (.nm 4) (.sl (.var 9) (.neg (.lit (.int 14))) (.lit .non))) (.cons (.for_ (.nm 5) (.seq (.var 4)) (.cons (.ex (.bm .extend (.var 3) (.new (.comp [10] (.tup (.cons (.var 5) (.cons (.var 10) (.nil)))) (.nm 10) (.seq (.slk (.var 2) (.lit .non) (.lit .non) (.bi .max2 (.cons (.lit (.int 1)) (.cons (.bin .fdiv (.foldv .len (.var 2)) (.lit (.int 9))) (.nil)))))) (.nil))))) (.nil))) (.cons (.ite (.not_ (.fold .all (.comp [5, 10] (.call 4 (.cons (.var 7) (.cons (.var 1) (.cons (.var 5) (.cons (.var 10) (.nil)))))) (.tp [5, 10]) (.seq (.var 3)) (.nil)))) (.cons (.ret (.lit (.bl false))) (.nil)) (.nil)) (.cons (.asg (.nm 6) (.tup (.cons (.bin .add (.lit (.int 2)) (.call 8 (.cons (.var 0) (.cons (.lit (.int 9)) (.nil))))) (.cons (.call 7 (.cons (.var 0) (.cons (.new (.disp (.cons (.lit (.int 1)) (.cons (.lit (.int 7)) (.cons (.lit (.int 29)) (.cons (.lit (.int 30)) (.nil))))))) (.nil)))) (.cons (.call 7 (.cons (.var 0) (.cons (.new (.disp (.cons (.lit (.int 0)) (.cons (.lit (.int 20)) (.cons (.lit (.int 60)) (.nil)))))) (.nil)))) (.cons (.lit (.int 0)) (.nil))))))) (.cons (.asg (.nm 7) (.make 0 (.cons (.ix (.var 6) (.lit (.int 0))) (.cons (.ix (.var 6) (.lit (.int 1))) (.cons (.ix (.var 6) (.lit (.int 2))) (.cons (.ix (.var 6) (.lit (.int 3))) (.nil))))))) (.cons (.for_ (.nm 8) (.range (.cons (.lit (.int 12)) (.nil))) (.cons (.asg (.tp [5, 10]) (.tup (.cons (.call 5 (.cons (.var 0) (.cons (.var 6) (.nil)))) (.cons (.call 5 (.cons (.var 0) (.cons (.var 6) (.nil)))) (.nil))))) (.cons (.ite (.or_ (.not_ (.call 4 (.cons (.var 7) (.cons (.var 6) (.cons (.var 5) (.cons (.var 10) (.nil))))))) (.not_ (.call 4 (.cons (.var 7) (.cons (.var 6) (.cons (.var 5) (.cons (.neg (.var 5)) (.nil)))))))) (.cons (.ret (.lit (.bl false))) (.nil)) (.nil)) (.nil)))) (.cons (.ret (.lit (.bl true))) (.nil))))))))))) }
def d_law_pot : FnR := { name := "_law_pot", glob := true, ar := 2, N := ["script", "place", "cell", "own", "small"], body := .cons (.asg (.nm 2) (.ite (.cmp .lt (.var 1) (.foldv .len (.var 0))) (.ix (.var 0) (.var 1)) (.bin .add (.bin .add (.bin .mod (.foldv .sum (.sl (.var 0) (.lit .non) (.lit (.int 1)))) (.lit (.int 1000003))) (.bin .mul (.lit (.int 1083)) (.var 1))) (.lit (.int 457))))) (.cons (.asg (.nm 3) (.bin .mul (.bin .mod (.bi .int (.cons (.bi .abs (.cons (.var 2) (.nil))) (.nil))) (.bin .pow (.bin .pow (.lit (.int 10)) (.lit (.int 60))) (.lit (.int 5)))) (.bi .int (.cons (.cmp .ge (.bi .abs (.cons (.var 2) (.nil))) (.bin .pow (.lit (.int 10)) (.lit (.int 18)))) (.nil))))) (.cons (.asg (.nm 4) (.bin .mod (.bi .int (.cons (.var 2) (.nil))) (.lit (.int 2305843009213693951)))) (.cons (.ret (.new (.disp (.cons (.var 3) (.cons (.bin .mod (.bi .int (.cons (.bin .add (.bin .add (.bin .mul (.var 4) (.lit (.int 71243))) (.bin .mul (.bin .mul (.lit (.int 7411)) (.var 1)) (.var 1))) (.lit (.int 369))) (.nil))) (.lit (.int 2305843009213693921))) (.cons (.lit (.int 0)) (.nil))))))) (.nil)))) }
def d_law_cells : FnR := { name := "_law_cells", glob := true, ar := 2, N := ["script", "most"], body := .cons (.ret (.new (.range (.cons (.bi .max2 (.cons (.lit (.int 1)) (.cons (.bi .min2 (.cons (.var 1) (.cons (.foldv .len (.var 0)) (.nil)))) (.nil)))) (.nil))))) (.nil) }
def d_law_is_pair_right : FnR := { name := "_law_is_pair_right", glob := true, ar := 4, N := ["made", "grid", "one", "other", "told", "due", "back", "turned"], body := .cons (.par 4 5 (.call 11 (.cons (.var 0) (.cons (.var 2) (.cons (.var 3) (.nil))))) (.call 13 (.cons (.var 1) (.cons (.bin .add (.var 2) (.var 3)) (.cons (.lit (.int 1)) (.cons (.lit (.str "near")) (.cons (.lit (.int 0)) (.nil)))))))) (.cons (.ite (.cmp .is_ (.var 5) (.lit .non)) (.cons (.ret (.and_ (.cmp .is_ (.var 4) (.lit .non)) (.and_ (.cmp .is_ (.call 11 (.cons (.var 0) (.cons (.var 3) (.cons (.var 2) (.nil))))) (.lit .non)) (.cmp .is_ (.call 11 (.cons (.var 0) (.cons (.neg (.var 2)) (.cons (.neg (.var 3)) (.nil))))) (.lit .non))))) (.nil)) (.nil)) (.cons (.ite (.or_ (.cmp .ne (.bi .repr (.cons (.var 4) (.nil))) (.bi .repr (.cons (.tup (.cons (.var 5) (.cons (.bin .sub (.bin .add (.var 2) (.var 3)) (.var 5)) (.nil)))) (.nil)))) (.not_ (.call 12 (.cons (.var 1) (.cons (.ix (.var 4) (.lit (.int 1))) (.nil)))))) (.cons (.ret (.lit (.bl false))) (.nil)) (.nil)) (.cons (.ite (.or_ (.cmp .gt (.bi .abs (.cons (.ix (.var 4) (.lit (.int 1))) (.nil))) (.bi .min2 (.cons (.bi .abs (.cons (.var 2) (.nil))) (.cons (.bi .abs (.cons (.var 3) (.nil))) (.nil))))) (.cmp .nin (.ix (.var 4) (.lit (.int 1))) (.var 0))) (.cons (.ret (.lit (.bl false))) (.nil)) (.nil)) (.cons (.par 6 7 (.call 11 (.cons (.var 0) (.cons (.var 3) (.cons (.var 2) (.nil))))) (.call 11 (.cons (.var 0) (.cons (.neg (.var 2)) (.cons (.neg (.var 3)) (.nil)))))) (.cons (.ret (.cmp .eq (.bi .repr (.cons (.tup (.cons (.var 6) (.cons (.var 7) (.nil)))) (.nil))) (.bi .repr (.cons (.tup (.cons (.var 4) (.cons (.tup (.cons (.neg (.ix (.var 4) (.lit (.int 0)))) (.cons (.neg (.ix (.var 4) (.lit (.int 1)))) (.nil)))) (.nil)))) (.nil))))) (.nil)))))) }
def d_law_grid_a_number : FnR := { name := "_law_grid_a_number", glob := true, ar := 2, N := ["pot", "grid", "way", "most", "number", "power_v", "less"], body := .cons (.par 2 3 (.call 8 (.cons (.var 0) (.cons (.lit (.int 6)) (.nil)))) (.call 15 (.cons (.var 1) (.nil)))) (.cons (.ite (.cmp .eq (.var 2) (.lit (.int 0))) (.cons (.asg (.nm 4) (.bi .min2 (.cons (.var 3) (.cons (.call 8 (.cons (.var 0) (.cons (.lit (.int 3)) (.nil)))) (.nil))))) (.nil)) (.cons (.ite (.cmp .lt (.var 2) (.lit (.int 3))) (.cons (.asg (.nm 5) (.call 14 (.cons (.ix (.var 1) (.lit (.int 0))) (.cons (.bin .add (.ix (.var 1) (.lit (.int 1))) (.call 8 (.cons (.var 0) (.cons (.bin .add (.ix (.var 1) (.lit (.int 2))) (.lit (.int 1))) (.nil))))) (.nil))))) (.cons (.asg (.nm 4) (.call 13 (.cons (.var 1) (.cons (.bin .add (.var 5) (.call 7 (.cons (.var 0) (.cons (.new (.disp (.cons (.lit (.int 0)) (.cons (.neg (.lit (.int 1))) (.cons (.lit (.int 1)) (.nil)))))) (.nil))))) (.cons (.lit (.int 1)) (.cons (.lit (.str "zero")) (.cons (.lit (.int 0)) (.nil)))))))) (.cons (.asg (.nm 4) (.ite (.cmp .is_ (.var 4) (.lit .non)) (.var 3) (.var 4))) (.nil)))) (.cons (.ite (.cmp .eq (.var 2) (.lit (.int 3))) (.cons (.asg (.nm 6) (.bin .mul (.call 8 (.cons (.var 0) (.cons (.lit (.int 3)) (.nil)))) (.call 14 (.cons (.ix (.var 1) (.lit (.int 0))) (.cons (.ix (.var 1) (.lit (.int 2))) (.nil)))))) (.cons (.asg (.nm 4) (.call 13 (.cons (.var 1) (.cons (.bi .max2 (.cons (.lit (.int 0)) (.cons (.bin .sub (.var 3) (.var 6)) (.nil)))) (.cons (.lit (.int 1)) (.cons (.lit (.str "zero")) (.cons (.lit (.int 0)) (.nil)))))))) (.nil))) (.cons (.asg (.nm 4) (.call 13 (.cons (.var 1) (.cons (.call 8 (.cons (.var 0) (.cons (.bin .add (.var 3) (.lit (.int 1))) (.nil)))) (.cons (.lit (.int 1)) (.cons (.lit (.str "zero")) (.cons (.lit (.int 0)) (.nil)))))))) (.nil))) (.nil))) (.nil))) (.cons (.ret (.ite (.cmp .eq (.call 8 (.cons (.var 0) (.cons (.lit (.int 3)) (.nil)))) (.lit (.int 0))) (.neg (.var 4)) (.var 4))) (.nil))) }
def d_Grid___init : FnR := { name := "__init__", glob := false, ar := 5, N := ["self", "base", "figures", "reach", "places", "more", "bound"], body := .cons (.ite (.not_ (.call 17 (.cons (.var 1) (.cons (.var 2) (.cons (.var 3) (.cons (.var 4) (.nil))))))) (.cons (.never) (.nil)) (.nil)) (.cons (.setF (.var 0) 6 (.var 1)) (.cons (.setF (.var 0) 5 (.var 2)) (.cons (.setF (.var 0) 4 (.var 3)) (.cons (.setF (.var 0) 3 (.var 4)) (.cons (.setF (.var 0) 1 (.new (.comp [5] (.call 16 (.cons (.var 1) (.cons (.bin .add (.var 2) (.var 5)) (.nil)))) (.nm 5) (.range (.cons (.bin .add (.glob 0) (.lit (.int 1))) (.nil))) (.nil)))) (.cons (.setF (.var 0) 2 (.new (.comp [6] (.bin .mul (.bin .sub (.var 6) (.lit (.int 1))) (.call 16 (.cons (.var 1) (.cons (.var 3) (.nil))))) (.nm 6) (.seq (.fld (.var 0) 1)) (.nil)))) (.cons (.setF (.var 0) 0 (.bin .sub (.ix (.fld (.var 0) 1) (.lit (.int 0))) (.bin .fdiv (.ix (.fld (.var 0) 1) (.lit (.int 0))) (.var 1)))) (.nil)))))))) }
def d_law_of : FnR := { name := "_law_of", glob := true, ar := 2, N := ["pot", "some"], body := .cons (.ret (.ix (.var 1) (.call 8 (.cons (.var 0) (.cons (.foldv .len (.var 1)) (.nil)))))) (.nil) }
def d_law_take : FnR := { name := "_law_take", glob := true, ar := 2, N := ["pot", "upto", "prime", "blend", "digit"], body := .cons (.ite (.cmp .gt (.ix (.var 0) (.lit (.int 0))) (.lit (.int 0))) (.cons (.asg (.nm 4) (.bin .mod (.bi .int (.cons (.ix (.var 0) (.lit (.int 0))) (.nil))) (.var 1))) (.cons (.setI (.var 0) (.lit (.int 0)) (.bin .fdiv (.ix (.var 0) (.lit (.int 0))) (.var 1))) (.cons (.ret (.var 4)) (.nil)))) (.nil)) (.cons (.setI (.var 0) (.lit (.int 2)) (.bin .add (.ix (.var 0) (.lit (.int 2))) (.lit (.int 1)))) (.cons (.asg (.nm 2) (.ix (.new (.disp (.cons (.lit (.int 2147483647)) (.cons (.lit (.int 2147483629)) (.cons (.lit (.int 2147483587)) (.cons (.lit (.int 2147483579)) (.cons (.lit (.int 2147483563)) (.nil)))))))) (.bin .mod (.bi .int (.cons (.ix (.var 0) (.lit (.int 2))) (.nil))) (.lit (.int 5))))) (.cons (.asg (.nm 3) (.bin .mod (.bi .int (.cons (.bin .pow (.bi .int (.cons (.bin .add (.bin .add (.ix (.var 0) (.lit (.int 1))) (.bin .mul (.bin .mul (.lit (.int 97873)) (.ix (.var 0) (.lit (.int 2)))) (.ix (.var 0) (.lit (.int 2))))) (.lit (.int 603))) (.nil))) (.lit (.int 3))) (.nil))) (.var 2))) (.cons (.asg (.nm 3) (.bin .mod (.bi .int (.cons (.bin .mul (.var 3) (.bin .add (.bin .mod (.bi .int (.cons (.var 3) (.nil))) (.lit (.int 10211))) (.bin .mul (.lit (.int 119)) (.ix (.var 0) (.lit (.int 2)))))) (.nil))) (.lit (.int 2305843009213693907)))) (.cons (.ret (.bin .mod (.bi .int (.cons (.bin .fdiv (.var 3) (.lit (.int 167))) (.nil))) (.var 1))) (.nil)))))) }
def d_law_grid_ladder : FnR := { name := "_law_grid_ladder", glob := true, ar := 1, N := ["grid", "found", "lap", "bound", "spacing", "at"], body := .cons (.asg (.tp [3, 4]) (.tup (.cons (.call 14 (.cons (.ix (.var 0) (.lit (.int 0))) (.cons (.ix (.var 0) (.lit (.int 1))) (.nil)))) (.cons (.lit (.int 1)) (.nil))))) (.cons (.asg (.nm 1) (.new (.range (.cons (.var 3) (.nil))))) (.cons (.for_ (.nm 2) (.range (.cons (.ix (.var 0) (.lit (.int 2))) (.nil))) (.cons (.asg (.nm 4) (.bin .mul (.var 4) (.ix (.var 0) (.lit (.int 0))))) (.cons (.ex (.bm .extend (.var 1) (.new (.comp [5] (.bin .mul (.var 4) (.var 5)) (.nm 5) (.range (.cons (.bin .fdiv (.var 3) (.ix (.var 0) (.lit (.int 0)))) (.cons (.var 3) (.nil)))) (.nil))))) (.nil)))) (.cons (.ret (.var 1)) (.nil)))) }
def d_law_grid_drawn : FnR := { name := "_law_grid_drawn", glob := true, ar := 1, N := ["pot", "base", "figures"], body := .cons (.asg (.nm 1) (.call 7 (.cons (.var 0) (.cons (.new (.disp (.cons (.lit (.int 2)) (.cons (.lit (.int 2)) (.cons (.lit (.int 3)) (.cons (.lit (.int 10)) (.cons (.lit (.int 5)) (.cons (.lit (.int 2)) (.nil))))))))) (.nil))))) (.cons (.asg (.nm 2) (.call 7 (.cons (.var 0) (.cons (.dix (.dct (.cons (.lit (.int 2)) (.cons (.new (.disp (.cons (.lit (.int 3)) (.cons (.lit (.int 2)) (.cons (.lit (.int 4)) (.cons (.lit (.int 1)) (.nil))))))) (.cons (.lit (.int 3)) (.cons (.new (.disp (.cons (.lit (.int 2)) (.cons (.lit (.int 1)) (.cons (.lit (.int 3)) (.nil)))))) (.cons (.lit (.int 5)) (.cons (.new (.disp (.cons (.lit (.int 1)) (.cons (.lit (.int 2)) (.nil))))) (.cons (.lit (.int 10)) (.cons (.new (.disp (.cons (.lit (.int 1)) (.cons (.lit (.int 2)) (.nil))))) (.nil)))))))))) (.var 1)) (.nil))))) (.cons (.ret (.tup (.cons (.var 1) (.cons (.var 2) (.cons (.call 7 (.cons (.var 0) (.cons (.new (.disp (.cons (.lit (.int 2)) (.cons (.lit (.int 1)) (.cons (.lit (.int 3)) (.cons (.lit (.int 0)) (.nil))))))) (.nil)))) (.cons (.call 7 (.cons (.var 0) (.cons (.new (.disp (.cons (.lit (.int 0)) (.cons (.lit (.int 0)) (.cons (.lit (.int 1)) (.cons (.lit (.int 2)) (.nil))))))) (.nil)))) (.nil))))))) (.nil))) }
def d_split_sum : FnR := { name := "split_sum", glob := true, ar := 3, N := ["grid", "one", "other", "number"], body := .cons (.ex (.meth (.var 0) 7 (.cons (.var 1) (.nil)))) (.cons (.ex (.meth (.var 0) 7 (.cons (.var 2) (.nil)))) (.cons (.asg (.nm 3) (.call 18 (.cons (.var 0) (.cons (.bin .add (.var 1) (.var 2)) (.cons (.lit (.int 1)) (.cons (.glob 1) (.cons (.lit (.int 0)) (.nil)))))))) (.cons (.ret (.ite (.cmp .is_ (.var 3) (.lit .non)) (.lit .non) (.tup (.cons (.var 3) (.cons (.bin .sub (.bin .add (.var 1) (.var 2)) (.var 3)) (.nil)))))) (.nil)))) }
def d_law_grid_has : FnR := { name := "_law_grid_has", glob := true, ar := 2, N := ["grid", "number"], body := .cons (.ret (.and_ (.cmp .le (.bi .abs (.cons (.var 1) (.nil))) (.call 15 (.cons (.var 0) (.nil)))) (.cmp .eq (.bin .mod (.bi .int (.cons (.var 1) (.nil))) (.call 19 (.cons (.var 0) (.cons (.var 1) (.cons (.lit (.int 1)) (.nil)))))) (.lit (.int 0))))) (.nil) }
def d_law_grid_rounded : FnR := { name := "_law_grid_rounded", glob := true, ar := 5, N := ["grid", "top", "bottom", "way", "more", "fine", "spacing", "number", "below", "left", "twice", "step"], body := .cons (.asg (.nm 5) (.call 20 (.cons (.var 0) (.cons (.var 4) (.nil))))) (.cons (.asg (.nm 6) (.call 19 (.cons (.var 5) (.cons (.var 1) (.cons (.var 2) (.nil)))))) (.cons (.par 8 9 (.bin .fdiv (.bi .int (.cons (.var 1) (.nil))) (.bin .mul (.var 2) (.var 6))) (.bin .mod (.bi .int (.cons (.var 1) (.nil))) (.bin .mul (.var 2) (.var 6)))) (.cons (.ite (.cmp .eq (.var 3) (.lit (.str "near"))) (.cons (.asg (.nm 10) (.bin .sub (.bin .mul (.lit (.int 2)) (.var 9)) (.bin .mul (.var 2) (.var 6)))) (.cons (.asg (.nm 11) (.bi .int (.cons (.or_ (.cmp .gt (.var 10) (.lit (.int 0))) (.and_ (.cmp .eq (.var 10) (.lit (.int 0))) (.cmp .eq (.bin .mod (.bi .int (.cons (.var 8) (.nil))) (.lit (.int 2))) (.lit (.int 1))))) (.nil)))) (.nil))) (.cons (.asg (.nm 11) (.bi .int (.cons (.and_ (.cmp .gt (.var 9) (.lit (.int 0))) (.or_ (.cmp .eq (.var 3) (.lit (.str "up"))) (.and_ (.cmp .eq (.var 3) (.lit (.str "zero"))) (.cmp .lt (.var 1) (.lit (.int 0)))))) (.nil)))) (.nil))) (.cons (.asg (.nm 7) (.bin .mul (.bin .add (.var 8) (.var 11)) (.var 6))) (.cons (.ret (.ite (.cmp .le (.bi .abs (.cons (.var 7) (.nil))) (.call 15 (.cons (.var 5) (.nil)))) (.var 7) (.lit .non))) (.nil)))))) }
def d_law_grid_power : FnR := { name := "_law_grid_power", glob := true, ar := 2, N := ["base", "many", "found", "lap"], body := .cons (.asg (.nm 2) (.lit (.int 1))) (.cons (.for_ (.nm 3) (.range (.cons (.var 1) (.nil))) (.cons (.asg (.nm 2) (.bin .mul (.var 2) (.bi .int (.cons (.var 0) (.nil))))) (.nil))) (.cons (.ret (.var 2)) (.nil))) }
def d_law_grid_greatest : FnR := { name := "_law_grid_greatest", glob := true, ar := 1, N := ["grid"], body := .cons (.ret (.bin .mul (.bin .sub (.call 14 (.cons (.ix (.var 0) (.lit (.int 0))) (.cons (.ix (.var 0) (.lit (.int 1))) (.nil)))) (.lit (.int 1))) (.call 14 (.cons (.ix (.var 0) (.lit (.int 0))) (.cons (.ix (.var 0) (.lit (.int 2))) (.nil)))))) (.nil) }
def d_power : FnR := { name := "power", glob := true, ar := 2, N := ["base", "many", "found", "lap"], body := .cons (.asg (.nm 2) (.lit (.int 1))) (.cons (.for_ (.nm 3) (.range (.cons (.var 1) (.nil))) (.cons (.asg (.nm 2) (.bin .mul (.var 2) (.var 0))) (.nil))) (.cons (.ret (.var 2)) (.nil))) }
def d_is_grid : FnR := { name := "is_grid", glob := true, ar := 4, N := ["base", "figures", "reach", "places"], body := .cons (.ite (.or_ (.not_ (.call 21 (.cons (.var 0) (.cons (.glob 5) (.cons (.glob 4) (.nil)))))) (.not_ (.call 21 (.cons (.var 1) (.cons (.lit (.int 1)) (.cons (.glob 6) (.nil))))))) (.cons (.ret (.lit (.bl false))) (.nil)) (.nil)) (.cons (.ret (.and_ (.call 21 (.cons (.var 2) (.cons (.lit (.int 0)) (.cons (.glob 2) (.nil))))) (.call 21 (.cons (.var 3) (.cons (.lit (.int 0)) (.cons (.glob 3) (.nil))))))) (.nil)) }
def d_rounded_to : FnR := { name := "rounded_to", glob := true, ar := 5, N := ["grid", "top", "bottom", "way", "more", "number", "spacing", "multiple", "left"], body := .cons (.asg (.tp [6, 7, 8]) (.call 23 (.cons (.var 0) (.cons (.var 1) (.cons (.var 2) (.cons (.var 4) (.nil))))))) (.cons (.asg (.nm 5) (.bin .mul (.bin .add (.var 7) (.bi .int (.cons (.call 22 (.cons (.var 7) (.cons (.var 8) (.cons (.bin .mul (.var 2) (.var 6)) (.cons (.var 1) (.cons (.var 3) (.nil))))))) (.nil)))) (.var 6))) (.cons (.ret (.ite (.cmp .le (.bi .abs (.cons (.var 5) (.nil))) (.ix (.fld (.var 0) 2) (.var 4))) (.var 5) (.lit .non))) (.nil))) }
def d_law_grid_spacing : FnR := { name := "_law_grid_spacing", glob := true, ar := 3, N := ["grid", "top", "bottom", "spacing", "bound"], body := .cons (.par 3 4 (.lit (.int 1)) (.call 14 (.cons (.ix (.var 0) (.lit (.int 0))) (.cons (.ix (.var 0) (.lit (.int 1))) (.nil))))) (.cons (.whl (.cmp .ge (.bi .abs (.cons (.var 1) (.nil))) (.bin .mul (.bin .mul (.var 2) (.var 4)) (.var 3))) (.cons (.asg (.nm 3) (.bin .mul (.var 3) (.ix (.var 0) (.lit (.int 0))))) (.nil))) (.cons (.ret (.var 3)) (.nil))) }
def d_law_grid_more : FnR := { name := "_law_grid_more", glob := true, ar := 2, N := ["grid", "more"], body := .cons (.ret (.tup (.cons (.ix (.var 0) (.lit (.int 0))) (.cons (.bin .add (.ix (.var 0) (.lit (.int 1))) (.var 1)) (.cons (.ix (.var 0) (.lit (.int 2))) (.cons (.ix (.var 0) (.lit (.int 3))) (.nil))))))) (.nil) }
def d_is_integer : FnR := { name := "is_integer", glob := true, ar := 3, N := ["value", "low", "high"], body := .cons (.ret (.and_ (.call 24 (.cons (.var 0) (.nil))) (.chain .le .le (.var 1) (.var 0) (.var 2)))) (.nil) }
def d_is_led_up : FnR := { name := "is_led_up", glob := true, ar := 5, N := ["multiple", "left", "whole", "top", "way"], body := .cons (.ite (.or_ (.cmp .eq (.var 1) (.lit (.int 0))) (.cmp .eq (.var 4) (.glob 9))) (.cons (.ret (.lit (.bl false))) (.nil)) (.nil)) (.cons (.ite (.cmp .eq (.var 4) (.glob 8)) (.cons (.ret (.lit (.bl true))) (.nil)) (.nil)) (.cons (.ite (.cmp .eq (.var 4) (.glob 7)) (.cons (.ret (.cmp .lt (.var 3) (.lit (.int 0)))) (.nil)) (.nil)) (.cons (.ret (.or_ (.cmp .gt (.bin .mul (.lit (.int 2)) (.var 1)) (.var 2)) (.and_ (.cmp .eq (.bin .mul (.lit (.int 2)) (.var 1)) (.var 2)) (.cmp .eq (.bin .mod (.var 0) (.lit (.int 2))) (.lit (.int 1)))))) (.nil)))) }
def d_parted : FnR := { name := "parted", glob := true, ar := 4, N := ["grid", "top", "bottom", "more", "spacing", "multiple", "left"], body := .cons (.asg (.nm 4) (.call 25 (.cons (.fld (.var 0) 6) (.cons (.ix (.fld (.var 0) 1) (.var 3)) (.cons (.var 1) (.cons (.var 2) (.nil))))))) (.cons (.asg (.tp [5, 6]) (.bi .divmod (.cons (.var 1) (.cons (.bin .mul (.var 2) (.var 4)) (.nil))))) (.cons (.ret (.tup (.cons (.var 4) (.cons (.var 5) (.cons (.var 6) (.nil)))))) (.nil))) }
def d_is_whole : FnR := { name := "is_whole", glob := true, ar := 1, N := ["value"], body := .cons (.ret (.and_ (.bi .isInt (.cons (.var 0) (.nil))) (.not_ (.bi .isBool (.cons (.var 0) (.nil)))))) (.nil) }
def d_spacing_at : FnR := { name := "spacing_at", glob := true, ar := 4, N := ["base", "bound", "top", "bottom", "size", "limit", "spacing"], body := .cons (.par3 4 5 6 (.bi .abs (.cons (.var 2) (.nil))) (.bin .mul (.var 3) (.var 1)) (.lit (.int 1))) (.cons (.whl (.cmp .ge (.var 4) (.var 5)) (.cons (.par 5 6 (.bin .mul (.var 5) (.var 0)) (.bin .mul (.var 6) (.var 0))) (.nil))) (.cons (.ret (.var 6)) (.nil))) }
def d_Grid___contains : FnR := { name := "__contains__", glob := false, ar := 2, N := ["self", "value"], body := .cons (.ite (.or_ (.not_ (.call 24 (.cons (.var 1) (.nil)))) (.cmp .gt (.bi .abs (.cons (.var 1) (.nil))) (.ix (.fld (.var 0) 2) (.lit (.int 0))))) (.cons (.ret (.lit (.bl false))) (.nil)) (.nil)) (.cons (.ret (.cmp .eq (.bin .mod (.var 1) (.call 25 (.cons (.fld (.var 0) 6) (.cons (.ix (.fld (.var 0) 1) (.lit (.int 0))) (.cons (.var 1) (.cons (.lit (.int 1)) (.nil))))))) (.lit (.int 0)))) (.nil)) }
def d_Grid_check : FnR := { name := "check", glob := false, ar := 2, N := ["self", "value"], body := .cons (.ite (.cmp .nin (.var 1) (.var 0)) (.cons (.never) (.nil)) (.nil)) (.nil) }
def kl0 : Klass := { fields := [6, 5, 4, 3, 1, 2, 0], meths := [(7, 27)], props := [], init := 6, contains := some 26 }
def Z : Tabs := { nm := ["own_step", "own_bounds", "own_tops", "own_places", "own_reach", "own_figures", "own_base", "check"], fns := [d_law, d_law_right, d_law_pot, d_law_cells, d_law_is_pair_right, d_law_grid_a_number, d_Grid___init, d_law_of, d_law_take, d_law_grid_ladder, d_law_grid_drawn, d_split_sum, d_law_grid_has, d_law_grid_rounded, d_law_grid_power, d_law_grid_greatest, d_power, d_is_grid, d_rounded_to, d_law_grid_spacing, d_law_grid_more, d_is_integer, d_is_led_up, d_parted, d_is_whole, d_spacing_at, d_Grid___contains, d_Grid_check], cons := [("MOST_MORE", .int 3), ("NEAR", .str "near"), ("MOST_REACH", .int 60), ("MOST_PLACES", .int 30), ("MOST_BASE", .int 10), ("LEAST_BASE", .int 2), ("MOST_FIGURES", .int 30), ("ZERO", .str "zero"), ("UP", .str "up"), ("DOWN", .str "down")], cls := [⟨"Grid", kl0⟩] }
abbrev F_law : Nat := 0
abbrev F_law_right : Nat := 1
abbrev F_law_pot : Nat := 2
abbrev F_law_cells : Nat := 3
abbrev F_law_is_pair_right : Nat := 4
abbrev F_law_grid_a_number : Nat := 5
abbrev F_Grid___init : Nat := 6
abbrev F_law_of : Nat := 7
abbrev F_law_take : Nat := 8
abbrev F_law_grid_ladder : Nat := 9
abbrev F_law_grid_drawn : Nat := 10
abbrev F_split_sum : Nat := 11
abbrev F_law_grid_has : Nat := 12
abbrev F_law_grid_rounded : Nat := 13
abbrev F_law_grid_power : Nat := 14
abbrev F_law_grid_greatest : Nat := 15
abbrev F_power : Nat := 16
abbrev F_is_grid : Nat := 17
abbrev F_rounded_to : Nat := 18
abbrev F_law_grid_spacing : Nat := 19
abbrev F_law_grid_more : Nat := 20
abbrev F_is_integer : Nat := 21
abbrev F_is_led_up : Nat := 22
abbrev F_parted : Nat := 23
abbrev F_is_whole : Nat := 24
abbrev F_spacing_at : Nat := 25
abbrev F_Grid___contains : Nat := 26
abbrev F_Grid_check : Nat := 27
abbrev A_own_step : Nat := 0
abbrev A_own_bounds : Nat := 1
abbrev A_own_tops : Nat := 2
abbrev A_own_places : Nat := 3
abbrev A_own_reach : Nat := 4
abbrev A_own_figures : Nat := 5
abbrev A_own_base : Nat := 6
abbrev A_check : Nat := 7
abbrev C_Grid : Nat := 0
abbrev N_MOST_MORE : Nat := 0
abbrev N_NEAR : Nat := 1
abbrev N_MOST_REACH : Nat := 2
abbrev N_MOST_PLACES : Nat := 3
abbrev N_MOST_BASE : Nat := 4
abbrev N_LEAST_BASE : Nat := 5
abbrev N_MOST_FIGURES : Nat := 6
abbrev N_ZERO : Nat := 7
abbrev N_UP : Nat := 8
abbrev N_DOWN : Nat := 9
theorem con_MOST_MORE {fuel n : Nat} : (gOf Z fuel n).con 0 = some (.int 3) := rfl
theorem con_NEAR {fuel n : Nat} : (gOf Z fuel n).con 1 = some (.str "near") := rfl
theorem con_MOST_REACH {fuel n : Nat} : (gOf Z fuel n).con 2 = some (.int 60) := rfl
theorem con_MOST_PLACES {fuel n : Nat} : (gOf Z fuel n).con 3 = some (.int 30) := rfl
theorem con_MOST_BASE {fuel n : Nat} : (gOf Z fuel n).con 4 = some (.int 10) := rfl
theorem con_LEAST_BASE {fuel n : Nat} : (gOf Z fuel n).con 5 = some (.int 2) := rfl
theorem con_MOST_FIGURES {fuel n : Nat} : (gOf Z fuel n).con 6 = some (.int 30) := rfl
theorem con_ZERO {fuel n : Nat} : (gOf Z fuel n).con 7 = some (.str "zero") := rfl
theorem con_UP {fuel n : Nat} : (gOf Z fuel n).con 8 = some (.str "up") := rfl
theorem con_DOWN {fuel n : Nat} : (gOf Z fuel n).con 9 = some (.str "down") := rfl
theorem cls_Grid : Z.kl 0 = some kl0 := rfl
--ZS con_MOST_MORE, con_NEAR, con_MOST_REACH, con_MOST_PLACES, con_MOST_BASE, con_LEAST_BASE, con_MOST_FIGURES, con_ZERO, con_UP, con_DOWN, cls_Grid, kl0, A_own_step, A_own_bounds, A_own_tops, A_own_places, A_own_reach, A_own_figures, A_own_base, A_check, C_Grid
def src (i : Nat) : Stmt := PySem.Challenge.pw_roundedsteps_k02_whole_sums_and_what_is.main.body.getD i (.Pass ⟨0, 0, 0, 0⟩)
abbrev s0 : Stmt := src 47
theorem t0 : txtC Z s0 d_law = true := by decide +kernel
abbrev s1 : Stmt := src 46
theorem t1 : txtC Z s1 d_law_right = true := by decide +kernel
abbrev s2 : Stmt := src 32
theorem t2 : txtC Z s2 d_law_pot = true := by decide +kernel
abbrev s3 : Stmt := src 44
theorem t3 : txtC Z s3 d_law_cells = true := by decide +kernel
abbrev s4 : Stmt := src 45
theorem t4 : txtC Z s4 d_law_is_pair_right = true := by decide +kernel
abbrev s5 : Stmt := src 43
theorem t5 : txtC Z s5 d_law_grid_a_number = true := by decide +kernel
abbrev s6 : Stmt := inClass (src 21) 0
theorem t6 : txtC Z s6 d_Grid___init = true := by decide +kernel
abbrev s7 : Stmt := src 40
theorem t7 : txtC Z s7 d_law_of = true := by decide +kernel
abbrev s8 : Stmt := src 33
theorem t8 : txtC Z s8 d_law_take = true := by decide +kernel
abbrev s9 : Stmt := src 42
theorem t9 : txtC Z s9 d_law_grid_ladder = true := by decide +kernel
abbrev s10 : Stmt := src 41
theorem t10 : txtC Z s10 d_law_grid_drawn = true := by decide +kernel
abbrev s11 : Stmt := src 30
theorem t11 : txtC Z s11 d_split_sum = true := by decide +kernel
abbrev s12 : Stmt := src 39
theorem t12 : txtC Z s12 d_law_grid_has = true := by decide +kernel
abbrev s13 : Stmt := src 38
theorem t13 : txtC Z s13 d_law_grid_rounded = true := by decide +kernel
abbrev s14 : Stmt := src 35
theorem t14 : txtC Z s14 d_law_grid_power = true := by decide +kernel
abbrev s15 : Stmt := src 37
theorem t15 : txtC Z s15 d_law_grid_greatest = true := by decide +kernel
abbrev s16 : Stmt := src 11
theorem t16 : txtC Z s16 d_power = true := by decide +kernel
abbrev s17 : Stmt := src 20
theorem t17 : txtC Z s17 d_is_grid = true := by decide +kernel
abbrev s18 : Stmt := src 29
theorem t18 : txtC Z s18 d_rounded_to = true := by decide +kernel
abbrev s19 : Stmt := src 36
theorem t19 : txtC Z s19 d_law_grid_spacing = true := by decide +kernel
abbrev s20 : Stmt := src 34
theorem t20 : txtC Z s20 d_law_grid_more = true := by decide +kernel
abbrev s21 : Stmt := src 3
theorem t21 : txtC Z s21 d_is_integer = true := by decide +kernel
abbrev s22 : Stmt := src 28
theorem t22 : txtC Z s22 d_is_led_up = true := by decide +kernel
abbrev s23 : Stmt := src 27
theorem t23 : txtC Z s23 d_parted = true := by decide +kernel
abbrev s24 : Stmt := src 2
theorem t24 : txtC Z s24 d_is_whole = true := by decide +kernel
abbrev s25 : Stmt := src 12
theorem t25 : txtC Z s25 d_spacing_at = true := by decide +kernel
abbrev s26 : Stmt := inClass (src 21) 6
theorem t26 : txtC Z s26 d_Grid___contains = true := by decide +kernel
abbrev s27 : Stmt := inClass (src 21) 8
theorem t27 : txtC Z s27 d_Grid_check = true := by decide +kernel
def st (i : Nat) : Stmt := [s0, s1, s2, s3, s4, s5, s6, s7, s8, s9, s10, s11, s12, s13, s14, s15, s16, s17, s18, s19, s20, s21, s22, s23, s24, s25, s26, s27].getD i (.Pass ⟨0, 0, 0, 0⟩)
theorem txts : ∀ (f : Nat) (r : FnR), Z.fns[f]? = some r → Txt Z (st f) r := fun f r h => EachFrom.of (p := fun i x => Txt Z (st i) x) (show EachFrom _ 0 Z.fns from ⟨txt_of t0, txt_of t1, txt_of t2, txt_of t3, txt_of t4, txt_of t5, txt_of t6, txt_of t7, txt_of t8, txt_of t9, txt_of t10, txt_of t11, txt_of t12, txt_of t13, txt_of t14, txt_of t15, txt_of t16, txt_of t17, txt_of t18, txt_of t19, txt_of t20, txt_of t21, txt_of t22, txt_of t23, txt_of t24, txt_of t25, txt_of t26, txt_of t27, trivial⟩) h
theorem has {K : PySem.W.Frag} {h : Heap} {mg : Str → Option Value} {fa : Addr} (X : K.In h) (G : h.Ns mainGlobals mg) (hfa : mg "law" = some (.ref fa)) {C0 : Addr} {a0 : Addr} {a1 : Addr} {a2 : Addr} {a3 : Addr} {a4 : Addr} {a5 : Addr} {a6 : Addr} {a7 : Addr} {a8 : Addr} {a9 : Addr} {a10 : Addr} {a11 : Addr} {a12 : Addr} {a13 : Addr} {a14 : Addr} {a15 : Addr} {a16 : Addr} {a17 : Addr} {a18 : Addr} {a19 : Addr} {a20 : Addr} {a21 : Addr} {a22 : Addr} {a23 : Addr} {a24 : Addr} {a25 : Addr} {a26 : Addr} {a27 : Addr} {w0 : Nat} {w1 : Nat} {w2 : Nat} {w3 : Nat} {w4 : Nat} {w5 : Nat} {w6 : Nat} {w7 : Nat} {w8 : Nat} {w9 : Nat} {oc0 kV0 dc0 pm0 cd0 ct0 : Value} {od0 an0 : Option Addr} {sl0 : Array (Option Value)} {oc1 kV1 dc1 pm1 cd1 ct1 : Value} {od1 an1 : Option Addr} {sl1 : Array (Option Value)} {oc2 kV2 dc2 pm2 cd2 ct2 : Value} {od2 an2 : Option Addr} {sl2 : Array (Option Value)} {oc3 kV3 dc3 pm3 cd3 ct3 : Value} {od3 an3 : Option Addr} {sl3 : Array (Option Value)} {oc4 kV4 dc4 pm4 cd4 ct4 : Value} {od4 an4 : Option Addr} {sl4 : Array (Option Value)} {oc5 kV5 dc5 pm5 cd5 ct5 : Value} {od5 an5 : Option Addr} {sl5 : Array (Option Value)} {oc6 kV6 dc6 pm6 cd6 ct6 : Value} {od6 an6 : Option Addr} {sl6 : Array (Option Value)} {oc7 kV7 dc7 pm7 cd7 ct7 : Value} {od7 an7 : Option Addr} {sl7 : Array (Option Value)} {oc8 kV8 dc8 pm8 cd8 ct8 : Value} {od8 an8 : Option Addr} {sl8 : Array (Option Value)} {oc9 kV9 dc9 pm9 cd9 ct9 : Value} {od9 an9 : Option Addr} {sl9 : Array (Option Value)} {oc10 kV10 dc10 pm10 cd10 ct10 : Value} {od10 an10 : Option Addr} {sl10 : Array (Option Value)} {oc11 kV11 dc11 pm11 cd11 ct11 : Value} {od11 an11 : Option Addr} {sl11 : Array (Option Value)} {oc12 kV12 dc12 pm12 cd12 ct12 : Value} {od12 an12 : Option Addr} {sl12 : Array (Option Value)} {oc13 kV13 dc13 pm13 cd13 ct13 : Value} {od13 an13 : Option Addr} {sl13 : Array (Option Value)} {oc14 kV14 dc14 pm14 cd14 ct14 : Value} {od14 an14 : Option Addr} {sl14 : Array (Option Value)} {oc15 kV15 dc15 pm15 cd15 ct15 : Value} {od15 an15 : Option Addr} {sl15 : Array (Option Value)} {oc16 kV16 dc16 pm16 cd16 ct16 : Value} {od16 an16 : Option Addr} {sl16 : Array (Option Value)} {oc17 kV17 dc17 pm17 cd17 ct17 : Value} {od17 an17 : Option Addr} {sl17 : Array (Option Value)} {oc18 kV18 dc18 pm18 cd18 ct18 : Value} {od18 an18 : Option Addr} {sl18 : Array (Option Value)} {oc19 kV19 dc19 pm19 cd19 ct19 : Value} {od19 an19 : Option Addr} {sl19 : Array (Option Value)} {oc20 kV20 dc20 pm20 cd20 ct20 : Value} {od20 an20 : Option Addr} {sl20 : Array (Option Value)} {oc21 kV21 dc21 pm21 cd21 ct21 : Value} {od21 an21 : Option Addr} {sl21 : Array (Option Value)} {oc22 kV22 dc22 pm22 cd22 ct22 : Value} {od22 an22 : Option Addr} {sl22 : Array (Option Value)} {oc23 kV23 dc23 pm23 cd23 ct23 : Value} {od23 an23 : Option Addr} {sl23 : Array (Option Value)} {oc24 kV24 dc24 pm24 cd24 ct24 : Value} {od24 an24 : Option Addr} {sl24 : Array (Option Value)} {oc25 kV25 dc25 pm25 cd25 ct25 : Value} {od25 an25 : Option Addr} {sl25 : Array (Option Value)} {oc26 kV26 dc26 pm26 cd26 ct26 : Value} {od26 an26 : Option Addr} {sl26 : Array (Option Value)} {oc27 kV27 dc27 pm27 cd27 ct27 : Value} {od27 an27 : Option Addr} {sl27 : Array (Option Value)} 
  (nc0 : PySem.W.nsIn K mainGlobals "Grid" = some (some (.ref C0)))
  (pg0 : PySem.W.plainGet K C0 Str.empty = true)
  (hd0 : PySem.W.hasDictIn K C0 = true)
  (po0 : PySem.W.plainOver K C0 = true)
  (sa0 : PySem.W.findIn K (.ref C0) "__setattr__" = some (some (.builtin "object.__setattr__")))
  (mk0 : PySem.W.makesIn K C0 = true)
  (kc0 : PySem.W.keepIn K (.ref C0) = true)
  (n0_own_base : PySem.W.findIn K (.ref C0) "own_base" = some none)
  (n0_own_figures : PySem.W.findIn K (.ref C0) "own_figures" = some none)
  (n0_own_reach : PySem.W.findIn K (.ref C0) "own_reach" = some none)
  (n0_own_places : PySem.W.findIn K (.ref C0) "own_places" = some none)
  (n0_own_bounds : PySem.W.findIn K (.ref C0) "own_bounds" = some none)
  (n0_own_tops : PySem.W.findIn K (.ref C0) "own_tops" = some none)
  (n0_own_step : PySem.W.findIn K (.ref C0) "own_step" = some none)
  (g0 : PySem.W.nsIn K mainGlobals "law" = some (some (.ref a0)))
  (l0 : K.lookup a0 = some ⟨oc0, od0, .func (PySem.W.fnOf "law" "law" (defArgs s0) (defBody s0) (defScope s0) .none kV0 dc0 pm0 an0 cd0 ct0), sl0⟩)
  (c0 : PySem.W.codeIn K cd0 "law" = true)
  (k0 : PySem.W.keepIn K (.ref a0) = true)
  (g1 : PySem.W.nsIn K mainGlobals "_law_right" = some (some (.ref a1)))
  (l1 : K.lookup a1 = some ⟨oc1, od1, .func (PySem.W.fnOf "_law_right" "_law_right" (defArgs s1) (defBody s1) (defScope s1) .none kV1 dc1 pm1 an1 cd1 ct1), sl1⟩)
  (c1 : PySem.W.codeIn K cd1 "_law_right" = true)
  (k1 : PySem.W.keepIn K (.ref a1) = true)
  (g2 : PySem.W.nsIn K mainGlobals "_law_pot" = some (some (.ref a2)))
  (l2 : K.lookup a2 = some ⟨oc2, od2, .func (PySem.W.fnOf "_law_pot" "_law_pot" (defArgs s2) (defBody s2) (defScope s2) .none kV2 dc2 pm2 an2 cd2 ct2), sl2⟩)
  (c2 : PySem.W.codeIn K cd2 "_law_pot" = true)
  (k2 : PySem.W.keepIn K (.ref a2) = true)
  (g3 : PySem.W.nsIn K mainGlobals "_law_cells" = some (some (.ref a3)))
  (l3 : K.lookup a3 = some ⟨oc3, od3, .func (PySem.W.fnOf "_law_cells" "_law_cells" (defArgs s3) (defBody s3) (defScope s3) .none kV3 dc3 pm3 an3 cd3 ct3), sl3⟩)
  (c3 : PySem.W.codeIn K cd3 "_law_cells" = true)
  (k3 : PySem.W.keepIn K (.ref a3) = true)
  (g4 : PySem.W.nsIn K mainGlobals "_law_is_pair_right" = some (some (.ref a4)))
  (l4 : K.lookup a4 = some ⟨oc4, od4, .func (PySem.W.fnOf "_law_is_pair_right" "_law_is_pair_right" (defArgs s4) (defBody s4) (defScope s4) .none kV4 dc4 pm4 an4 cd4 ct4), sl4⟩)
  (c4 : PySem.W.codeIn K cd4 "_law_is_pair_right" = true)
  (k4 : PySem.W.keepIn K (.ref a4) = true)
  (g5 : PySem.W.nsIn K mainGlobals "_law_grid_a_number" = some (some (.ref a5)))
  (l5 : K.lookup a5 = some ⟨oc5, od5, .func (PySem.W.fnOf "_law_grid_a_number" "_law_grid_a_number" (defArgs s5) (defBody s5) (defScope s5) .none kV5 dc5 pm5 an5 cd5 ct5), sl5⟩)
  (c5 : PySem.W.codeIn K cd5 "_law_grid_a_number" = true)
  (k5 : PySem.W.keepIn K (.ref a5) = true)
  (m6 : PySem.W.findIn K (.ref C0) "__init__" = some (some (.ref a6)))
  (i6 : PySem.W.isFn K (.ref a6) = true)
  (l6 : K.lookup a6 = some ⟨oc6, od6, .func (PySem.W.fnOf "__init__" "Grid.__init__" (defArgs s6) (defBody s6) (defScope s6) .none kV6 dc6 pm6 an6 cd6 ct6), sl6⟩)
  (c6 : PySem.W.codeIn K cd6 "Grid.__init__" = true)
  (k6 : PySem.W.keepIn K (.ref a6) = true)
  (g7 : PySem.W.nsIn K mainGlobals "_law_of" = some (some (.ref a7)))
  (l7 : K.lookup a7 = some ⟨oc7, od7, .func (PySem.W.fnOf "_law_of" "_law_of" (defArgs s7) (defBody s7) (defScope s7) .none kV7 dc7 pm7 an7 cd7 ct7), sl7⟩)
  (c7 : PySem.W.codeIn K cd7 "_law_of" = true)
  (k7 : PySem.W.keepIn K (.ref a7) = true)
  (g8 : PySem.W.nsIn K mainGlobals "_law_take" = some (some (.ref a8)))
  (l8 : K.lookup a8 = some ⟨oc8, od8, .func (PySem.W.fnOf "_law_take" "_law_take" (defArgs s8) (defBody s8) (defScope s8) .none kV8 dc8 pm8 an8 cd8 ct8), sl8⟩)
  (c8 : PySem.W.codeIn K cd8 "_law_take" = true)
  (k8 : PySem.W.keepIn K (.ref a8) = true)
  (g9 : PySem.W.nsIn K mainGlobals "_law_grid_ladder" = some (some (.ref a9)))
  (l9 : K.lookup a9 = some ⟨oc9, od9, .func (PySem.W.fnOf "_law_grid_ladder" "_law_grid_ladder" (defArgs s9) (defBody s9) (defScope s9) .none kV9 dc9 pm9 an9 cd9 ct9), sl9⟩)
  (c9 : PySem.W.codeIn K cd9 "_law_grid_ladder" = true)
  (k9 : PySem.W.keepIn K (.ref a9) = true)
  (g10 : PySem.W.nsIn K mainGlobals "_law_grid_drawn" = some (some (.ref a10)))
  (l10 : K.lookup a10 = some ⟨oc10, od10, .func (PySem.W.fnOf "_law_grid_drawn" "_law_grid_drawn" (defArgs s10) (defBody s10) (defScope s10) .none kV10 dc10 pm10 an10 cd10 ct10), sl10⟩)
  (c10 : PySem.W.codeIn K cd10 "_law_grid_drawn" = true)
  (k10 : PySem.W.keepIn K (.ref a10) = true)
  (g11 : PySem.W.nsIn K mainGlobals "split_sum" = some (some (.ref a11)))
  (l11 : K.lookup a11 = some ⟨oc11, od11, .func (PySem.W.fnOf "split_sum" "split_sum" (defArgs s11) (defBody s11) (defScope s11) .none kV11 dc11 pm11 an11 cd11 ct11), sl11⟩)
  (c11 : PySem.W.codeIn K cd11 "split_sum" = true)
  (k11 : PySem.W.keepIn K (.ref a11) = true)
  (g12 : PySem.W.nsIn K mainGlobals "_law_grid_has" = some (some (.ref a12)))
  (l12 : K.lookup a12 = some ⟨oc12, od12, .func (PySem.W.fnOf "_law_grid_has" "_law_grid_has" (defArgs s12) (defBody s12) (defScope s12) .none kV12 dc12 pm12 an12 cd12 ct12), sl12⟩)
  (c12 : PySem.W.codeIn K cd12 "_law_grid_has" = true)
  (k12 : PySem.W.keepIn K (.ref a12) = true)
  (g13 : PySem.W.nsIn K mainGlobals "_law_grid_rounded" = some (some (.ref a13)))
  (l13 : K.lookup a13 = some ⟨oc13, od13, .func (PySem.W.fnOf "_law_grid_rounded" "_law_grid_rounded" (defArgs s13) (defBody s13) (defScope s13) .none kV13 dc13 pm13 an13 cd13 ct13), sl13⟩)
  (c13 : PySem.W.codeIn K cd13 "_law_grid_rounded" = true)
  (k13 : PySem.W.keepIn K (.ref a13) = true)
  (g14 : PySem.W.nsIn K mainGlobals "_law_grid_power" = some (some (.ref a14)))
  (l14 : K.lookup a14 = some ⟨oc14, od14, .func (PySem.W.fnOf "_law_grid_power" "_law_grid_power" (defArgs s14) (defBody s14) (defScope s14) .none kV14 dc14 pm14 an14 cd14 ct14), sl14⟩)
  (c14 : PySem.W.codeIn K cd14 "_law_grid_power" = true)
  (k14 : PySem.W.keepIn K (.ref a14) = true)
  (g15 : PySem.W.nsIn K mainGlobals "_law_grid_greatest" = some (some (.ref a15)))
  (l15 : K.lookup a15 = some ⟨oc15, od15, .func (PySem.W.fnOf "_law_grid_greatest" "_law_grid_greatest" (defArgs s15) (defBody s15) (defScope s15) .none kV15 dc15 pm15 an15 cd15 ct15), sl15⟩)
  (c15 : PySem.W.codeIn K cd15 "_law_grid_greatest" = true)
  (k15 : PySem.W.keepIn K (.ref a15) = true)
  (g16 : PySem.W.nsIn K mainGlobals "power" = some (some (.ref a16)))
  (l16 : K.lookup a16 = some ⟨oc16, od16, .func (PySem.W.fnOf "power" "power" (defArgs s16) (defBody s16) (defScope s16) .none kV16 dc16 pm16 an16 cd16 ct16), sl16⟩)
  (c16 : PySem.W.codeIn K cd16 "power" = true)
  (k16 : PySem.W.keepIn K (.ref a16) = true)
  (g17 : PySem.W.nsIn K mainGlobals "is_grid" = some (some (.ref a17)))
  (l17 : K.lookup a17 = some ⟨oc17, od17, .func (PySem.W.fnOf "is_grid" "is_grid" (defArgs s17) (defBody s17) (defScope s17) .none kV17 dc17 pm17 an17 cd17 ct17), sl17⟩)
  (c17 : PySem.W.codeIn K cd17 "is_grid" = true)
  (k17 : PySem.W.keepIn K (.ref a17) = true)
  (g18 : PySem.W.nsIn K mainGlobals "rounded_to" = some (some (.ref a18)))
  (l18 : K.lookup a18 = some ⟨oc18, od18, .func (PySem.W.fnOf "rounded_to" "rounded_to" (defArgs s18) (defBody s18) (defScope s18) .none kV18 dc18 pm18 an18 cd18 ct18), sl18⟩)
  (c18 : PySem.W.codeIn K cd18 "rounded_to" = true)
  (k18 : PySem.W.keepIn K (.ref a18) = true)
  (g19 : PySem.W.nsIn K mainGlobals "_law_grid_spacing" = some (some (.ref a19)))
  (l19 : K.lookup a19 = some ⟨oc19, od19, .func (PySem.W.fnOf "_law_grid_spacing" "_law_grid_spacing" (defArgs s19) (defBody s19) (defScope s19) .none kV19 dc19 pm19 an19 cd19 ct19), sl19⟩)
  (c19 : PySem.W.codeIn K cd19 "_law_grid_spacing" = true)
  (k19 : PySem.W.keepIn K (.ref a19) = true)
  (g20 : PySem.W.nsIn K mainGlobals "_law_grid_more" = some (some (.ref a20)))
  (l20 : K.lookup a20 = some ⟨oc20, od20, .func (PySem.W.fnOf "_law_grid_more" "_law_grid_more" (defArgs s20) (defBody s20) (defScope s20) .none kV20 dc20 pm20 an20 cd20 ct20), sl20⟩)
  (c20 : PySem.W.codeIn K cd20 "_law_grid_more" = true)
  (k20 : PySem.W.keepIn K (.ref a20) = true)
  (g21 : PySem.W.nsIn K mainGlobals "is_integer" = some (some (.ref a21)))
  (l21 : K.lookup a21 = some ⟨oc21, od21, .func (PySem.W.fnOf "is_integer" "is_integer" (defArgs s21) (defBody s21) (defScope s21) .none kV21 dc21 pm21 an21 cd21 ct21), sl21⟩)
  (c21 : PySem.W.codeIn K cd21 "is_integer" = true)
  (k21 : PySem.W.keepIn K (.ref a21) = true)
  (g22 : PySem.W.nsIn K mainGlobals "is_led_up" = some (some (.ref a22)))
  (l22 : K.lookup a22 = some ⟨oc22, od22, .func (PySem.W.fnOf "is_led_up" "is_led_up" (defArgs s22) (defBody s22) (defScope s22) .none kV22 dc22 pm22 an22 cd22 ct22), sl22⟩)
  (c22 : PySem.W.codeIn K cd22 "is_led_up" = true)
  (k22 : PySem.W.keepIn K (.ref a22) = true)
  (g23 : PySem.W.nsIn K mainGlobals "parted" = some (some (.ref a23)))
  (l23 : K.lookup a23 = some ⟨oc23, od23, .func (PySem.W.fnOf "parted" "parted" (defArgs s23) (defBody s23) (defScope s23) .none kV23 dc23 pm23 an23 cd23 ct23), sl23⟩)
  (c23 : PySem.W.codeIn K cd23 "parted" = true)
  (k23 : PySem.W.keepIn K (.ref a23) = true)
  (g24 : PySem.W.nsIn K mainGlobals "is_whole" = some (some (.ref a24)))
  (l24 : K.lookup a24 = some ⟨oc24, od24, .func (PySem.W.fnOf "is_whole" "is_whole" (defArgs s24) (defBody s24) (defScope s24) .none kV24 dc24 pm24 an24 cd24 ct24), sl24⟩)
  (c24 : PySem.W.codeIn K cd24 "is_whole" = true)
  (k24 : PySem.W.keepIn K (.ref a24) = true)
  (g25 : PySem.W.nsIn K mainGlobals "spacing_at" = some (some (.ref a25)))
  (l25 : K.lookup a25 = some ⟨oc25, od25, .func (PySem.W.fnOf "spacing_at" "spacing_at" (defArgs s25) (defBody s25) (defScope s25) .none kV25 dc25 pm25 an25 cd25 ct25), sl25⟩)
  (c25 : PySem.W.codeIn K cd25 "spacing_at" = true)
  (k25 : PySem.W.keepIn K (.ref a25) = true)
  (m26 : PySem.W.findIn K (.ref C0) "__contains__" = some (some (.ref a26)))
  (i26 : PySem.W.isFn K (.ref a26) = true)
  (l26 : K.lookup a26 = some ⟨oc26, od26, .func (PySem.W.fnOf "__contains__" "Grid.__contains__" (defArgs s26) (defBody s26) (defScope s26) .none kV26 dc26 pm26 an26 cd26 ct26), sl26⟩)
  (c26 : PySem.W.codeIn K cd26 "Grid.__contains__" = true)
  (k26 : PySem.W.keepIn K (.ref a26) = true)
  (m27 : PySem.W.findIn K (.ref C0) "check" = some (some (.ref a27)))
  (i27 : PySem.W.isFn K (.ref a27) = true)
  (l27 : K.lookup a27 = some ⟨oc27, od27, .func (PySem.W.fnOf "check" "Grid.check" (defArgs s27) (defBody s27) (defScope s27) .none kV27 dc27 pm27 an27 cd27 ct27), sl27⟩)
  (c27 : PySem.W.codeIn K cd27 "Grid.check" = true)
  (k27 : PySem.W.keepIn K (.ref a27) = true)
  (z_abs : PySem.W.nsIn K mainGlobals "abs" = some none)
  (z_max : PySem.W.nsIn K mainGlobals "max" = some none)
  (z_min : PySem.W.nsIn K mainGlobals "min" = some none)
  (z_int : PySem.W.nsIn K mainGlobals "int" = some none)
  (z_bool : PySem.W.nsIn K mainGlobals "bool" = some none)
  (z_str : PySem.W.nsIn K mainGlobals "str" = some none)
  (z_divmod : PySem.W.nsIn K mainGlobals "divmod" = some none)
  (z_repr : PySem.W.nsIn K mainGlobals "repr" = some none)
  (z_isinstance : PySem.W.nsIn K mainGlobals "isinstance" = some none)
  (z_all : PySem.W.nsIn K mainGlobals "all" = some none)
  (z_any : PySem.W.nsIn K mainGlobals "any" = some none)
  (z_sum : PySem.W.nsIn K mainGlobals "sum" = some none)
  (z_len : PySem.W.nsIn K mainGlobals "len" = some none)
  (z_tuple : PySem.W.nsIn K mainGlobals "tuple" = some none)
  (z_list : PySem.W.nsIn K mainGlobals "list" = some none)
  (z_sorted : PySem.W.nsIn K mainGlobals "sorted" = some none)
  (z_range : PySem.W.nsIn K mainGlobals "range" = some none)
  (z_enumerate : PySem.W.nsIn K mainGlobals "enumerate" = some none)
  (z_zip : PySem.W.nsIn K mainGlobals "zip" = some none)
  (v0 : PySem.W.nsIn K mainGlobals "MOST_MORE" = some (some (.int 3 w0)))
  (v1 : PySem.W.nsIn K mainGlobals "NEAR" = some (some (.str "near" w1)))
  (v2 : PySem.W.nsIn K mainGlobals "MOST_REACH" = some (some (.int 60 w2)))
  (v3 : PySem.W.nsIn K mainGlobals "MOST_PLACES" = some (some (.int 30 w3)))
  (v4 : PySem.W.nsIn K mainGlobals "MOST_BASE" = some (some (.int 10 w4)))
  (v5 : PySem.W.nsIn K mainGlobals "LEAST_BASE" = some (some (.int 2 w5)))
  (v6 : PySem.W.nsIn K mainGlobals "MOST_FIGURES" = some (some (.int 30 w6)))
  (v7 : PySem.W.nsIn K mainGlobals "ZERO" = some (some (.str "zero" w7)))
  (v8 : PySem.W.nsIn K mainGlobals "UP" = some (some (.str "up" w8)))
  (v9 : PySem.W.nsIn K mainGlobals "DOWN" = some (some (.str "down" w9))) :
  ∃ L : Pla, L.fa 0 = fa ∧ Has Z L K mg st := by
  have F0 := fun_mk (st := s0) l0 c0 k0
  have b0 := F0.binds (ps := ["script"]) fun _ _ _ _ _ _ us hl => match us, hl with | [_], _ => rfl
  have F1 := fun_mk (st := s1) l1 c1 k1
  have b1 := F1.binds (ps := ["pot"]) fun _ _ _ _ _ _ us hl => match us, hl with | [_], _ => rfl
  have F2 := fun_mk (st := s2) l2 c2 k2
  have b2 := F2.binds (ps := ["script", "place"]) fun _ _ _ _ _ _ us hl => match us, hl with | [_, _], _ => rfl
  have F3 := fun_mk (st := s3) l3 c3 k3
  have b3 := F3.binds (ps := ["script", "most"]) fun _ _ _ _ _ _ us hl => match us, hl with | [_, _], _ => rfl
  have F4 := fun_mk (st := s4) l4 c4 k4
  have b4 := F4.binds (ps := ["made", "grid", "one", "other"]) fun _ _ _ _ _ _ us hl => match us, hl with | [_, _, _, _], _ => rfl
  have F5 := fun_mk (st := s5) l5 c5 k5
  have b5 := F5.binds (ps := ["pot", "grid"]) fun _ _ _ _ _ _ us hl => match us, hl with | [_, _], _ => rfl
  have F6 := fun_mk (st := s6) l6 c6 k6
  have b6 := F6.binds (ps := ["self", "base", "figures", "reach", "places"]) fun _ _ _ _ _ _ us hl => match us, hl with | [_, _, _, _, _], _ => rfl
  have F7 := fun_mk (st := s7) l7 c7 k7
  have b7 := F7.binds (ps := ["pot", "some"]) fun _ _ _ _ _ _ us hl => match us, hl with | [_, _], _ => rfl
  have F8 := fun_mk (st := s8) l8 c8 k8
  have b8 := F8.binds (ps := ["pot", "upto"]) fun _ _ _ _ _ _ us hl => match us, hl with | [_, _], _ => rfl
  have F9 := fun_mk (st := s9) l9 c9 k9
  have b9 := F9.binds (ps := ["grid"]) fun _ _ _ _ _ _ us hl => match us, hl with | [_], _ => rfl
  have F10 := fun_mk (st := s10) l10 c10 k10
  have b10 := F10.binds (ps := ["pot"]) fun _ _ _ _ _ _ us hl => match us, hl with | [_], _ => rfl
  have F11 := fun_mk (st := s11) l11 c11 k11
  have b11 := F11.binds (ps := ["grid", "one", "other"]) fun _ _ _ _ _ _ us hl => match us, hl with | [_, _, _], _ => rfl
  have F12 := fun_mk (st := s12) l12 c12 k12
  have b12 := F12.binds (ps := ["grid", "number"]) fun _ _ _ _ _ _ us hl => match us, hl with | [_, _], _ => rfl
  have F13 := fun_mk (st := s13) l13 c13 k13
  have b13 := F13.binds (ps := ["grid", "top", "bottom", "way", "more"]) fun _ _ _ _ _ _ us hl => match us, hl with | [_, _, _, _, _], _ => rfl
  have F14 := fun_mk (st := s14) l14 c14 k14
  have b14 := F14.binds (ps := ["base", "many"]) fun _ _ _ _ _ _ us hl => match us, hl with | [_, _], _ => rfl
  have F15 := fun_mk (st := s15) l15 c15 k15
  have b15 := F15.binds (ps := ["grid"]) fun _ _ _ _ _ _ us hl => match us, hl with | [_], _ => rfl
  have F16 := fun_mk (st := s16) l16 c16 k16
  have b16 := F16.binds (ps := ["base", "many"]) fun _ _ _ _ _ _ us hl => match us, hl with | [_, _], _ => rfl
  have F17 := fun_mk (st := s17) l17 c17 k17
  have b17 := F17.binds (ps := ["base", "figures", "reach", "places"]) fun _ _ _ _ _ _ us hl => match us, hl with | [_, _, _, _], _ => rfl
  have F18 := fun_mk (st := s18) l18 c18 k18
  have b18 := F18.binds (ps := ["grid", "top", "bottom", "way", "more"]) fun _ _ _ _ _ _ us hl => match us, hl with | [_, _, _, _, _], _ => rfl
  have F19 := fun_mk (st := s19) l19 c19 k19
  have b19 := F19.binds (ps := ["grid", "top", "bottom"]) fun _ _ _ _ _ _ us hl => match us, hl with | [_, _, _], _ => rfl
  have F20 := fun_mk (st := s20) l20 c20 k20
  have b20 := F20.binds (ps := ["grid", "more"]) fun _ _ _ _ _ _ us hl => match us, hl with | [_, _], _ => rfl
  have F21 := fun_mk (st := s21) l21 c21 k21
  have b21 := F21.binds (ps := ["value", "low", "high"]) fun _ _ _ _ _ _ us hl => match us, hl with | [_, _, _], _ => rfl
  have F22 := fun_mk (st := s22) l22 c22 k22
  have b22 := F22.binds (ps := ["multiple", "left", "whole", "top", "way"]) fun _ _ _ _ _ _ us hl => match us, hl with | [_, _, _, _, _], _ => rfl
  have F23 := fun_mk (st := s23) l23 c23 k23
  have b23 := F23.binds (ps := ["grid", "top", "bottom", "more"]) fun _ _ _ _ _ _ us hl => match us, hl with | [_, _, _, _], _ => rfl
  have F24 := fun_mk (st := s24) l24 c24 k24
  have b24 := F24.binds (ps := ["value"]) fun _ _ _ _ _ _ us hl => match us, hl with | [_], _ => rfl
  have F25 := fun_mk (st := s25) l25 c25 k25
  have b25 := F25.binds (ps := ["base", "bound", "top", "bottom"]) fun _ _ _ _ _ _ us hl => match us, hl with | [_, _, _, _], _ => rfl
  have F26 := fun_mk (st := s26) l26 c26 k26
  have b26 := F26.binds (ps := ["self", "value"]) fun _ _ _ _ _ _ us hl => match us, hl with | [_, _], _ => rfl
  have F27 := fun_mk (st := s27) l27 c27 k27
  have b27 := F27.binds (ps := ["self", "value"]) fun _ _ _ _ _ _ us hl => match us, hl with | [_, _], _ => rfl
  have K0 : L2.Cls K C0 := ⟨pg0, hd0, po0, sa0⟩
  have eA : a0 = fa := by have := hfa.symm.trans (PySem.W.mg_of X G g0); cases this; rfl
  refine ⟨⟨fun i => [a0, a1, a2, a3, a4, a5, a6, a7, a8, a9, a10, a11, a12, a13, a14, a15, a16, a17, a18, a19, a20, a21, a22, a23, a24, a25, a26, a27].getD i 0, fun i => [PySem.W.fnOf "law" "law" (defArgs s0) (defBody s0) (defScope s0) .none kV0 dc0 pm0 an0 cd0 ct0, PySem.W.fnOf "_law_right" "_law_right" (defArgs s1) (defBody s1) (defScope s1) .none kV1 dc1 pm1 an1 cd1 ct1, PySem.W.fnOf "_law_pot" "_law_pot" (defArgs s2) (defBody s2) (defScope s2) .none kV2 dc2 pm2 an2 cd2 ct2, PySem.W.fnOf "_law_cells" "_law_cells" (defArgs s3) (defBody s3) (defScope s3) .none kV3 dc3 pm3 an3 cd3 ct3, PySem.W.fnOf "_law_is_pair_right" "_law_is_pair_right" (defArgs s4) (defBody s4) (defScope s4) .none kV4 dc4 pm4 an4 cd4 ct4, PySem.W.fnOf "_law_grid_a_number" "_law_grid_a_number" (defArgs s5) (defBody s5) (defScope s5) .none kV5 dc5 pm5 an5 cd5 ct5, PySem.W.fnOf "__init__" "Grid.__init__" (defArgs s6) (defBody s6) (defScope s6) .none kV6 dc6 pm6 an6 cd6 ct6, PySem.W.fnOf "_law_of" "_law_of" (defArgs s7) (defBody s7) (defScope s7) .none kV7 dc7 pm7 an7 cd7 ct7, PySem.W.fnOf "_law_take" "_law_take" (defArgs s8) (defBody s8) (defScope s8) .none kV8 dc8 pm8 an8 cd8 ct8, PySem.W.fnOf "_law_grid_ladder" "_law_grid_ladder" (defArgs s9) (defBody s9) (defScope s9) .none kV9 dc9 pm9 an9 cd9 ct9, PySem.W.fnOf "_law_grid_drawn" "_law_grid_drawn" (defArgs s10) (defBody s10) (defScope s10) .none kV10 dc10 pm10 an10 cd10 ct10, PySem.W.fnOf "split_sum" "split_sum" (defArgs s11) (defBody s11) (defScope s11) .none kV11 dc11 pm11 an11 cd11 ct11, PySem.W.fnOf "_law_grid_has" "_law_grid_has" (defArgs s12) (defBody s12) (defScope s12) .none kV12 dc12 pm12 an12 cd12 ct12, PySem.W.fnOf "_law_grid_rounded" "_law_grid_rounded" (defArgs s13) (defBody s13) (defScope s13) .none kV13 dc13 pm13 an13 cd13 ct13, PySem.W.fnOf "_law_grid_power" "_law_grid_power" (defArgs s14) (defBody s14) (defScope s14) .none kV14 dc14 pm14 an14 cd14 ct14, PySem.W.fnOf "_law_grid_greatest" "_law_grid_greatest" (defArgs s15) (defBody s15) (defScope s15) .none kV15 dc15 pm15 an15 cd15 ct15, PySem.W.fnOf "power" "power" (defArgs s16) (defBody s16) (defScope s16) .none kV16 dc16 pm16 an16 cd16 ct16, PySem.W.fnOf "is_grid" "is_grid" (defArgs s17) (defBody s17) (defScope s17) .none kV17 dc17 pm17 an17 cd17 ct17, PySem.W.fnOf "rounded_to" "rounded_to" (defArgs s18) (defBody s18) (defScope s18) .none kV18 dc18 pm18 an18 cd18 ct18, PySem.W.fnOf "_law_grid_spacing" "_law_grid_spacing" (defArgs s19) (defBody s19) (defScope s19) .none kV19 dc19 pm19 an19 cd19 ct19, PySem.W.fnOf "_law_grid_more" "_law_grid_more" (defArgs s20) (defBody s20) (defScope s20) .none kV20 dc20 pm20 an20 cd20 ct20, PySem.W.fnOf "is_integer" "is_integer" (defArgs s21) (defBody s21) (defScope s21) .none kV21 dc21 pm21 an21 cd21 ct21, PySem.W.fnOf "is_led_up" "is_led_up" (defArgs s22) (defBody s22) (defScope s22) .none kV22 dc22 pm22 an22 cd22 ct22, PySem.W.fnOf "parted" "parted" (defArgs s23) (defBody s23) (defScope s23) .none kV23 dc23 pm23 an23 cd23 ct23, PySem.W.fnOf "is_whole" "is_whole" (defArgs s24) (defBody s24) (defScope s24) .none kV24 dc24 pm24 an24 cd24 ct24, PySem.W.fnOf "spacing_at" "spacing_at" (defArgs s25) (defBody s25) (defScope s25) .none kV25 dc25 pm25 an25 cd25 ct25, PySem.W.fnOf "__contains__" "Grid.__contains__" (defArgs s26) (defBody s26) (defScope s26) .none kV26 dc26 pm26 an26 cd26 ct26, PySem.W.fnOf "check" "Grid.check" (defArgs s27) (defBody s27) (defScope s27) .none kV27 dc27 pm27 an27 cd27 ct27].getD i (PySem.W.fnOf "law" "law" (defArgs s0) (defBody s0) (defScope s0) .none kV0 dc0 pm0 an0 cd0 ct0), fun i => [C0].getD i 0⟩, eA, ⟨?bind, ?glob, ?con, ?cname, ?ccls, ?cmk, ?cfld, ?cmeth, ?cprop, ?cin, ?bi⟩, by decide +kernel, txts, ?fn⟩
  case bind => exact fun f r hr => EachFrom.of (p := fun i (x : FnR) => Binds K ([PySem.W.fnOf "law" "law" (defArgs s0) (defBody s0) (defScope s0) .none kV0 dc0 pm0 an0 cd0 ct0, PySem.W.fnOf "_law_right" "_law_right" (defArgs s1) (defBody s1) (defScope s1) .none kV1 dc1 pm1 an1 cd1 ct1, PySem.W.fnOf "_law_pot" "_law_pot" (defArgs s2) (defBody s2) (defScope s2) .none kV2 dc2 pm2 an2 cd2 ct2, PySem.W.fnOf "_law_cells" "_law_cells" (defArgs s3) (defBody s3) (defScope s3) .none kV3 dc3 pm3 an3 cd3 ct3, PySem.W.fnOf "_law_is_pair_right" "_law_is_pair_right" (defArgs s4) (defBody s4) (defScope s4) .none kV4 dc4 pm4 an4 cd4 ct4, PySem.W.fnOf "_law_grid_a_number" "_law_grid_a_number" (defArgs s5) (defBody s5) (defScope s5) .none kV5 dc5 pm5 an5 cd5 ct5, PySem.W.fnOf "__init__" "Grid.__init__" (defArgs s6) (defBody s6) (defScope s6) .none kV6 dc6 pm6 an6 cd6 ct6, PySem.W.fnOf "_law_of" "_law_of" (defArgs s7) (defBody s7) (defScope s7) .none kV7 dc7 pm7 an7 cd7 ct7, PySem.W.fnOf "_law_take" "_law_take" (defArgs s8) (defBody s8) (defScope s8) .none kV8 dc8 pm8 an8 cd8 ct8, PySem.W.fnOf "_law_grid_ladder" "_law_grid_ladder" (defArgs s9) (defBody s9) (defScope s9) .none kV9 dc9 pm9 an9 cd9 ct9, PySem.W.fnOf "_law_grid_drawn" "_law_grid_drawn" (defArgs s10) (defBody s10) (defScope s10) .none kV10 dc10 pm10 an10 cd10 ct10, PySem.W.fnOf "split_sum" "split_sum" (defArgs s11) (defBody s11) (defScope s11) .none kV11 dc11 pm11 an11 cd11 ct11, PySem.W.fnOf "_law_grid_has" "_law_grid_has" (defArgs s12) (defBody s12) (defScope s12) .none kV12 dc12 pm12 an12 cd12 ct12, PySem.W.fnOf "_law_grid_rounded" "_law_grid_rounded" (defArgs s13) (defBody s13) (defScope s13) .none kV13 dc13 pm13 an13 cd13 ct13, PySem.W.fnOf "_law_grid_power" "_law_grid_power" (defArgs s14) (defBody s14) (defScope s14) .none kV14 dc14 pm14 an14 cd14 ct14, PySem.W.fnOf "_law_grid_greatest" "_law_grid_greatest" (defArgs s15) (defBody s15) (defScope s15) .none kV15 dc15 pm15 an15 cd15 ct15, PySem.W.fnOf "power" "power" (defArgs s16) (defBody s16) (defScope s16) .none kV16 dc16 pm16 an16 cd16 ct16, PySem.W.fnOf "is_grid" "is_grid" (defArgs s17) (defBody s17) (defScope s17) .none kV17 dc17 pm17 an17 cd17 ct17, PySem.W.fnOf "rounded_to" "rounded_to" (defArgs s18) (defBody s18) (defScope s18) .none kV18 dc18 pm18 an18 cd18 ct18, PySem.W.fnOf "_law_grid_spacing" "_law_grid_spacing" (defArgs s19) (defBody s19) (defScope s19) .none kV19 dc19 pm19 an19 cd19 ct19, PySem.W.fnOf "_law_grid_more" "_law_grid_more" (defArgs s20) (defBody s20) (defScope s20) .none kV20 dc20 pm20 an20 cd20 ct20, PySem.W.fnOf "is_integer" "is_integer" (defArgs s21) (defBody s21) (defScope s21) .none kV21 dc21 pm21 an21 cd21 ct21, PySem.W.fnOf "is_led_up" "is_led_up" (defArgs s22) (defBody s22) (defScope s22) .none kV22 dc22 pm22 an22 cd22 ct22, PySem.W.fnOf "parted" "parted" (defArgs s23) (defBody s23) (defScope s23) .none kV23 dc23 pm23 an23 cd23 ct23, PySem.W.fnOf "is_whole" "is_whole" (defArgs s24) (defBody s24) (defScope s24) .none kV24 dc24 pm24 an24 cd24 ct24, PySem.W.fnOf "spacing_at" "spacing_at" (defArgs s25) (defBody s25) (defScope s25) .none kV25 dc25 pm25 an25 cd25 ct25, PySem.W.fnOf "__contains__" "Grid.__contains__" (defArgs s26) (defBody s26) (defScope s26) .none kV26 dc26 pm26 an26 cd26 ct26, PySem.W.fnOf "check" "Grid.check" (defArgs s27) (defBody s27) (defScope s27) .none kV27 dc27 pm27 an27 cd27 ct27].getD i (PySem.W.fnOf "law" "law" (defArgs s0) (defBody s0) (defScope s0) .none kV0 dc0 pm0 an0 cd0 ct0)) x.ps []) (show EachFrom _ 0 Z.fns from ⟨b0, b1, b2, b3, b4, b5, b6, b7, b8, b9, b10, b11, b12, b13, b14, b15, b16, b17, b18, b19, b20, b21, b22, b23, b24, b25, b26, b27, trivial⟩) hr
  case glob => exact fun f r hr => EachFrom.of (p := fun i (x : FnR) => x.glob = true → mg x.name = some (.ref ([a0, a1, a2, a3, a4, a5, a6, a7, a8, a9, a10, a11, a12, a13, a14, a15, a16, a17, a18, a19, a20, a21, a22, a23, a24, a25, a26, a27].getD i 0)) ∧ PySem.W.keepIn K (.ref ([a0, a1, a2, a3, a4, a5, a6, a7, a8, a9, a10, a11, a12, a13, a14, a15, a16, a17, a18, a19, a20, a21, a22, a23, a24, a25, a26, a27].getD i 0)) = true) (show EachFrom _ 0 Z.fns from ⟨fun _ => ⟨PySem.W.mg_of X G g0, k0⟩, fun _ => ⟨PySem.W.mg_of X G g1, k1⟩, fun _ => ⟨PySem.W.mg_of X G g2, k2⟩, fun _ => ⟨PySem.W.mg_of X G g3, k3⟩, fun _ => ⟨PySem.W.mg_of X G g4, k4⟩, fun _ => ⟨PySem.W.mg_of X G g5, k5⟩, fun z => (Bool.false_ne_true z).elim, fun _ => ⟨PySem.W.mg_of X G g7, k7⟩, fun _ => ⟨PySem.W.mg_of X G g8, k8⟩, fun _ => ⟨PySem.W.mg_of X G g9, k9⟩, fun _ => ⟨PySem.W.mg_of X G g10, k10⟩, fun _ => ⟨PySem.W.mg_of X G g11, k11⟩, fun _ => ⟨PySem.W.mg_of X G g12, k12⟩, fun _ => ⟨PySem.W.mg_of X G g13, k13⟩, fun _ => ⟨PySem.W.mg_of X G g14, k14⟩, fun _ => ⟨PySem.W.mg_of X G g15, k15⟩, fun _ => ⟨PySem.W.mg_of X G g16, k16⟩, fun _ => ⟨PySem.W.mg_of X G g17, k17⟩, fun _ => ⟨PySem.W.mg_of X G g18, k18⟩, fun _ => ⟨PySem.W.mg_of X G g19, k19⟩, fun _ => ⟨PySem.W.mg_of X G g20, k20⟩, fun _ => ⟨PySem.W.mg_of X G g21, k21⟩, fun _ => ⟨PySem.W.mg_of X G g22, k22⟩, fun _ => ⟨PySem.W.mg_of X G g23, k23⟩, fun _ => ⟨PySem.W.mg_of X G g24, k24⟩, fun _ => ⟨PySem.W.mg_of X G g25, k25⟩, fun z => (Bool.false_ne_true z).elim, fun z => (Bool.false_ne_true z).elim, trivial⟩) hr
  case con => exact fun k x d hr => EachFrom.of (p := fun _ (y : Str × D) => ∃ v u, mg y.1 = some u ∧ RelV v u ∧ ∀ ρ H, Rep K ρ H y.2 v) (show EachFrom _ 0 Z.cons from ⟨⟨.int 3, _, PySem.W.mg_of X G v0, ⟨_, rfl⟩, fun _ _ => .int _⟩, ⟨.str "near", _, PySem.W.mg_of X G v1, ⟨_, rfl⟩, fun _ _ => .str _⟩, ⟨.int 60, _, PySem.W.mg_of X G v2, ⟨_, rfl⟩, fun _ _ => .int _⟩, ⟨.int 30, _, PySem.W.mg_of X G v3, ⟨_, rfl⟩, fun _ _ => .int _⟩, ⟨.int 10, _, PySem.W.mg_of X G v4, ⟨_, rfl⟩, fun _ _ => .int _⟩, ⟨.int 2, _, PySem.W.mg_of X G v5, ⟨_, rfl⟩, fun _ _ => .int _⟩, ⟨.int 30, _, PySem.W.mg_of X G v6, ⟨_, rfl⟩, fun _ _ => .int _⟩, ⟨.str "zero", _, PySem.W.mg_of X G v7, ⟨_, rfl⟩, fun _ _ => .str _⟩, ⟨.str "up", _, PySem.W.mg_of X G v8, ⟨_, rfl⟩, fun _ _ => .str _⟩, ⟨.str "down", _, PySem.W.mg_of X G v9, ⟨_, rfl⟩, fun _ _ => .str _⟩, trivial⟩) (x := (x, d)) hr
  case cname => exact fun c r  hr => (EachFrom.of (p := fun i (r : ClsR) => mg r.name = some (.ref ([C0].getD i 0))) (show EachFrom _ 0 Z.cls from ⟨PySem.W.mg_of X G nc0, trivial⟩) hr) 
  case ccls => exact fun c r  hr => (EachFrom.of (p := fun i (r : ClsR) => L2.Cls K ([C0].getD i 0)) (show EachFrom _ 0 Z.cls from ⟨K0, trivial⟩) hr) 
  case cmk => exact fun c r  hr => (EachFrom.of (p := fun i (r : ClsR) => Mk K ([C0].getD i 0) ([a0, a1, a2, a3, a4, a5, a6, a7, a8, a9, a10, a11, a12, a13, a14, a15, a16, a17, a18, a19, a20, a21, a22, a23, a24, a25, a26, a27].getD r.k.init 0) ∧ (Z.fns[r.k.init]?).isSome = true) (show EachFrom _ 0 Z.cls from ⟨⟨⟨mk0, m6, i6, kc0⟩, rfl⟩, trivial⟩) hr) 
  case cfld => exact fun c r k y hr => (EachFrom.of (p := fun i (r : ClsR) => ∀ k y, r.k.fields.contains k = true → Z.nm[k]? = some y → NoAttr K ([C0].getD i 0) y) (show EachFrom _ 0 Z.cls from ⟨(fun k y hk hy => by
      have z : (k = 6) ∨ (k = 5) ∨ (k = 4) ∨ (k = 3) ∨ (k = 1) ∨ (k = 2) ∨ (k = 0) := by simpa [kl0] using hk
      rcases z with rfl | rfl | rfl | rfl | rfl | rfl | rfl
      · cases hy; exact n0_own_base
      · cases hy; exact n0_own_figures
      · cases hy; exact n0_own_reach
      · cases hy; exact n0_own_places
      · cases hy; exact n0_own_bounds
      · cases hy; exact n0_own_tops
      · cases hy; exact n0_own_step), trivial⟩) hr) k y
  case cmeth => exact fun c r k y f hr => (EachFrom.of (p := fun i (r : ClsR) => ∀ k y f, r.k.meths.lookup k = some f → Z.nm[k]? = some y → Meth K ([C0].getD i 0) y ([a0, a1, a2, a3, a4, a5, a6, a7, a8, a9, a10, a11, a12, a13, a14, a15, a16, a17, a18, a19, a20, a21, a22, a23, a24, a25, a26, a27].getD f 0) ∧ (Z.fns[f]?).isSome = true) (show EachFrom _ 0 Z.cls from ⟨(fun k y f hk hy => by
      have z : List.lookup k [(7, 27)] = some f := hk
      have z2 := mem_of_look z
      simp only [List.mem_cons, Prod.mk.injEq, List.not_mem_nil, or_false] at z2
      rcases z2 with ⟨rfl, rfl⟩
      · cases hy; exact ⟨⟨m27, i27, k27⟩, rfl⟩), trivial⟩) hr) k y f
  case cprop => exact fun c r k y f hr => (EachFrom.of (p := fun i (r : ClsR) => ∀ k y f, r.k.props.lookup k = some f → Z.nm[k]? = some y → (∃ p, PropOf K ([C0].getD i 0) y p ([a0, a1, a2, a3, a4, a5, a6, a7, a8, a9, a10, a11, a12, a13, a14, a15, a16, a17, a18, a19, a20, a21, a22, a23, a24, a25, a26, a27].getD f 0)) ∧ (Z.fns[f]?).isSome = true) (show EachFrom _ 0 Z.cls from ⟨(fun k y f hk hy => by cases (show (none : Option Nat) = some f from hk)), trivial⟩) hr) k y f
  case cin => exact fun c r f hr => (EachFrom.of (p := fun i (r : ClsR) => ∀ f, r.k.contains = some f → PySem.W.findIn K (.ref ([C0].getD i 0)) "__contains__" = some (some (.ref ([a0, a1, a2, a3, a4, a5, a6, a7, a8, a9, a10, a11, a12, a13, a14, a15, a16, a17, a18, a19, a20, a21, a22, a23, a24, a25, a26, a27].getD f 0))) ∧ PySem.W.isFn K (.ref ([a0, a1, a2, a3, a4, a5, a6, a7, a8, a9, a10, a11, a12, a13, a14, a15, a16, a17, a18, a19, a20, a21, a22, a23, a24, a25, a26, a27].getD f 0)) = true ∧ (Z.fns[f]?).isSome = true) (show EachFrom _ 0 Z.cls from ⟨(fun f hk => by cases (show some 26 = some f from hk); exact ⟨m26, i26, rfl⟩), trivial⟩) hr) f
  case bi =>
    intro x hx
    simp only [builtinNames, List.mem_cons, List.not_mem_nil, or_false] at hx
    rcases hx with rfl | rfl | rfl | rfl | rfl | rfl | rfl | rfl | rfl | rfl | rfl | rfl | rfl | rfl | rfl | rfl | rfl | rfl | rfl
    · exact PySem.W.mg_none_of X G z_abs
    · exact PySem.W.mg_none_of X G z_max
    · exact PySem.W.mg_none_of X G z_min
    · exact PySem.W.mg_none_of X G z_int
    · exact PySem.W.mg_none_of X G z_bool
    · exact PySem.W.mg_none_of X G z_str
    · exact PySem.W.mg_none_of X G z_divmod
    · exact PySem.W.mg_none_of X G z_repr
    · exact PySem.W.mg_none_of X G z_isinstance
    · exact PySem.W.mg_none_of X G z_all
    · exact PySem.W.mg_none_of X G z_any
    · exact PySem.W.mg_none_of X G z_sum
    · exact PySem.W.mg_none_of X G z_len
    · exact PySem.W.mg_none_of X G z_tuple
    · exact PySem.W.mg_none_of X G z_list
    · exact PySem.W.mg_none_of X G z_sorted
    · exact PySem.W.mg_none_of X G z_range
    · exact PySem.W.mg_none_of X G z_enumerate
    · exact PySem.W.mg_none_of X G z_zip
  case fn => exact fun f r hr => EachFrom.of (p := fun i (x : FnR) => ∃ x qual, Fun K x qual (st i) ([a0, a1, a2, a3, a4, a5, a6, a7, a8, a9, a10, a11, a12, a13, a14, a15, a16, a17, a18, a19, a20, a21, a22, a23, a24, a25, a26, a27].getD i 0) ([PySem.W.fnOf "law" "law" (defArgs s0) (defBody s0) (defScope s0) .none kV0 dc0 pm0 an0 cd0 ct0, PySem.W.fnOf "_law_right" "_law_right" (defArgs s1) (defBody s1) (defScope s1) .none kV1 dc1 pm1 an1 cd1 ct1, PySem.W.fnOf "_law_pot" "_law_pot" (defArgs s2) (defBody s2) (defScope s2) .none kV2 dc2 pm2 an2 cd2 ct2, PySem.W.fnOf "_law_cells" "_law_cells" (defArgs s3) (defBody s3) (defScope s3) .none kV3 dc3 pm3 an3 cd3 ct3, PySem.W.fnOf "_law_is_pair_right" "_law_is_pair_right" (defArgs s4) (defBody s4) (defScope s4) .none kV4 dc4 pm4 an4 cd4 ct4, PySem.W.fnOf "_law_grid_a_number" "_law_grid_a_number" (defArgs s5) (defBody s5) (defScope s5) .none kV5 dc5 pm5 an5 cd5 ct5, PySem.W.fnOf "__init__" "Grid.__init__" (defArgs s6) (defBody s6) (defScope s6) .none kV6 dc6 pm6 an6 cd6 ct6, PySem.W.fnOf "_law_of" "_law_of" (defArgs s7) (defBody s7) (defScope s7) .none kV7 dc7 pm7 an7 cd7 ct7, PySem.W.fnOf "_law_take" "_law_take" (defArgs s8) (defBody s8) (defScope s8) .none kV8 dc8 pm8 an8 cd8 ct8, PySem.W.fnOf "_law_grid_ladder" "_law_grid_ladder" (defArgs s9) (defBody s9) (defScope s9) .none kV9 dc9 pm9 an9 cd9 ct9, PySem.W.fnOf "_law_grid_drawn" "_law_grid_drawn" (defArgs s10) (defBody s10) (defScope s10) .none kV10 dc10 pm10 an10 cd10 ct10, PySem.W.fnOf "split_sum" "split_sum" (defArgs s11) (defBody s11) (defScope s11) .none kV11 dc11 pm11 an11 cd11 ct11, PySem.W.fnOf "_law_grid_has" "_law_grid_has" (defArgs s12) (defBody s12) (defScope s12) .none kV12 dc12 pm12 an12 cd12 ct12, PySem.W.fnOf "_law_grid_rounded" "_law_grid_rounded" (defArgs s13) (defBody s13) (defScope s13) .none kV13 dc13 pm13 an13 cd13 ct13, PySem.W.fnOf "_law_grid_power" "_law_grid_power" (defArgs s14) (defBody s14) (defScope s14) .none kV14 dc14 pm14 an14 cd14 ct14, PySem.W.fnOf "_law_grid_greatest" "_law_grid_greatest" (defArgs s15) (defBody s15) (defScope s15) .none kV15 dc15 pm15 an15 cd15 ct15, PySem.W.fnOf "power" "power" (defArgs s16) (defBody s16) (defScope s16) .none kV16 dc16 pm16 an16 cd16 ct16, PySem.W.fnOf "is_grid" "is_grid" (defArgs s17) (defBody s17) (defScope s17) .none kV17 dc17 pm17 an17 cd17 ct17, PySem.W.fnOf "rounded_to" "rounded_to" (defArgs s18) (defBody s18) (defScope s18) .none kV18 dc18 pm18 an18 cd18 ct18, PySem.W.fnOf "_law_grid_spacing" "_law_grid_spacing" (defArgs s19) (defBody s19) (defScope s19) .none kV19 dc19 pm19 an19 cd19 ct19, PySem.W.fnOf "_law_grid_more" "_law_grid_more" (defArgs s20) (defBody s20) (defScope s20) .none kV20 dc20 pm20 an20 cd20 ct20, PySem.W.fnOf "is_integer" "is_integer" (defArgs s21) (defBody s21) (defScope s21) .none kV21 dc21 pm21 an21 cd21 ct21, PySem.W.fnOf "is_led_up" "is_led_up" (defArgs s22) (defBody s22) (defScope s22) .none kV22 dc22 pm22 an22 cd22 ct22, PySem.W.fnOf "parted" "parted" (defArgs s23) (defBody s23) (defScope s23) .none kV23 dc23 pm23 an23 cd23 ct23, PySem.W.fnOf "is_whole" "is_whole" (defArgs s24) (defBody s24) (defScope s24) .none kV24 dc24 pm24 an24 cd24 ct24, PySem.W.fnOf "spacing_at" "spacing_at" (defArgs s25) (defBody s25) (defScope s25) .none kV25 dc25 pm25 an25 cd25 ct25, PySem.W.fnOf "__contains__" "Grid.__contains__" (defArgs s26) (defBody s26) (defScope s26) .none kV26 dc26 pm26 an26 cd26 ct26, PySem.W.fnOf "check" "Grid.check" (defArgs s27) (defBody s27) (defScope s27) .none kV27 dc27 pm27 an27 cd27 ct27].getD i (PySem.W.fnOf "law" "law" (defArgs s0) (defBody s0) (defScope s0) .none kV0 dc0 pm0 an0 cd0 ct0))) (show EachFrom _ 0 Z.fns from ⟨⟨_, _, F0⟩, ⟨_, _, F1⟩, ⟨_, _, F2⟩, ⟨_, _, F3⟩, ⟨_, _, F4⟩, ⟨_, _, F5⟩, ⟨_, _, F6⟩, ⟨_, _, F7⟩, ⟨_, _, F8⟩, ⟨_, _, F9⟩, ⟨_, _, F10⟩, ⟨_, _, F11⟩, ⟨_, _, F12⟩, ⟨_, _, F13⟩, ⟨_, _, F14⟩, ⟨_, _, F15⟩, ⟨_, _, F16⟩, ⟨_, _, F17⟩, ⟨_, _, F18⟩, ⟨_, _, F19⟩, ⟨_, _, F20⟩, ⟨_, _, F21⟩, ⟨_, _, F22⟩, ⟨_, _, F23⟩, ⟨_, _, F24⟩, ⟨_, _, F25⟩, ⟨_, _, F26⟩, ⟨_, _, F27⟩, trivial⟩) hr
end Pv
end
section
set_option Elab.async false
set_option linter.all false
set_option maxRecDepth 100000
set_option maxHeartbeats 1000000
set_option exponentiation.threshold 100000
namespace Pv
open PySem L2
section
variable {fuel n : Nat} {s : Sto} {Q : D → Sto → Prop}
theorem is_whole_ok (i : Int) (h : Q (.bl true) s) : wp (call Z fuel (n + 1) F_is_whole [.int i] s) Q := by
  refine wp_call (r := d_is_whole) rfl rfl ?_
  simp only [d_is_whole, ↓wf_nil, ↓wf_cons, ↓wg_asg, ↓wf_par, ↓wf_par3, ↓wg_setF, ↓wg_setI, ↓wf_ex, ↓wf_ret, ↓wf_retN, ↓wf_pass, ↓wf_brk, ↓wf_cnt, ↓wg_ite, ↓wf_for, ↓wp_var, ↓wp_lit, ↓wp_glob, ↓wp_bin, ↓wp_dct, ↓wp_dix, ↓wp_cmpEq, ↓wp_cmpIn, ↓wp_nin, onB_b, ↓wp_cmpNe, ↓wp_neg, ↓wp_cmp, ↓wp_chain, ↓wp_not, ↓wp_and, ↓wp_or, ↓wp_ite, ↓wp_fld, ↓wp_tup, ↓wp_new, ↓wp_callE, ↓wp_meth, ↓wp_make, ↓wp_bi, ↓wp_fold, ↓wp_foldv, ↓wp_append, ↓wp_extend, ↓wp_ix, ↓wp_sl, ↓wp_slk, ↓wp_enil, ↓wp_econs, ↓wp_disp, ↓wp_lrange, ↓wp_lcomp, ↓wp_cnil, ↓wp_ccons, ↓wp_seq, ↓wp_fresh, ↓wp_irange, ↓wp_enum, ↓wp_bind, ↓wp_ok, ↓wp_if, ↓swB_bl, ↓swT_s, ↓onS_s, ↓onO_s, ↓onI_i, ↓onR_r, ↓brB_t, ↓brB_f, ↓brB_n, ↓brB_d, cls_gOf, dct_new, pairsD, keyOf, not_true_eq_false, not_false_eq_true, ixN_30, ixN_31, ixN_32, lst_new, eqD_int, eqD_non_int, fuel_gOf, atI_0, atI_1, atI_2, atI_3, atI_4, putD, List.set_set, List.contains_cons, List.contains_nil, beq_self_eq_true, Bool.or_true, Bool.true_or, Bool.or_false, Bool.false_or, Nat.reduceEqDiff, Nat.reduceLT, Nat.zero_lt_succ, T.put, setAll, wipeE, tru, binD, cmpD, biD, itemsOf, tupOk, fldP, walkP, bnd, isNon, swB_bl, swT_s, onS_s, onO_s, onI_i, onR_r, brB_t, brB_f, brB_n, brB_d, brB_and, brB_or, List.map_cons, List.map_nil, List.cons_append, List.nil_append, List.append_nil, List.replicate, List.getElem?_cons_zero, List.getElem?_cons_succ, List.set_cons_zero, List.set_cons_succ, List.length_cons, List.length_nil, Nat.reduceAdd, Nat.reduceSub, Nat.reduceLeDiff, List.lookup_cons, List.lookup_nil, true_and, and_true, Bool.not_true, Bool.not_false, if_true, if_false, reduceIte, forall_const, Bool.false_eq_true, false_implies, implies_true, true_implies, reduceCtorEq, Nat.reduceBEq, con_MOST_MORE, con_NEAR, con_MOST_REACH, con_MOST_PLACES, con_MOST_BASE, con_LEAST_BASE, con_MOST_FIGURES, con_ZERO, con_UP, con_DOWN, cls_Grid, kl0, A_own_step, A_own_bounds, A_own_tops, A_own_places, A_own_reach, A_own_figures, A_own_base, A_check, C_Grid]
  exact h
theorem is_integer_ok (i lo hi : Int) (h : Q (.bl (decide (lo ≤ i ∧ i ≤ hi))) s) : wp (call Z fuel (n + 2) F_is_integer [.int i, .int lo, .int hi] s) Q := by
  refine wp_call (r := d_is_integer) rfl rfl ?_
  simp only [d_is_integer, ↓wf_nil, ↓wf_cons, ↓wg_asg, ↓wf_par, ↓wf_par3, ↓wg_setF, ↓wg_setI, ↓wf_ex, ↓wf_ret, ↓wf_retN, ↓wf_pass, ↓wf_brk, ↓wf_cnt, ↓wg_ite, ↓wf_for, ↓wp_var, ↓wp_lit, ↓wp_glob, ↓wp_bin, ↓wp_dct, ↓wp_dix, ↓wp_cmpEq, ↓wp_cmpIn, ↓wp_nin, onB_b, ↓wp_cmpNe, ↓wp_neg, ↓wp_cmp, ↓wp_chain, ↓wp_not, ↓wp_and, ↓wp_or, ↓wp_ite, ↓wp_fld, ↓wp_tup, ↓wp_new, ↓wp_callE, ↓wp_meth, ↓wp_make, ↓wp_bi, ↓wp_fold, ↓wp_foldv, ↓wp_append, ↓wp_extend, ↓wp_ix, ↓wp_sl, ↓wp_slk, ↓wp_enil, ↓wp_econs, ↓wp_disp, ↓wp_lrange, ↓wp_lcomp, ↓wp_cnil, ↓wp_ccons, ↓wp_seq, ↓wp_fresh, ↓wp_irange, ↓wp_enum, ↓wp_bind, ↓wp_ok, ↓wp_if, ↓swB_bl, ↓swT_s, ↓onS_s, ↓onO_s, ↓onI_i, ↓onR_r, ↓brB_t, ↓brB_f, ↓brB_n, ↓brB_d, cls_gOf, dct_new, pairsD, keyOf, not_true_eq_false, not_false_eq_true, ixN_30, ixN_31, ixN_32, lst_new, eqD_int, eqD_non_int, fuel_gOf, atI_0, atI_1, atI_2, atI_3, atI_4, putD, List.set_set, List.contains_cons, List.contains_nil, beq_self_eq_true, Bool.or_true, Bool.true_or, Bool.or_false, Bool.false_or, Nat.reduceEqDiff, Nat.reduceLT, Nat.zero_lt_succ, T.put, setAll, wipeE, tru, binD, cmpD, biD, itemsOf, tupOk, fldP, walkP, bnd, isNon, swB_bl, swT_s, onS_s, onO_s, onI_i, onR_r, brB_t, brB_f, brB_n, brB_d, brB_and, brB_or, List.map_cons, List.map_nil, List.cons_append, List.nil_append, List.append_nil, List.replicate, List.getElem?_cons_zero, List.getElem?_cons_succ, List.set_cons_zero, List.set_cons_succ, List.length_cons, List.length_nil, Nat.reduceAdd, Nat.reduceSub, Nat.reduceLeDiff, List.lookup_cons, List.lookup_nil, true_and, and_true, Bool.not_true, Bool.not_false, if_true, if_false, reduceIte, forall_const, Bool.false_eq_true, false_implies, implies_true, true_implies, reduceCtorEq, Nat.reduceBEq, con_MOST_MORE, con_NEAR, con_MOST_REACH, con_MOST_PLACES, con_MOST_BASE, con_LEAST_BASE, con_MOST_FIGURES, con_ZERO, con_UP, con_DOWN, cls_Grid, kl0, A_own_step, A_own_bounds, A_own_tops, A_own_places, A_own_reach, A_own_figures, A_own_base, A_check, C_Grid]
  refine is_whole_ok i ?_
  simp only [↓wf_nil, ↓wf_cons, ↓wg_asg, ↓wf_par, ↓wf_par3, ↓wg_setF, ↓wg_setI, ↓wf_ex, ↓wf_ret, ↓wf_retN, ↓wf_pass, ↓wf_brk, ↓wf_cnt, ↓wg_ite, ↓wf_for, ↓wp_var, ↓wp_lit, ↓wp_glob, ↓wp_bin, ↓wp_dct, ↓wp_dix, ↓wp_cmpEq, ↓wp_cmpIn, ↓wp_nin, onB_b, ↓wp_cmpNe, ↓wp_neg, ↓wp_cmp, ↓wp_chain, ↓wp_not, ↓wp_and, ↓wp_or, ↓wp_ite, ↓wp_fld, ↓wp_tup, ↓wp_new, ↓wp_callE, ↓wp_meth, ↓wp_make, ↓wp_bi, ↓wp_fold, ↓wp_foldv, ↓wp_append, ↓wp_extend, ↓wp_ix, ↓wp_sl, ↓wp_slk, ↓wp_enil, ↓wp_econs, ↓wp_disp, ↓wp_lrange, ↓wp_lcomp, ↓wp_cnil, ↓wp_ccons, ↓wp_seq, ↓wp_fresh, ↓wp_irange, ↓wp_enum, ↓wp_bind, ↓wp_ok, ↓wp_if, ↓swB_bl, ↓swT_s, ↓onS_s, ↓onO_s, ↓onI_i, ↓onR_r, ↓brB_t, ↓brB_f, ↓brB_n, ↓brB_d, cls_gOf, dct_new, pairsD, keyOf, not_true_eq_false, not_false_eq_true, ixN_30, ixN_31, ixN_32, lst_new, eqD_int, eqD_non_int, fuel_gOf, atI_0, atI_1, atI_2, atI_3, atI_4, putD, List.set_set, List.contains_cons, List.contains_nil, beq_self_eq_true, Bool.or_true, Bool.true_or, Bool.or_false, Bool.false_or, Nat.reduceEqDiff, Nat.reduceLT, Nat.zero_lt_succ, T.put, setAll, wipeE, tru, binD, cmpD, biD, itemsOf, tupOk, fldP, walkP, bnd, isNon, swB_bl, swT_s, onS_s, onO_s, onI_i, onR_r, brB_t, brB_f, brB_n, brB_d, brB_and, brB_or, List.map_cons, List.map_nil, List.cons_append, List.nil_append, List.append_nil, List.replicate, List.getElem?_cons_zero, List.getElem?_cons_succ, List.set_cons_zero, List.set_cons_succ, List.length_cons, List.length_nil, Nat.reduceAdd, Nat.reduceSub, Nat.reduceLeDiff, List.lookup_cons, List.lookup_nil, true_and, and_true, Bool.not_true, Bool.not_false, if_true, if_false, reduceIte, forall_const, Bool.false_eq_true, false_implies, implies_true, true_implies, reduceCtorEq, Nat.reduceBEq, con_MOST_MORE, con_NEAR, con_MOST_REACH, con_MOST_PLACES, con_MOST_BASE, con_LEAST_BASE, con_MOST_FIGURES, con_ZERO, con_UP, con_DOWN, cls_Grid, kl0, A_own_step, A_own_bounds, A_own_tops, A_own_places, A_own_reach, A_own_figures, A_own_base, A_check, C_Grid]
  refine ⟨fun a => ?_, fun a => ?_⟩
  · simpa [a] using h
  · simpa [a] using h
theorem is_grid_ok (b f r p : Int) (hb : 2 ≤ b ∧ b ≤ 10) (hf : 1 ≤ f ∧ f ≤ 30) (hr : 0 ≤ r ∧ r ≤ 60) (hp : 0 ≤ p ∧ p ≤ 30) (h : Q (.bl true) s) : wp (call Z fuel (n + 3) F_is_grid [.int b, .int f, .int r, .int p] s) Q := by
  refine wp_call (r := d_is_grid) rfl rfl ?_
  simp only [d_is_grid, ↓wf_nil, ↓wf_cons, ↓wg_asg, ↓wf_par, ↓wf_par3, ↓wg_setF, ↓wg_setI, ↓wf_ex, ↓wf_ret, ↓wf_retN, ↓wf_pass, ↓wf_brk, ↓wf_cnt, ↓wg_ite, ↓wf_for, ↓wp_var, ↓wp_lit, ↓wp_glob, ↓wp_bin, ↓wp_dct, ↓wp_dix, ↓wp_cmpEq, ↓wp_cmpIn, ↓wp_nin, onB_b, ↓wp_cmpNe, ↓wp_neg, ↓wp_cmp, ↓wp_chain, ↓wp_not, ↓wp_and, ↓wp_or, ↓wp_ite, ↓wp_fld, ↓wp_tup, ↓wp_new, ↓wp_callE, ↓wp_meth, ↓wp_make, ↓wp_bi, ↓wp_fold, ↓wp_foldv, ↓wp_append, ↓wp_extend, ↓wp_ix, ↓wp_sl, ↓wp_slk, ↓wp_enil, ↓wp_econs, ↓wp_disp, ↓wp_lrange, ↓wp_lcomp, ↓wp_cnil, ↓wp_ccons, ↓wp_seq, ↓wp_fresh, ↓wp_irange, ↓wp_enum, ↓wp_bind, ↓wp_ok, ↓wp_if, ↓swB_bl, ↓swT_s, ↓onS_s, ↓onO_s, ↓onI_i, ↓onR_r, ↓brB_t, ↓brB_f, ↓brB_n, ↓brB_d, cls_gOf, dct_new, pairsD, keyOf, not_true_eq_false, not_false_eq_true, ixN_30, ixN_31, ixN_32, lst_new, eqD_int, eqD_non_int, fuel_gOf, atI_0, atI_1, atI_2, atI_3, atI_4, putD, List.set_set, List.contains_cons, List.contains_nil, beq_self_eq_true, Bool.or_true, Bool.true_or, Bool.or_false, Bool.false_or, Nat.reduceEqDiff, Nat.reduceLT, Nat.zero_lt_succ, T.put, setAll, wipeE, tru, binD, cmpD, biD, itemsOf, tupOk, fldP, walkP, bnd, isNon, swB_bl, swT_s, onS_s, onO_s, onI_i, onR_r, brB_t, brB_f, brB_n, brB_d, brB_and, brB_or, List.map_cons, List.map_nil, List.cons_append, List.nil_append, List.append_nil, List.replicate, List.getElem?_cons_zero, List.getElem?_cons_succ, List.set_cons_zero, List.set_cons_succ, List.length_cons, List.length_nil, Nat.reduceAdd, Nat.reduceSub, Nat.reduceLeDiff, List.lookup_cons, List.lookup_nil, true_and, and_true, Bool.not_true, Bool.not_false, if_true, if_false, reduceIte, forall_const, Bool.false_eq_true, false_implies, implies_true, true_implies, reduceCtorEq, Nat.reduceBEq, con_MOST_MORE, con_NEAR, con_MOST_REACH, con_MOST_PLACES, con_MOST_BASE, con_LEAST_BASE, con_MOST_FIGURES, con_ZERO, con_UP, con_DOWN, cls_Grid, kl0, A_own_step, A_own_bounds, A_own_tops, A_own_places, A_own_reach, A_own_figures, A_own_base, A_check, C_Grid]
  refine is_integer_ok _ _ _ ?_
  rw [decide_eq_true hb]
  simp only [↓wf_nil, ↓wf_cons, ↓wg_asg, ↓wf_par, ↓wf_par3, ↓wg_setF, ↓wg_setI, ↓wf_ex, ↓wf_ret, ↓wf_retN, ↓wf_pass, ↓wf_brk, ↓wf_cnt, ↓wg_ite, ↓wf_for, ↓wp_var, ↓wp_lit, ↓wp_glob, ↓wp_bin, ↓wp_dct, ↓wp_dix, ↓wp_cmpEq, ↓wp_cmpIn, ↓wp_nin, onB_b, ↓wp_cmpNe, ↓wp_neg, ↓wp_cmp, ↓wp_chain, ↓wp_not, ↓wp_and, ↓wp_or, ↓wp_ite, ↓wp_fld, ↓wp_tup, ↓wp_new, ↓wp_callE, ↓wp_meth, ↓wp_make, ↓wp_bi, ↓wp_fold, ↓wp_foldv, ↓wp_append, ↓wp_extend, ↓wp_ix, ↓wp_sl, ↓wp_slk, ↓wp_enil, ↓wp_econs, ↓wp_disp, ↓wp_lrange, ↓wp_lcomp, ↓wp_cnil, ↓wp_ccons, ↓wp_seq, ↓wp_fresh, ↓wp_irange, ↓wp_enum, ↓wp_bind, ↓wp_ok, ↓wp_if, ↓swB_bl, ↓swT_s, ↓onS_s, ↓onO_s, ↓onI_i, ↓onR_r, ↓brB_t, ↓brB_f, ↓brB_n, ↓brB_d, cls_gOf, dct_new, pairsD, keyOf, not_true_eq_false, not_false_eq_true, ixN_30, ixN_31, ixN_32, lst_new, eqD_int, eqD_non_int, fuel_gOf, atI_0, atI_1, atI_2, atI_3, atI_4, putD, List.set_set, List.contains_cons, List.contains_nil, beq_self_eq_true, Bool.or_true, Bool.true_or, Bool.or_false, Bool.false_or, Nat.reduceEqDiff, Nat.reduceLT, Nat.zero_lt_succ, T.put, setAll, wipeE, tru, binD, cmpD, biD, itemsOf, tupOk, fldP, walkP, bnd, isNon, swB_bl, swT_s, onS_s, onO_s, onI_i, onR_r, brB_t, brB_f, brB_n, brB_d, brB_and, brB_or, List.map_cons, List.map_nil, List.cons_append, List.nil_append, List.append_nil, List.replicate, List.getElem?_cons_zero, List.getElem?_cons_succ, List.set_cons_zero, List.set_cons_succ, List.length_cons, List.length_nil, Nat.reduceAdd, Nat.reduceSub, Nat.reduceLeDiff, List.lookup_cons, List.lookup_nil, true_and, and_true, Bool.not_true, Bool.not_false, if_true, if_false, reduceIte, forall_const, Bool.false_eq_true, false_implies, implies_true, true_implies, reduceCtorEq, Nat.reduceBEq, con_MOST_MORE, con_NEAR, con_MOST_REACH, con_MOST_PLACES, con_MOST_BASE, con_LEAST_BASE, con_MOST_FIGURES, con_ZERO, con_UP, con_DOWN, cls_Grid, kl0, A_own_step, A_own_bounds, A_own_tops, A_own_places, A_own_reach, A_own_figures, A_own_base, A_check, C_Grid]
  refine is_integer_ok _ _ _ ?_
  rw [decide_eq_true hf]
  simp only [↓wf_nil, ↓wf_cons, ↓wg_asg, ↓wf_par, ↓wf_par3, ↓wg_setF, ↓wg_setI, ↓wf_ex, ↓wf_ret, ↓wf_retN, ↓wf_pass, ↓wf_brk, ↓wf_cnt, ↓wg_ite, ↓wf_for, ↓wp_var, ↓wp_lit, ↓wp_glob, ↓wp_bin, ↓wp_dct, ↓wp_dix, ↓wp_cmpEq, ↓wp_cmpIn, ↓wp_nin, onB_b, ↓wp_cmpNe, ↓wp_neg, ↓wp_cmp, ↓wp_chain, ↓wp_not, ↓wp_and, ↓wp_or, ↓wp_ite, ↓wp_fld, ↓wp_tup, ↓wp_new, ↓wp_callE, ↓wp_meth, ↓wp_make, ↓wp_bi, ↓wp_fold, ↓wp_foldv, ↓wp_append, ↓wp_extend, ↓wp_ix, ↓wp_sl, ↓wp_slk, ↓wp_enil, ↓wp_econs, ↓wp_disp, ↓wp_lrange, ↓wp_lcomp, ↓wp_cnil, ↓wp_ccons, ↓wp_seq, ↓wp_fresh, ↓wp_irange, ↓wp_enum, ↓wp_bind, ↓wp_ok, ↓wp_if, ↓swB_bl, ↓swT_s, ↓onS_s, ↓onO_s, ↓onI_i, ↓onR_r, ↓brB_t, ↓brB_f, ↓brB_n, ↓brB_d, cls_gOf, dct_new, pairsD, keyOf, not_true_eq_false, not_false_eq_true, ixN_30, ixN_31, ixN_32, lst_new, eqD_int, eqD_non_int, fuel_gOf, atI_0, atI_1, atI_2, atI_3, atI_4, putD, List.set_set, List.contains_cons, List.contains_nil, beq_self_eq_true, Bool.or_true, Bool.true_or, Bool.or_false, Bool.false_or, Nat.reduceEqDiff, Nat.reduceLT, Nat.zero_lt_succ, T.put, setAll, wipeE, tru, binD, cmpD, biD, itemsOf, tupOk, fldP, walkP, bnd, isNon, swB_bl, swT_s, onS_s, onO_s, onI_i, onR_r, brB_t, brB_f, brB_n, brB_d, brB_and, brB_or, List.map_cons, List.map_nil, List.cons_append, List.nil_append, List.append_nil, List.replicate, List.getElem?_cons_zero, List.getElem?_cons_succ, List.set_cons_zero, List.set_cons_succ, List.length_cons, List.length_nil, Nat.reduceAdd, Nat.reduceSub, Nat.reduceLeDiff, List.lookup_cons, List.lookup_nil, true_and, and_true, Bool.not_true, Bool.not_false, if_true, if_false, reduceIte, forall_const, Bool.false_eq_true, false_implies, implies_true, true_implies, reduceCtorEq, Nat.reduceBEq, con_MOST_MORE, con_NEAR, con_MOST_REACH, con_MOST_PLACES, con_MOST_BASE, con_LEAST_BASE, con_MOST_FIGURES, con_ZERO, con_UP, con_DOWN, cls_Grid, kl0, A_own_step, A_own_bounds, A_own_tops, A_own_places, A_own_reach, A_own_figures, A_own_base, A_check, C_Grid]
  refine is_integer_ok _ _ _ ?_
  rw [decide_eq_true hr]
  simp only [↓wf_nil, ↓wf_cons, ↓wg_asg, ↓wf_par, ↓wf_par3, ↓wg_setF, ↓wg_setI, ↓wf_ex, ↓wf_ret, ↓wf_retN, ↓wf_pass, ↓wf_brk, ↓wf_cnt, ↓wg_ite, ↓wf_for, ↓wp_var, ↓wp_lit, ↓wp_glob, ↓wp_bin, ↓wp_dct, ↓wp_dix, ↓wp_cmpEq, ↓wp_cmpIn, ↓wp_nin, onB_b, ↓wp_cmpNe, ↓wp_neg, ↓wp_cmp, ↓wp_chain, ↓wp_not, ↓wp_and, ↓wp_or, ↓wp_ite, ↓wp_fld, ↓wp_tup, ↓wp_new, ↓wp_callE, ↓wp_meth, ↓wp_make, ↓wp_bi, ↓wp_fold, ↓wp_foldv, ↓wp_append, ↓wp_extend, ↓wp_ix, ↓wp_sl, ↓wp_slk, ↓wp_enil, ↓wp_econs, ↓wp_disp, ↓wp_lrange, ↓wp_lcomp, ↓wp_cnil, ↓wp_ccons, ↓wp_seq, ↓wp_fresh, ↓wp_irange, ↓wp_enum, ↓wp_bind, ↓wp_ok, ↓wp_if, ↓swB_bl, ↓swT_s, ↓onS_s, ↓onO_s, ↓onI_i, ↓onR_r, ↓brB_t, ↓brB_f, ↓brB_n, ↓brB_d, cls_gOf, dct_new, pairsD, keyOf, not_true_eq_false, not_false_eq_true, ixN_30, ixN_31, ixN_32, lst_new, eqD_int, eqD_non_int, fuel_gOf, atI_0, atI_1, atI_2, atI_3, atI_4, putD, List.set_set, List.contains_cons, List.contains_nil, beq_self_eq_true, Bool.or_true, Bool.true_or, Bool.or_false, Bool.false_or, Nat.reduceEqDiff, Nat.reduceLT, Nat.zero_lt_succ, T.put, setAll, wipeE, tru, binD, cmpD, biD, itemsOf, tupOk, fldP, walkP, bnd, isNon, swB_bl, swT_s, onS_s, onO_s, onI_i, onR_r, brB_t, brB_f, brB_n, brB_d, brB_and, brB_or, List.map_cons, List.map_nil, List.cons_append, List.nil_append, List.append_nil, List.replicate, List.getElem?_cons_zero, List.getElem?_cons_succ, List.set_cons_zero, List.set_cons_succ, List.length_cons, List.length_nil, Nat.reduceAdd, Nat.reduceSub, Nat.reduceLeDiff, List.lookup_cons, List.lookup_nil, true_and, and_true, Bool.not_true, Bool.not_false, if_true, if_false, reduceIte, forall_const, Bool.false_eq_true, false_implies, implies_true, true_implies, reduceCtorEq, Nat.reduceBEq, con_MOST_MORE, con_NEAR, con_MOST_REACH, con_MOST_PLACES, con_MOST_BASE, con_LEAST_BASE, con_MOST_FIGURES, con_ZERO, con_UP, con_DOWN, cls_Grid, kl0, A_own_step, A_own_bounds, A_own_tops, A_own_places, A_own_reach, A_own_figures, A_own_base, A_check, C_Grid]
  refine is_integer_ok _ _ _ ?_
  rw [decide_eq_true hp]
  exact h
end
/-- small enough for a product -/
def Sm (x : Int) : Prop := x.natAbs < 2 ^ 4000
theorem Sm.log {x : Int} (h : Sm x) : x.natAbs.log2 < 4000 := by
  by_cases h0 : x.natAbs = 0
  · rw [h0]; decide
  · exact (Nat.log2_lt h0).mpr h
theorem Sm.mul {x y : Int} (h : Sm x) (k : Sm y) : x.natAbs.log2 + y.natAbs.log2 < 1000000 := by
  have := h.log
  have := k.log
  omega
theorem pow_lt {b k : Nat} (hb : b ≤ 10) (hk : k ≤ 600) : b ^ k < 2 ^ 3000 := by
  have h1 : b ^ k ≤ 10 ^ k := Nat.pow_le_pow_left hb k
  have h2 : 10 ^ k ≤ 10 ^ 600 := Nat.pow_le_pow_right (by decide) hk
  have h3 : (10 : Nat) ^ 600 < 2 ^ 3000 := by decide +kernel
  omega
theorem Sm.pow {b k : Nat} (hb : b ≤ 10) (hk : k ≤ 600) : Sm ((b : Int) ^ k) := by
  unfold Sm
  rw [Int.natAbs_pow, Int.natAbs_natCast]
  have := pow_lt hb hk
  have h4 : (2 : Nat) ^ 3000 < 2 ^ 4000 := by decide +kernel
  omega
theorem Sm.nat {k : Nat} (h : k < 2 ^ 4000) : Sm (k : Int) := h
theorem sm_small {k : Nat} (h : k ≤ 1000) : k < 2 ^ 4000 := by
  have : 1000 < 2 ^ 4000 := by decide +kernel
  omega
theorem sm_mid {k : Nat} (h : k ≤ 1000000) : k < 2 ^ 4000 := by
  have : 1000000 < 2 ^ 4000 := by decide +kernel
  omega
theorem Sm.base {b : Nat} (hb : b ≤ 10) : Sm (b : Int) := Sm.nat (sm_small (by omega))
theorem rangeD_one (j : Int) (h : -(2 ^ 62) ≤ j ∧ j < 2 ^ 62) : rangeD [.int j] = some (rangeI 0 j.toNat) := if_pos h
theorem rangeD1 {m : Nat} (h : m ≤ 1000) : rangeD [.int (m : Int)] = some (rangeI 0 m) := by
  rw [rangeD_one _ (by omega), Int.toNat_natCast]
theorem rangeI_len {lo : Int} {n : Nat} : (rangeI lo n).length = n := by simp [rangeI]
theorem rangeI_at {lo : Int} {n i : Nat} {d : D} (h : (rangeI lo n)[i]? = some d) : d = .int (lo + i) ∧ i < n := by
  unfold rangeI at h
  rw [List.getElem?_map] at h
  obtain ⟨j, h1, h2⟩ := Option.map_eq_some_iff.mp h
  obtain ⟨h3, h4⟩ := List.getElem?_eq_some_iff.mp h1
  rw [List.getElem_range] at h4
  subst h4
  rw [List.length_range] at h3
  exact ⟨h2.symm, h3⟩

/-- how often m is to be multiplied by b to go beyond a -/
def spn (b m a : Nat) : Nat := if h : a < m ∨ b < 2 ∨ m = 0 then 0 else spn b (m * b) a + 1
termination_by a + 1 - m
decreasing_by
  have : m * 2 ≤ m * b := Nat.mul_le_mul_left m (by omega)
  omega
theorem spn_spec {b : Nat} (hb : 2 ≤ b) : ∀ (k m a : Nat), a + 1 - m ≤ k → 0 < m → a < m * b ^ spn b m a ∧ ∀ i, i < spn b m a → m * b ^ i ≤ a := by
  intro k
  induction k with
  | zero =>
    intro m a h hm
    have e : spn b m a = 0 := by rw [spn, dif_pos (by omega)]
    rw [e]
    exact ⟨by rw [Nat.pow_zero]; omega, fun i hi => by omega⟩
  | succ k ih =>
    intro m a h hm
    by_cases hc : a < m ∨ b < 2 ∨ m = 0
    · have e : spn b m a = 0 := by rw [spn, dif_pos hc]
      rw [e]
      exact ⟨by rw [Nat.pow_zero]; omega, fun i hi => by omega⟩
    · have e : spn b m a = spn b (m * b) a + 1 := by rw [spn, dif_neg hc]
      rw [e]
      have h2 : m * 2 ≤ m * b := Nat.mul_le_mul_left m hb
      obtain ⟨h3, h4⟩ := ih (m * b) a (by omega) (by omega)
      refine ⟨by rw [Nat.pow_succ, ← Nat.mul_comm b, ← Nat.mul_assoc]; exact h3, fun i hi => ?_⟩
      cases i with
      | zero => rw [Nat.pow_zero]; omega
      | succ i =>
        have := h4 i (by omega)
        rw [Nat.pow_succ, Nat.mul_comm _ b, ← Nat.mul_assoc]
        exact this
theorem spn_lt {b m a : Nat} (hb : 2 ≤ b) (hm : 0 < m) : a < m * b ^ spn b m a := (spn_spec hb _ m a (Nat.le_refl _) hm).1
theorem spn_ge {b m a i : Nat} (hb : 2 ≤ b) (hm : 0 < m) (h : i < spn b m a) : m * b ^ i ≤ a := (spn_spec hb _ m a (Nat.le_refl _) hm).2 i h
theorem spn_le {b m a k : Nat} (hb : 2 ≤ b) (hm : 0 < m) (h : a < m * b ^ k) : spn b m a ≤ k := by
  apply Classical.byContradiction
  intro hn
  have := spn_ge (i := k) hb hm (a := a) (by omega)
  omega
theorem spn_eq {b m a k : Nat} (hb : 2 ≤ b) (hm : 0 < m) (h : a < m * b ^ k) (h2 : ∀ i, i < k → m * b ^ i ≤ a) : spn b m a = k := by
  have h1 := spn_le hb hm h
  apply Classical.byContradiction
  intro hn
  have := h2 (spn b m a) (by omega)
  have := spn_lt hb hm (a := a)
  omega
theorem abs_int (i : Int) : (if i < 0 then -i else i) = (i.natAbs : Int) := by split <;> omega

section
variable {fuel n : Nat} {s : Sto} {Q : D → Sto → Prop}
theorem power_ok {b k : Nat} (hb : b ≤ 10) (hk : k ≤ 500) (hf : 1000 < fuel) (h : Q (.int ((b : Int) ^ k)) s) : wp (call Z fuel (n + 1) F_power [.int b, .int k] s) Q := by
  refine wp_call (r := d_power) rfl rfl ?_
  simp only [d_power, ↓wf_nil, ↓wf_cons, ↓wg_asg, ↓wf_par, ↓wf_par3, ↓wg_setF, ↓wg_setI, ↓wf_ex, ↓wf_ret, ↓wf_retN, ↓wf_pass, ↓wf_brk, ↓wf_cnt, ↓wg_ite, ↓wf_for, ↓wp_var, ↓wp_lit, ↓wp_glob, ↓wp_bin, ↓wp_dct, ↓wp_dix, ↓wp_cmpEq, ↓wp_cmpIn, ↓wp_nin, onB_b, ↓wp_cmpNe, ↓wp_neg, ↓wp_cmp, ↓wp_chain, ↓wp_not, ↓wp_and, ↓wp_or, ↓wp_ite, ↓wp_fld, ↓wp_tup, ↓wp_new, ↓wp_callE, ↓wp_meth, ↓wp_make, ↓wp_bi, ↓wp_fold, ↓wp_foldv, ↓wp_append, ↓wp_extend, ↓wp_ix, ↓wp_sl, ↓wp_slk, ↓wp_enil, ↓wp_econs, ↓wp_disp, ↓wp_lrange, ↓wp_lcomp, ↓wp_cnil, ↓wp_ccons, ↓wp_seq, ↓wp_fresh, ↓wp_irange, ↓wp_enum, ↓wp_bind, ↓wp_ok, ↓wp_if, ↓swB_bl, ↓swT_s, ↓onS_s, ↓onO_s, ↓onI_i, ↓onR_r, ↓brB_t, ↓brB_f, ↓brB_n, ↓brB_d, cls_gOf, dct_new, pairsD, keyOf, not_true_eq_false, not_false_eq_true, ixN_30, ixN_31, ixN_32, lst_new, eqD_int, eqD_non_int, fuel_gOf, atI_0, atI_1, atI_2, atI_3, atI_4, putD, List.set_set, List.contains_cons, List.contains_nil, beq_self_eq_true, Bool.or_true, Bool.true_or, Bool.or_false, Bool.false_or, Nat.reduceEqDiff, Nat.reduceLT, Nat.zero_lt_succ, T.put, setAll, wipeE, tru, binD, cmpD, biD, itemsOf, tupOk, fldP, walkP, bnd, isNon, swB_bl, swT_s, onS_s, onO_s, onI_i, onR_r, brB_t, brB_f, brB_n, brB_d, brB_and, brB_or, List.map_cons, List.map_nil, List.cons_append, List.nil_append, List.append_nil, List.replicate, List.getElem?_cons_zero, List.getElem?_cons_succ, List.set_cons_zero, List.set_cons_succ, List.length_cons, List.length_nil, Nat.reduceAdd, Nat.reduceSub, Nat.reduceLeDiff, List.lookup_cons, List.lookup_nil, true_and, and_true, Bool.not_true, Bool.not_false, if_true, if_false, reduceIte, forall_const, Bool.false_eq_true, false_implies, implies_true, true_implies, reduceCtorEq, Nat.reduceBEq, con_MOST_MORE, con_NEAR, con_MOST_REACH, con_MOST_PLACES, con_MOST_BASE, con_LEAST_BASE, con_MOST_FIGURES, con_ZERO, con_UP, con_DOWN, cls_Grid, kl0, A_own_step, A_own_bounds, A_own_tops, A_own_places, A_own_reach, A_own_figures, A_own_base, A_check, C_Grid]
  rw [rangeD1 (by omega)]
  simp only [↓wf_nil, ↓wf_cons, ↓wg_asg, ↓wf_par, ↓wf_par3, ↓wg_setF, ↓wg_setI, ↓wf_ex, ↓wf_ret, ↓wf_retN, ↓wf_pass, ↓wf_brk, ↓wf_cnt, ↓wg_ite, ↓wf_for, ↓wp_var, ↓wp_lit, ↓wp_glob, ↓wp_bin, ↓wp_dct, ↓wp_dix, ↓wp_cmpEq, ↓wp_cmpIn, ↓wp_nin, onB_b, ↓wp_cmpNe, ↓wp_neg, ↓wp_cmp, ↓wp_chain, ↓wp_not, ↓wp_and, ↓wp_or, ↓wp_ite, ↓wp_fld, ↓wp_tup, ↓wp_new, ↓wp_callE, ↓wp_meth, ↓wp_make, ↓wp_bi, ↓wp_fold, ↓wp_foldv, ↓wp_append, ↓wp_extend, ↓wp_ix, ↓wp_sl, ↓wp_slk, ↓wp_enil, ↓wp_econs, ↓wp_disp, ↓wp_lrange, ↓wp_lcomp, ↓wp_cnil, ↓wp_ccons, ↓wp_seq, ↓wp_fresh, ↓wp_irange, ↓wp_enum, ↓wp_bind, ↓wp_ok, ↓wp_if, ↓swB_bl, ↓swT_s, ↓onS_s, ↓onO_s, ↓onI_i, ↓onR_r, ↓brB_t, ↓brB_f, ↓brB_n, ↓brB_d, cls_gOf, dct_new, pairsD, keyOf, not_true_eq_false, not_false_eq_true, ixN_30, ixN_31, ixN_32, lst_new, eqD_int, eqD_non_int, fuel_gOf, atI_0, atI_1, atI_2, atI_3, atI_4, putD, List.set_set, List.contains_cons, List.contains_nil, beq_self_eq_true, Bool.or_true, Bool.true_or, Bool.or_false, Bool.false_or, Nat.reduceEqDiff, Nat.reduceLT, Nat.zero_lt_succ, T.put, setAll, wipeE, tru, binD, cmpD, biD, itemsOf, tupOk, fldP, walkP, bnd, isNon, swB_bl, swT_s, onS_s, onO_s, onI_i, onR_r, brB_t, brB_f, brB_n, brB_d, brB_and, brB_or, List.map_cons, List.map_nil, List.cons_append, List.nil_append, List.append_nil, List.replicate, List.getElem?_cons_zero, List.getElem?_cons_succ, List.set_cons_zero, List.set_cons_succ, List.length_cons, List.length_nil, Nat.reduceAdd, Nat.reduceSub, Nat.reduceLeDiff, List.lookup_cons, List.lookup_nil, true_and, and_true, Bool.not_true, Bool.not_false, if_true, if_false, reduceIte, forall_const, Bool.false_eq_true, false_implies, implies_true, true_implies, reduceCtorEq, Nat.reduceBEq, con_MOST_MORE, con_NEAR, con_MOST_REACH, con_MOST_PLACES, con_MOST_BASE, con_LEAST_BASE, con_MOST_FIGURES, con_ZERO, con_UP, con_DOWN, cls_Grid, kl0, A_own_step, A_own_bounds, A_own_tops, A_own_places, A_own_reach, A_own_figures, A_own_base, A_check, C_Grid]
  refine wf_fix (I := fun i e s' => s' = s ∧ ∃ l, e = [some (.int b), some (.int k), some (.int ((b : Int) ^ i)), l]) ?_ ⟨rfl, none, by simp⟩ ?_ ?_
  · rw [rangeI_len]; show k < fuel; omega
  · rintro i d e s1 hd ⟨rfl, l, rfl⟩
    obtain ⟨rfl, hi⟩ := rangeI_at hd
    refine ⟨_, rfl, ?_⟩
    simp only [↓wf_nil, ↓wf_cons, ↓wg_asg, ↓wf_par, ↓wf_par3, ↓wg_setF, ↓wg_setI, ↓wf_ex, ↓wf_ret, ↓wf_retN, ↓wf_pass, ↓wf_brk, ↓wf_cnt, ↓wg_ite, ↓wf_for, ↓wp_var, ↓wp_lit, ↓wp_glob, ↓wp_bin, ↓wp_dct, ↓wp_dix, ↓wp_cmpEq, ↓wp_cmpIn, ↓wp_nin, onB_b, ↓wp_cmpNe, ↓wp_neg, ↓wp_cmp, ↓wp_chain, ↓wp_not, ↓wp_and, ↓wp_or, ↓wp_ite, ↓wp_fld, ↓wp_tup, ↓wp_new, ↓wp_callE, ↓wp_meth, ↓wp_make, ↓wp_bi, ↓wp_fold, ↓wp_foldv, ↓wp_append, ↓wp_extend, ↓wp_ix, ↓wp_sl, ↓wp_slk, ↓wp_enil, ↓wp_econs, ↓wp_disp, ↓wp_lrange, ↓wp_lcomp, ↓wp_cnil, ↓wp_ccons, ↓wp_seq, ↓wp_fresh, ↓wp_irange, ↓wp_enum, ↓wp_bind, ↓wp_ok, ↓wp_if, ↓swB_bl, ↓swT_s, ↓onS_s, ↓onO_s, ↓onI_i, ↓onR_r, ↓brB_t, ↓brB_f, ↓brB_n, ↓brB_d, cls_gOf, dct_new, pairsD, keyOf, not_true_eq_false, not_false_eq_true, ixN_30, ixN_31, ixN_32, lst_new, eqD_int, eqD_non_int, fuel_gOf, atI_0, atI_1, atI_2, atI_3, atI_4, putD, List.set_set, List.contains_cons, List.contains_nil, beq_self_eq_true, Bool.or_true, Bool.true_or, Bool.or_false, Bool.false_or, Nat.reduceEqDiff, Nat.reduceLT, Nat.zero_lt_succ, T.put, setAll, wipeE, tru, binD, cmpD, biD, itemsOf, tupOk, fldP, walkP, bnd, isNon, swB_bl, swT_s, onS_s, onO_s, onI_i, onR_r, brB_t, brB_f, brB_n, brB_d, brB_and, brB_or, List.map_cons, List.map_nil, List.cons_append, List.nil_append, List.append_nil, List.replicate, List.getElem?_cons_zero, List.getElem?_cons_succ, List.set_cons_zero, List.set_cons_succ, List.length_cons, List.length_nil, Nat.reduceAdd, Nat.reduceSub, Nat.reduceLeDiff, List.lookup_cons, List.lookup_nil, true_and, and_true, Bool.not_true, Bool.not_false, if_true, if_false, reduceIte, forall_const, Bool.false_eq_true, false_implies, implies_true, true_implies, reduceCtorEq, Nat.reduceBEq, con_MOST_MORE, con_NEAR, con_MOST_REACH, con_MOST_PLACES, con_MOST_BASE, con_LEAST_BASE, con_MOST_FIGURES, con_ZERO, con_UP, con_DOWN, cls_Grid, kl0, A_own_step, A_own_bounds, A_own_tops, A_own_places, A_own_reach, A_own_figures, A_own_base, A_check, C_Grid]
    exact ⟨(Sm.pow hb (by omega)).mul (Sm.base hb), _, by rw [Int.pow_succ]⟩
  · rintro e s1 ⟨rfl, l, rfl⟩
    rw [rangeI_len]
    simp only [↓wf_nil, ↓wf_cons, ↓wg_asg, ↓wf_par, ↓wf_par3, ↓wg_setF, ↓wg_setI, ↓wf_ex, ↓wf_ret, ↓wf_retN, ↓wf_pass, ↓wf_brk, ↓wf_cnt, ↓wg_ite, ↓wf_for, ↓wp_var, ↓wp_lit, ↓wp_glob, ↓wp_bin, ↓wp_dct, ↓wp_dix, ↓wp_cmpEq, ↓wp_cmpIn, ↓wp_nin, onB_b, ↓wp_cmpNe, ↓wp_neg, ↓wp_cmp, ↓wp_chain, ↓wp_not, ↓wp_and, ↓wp_or, ↓wp_ite, ↓wp_fld, ↓wp_tup, ↓wp_new, ↓wp_callE, ↓wp_meth, ↓wp_make, ↓wp_bi, ↓wp_fold, ↓wp_foldv, ↓wp_append, ↓wp_extend, ↓wp_ix, ↓wp_sl, ↓wp_slk, ↓wp_enil, ↓wp_econs, ↓wp_disp, ↓wp_lrange, ↓wp_lcomp, ↓wp_cnil, ↓wp_ccons, ↓wp_seq, ↓wp_fresh, ↓wp_irange, ↓wp_enum, ↓wp_bind, ↓wp_ok, ↓wp_if, ↓swB_bl, ↓swT_s, ↓onS_s, ↓onO_s, ↓onI_i, ↓onR_r, ↓brB_t, ↓brB_f, ↓brB_n, ↓brB_d, cls_gOf, dct_new, pairsD, keyOf, not_true_eq_false, not_false_eq_true, ixN_30, ixN_31, ixN_32, lst_new, eqD_int, eqD_non_int, fuel_gOf, atI_0, atI_1, atI_2, atI_3, atI_4, putD, List.set_set, List.contains_cons, List.contains_nil, beq_self_eq_true, Bool.or_true, Bool.true_or, Bool.or_false, Bool.false_or, Nat.reduceEqDiff, Nat.reduceLT, Nat.zero_lt_succ, T.put, setAll, wipeE, tru, binD, cmpD, biD, itemsOf, tupOk, fldP, walkP, bnd, isNon, swB_bl, swT_s, onS_s, onO_s, onI_i, onR_r, brB_t, brB_f, brB_n, brB_d, brB_and, brB_or, List.map_cons, List.map_nil, List.cons_append, List.nil_append, List.append_nil, List.replicate, List.getElem?_cons_zero, List.getElem?_cons_succ, List.set_cons_zero, List.set_cons_succ, List.length_cons, List.length_nil, Nat.reduceAdd, Nat.reduceSub, Nat.reduceLeDiff, List.lookup_cons, List.lookup_nil, true_and, and_true, Bool.not_true, Bool.not_false, if_true, if_false, reduceIte, forall_const, Bool.false_eq_true, false_implies, implies_true, true_implies, reduceCtorEq, Nat.reduceBEq, con_MOST_MORE, con_NEAR, con_MOST_REACH, con_MOST_PLACES, con_MOST_BASE, con_LEAST_BASE, con_MOST_FIGURES, con_ZERO, con_UP, con_DOWN, cls_Grid, kl0, A_own_step, A_own_bounds, A_own_tops, A_own_places, A_own_reach, A_own_figures, A_own_base, A_check, C_Grid]
    exact h
theorem spacing_at_ok {b m : Nat} {top bot : Int} {bo : Nat} (hb : 2 ≤ b ∧ b ≤ 10) (hm : 0 < m) (hbot : bot = (bo : Int)) (hbo : 0 < bo) (h1 : top.natAbs < 2 ^ 500) (h2 : m < 2 ^ 500) (h3 : bo < 2 ^ 500) (hf : 1000 < fuel)
    (h : Q (.int ((b : Int) ^ spn b (bo * m) top.natAbs)) s) : wp (call Z fuel (n + 1) F_spacing_at [.int b, .int m, .int top, .int bot] s) Q := by
  subst hbot
  have hM : 0 < bo * m := Nat.mul_pos hbo hm
  have hsp : spn b (bo * m) top.natAbs ≤ 500 := spn_le hb.1 hM (by
    have e1 : 2 ^ 500 ≤ b ^ 500 := Nat.pow_le_pow_left hb.1 500
    have e2 : 1 * b ^ 500 ≤ bo * m * b ^ 500 := Nat.mul_le_mul_right _ hM
    omega)
  refine wp_call (r := d_spacing_at) rfl rfl ?_
  simp only [d_spacing_at, ↓wf_nil, ↓wf_cons, ↓wg_asg, ↓wf_par, ↓wf_par3, ↓wg_setF, ↓wg_setI, ↓wf_ex, ↓wf_ret, ↓wf_retN, ↓wf_pass, ↓wf_brk, ↓wf_cnt, ↓wg_ite, ↓wf_for, ↓wp_var, ↓wp_lit, ↓wp_glob, ↓wp_bin, ↓wp_dct, ↓wp_dix, ↓wp_cmpEq, ↓wp_cmpIn, ↓wp_nin, onB_b, ↓wp_cmpNe, ↓wp_neg, ↓wp_cmp, ↓wp_chain, ↓wp_not, ↓wp_and, ↓wp_or, ↓wp_ite, ↓wp_fld, ↓wp_tup, ↓wp_new, ↓wp_callE, ↓wp_meth, ↓wp_make, ↓wp_bi, ↓wp_fold, ↓wp_foldv, ↓wp_append, ↓wp_extend, ↓wp_ix, ↓wp_sl, ↓wp_slk, ↓wp_enil, ↓wp_econs, ↓wp_disp, ↓wp_lrange, ↓wp_lcomp, ↓wp_cnil, ↓wp_ccons, ↓wp_seq, ↓wp_fresh, ↓wp_irange, ↓wp_enum, ↓wp_bind, ↓wp_ok, ↓wp_if, ↓swB_bl, ↓swT_s, ↓onS_s, ↓onO_s, ↓onI_i, ↓onR_r, ↓brB_t, ↓brB_f, ↓brB_n, ↓brB_d, cls_gOf, dct_new, pairsD, keyOf, not_true_eq_false, not_false_eq_true, ixN_30, ixN_31, ixN_32, lst_new, eqD_int, eqD_non_int, fuel_gOf, atI_0, atI_1, atI_2, atI_3, atI_4, putD, List.set_set, List.contains_cons, List.contains_nil, beq_self_eq_true, Bool.or_true, Bool.true_or, Bool.or_false, Bool.false_or, Nat.reduceEqDiff, Nat.reduceLT, Nat.zero_lt_succ, T.put, setAll, wipeE, tru, binD, cmpD, biD, itemsOf, tupOk, fldP, walkP, bnd, isNon, swB_bl, swT_s, onS_s, onO_s, onI_i, onR_r, brB_t, brB_f, brB_n, brB_d, brB_and, brB_or, List.map_cons, List.map_nil, List.cons_append, List.nil_append, List.append_nil, List.replicate, List.getElem?_cons_zero, List.getElem?_cons_succ, List.set_cons_zero, List.set_cons_succ, List.length_cons, List.length_nil, Nat.reduceAdd, Nat.reduceSub, Nat.reduceLeDiff, List.lookup_cons, List.lookup_nil, true_and, and_true, Bool.not_true, Bool.not_false, if_true, if_false, reduceIte, forall_const, Bool.false_eq_true, false_implies, implies_true, true_implies, reduceCtorEq, Nat.reduceBEq, con_MOST_MORE, con_NEAR, con_MOST_REACH, con_MOST_PLACES, con_MOST_BASE, con_LEAST_BASE, con_MOST_FIGURES, con_ZERO, con_UP, con_DOWN, cls_Grid, kl0, A_own_step, A_own_bounds, A_own_tops, A_own_places, A_own_reach, A_own_figures, A_own_base, A_check, C_Grid]
  have l1 : ∀ {x : Nat}, x < 2 ^ 500 → x < 2 ^ 4000 := fun {x} h => by
    have : (2 : Nat) ^ 500 < 2 ^ 4000 := by decide +kernel
    omega
  refine ⟨(Sm.nat (l1 h3)).mul (Sm.nat (l1 h2)), ?_⟩
  refine wf_whl (I := fun v e s' => s' = s ∧ ∃ j, v + j = spn b (bo * m) top.natAbs ∧ e = [some (.int b), some (.int m), some (.int top), some (.int bo), some (.int (top.natAbs : Int)), some (.int ((bo : Int) * m * (b : Int) ^ j)), some (.int ((b : Int) ^ j))]) (m := spn b (bo * m) top.natAbs) ?_ ⟨rfl, 0, rfl, ?_⟩ ?_
  · show spn b (bo * m) top.natAbs < fuel; omega
  · rw [abs_int]; simp
  · rintro v e s1 ⟨rfl, j, hj, rfl⟩
    rw [wp_tru]
    simp only [↓wf_nil, ↓wf_cons, ↓wg_asg, ↓wf_par, ↓wf_par3, ↓wg_setF, ↓wg_setI, ↓wf_ex, ↓wf_ret, ↓wf_retN, ↓wf_pass, ↓wf_brk, ↓wf_cnt, ↓wg_ite, ↓wf_for, ↓wp_var, ↓wp_lit, ↓wp_glob, ↓wp_bin, ↓wp_dct, ↓wp_dix, ↓wp_cmpEq, ↓wp_cmpIn, ↓wp_nin, onB_b, ↓wp_cmpNe, ↓wp_neg, ↓wp_cmp, ↓wp_chain, ↓wp_not, ↓wp_and, ↓wp_or, ↓wp_ite, ↓wp_fld, ↓wp_tup, ↓wp_new, ↓wp_callE, ↓wp_meth, ↓wp_make, ↓wp_bi, ↓wp_fold, ↓wp_foldv, ↓wp_append, ↓wp_extend, ↓wp_ix, ↓wp_sl, ↓wp_slk, ↓wp_enil, ↓wp_econs, ↓wp_disp, ↓wp_lrange, ↓wp_lcomp, ↓wp_cnil, ↓wp_ccons, ↓wp_seq, ↓wp_fresh, ↓wp_irange, ↓wp_enum, ↓wp_bind, ↓wp_ok, ↓wp_if, ↓swB_bl, ↓swT_s, ↓onS_s, ↓onO_s, ↓onI_i, ↓onR_r, ↓brB_t, ↓brB_f, ↓brB_n, ↓brB_d, cls_gOf, dct_new, pairsD, keyOf, not_true_eq_false, not_false_eq_true, ixN_30, ixN_31, ixN_32, lst_new, eqD_int, eqD_non_int, fuel_gOf, atI_0, atI_1, atI_2, atI_3, atI_4, putD, List.set_set, List.contains_cons, List.contains_nil, beq_self_eq_true, Bool.or_true, Bool.true_or, Bool.or_false, Bool.false_or, Nat.reduceEqDiff, Nat.reduceLT, Nat.zero_lt_succ, T.put, setAll, wipeE, tru, binD, cmpD, biD, itemsOf, tupOk, fldP, walkP, bnd, isNon, swB_bl, swT_s, onS_s, onO_s, onI_i, onR_r, brB_t, brB_f, brB_n, brB_d, brB_and, brB_or, List.map_cons, List.map_nil, List.cons_append, List.nil_append, List.append_nil, List.replicate, List.getElem?_cons_zero, List.getElem?_cons_succ, List.set_cons_zero, List.set_cons_succ, List.length_cons, List.length_nil, Nat.reduceAdd, Nat.reduceSub, Nat.reduceLeDiff, List.lookup_cons, List.lookup_nil, true_and, and_true, Bool.not_true, Bool.not_false, if_true, if_false, reduceIte, forall_const, Bool.false_eq_true, false_implies, implies_true, true_implies, reduceCtorEq, Nat.reduceBEq, con_MOST_MORE, con_NEAR, con_MOST_REACH, con_MOST_PLACES, con_MOST_BASE, con_LEAST_BASE, con_MOST_FIGURES, con_ZERO, con_UP, con_DOWN, cls_Grid, kl0, A_own_step, A_own_bounds, A_own_tops, A_own_places, A_own_reach, A_own_figures, A_own_base, A_check, C_Grid]
    have cast : ((bo : Int) * m * (b : Int) ^ j) = ((bo * m * b ^ j : Nat) : Int) := by simp
    refine ⟨fun hk => ?_, fun hk => ?_⟩
    · have hk' := of_decide_eq_false hk
      rw [cast] at hk'
      have : spn b (bo * m) top.natAbs ≤ j := spn_le hb.1 hM (by omega)
      have hv : v = 0 := by omega
      have : j = spn b (bo * m) top.natAbs := by omega
      subst this
      exact h
    · have hk' := of_decide_eq_true hk
      rw [cast] at hk'
      have hlt : j < spn b (bo * m) top.natAbs := by
        apply Classical.byContradiction
        intro hn
        have : j = spn b (bo * m) top.natAbs := by omega
        subst this
        have := spn_lt hb.1 hM (a := top.natAbs)
        omega
      have sB := Sm.base hb.2
      have sP : Sm ((b : Int) ^ j) := Sm.pow hb.2 (by omega)
      have sL : Sm ((bo : Int) * m * (b : Int) ^ j) := by
        rw [cast]
        exact Sm.nat (l1 (by omega))
      refine ⟨sL.mul sB, sP.mul sB, v - 1, by omega, j + 1, by omega, ?_⟩
      simp only [Int.pow_succ, Int.mul_assoc]
end
theorem wp_mapI {g : G} {env : Slo} {s : Sto} {Q : List D → Sto → Prop} {t : T} {elt : Slo → Sto → R D} {ds : List D} {fu : Nat} {f : D → D} {it : It} (hj : ∀ i s', Gr s s' → it.at s' i = some ds[i]?) (hf : ds.length < fu) (hz : ds.length ≤ sizeLine)
    (h : ∀ d, d ∈ ds → ∀ s', Gr s s' → ∃ e1, t.put d env = some e1 ∧ wp (elt e1 s') fun v s2 => v = f d ∧ Gr s' s2) (hx : ∀ s', Gr s s' → Q (ds.map f) s') :
    wp (compR it t env (fun e1 s => evC g .nil e1 s) elt fu 0 [] s) Q := by
  refine wp_comp (I := fun i acc s' => acc = (ds.take i).map f ∧ Gr s s') hf ⟨by simp, .refl⟩ (fun i _ s' w => hj i s' w.2) hz (fun i acc s' ⟨e, _⟩ => by rw [e]; simp; omega) ?_ ?_
  · rintro i d acc s' hd ⟨rfl, gr⟩
    obtain ⟨hl, he⟩ := List.getElem?_eq_some_iff.mp hd
    obtain ⟨e1, h1, h2⟩ := h d (List.mem_of_getElem? hd) s' gr
    refine ⟨e1, h1, ?_⟩
    rw [wp_cnil]
    refine ⟨fun _ => wp_mono h2 fun v s2 ⟨ev, g2⟩ => ⟨?_, gr.trans g2⟩, fun z => by cases z⟩
    rw [ev, List.take_add_one, hd, List.map_append]
    rfl
  · rintro acc s' ⟨rfl, gr⟩
    rw [List.take_length]
    exact hx s' gr
theorem wp_map {g : G} {env : Slo} {s : Sto} {Q : List D → Sto → Prop} {t : T} {elt : Slo → Sto → R D} {ds : List D} {fu : Nat} {f : D → D} (hf : ds.length < fu) (hz : ds.length ≤ sizeLine)
    (h : ∀ d, d ∈ ds → ∀ s', Gr s s' → ∃ e1, t.put d env = some e1 ∧ wp (elt e1 s') fun v s2 => v = f d ∧ Gr s' s2) (hx : ∀ s', Gr s s' → Q (ds.map f) s') :
    wp (compR (.fix ds) t env (fun e1 s => evC g .nil e1 s) elt fu 0 [] s) Q := wp_mapI (fun _ _ _ => rfl) hf hz h hx
theorem wp_mapL {g : G} {env : Slo} {s : Sto} {Q : List D → Sto → Prop} {t : T} {elt : Slo → Sto → R D} {ds : List D} {fu k : Nat} {f : D → D} (hl : lstAt s k = some ds) (hf : ds.length < fu) (hz : ds.length ≤ sizeLine)
    (h : ∀ d, d ∈ ds → ∀ s', Gr s s' → ∃ e1, t.put d env = some e1 ∧ wp (elt e1 s') fun v s2 => v = f d ∧ Gr s' s2) (hx : ∀ s', Gr s s' → Q (ds.map f) s') :
    wp (compR (.lst k) t env (fun e1 s => evC g .nil e1 s) elt fu 0 [] s) Q := wp_mapI (fun i s' g => by simp only [It.at, g.lst hl]) hf hz h hx
def gridF (b f r p k1 k2 : Nat) : List (Nat × D) := [(A_own_base, .int b), (A_own_figures, .int f), (A_own_reach, .int r), (A_own_places, .int p), (A_own_bounds, .ref k1), (A_own_tops, .ref k2), (A_own_step, .int ((b : Int) ^ f - (b : Int) ^ f / b))]
def boundsL (b f : Nat) : List D := (rangeI 0 4).map fun d => match d with | .int i => .int ((b : Int) ^ (f + i.toNat)) | d => d
def topsL (b f r : Nat) : List D := (rangeI 0 4).map fun d => match d with | .int i => .int (((b : Int) ^ (f + i.toNat) - 1) * (b : Int) ^ r) | d => d
theorem boundsL_eq (b f : Nat) : boundsL b f = [.int ((b : Int) ^ f), .int ((b : Int) ^ (f + 1)), .int ((b : Int) ^ (f + 2)), .int ((b : Int) ^ (f + 3))] := rfl
theorem topsL_eq (b f r : Nat) : topsL b f r = [.int (((b : Int) ^ f - 1) * (b : Int) ^ r), .int (((b : Int) ^ (f + 1) - 1) * (b : Int) ^ r), .int (((b : Int) ^ (f + 2) - 1) * (b : Int) ^ r), .int (((b : Int) ^ (f + 3) - 1) * (b : Int) ^ r)] := rfl
theorem sm_pred {b k : Nat} (hb : b ≤ 10) (hk : k ≤ 600) : Sm ((b : Int) ^ k - 1) := by
  have h := pow_lt hb hk
  have h4 : (2 : Nat) ^ 3000 < 2 ^ 4000 := by decide +kernel
  have e : ((b : Int) ^ k) = ((b ^ k : Nat) : Int) := by simp
  unfold Sm
  rw [e]
  omega
structure GP (b f r p : Nat) : Prop where
  b2 : 2 ≤ b
  b10 : b ≤ 10
  f1 : 1 ≤ f
  f30 : f ≤ 30
  r60 : r ≤ 60
  p30 : p ≤ 30
structure IsGrid (s : Sto) (k b f r p : Nat) : Prop where
  gp : GP b f r p
  ex : ∃ k1 k2, s[k]? = some (.ins C_Grid (gridF b f r p k1 k2)) ∧ s[k1]? = some (.lst (boundsL b f)) ∧ s[k2]? = some (.lst (topsL b f r))
theorem IsGrid.gr {s s' : Sto} {k b f r p : Nat} (h : IsGrid s k b f r p) (g : Gr s s') : IsGrid s' k b f r p := by
  obtain ⟨k1, k2, h1, h2, h3⟩ := h.ex
  exact ⟨h.gp, k1, k2, g _ _ h1, g _ _ h2, g _ _ h3⟩
theorem IsGrid.kp {s s' : Sto} {k b f r p q : Nat} {x y z : D} (h : IsGrid s k b f r p) (hp : s[q]? = some (.lst [x, y, z])) (g : Kp q s s') : IsGrid s' k b f r p := by
  obtain ⟨k1, k2, h1, h2, h3⟩ := h.ex
  refine ⟨h.gp, k1, k2, g.2 _ _ (fun e => ?_) h1, g.2 _ _ (fun e => ?_) h2, g.2 _ _ (fun e => ?_) h3⟩
  · subst e; rw [hp] at h1; cases h1
  · subst e; rw [hp, boundsL_eq] at h2; cases h2
  · subst e; rw [hp, topsL_eq] at h3; cases h3

section
variable {fuel n : Nat} {s : Sto} {Q : D → Sto → Prop}
theorem Grid_init_ok {k b f r p : Nat} (hg : GP b f r p) (hk : s[k]? = some (.ins C_Grid [])) (hf : 1000 < fuel) (h : ∀ s', Kp k s s' → IsGrid s' k b f r p → Q .non s') :
    wp (call Z fuel (n + 4) F_Grid___init [.ref k, .int b, .int f, .int r, .int p] s) Q := by
  obtain ⟨b2, b10, f1, f30, r60, p30⟩ := hg
  refine wp_call (r := d_Grid___init) rfl rfl ?_
  simp only [d_Grid___init, ↓wf_nil, ↓wf_cons, ↓wg_asg, ↓wf_par, ↓wf_par3, ↓wg_setF, ↓wg_setI, ↓wf_ex, ↓wf_ret, ↓wf_retN, ↓wf_pass, ↓wf_brk, ↓wf_cnt, ↓wg_ite, ↓wf_for, ↓wp_var, ↓wp_lit, ↓wp_glob, ↓wp_bin, ↓wp_dct, ↓wp_dix, ↓wp_cmpEq, ↓wp_cmpIn, ↓wp_nin, onB_b, ↓wp_cmpNe, ↓wp_neg, ↓wp_cmp, ↓wp_chain, ↓wp_not, ↓wp_and, ↓wp_or, ↓wp_ite, ↓wp_fld, ↓wp_tup, ↓wp_new, ↓wp_callE, ↓wp_meth, ↓wp_make, ↓wp_bi, ↓wp_fold, ↓wp_foldv, ↓wp_append, ↓wp_extend, ↓wp_ix, ↓wp_sl, ↓wp_slk, ↓wp_enil, ↓wp_econs, ↓wp_disp, ↓wp_lrange, ↓wp_lcomp, ↓wp_cnil, ↓wp_ccons, ↓wp_seq, ↓wp_fresh, ↓wp_irange, ↓wp_enum, ↓wp_bind, ↓wp_ok, ↓wp_if, ↓swB_bl, ↓swT_s, ↓onS_s, ↓onO_s, ↓onI_i, ↓onR_r, ↓brB_t, ↓brB_f, ↓brB_n, ↓brB_d, cls_gOf, dct_new, pairsD, keyOf, not_true_eq_false, not_false_eq_true, ixN_30, ixN_31, ixN_32, lst_new, eqD_int, eqD_non_int, fuel_gOf, atI_0, atI_1, atI_2, atI_3, atI_4, putD, List.set_set, List.contains_cons, List.contains_nil, beq_self_eq_true, Bool.or_true, Bool.true_or, Bool.or_false, Bool.false_or, Nat.reduceEqDiff, Nat.reduceLT, Nat.zero_lt_succ, T.put, setAll, wipeE, tru, binD, cmpD, biD, itemsOf, tupOk, fldP, walkP, bnd, isNon, swB_bl, swT_s, onS_s, onO_s, onI_i, onR_r, brB_t, brB_f, brB_n, brB_d, brB_and, brB_or, List.map_cons, List.map_nil, List.cons_append, List.nil_append, List.append_nil, List.replicate, List.getElem?_cons_zero, List.getElem?_cons_succ, List.set_cons_zero, List.set_cons_succ, List.length_cons, List.length_nil, Nat.reduceAdd, Nat.reduceSub, Nat.reduceLeDiff, List.lookup_cons, List.lookup_nil, true_and, and_true, Bool.not_true, Bool.not_false, if_true, if_false, reduceIte, forall_const, Bool.false_eq_true, false_implies, implies_true, true_implies, reduceCtorEq, Nat.reduceBEq, con_MOST_MORE, con_NEAR, con_MOST_REACH, con_MOST_PLACES, con_MOST_BASE, con_LEAST_BASE, con_MOST_FIGURES, con_ZERO, con_UP, con_DOWN, cls_Grid, kl0, A_own_step, A_own_bounds, A_own_tops, A_own_places, A_own_reach, A_own_figures, A_own_base, A_check, C_Grid]
  refine is_grid_ok _ _ _ _ (by omega) (by omega) (by omega) (by omega) ?_
  simp only [↓wf_nil, ↓wf_cons, ↓wg_asg, ↓wf_par, ↓wf_par3, ↓wg_setF, ↓wg_setI, ↓wf_ex, ↓wf_ret, ↓wf_retN, ↓wf_pass, ↓wf_brk, ↓wf_cnt, ↓wg_ite, ↓wf_for, ↓wp_var, ↓wp_lit, ↓wp_glob, ↓wp_bin, ↓wp_dct, ↓wp_dix, ↓wp_cmpEq, ↓wp_cmpIn, ↓wp_nin, onB_b, ↓wp_cmpNe, ↓wp_neg, ↓wp_cmp, ↓wp_chain, ↓wp_not, ↓wp_and, ↓wp_or, ↓wp_ite, ↓wp_fld, ↓wp_tup, ↓wp_new, ↓wp_callE, ↓wp_meth, ↓wp_make, ↓wp_bi, ↓wp_fold, ↓wp_foldv, ↓wp_append, ↓wp_extend, ↓wp_ix, ↓wp_sl, ↓wp_slk, ↓wp_enil, ↓wp_econs, ↓wp_disp, ↓wp_lrange, ↓wp_lcomp, ↓wp_cnil, ↓wp_ccons, ↓wp_seq, ↓wp_fresh, ↓wp_irange, ↓wp_enum, ↓wp_bind, ↓wp_ok, ↓wp_if, ↓swB_bl, ↓swT_s, ↓onS_s, ↓onO_s, ↓onI_i, ↓onR_r, ↓brB_t, ↓brB_f, ↓brB_n, ↓brB_d, cls_gOf, dct_new, pairsD, keyOf, not_true_eq_false, not_false_eq_true, ixN_30, ixN_31, ixN_32, lst_new, eqD_int, eqD_non_int, fuel_gOf, atI_0, atI_1, atI_2, atI_3, atI_4, putD, List.set_set, List.contains_cons, List.contains_nil, beq_self_eq_true, Bool.or_true, Bool.true_or, Bool.or_false, Bool.false_or, Nat.reduceEqDiff, Nat.reduceLT, Nat.zero_lt_succ, T.put, setAll, wipeE, tru, binD, cmpD, biD, itemsOf, tupOk, fldP, walkP, bnd, isNon, swB_bl, swT_s, onS_s, onO_s, onI_i, onR_r, brB_t, brB_f, brB_n, brB_d, brB_and, brB_or, List.map_cons, List.map_nil, List.cons_append, List.nil_append, List.append_nil, List.replicate, List.getElem?_cons_zero, List.getElem?_cons_succ, List.set_cons_zero, List.set_cons_succ, List.length_cons, List.length_nil, Nat.reduceAdd, Nat.reduceSub, Nat.reduceLeDiff, List.lookup_cons, List.lookup_nil, true_and, and_true, Bool.not_true, Bool.not_false, if_true, if_false, reduceIte, forall_const, Bool.false_eq_true, false_implies, implies_true, true_implies, reduceCtorEq, Nat.reduceBEq, con_MOST_MORE, con_NEAR, con_MOST_REACH, con_MOST_PLACES, con_MOST_BASE, con_LEAST_BASE, con_MOST_FIGURES, con_ZERO, con_UP, con_DOWN, cls_Grid, kl0, A_own_step, A_own_bounds, A_own_tops, A_own_places, A_own_reach, A_own_figures, A_own_base, A_check, C_Grid]
  have hkl := (List.getElem?_eq_some_iff.mp hk).1
  have hi : ∀ c fs, insAt (s.set k (.ins c fs)) k = some (c, fs) := fun c fs => ins_of (by rw [List.getElem?_set_self hkl])
  simp only [↓wf_nil, ↓wf_cons, ↓wg_asg, ↓wf_par, ↓wf_par3, ↓wg_setF, ↓wg_setI, ↓wf_ex, ↓wf_ret, ↓wf_retN, ↓wf_pass, ↓wf_brk, ↓wf_cnt, ↓wg_ite, ↓wf_for, ↓wp_var, ↓wp_lit, ↓wp_glob, ↓wp_bin, ↓wp_dct, ↓wp_dix, ↓wp_cmpEq, ↓wp_cmpIn, ↓wp_nin, onB_b, ↓wp_cmpNe, ↓wp_neg, ↓wp_cmp, ↓wp_chain, ↓wp_not, ↓wp_and, ↓wp_or, ↓wp_ite, ↓wp_fld, ↓wp_tup, ↓wp_new, ↓wp_callE, ↓wp_meth, ↓wp_make, ↓wp_bi, ↓wp_fold, ↓wp_foldv, ↓wp_append, ↓wp_extend, ↓wp_ix, ↓wp_sl, ↓wp_slk, ↓wp_enil, ↓wp_econs, ↓wp_disp, ↓wp_lrange, ↓wp_lcomp, ↓wp_cnil, ↓wp_ccons, ↓wp_seq, ↓wp_fresh, ↓wp_irange, ↓wp_enum, ↓wp_bind, ↓wp_ok, ↓wp_if, ↓swB_bl, ↓swT_s, ↓onS_s, ↓onO_s, ↓onI_i, ↓onR_r, ↓brB_t, ↓brB_f, ↓brB_n, ↓brB_d, cls_gOf, dct_new, pairsD, keyOf, not_true_eq_false, not_false_eq_true, ixN_30, ixN_31, ixN_32, lst_new, eqD_int, eqD_non_int, fuel_gOf, atI_0, atI_1, atI_2, atI_3, atI_4, putD, List.set_set, List.contains_cons, List.contains_nil, beq_self_eq_true, Bool.or_true, Bool.true_or, Bool.or_false, Bool.false_or, Nat.reduceEqDiff, Nat.reduceLT, Nat.zero_lt_succ, T.put, setAll, wipeE, tru, binD, cmpD, biD, itemsOf, tupOk, fldP, walkP, bnd, isNon, swB_bl, swT_s, onS_s, onO_s, onI_i, onR_r, brB_t, brB_f, brB_n, brB_d, brB_and, brB_or, List.map_cons, List.map_nil, List.cons_append, List.nil_append, List.append_nil, List.replicate, List.getElem?_cons_zero, List.getElem?_cons_succ, List.set_cons_zero, List.set_cons_succ, List.length_cons, List.length_nil, Nat.reduceAdd, Nat.reduceSub, Nat.reduceLeDiff, List.lookup_cons, List.lookup_nil, true_and, and_true, Bool.not_true, Bool.not_false, if_true, if_false, reduceIte, forall_const, Bool.false_eq_true, false_implies, implies_true, true_implies, reduceCtorEq, Nat.reduceBEq, con_MOST_MORE, con_NEAR, con_MOST_REACH, con_MOST_PLACES, con_MOST_BASE, con_LEAST_BASE, con_MOST_FIGURES, con_ZERO, con_UP, con_DOWN, cls_Grid, kl0, A_own_step, A_own_bounds, A_own_tops, A_own_places, A_own_reach, A_own_figures, A_own_base, A_check, C_Grid, ins_of hk, hi]
  rw [show ((3 : Int) + 1) = ((4 : Nat) : Int) from rfl, rangeD1 (by omega)]
  simp only [↓wf_nil, ↓wf_cons, ↓wg_asg, ↓wf_par, ↓wf_par3, ↓wg_setF, ↓wg_setI, ↓wf_ex, ↓wf_ret, ↓wf_retN, ↓wf_pass, ↓wf_brk, ↓wf_cnt, ↓wg_ite, ↓wf_for, ↓wp_var, ↓wp_lit, ↓wp_glob, ↓wp_bin, ↓wp_dct, ↓wp_dix, ↓wp_cmpEq, ↓wp_cmpIn, ↓wp_nin, onB_b, ↓wp_cmpNe, ↓wp_neg, ↓wp_cmp, ↓wp_chain, ↓wp_not, ↓wp_and, ↓wp_or, ↓wp_ite, ↓wp_fld, ↓wp_tup, ↓wp_new, ↓wp_callE, ↓wp_meth, ↓wp_make, ↓wp_bi, ↓wp_fold, ↓wp_foldv, ↓wp_append, ↓wp_extend, ↓wp_ix, ↓wp_sl, ↓wp_slk, ↓wp_enil, ↓wp_econs, ↓wp_disp, ↓wp_lrange, ↓wp_lcomp, ↓wp_cnil, ↓wp_ccons, ↓wp_seq, ↓wp_fresh, ↓wp_irange, ↓wp_enum, ↓wp_bind, ↓wp_ok, ↓wp_if, ↓swB_bl, ↓swT_s, ↓onS_s, ↓onO_s, ↓onI_i, ↓onR_r, ↓brB_t, ↓brB_f, ↓brB_n, ↓brB_d, cls_gOf, dct_new, pairsD, keyOf, not_true_eq_false, not_false_eq_true, ixN_30, ixN_31, ixN_32, lst_new, eqD_int, eqD_non_int, fuel_gOf, atI_0, atI_1, atI_2, atI_3, atI_4, putD, List.set_set, List.contains_cons, List.contains_nil, beq_self_eq_true, Bool.or_true, Bool.true_or, Bool.or_false, Bool.false_or, Nat.reduceEqDiff, Nat.reduceLT, Nat.zero_lt_succ, T.put, setAll, wipeE, tru, binD, cmpD, biD, itemsOf, tupOk, fldP, walkP, bnd, isNon, swB_bl, swT_s, onS_s, onO_s, onI_i, onR_r, brB_t, brB_f, brB_n, brB_d, brB_and, brB_or, List.map_cons, List.map_nil, List.cons_append, List.nil_append, List.append_nil, List.replicate, List.getElem?_cons_zero, List.getElem?_cons_succ, List.set_cons_zero, List.set_cons_succ, List.length_cons, List.length_nil, Nat.reduceAdd, Nat.reduceSub, Nat.reduceLeDiff, List.lookup_cons, List.lookup_nil, true_and, and_true, Bool.not_true, Bool.not_false, if_true, if_false, reduceIte, forall_const, Bool.false_eq_true, false_implies, implies_true, true_implies, reduceCtorEq, Nat.reduceBEq, con_MOST_MORE, con_NEAR, con_MOST_REACH, con_MOST_PLACES, con_MOST_BASE, con_LEAST_BASE, con_MOST_FIGURES, con_ZERO, con_UP, con_DOWN, cls_Grid, kl0, A_own_step, A_own_bounds, A_own_tops, A_own_places, A_own_reach, A_own_figures, A_own_base, A_check, C_Grid]
  refine wp_map (f := fun d => match d with | .int i => .int ((b : Int) ^ (f + i.toNat)) | d => d) (by rw [rangeI_len]; omega) (by rw [rangeI_len]; decide) ?_ ?_
  · intro d hd s' gr
    obtain ⟨i, hd⟩ := List.getElem?_of_mem hd
    obtain ⟨rfl, hi⟩ := rangeI_at hd
    refine ⟨_, rfl, ?_⟩
    simp only [↓wf_nil, ↓wf_cons, ↓wg_asg, ↓wf_par, ↓wf_par3, ↓wg_setF, ↓wg_setI, ↓wf_ex, ↓wf_ret, ↓wf_retN, ↓wf_pass, ↓wf_brk, ↓wf_cnt, ↓wg_ite, ↓wf_for, ↓wp_var, ↓wp_lit, ↓wp_glob, ↓wp_bin, ↓wp_dct, ↓wp_dix, ↓wp_cmpEq, ↓wp_cmpIn, ↓wp_nin, onB_b, ↓wp_cmpNe, ↓wp_neg, ↓wp_cmp, ↓wp_chain, ↓wp_not, ↓wp_and, ↓wp_or, ↓wp_ite, ↓wp_fld, ↓wp_tup, ↓wp_new, ↓wp_callE, ↓wp_meth, ↓wp_make, ↓wp_bi, ↓wp_fold, ↓wp_foldv, ↓wp_append, ↓wp_extend, ↓wp_ix, ↓wp_sl, ↓wp_slk, ↓wp_enil, ↓wp_econs, ↓wp_disp, ↓wp_lrange, ↓wp_lcomp, ↓wp_cnil, ↓wp_ccons, ↓wp_seq, ↓wp_fresh, ↓wp_irange, ↓wp_enum, ↓wp_bind, ↓wp_ok, ↓wp_if, ↓swB_bl, ↓swT_s, ↓onS_s, ↓onO_s, ↓onI_i, ↓onR_r, ↓brB_t, ↓brB_f, ↓brB_n, ↓brB_d, cls_gOf, dct_new, pairsD, keyOf, not_true_eq_false, not_false_eq_true, ixN_30, ixN_31, ixN_32, lst_new, eqD_int, eqD_non_int, fuel_gOf, atI_0, atI_1, atI_2, atI_3, atI_4, putD, List.set_set, List.contains_cons, List.contains_nil, beq_self_eq_true, Bool.or_true, Bool.true_or, Bool.or_false, Bool.false_or, Nat.reduceEqDiff, Nat.reduceLT, Nat.zero_lt_succ, T.put, setAll, wipeE, tru, binD, cmpD, biD, itemsOf, tupOk, fldP, walkP, bnd, isNon, swB_bl, swT_s, onS_s, onO_s, onI_i, onR_r, brB_t, brB_f, brB_n, brB_d, brB_and, brB_or, List.map_cons, List.map_nil, List.cons_append, List.nil_append, List.append_nil, List.replicate, List.getElem?_cons_zero, List.getElem?_cons_succ, List.set_cons_zero, List.set_cons_succ, List.length_cons, List.length_nil, Nat.reduceAdd, Nat.reduceSub, Nat.reduceLeDiff, List.lookup_cons, List.lookup_nil, true_and, and_true, Bool.not_true, Bool.not_false, if_true, if_false, reduceIte, forall_const, Bool.false_eq_true, false_implies, implies_true, true_implies, reduceCtorEq, Nat.reduceBEq, con_MOST_MORE, con_NEAR, con_MOST_REACH, con_MOST_PLACES, con_MOST_BASE, con_LEAST_BASE, con_MOST_FIGURES, con_ZERO, con_UP, con_DOWN, cls_Grid, kl0, A_own_step, A_own_bounds, A_own_tops, A_own_places, A_own_reach, A_own_figures, A_own_base, A_check, C_Grid]
    rw [show (f : Int) + (0 + (i : Int)) = ((f + i : Nat) : Int) by omega]
    refine power_ok b10 (by omega) (by omega) ⟨?_, .refl⟩
    simp
  intro s1 g1
  have e1 := g1 k _ (List.getElem?_set_self hkl)
  have q1 : Kp k s s1 := Kp.gr (Kp.set .refl) g1
  have hk1 := (List.getElem?_eq_some_iff.mp e1).1
  show wp (evE _ _ _ (s1 ++ [Cell.lst (boundsL b f)])) _
  generalize ek : s1.length = k1
  have i2 : (s1 ++ [Cell.lst (boundsL b f)])[k]? = _ := Gr.app _ _ _ e1
  have l2 : (s1 ++ [Cell.lst (boundsL b f)])[k1]? = some (.lst (boundsL b f)) := by rw [← ek]; simp
  have q2 : Kp k s (s1 ++ [Cell.lst (boundsL b f)]) := q1.gr (.app _)
  generalize s1 ++ [Cell.lst (boundsL b f)] = s2 at i2 l2 q2 ⊢
  have hkl2 := (List.getElem?_eq_some_iff.mp i2).1
  have n12 : k ≠ k1 := by omega
  have hi2 : ∀ c fs, insAt (s2.set k (.ins c fs)) k = some (c, fs) := fun c fs => ins_of (List.getElem?_set_self hkl2)
  have hl2 : ∀ c fs, lstAt (s2.set k (.ins c fs)) k1 = some (boundsL b f) := fun c fs => lst_of (by rw [List.getElem?_set_ne n12]; exact l2)
  simp only [↓wf_nil, ↓wf_cons, ↓wg_asg, ↓wf_par, ↓wf_par3, ↓wg_setF, ↓wg_setI, ↓wf_ex, ↓wf_ret, ↓wf_retN, ↓wf_pass, ↓wf_brk, ↓wf_cnt, ↓wg_ite, ↓wf_for, ↓wp_var, ↓wp_lit, ↓wp_glob, ↓wp_bin, ↓wp_dct, ↓wp_dix, ↓wp_cmpEq, ↓wp_cmpIn, ↓wp_nin, onB_b, ↓wp_cmpNe, ↓wp_neg, ↓wp_cmp, ↓wp_chain, ↓wp_not, ↓wp_and, ↓wp_or, ↓wp_ite, ↓wp_fld, ↓wp_tup, ↓wp_new, ↓wp_callE, ↓wp_meth, ↓wp_make, ↓wp_bi, ↓wp_fold, ↓wp_foldv, ↓wp_append, ↓wp_extend, ↓wp_ix, ↓wp_sl, ↓wp_slk, ↓wp_enil, ↓wp_econs, ↓wp_disp, ↓wp_lrange, ↓wp_lcomp, ↓wp_cnil, ↓wp_ccons, ↓wp_seq, ↓wp_fresh, ↓wp_irange, ↓wp_enum, ↓wp_bind, ↓wp_ok, ↓wp_if, ↓swB_bl, ↓swT_s, ↓onS_s, ↓onO_s, ↓onI_i, ↓onR_r, ↓brB_t, ↓brB_f, ↓brB_n, ↓brB_d, cls_gOf, dct_new, pairsD, keyOf, not_true_eq_false, not_false_eq_true, ixN_30, ixN_31, ixN_32, lst_new, eqD_int, eqD_non_int, fuel_gOf, atI_0, atI_1, atI_2, atI_3, atI_4, putD, List.set_set, List.contains_cons, List.contains_nil, beq_self_eq_true, Bool.or_true, Bool.true_or, Bool.or_false, Bool.false_or, Nat.reduceEqDiff, Nat.reduceLT, Nat.zero_lt_succ, T.put, setAll, wipeE, tru, binD, cmpD, biD, itemsOf, tupOk, fldP, walkP, bnd, isNon, swB_bl, swT_s, onS_s, onO_s, onI_i, onR_r, brB_t, brB_f, brB_n, brB_d, brB_and, brB_or, List.map_cons, List.map_nil, List.cons_append, List.nil_append, List.append_nil, List.replicate, List.getElem?_cons_zero, List.getElem?_cons_succ, List.set_cons_zero, List.set_cons_succ, List.length_cons, List.length_nil, Nat.reduceAdd, Nat.reduceSub, Nat.reduceLeDiff, List.lookup_cons, List.lookup_nil, true_and, and_true, Bool.not_true, Bool.not_false, if_true, if_false, reduceIte, forall_const, Bool.false_eq_true, false_implies, implies_true, true_implies, reduceCtorEq, Nat.reduceBEq, con_MOST_MORE, con_NEAR, con_MOST_REACH, con_MOST_PLACES, con_MOST_BASE, con_LEAST_BASE, con_MOST_FIGURES, con_ZERO, con_UP, con_DOWN, cls_Grid, kl0, A_own_step, A_own_bounds, A_own_tops, A_own_places, A_own_reach, A_own_figures, A_own_base, A_check, C_Grid, ins_of i2, hi2, hl2]
  have sB : ∀ j, j ≤ 600 → Sm ((b : Int) ^ j) := fun j hj => Sm.pow b10 hj
  refine wp_mapL (hl2 _ _) (f := fun d => match d with | .int i => .int ((i - 1) * (b : Int) ^ r) | d => d) (by rw [boundsL_eq]; show 4 < _; omega) (by rw [boundsL_eq]; show 4 ≤ sizeLine; decide) ?_ ?_
  · intro d hd s' gr
    have : ∃ j, j ≤ 33 ∧ d = .int ((b : Int) ^ j) := by
      rw [boundsL_eq] at hd
      simp only [List.mem_cons, List.not_mem_nil, or_false] at hd
      rcases hd with rfl | rfl | rfl | rfl
      · exact ⟨f, by omega, rfl⟩
      · exact ⟨f + 1, by omega, rfl⟩
      · exact ⟨f + 2, by omega, rfl⟩
      · exact ⟨f + 3, by omega, rfl⟩
    obtain ⟨j, hj, rfl⟩ := this
    refine ⟨_, rfl, ?_⟩
    simp only [↓wf_nil, ↓wf_cons, ↓wg_asg, ↓wf_par, ↓wf_par3, ↓wg_setF, ↓wg_setI, ↓wf_ex, ↓wf_ret, ↓wf_retN, ↓wf_pass, ↓wf_brk, ↓wf_cnt, ↓wg_ite, ↓wf_for, ↓wp_var, ↓wp_lit, ↓wp_glob, ↓wp_bin, ↓wp_dct, ↓wp_dix, ↓wp_cmpEq, ↓wp_cmpIn, ↓wp_nin, onB_b, ↓wp_cmpNe, ↓wp_neg, ↓wp_cmp, ↓wp_chain, ↓wp_not, ↓wp_and, ↓wp_or, ↓wp_ite, ↓wp_fld, ↓wp_tup, ↓wp_new, ↓wp_callE, ↓wp_meth, ↓wp_make, ↓wp_bi, ↓wp_fold, ↓wp_foldv, ↓wp_append, ↓wp_extend, ↓wp_ix, ↓wp_sl, ↓wp_slk, ↓wp_enil, ↓wp_econs, ↓wp_disp, ↓wp_lrange, ↓wp_lcomp, ↓wp_cnil, ↓wp_ccons, ↓wp_seq, ↓wp_fresh, ↓wp_irange, ↓wp_enum, ↓wp_bind, ↓wp_ok, ↓wp_if, ↓swB_bl, ↓swT_s, ↓onS_s, ↓onO_s, ↓onI_i, ↓onR_r, ↓brB_t, ↓brB_f, ↓brB_n, ↓brB_d, cls_gOf, dct_new, pairsD, keyOf, not_true_eq_false, not_false_eq_true, ixN_30, ixN_31, ixN_32, lst_new, eqD_int, eqD_non_int, fuel_gOf, atI_0, atI_1, atI_2, atI_3, atI_4, putD, List.set_set, List.contains_cons, List.contains_nil, beq_self_eq_true, Bool.or_true, Bool.true_or, Bool.or_false, Bool.false_or, Nat.reduceEqDiff, Nat.reduceLT, Nat.zero_lt_succ, T.put, setAll, wipeE, tru, binD, cmpD, biD, itemsOf, tupOk, fldP, walkP, bnd, isNon, swB_bl, swT_s, onS_s, onO_s, onI_i, onR_r, brB_t, brB_f, brB_n, brB_d, brB_and, brB_or, List.map_cons, List.map_nil, List.cons_append, List.nil_append, List.append_nil, List.replicate, List.getElem?_cons_zero, List.getElem?_cons_succ, List.set_cons_zero, List.set_cons_succ, List.length_cons, List.length_nil, Nat.reduceAdd, Nat.reduceSub, Nat.reduceLeDiff, List.lookup_cons, List.lookup_nil, true_and, and_true, Bool.not_true, Bool.not_false, if_true, if_false, reduceIte, forall_const, Bool.false_eq_true, false_implies, implies_true, true_implies, reduceCtorEq, Nat.reduceBEq, con_MOST_MORE, con_NEAR, con_MOST_REACH, con_MOST_PLACES, con_MOST_BASE, con_LEAST_BASE, con_MOST_FIGURES, con_ZERO, con_UP, con_DOWN, cls_Grid, kl0, A_own_step, A_own_bounds, A_own_tops, A_own_places, A_own_reach, A_own_figures, A_own_base, A_check, C_Grid]
    refine power_ok b10 (by omega) (by omega) ?_
    simp only [↓wf_nil, ↓wf_cons, ↓wg_asg, ↓wf_par, ↓wf_par3, ↓wg_setF, ↓wg_setI, ↓wf_ex, ↓wf_ret, ↓wf_retN, ↓wf_pass, ↓wf_brk, ↓wf_cnt, ↓wg_ite, ↓wf_for, ↓wp_var, ↓wp_lit, ↓wp_glob, ↓wp_bin, ↓wp_dct, ↓wp_dix, ↓wp_cmpEq, ↓wp_cmpIn, ↓wp_nin, onB_b, ↓wp_cmpNe, ↓wp_neg, ↓wp_cmp, ↓wp_chain, ↓wp_not, ↓wp_and, ↓wp_or, ↓wp_ite, ↓wp_fld, ↓wp_tup, ↓wp_new, ↓wp_callE, ↓wp_meth, ↓wp_make, ↓wp_bi, ↓wp_fold, ↓wp_foldv, ↓wp_append, ↓wp_extend, ↓wp_ix, ↓wp_sl, ↓wp_slk, ↓wp_enil, ↓wp_econs, ↓wp_disp, ↓wp_lrange, ↓wp_lcomp, ↓wp_cnil, ↓wp_ccons, ↓wp_seq, ↓wp_fresh, ↓wp_irange, ↓wp_enum, ↓wp_bind, ↓wp_ok, ↓wp_if, ↓swB_bl, ↓swT_s, ↓onS_s, ↓onO_s, ↓onI_i, ↓onR_r, ↓brB_t, ↓brB_f, ↓brB_n, ↓brB_d, cls_gOf, dct_new, pairsD, keyOf, not_true_eq_false, not_false_eq_true, ixN_30, ixN_31, ixN_32, lst_new, eqD_int, eqD_non_int, fuel_gOf, atI_0, atI_1, atI_2, atI_3, atI_4, putD, List.set_set, List.contains_cons, List.contains_nil, beq_self_eq_true, Bool.or_true, Bool.true_or, Bool.or_false, Bool.false_or, Nat.reduceEqDiff, Nat.reduceLT, Nat.zero_lt_succ, T.put, setAll, wipeE, tru, binD, cmpD, biD, itemsOf, tupOk, fldP, walkP, bnd, isNon, swB_bl, swT_s, onS_s, onO_s, onI_i, onR_r, brB_t, brB_f, brB_n, brB_d, brB_and, brB_or, List.map_cons, List.map_nil, List.cons_append, List.nil_append, List.append_nil, List.replicate, List.getElem?_cons_zero, List.getElem?_cons_succ, List.set_cons_zero, List.set_cons_succ, List.length_cons, List.length_nil, Nat.reduceAdd, Nat.reduceSub, Nat.reduceLeDiff, List.lookup_cons, List.lookup_nil, true_and, and_true, Bool.not_true, Bool.not_false, if_true, if_false, reduceIte, forall_const, Bool.false_eq_true, false_implies, implies_true, true_implies, reduceCtorEq, Nat.reduceBEq, con_MOST_MORE, con_NEAR, con_MOST_REACH, con_MOST_PLACES, con_MOST_BASE, con_LEAST_BASE, con_MOST_FIGURES, con_ZERO, con_UP, con_DOWN, cls_Grid, kl0, A_own_step, A_own_bounds, A_own_tops, A_own_places, A_own_reach, A_own_figures, A_own_base, A_check, C_Grid]
    exact ⟨Sm.mul (sm_pred b10 (by omega)) (sB r (by omega)), .refl⟩
  intro s3 g3
  show wp (evE _ _ _ (s3 ++ [Cell.lst (topsL b f r)])) _
  have e3 := g3 k _ (List.getElem?_set_self hkl2)
  have l3 := g3 k1 _ ((List.getElem?_set_ne n12).trans l2)
  have q3 : Kp k s s3 := Kp.gr (Kp.set q2) g3
  have hk3 := (List.getElem?_eq_some_iff.mp e3).1
  have hk31 := (List.getElem?_eq_some_iff.mp l3).1
  generalize ek2 : s3.length = k2
  have i4 : (s3 ++ [Cell.lst (topsL b f r)])[k]? = _ := Gr.app _ _ _ e3
  have l4 : (s3 ++ [Cell.lst (topsL b f r)])[k1]? = _ := Gr.app _ _ _ l3
  have m4 : (s3 ++ [Cell.lst (topsL b f r)])[k2]? = some (.lst (topsL b f r)) := by rw [← ek2]; simp
  have q4 : Kp k s (s3 ++ [Cell.lst (topsL b f r)]) := q3.gr (.app _)
  generalize s3 ++ [Cell.lst (topsL b f r)] = s4 at i4 l4 m4 q4 ⊢
  have n2 : k ≠ k2 := by omega
  have hkl4 := (List.getElem?_eq_some_iff.mp i4).1
  have hi4 : ∀ c fs, insAt (s4.set k (.ins c fs)) k = some (c, fs) := fun c fs => ins_of (List.getElem?_set_self hkl4)
  have hl4 : ∀ c fs, lstAt (s4.set k (.ins c fs)) k1 = some (boundsL b f) := fun c fs => lst_of (by rw [List.getElem?_set_ne n12]; exact l4)
  simp only [↓wf_nil, ↓wf_cons, ↓wg_asg, ↓wf_par, ↓wf_par3, ↓wg_setF, ↓wg_setI, ↓wf_ex, ↓wf_ret, ↓wf_retN, ↓wf_pass, ↓wf_brk, ↓wf_cnt, ↓wg_ite, ↓wf_for, ↓wp_var, ↓wp_lit, ↓wp_glob, ↓wp_bin, ↓wp_dct, ↓wp_dix, ↓wp_cmpEq, ↓wp_cmpIn, ↓wp_nin, onB_b, ↓wp_cmpNe, ↓wp_neg, ↓wp_cmp, ↓wp_chain, ↓wp_not, ↓wp_and, ↓wp_or, ↓wp_ite, ↓wp_fld, ↓wp_tup, ↓wp_new, ↓wp_callE, ↓wp_meth, ↓wp_make, ↓wp_bi, ↓wp_fold, ↓wp_foldv, ↓wp_append, ↓wp_extend, ↓wp_ix, ↓wp_sl, ↓wp_slk, ↓wp_enil, ↓wp_econs, ↓wp_disp, ↓wp_lrange, ↓wp_lcomp, ↓wp_cnil, ↓wp_ccons, ↓wp_seq, ↓wp_fresh, ↓wp_irange, ↓wp_enum, ↓wp_bind, ↓wp_ok, ↓wp_if, ↓swB_bl, ↓swT_s, ↓onS_s, ↓onO_s, ↓onI_i, ↓onR_r, ↓brB_t, ↓brB_f, ↓brB_n, ↓brB_d, cls_gOf, dct_new, pairsD, keyOf, not_true_eq_false, not_false_eq_true, ixN_30, ixN_31, ixN_32, lst_new, eqD_int, eqD_non_int, fuel_gOf, atI_0, atI_1, atI_2, atI_3, atI_4, putD, List.set_set, List.contains_cons, List.contains_nil, beq_self_eq_true, Bool.or_true, Bool.true_or, Bool.or_false, Bool.false_or, Nat.reduceEqDiff, Nat.reduceLT, Nat.zero_lt_succ, T.put, setAll, wipeE, tru, binD, cmpD, biD, itemsOf, tupOk, fldP, walkP, bnd, isNon, swB_bl, swT_s, onS_s, onO_s, onI_i, onR_r, brB_t, brB_f, brB_n, brB_d, brB_and, brB_or, List.map_cons, List.map_nil, List.cons_append, List.nil_append, List.append_nil, List.replicate, List.getElem?_cons_zero, List.getElem?_cons_succ, List.set_cons_zero, List.set_cons_succ, List.length_cons, List.length_nil, Nat.reduceAdd, Nat.reduceSub, Nat.reduceLeDiff, List.lookup_cons, List.lookup_nil, true_and, and_true, Bool.not_true, Bool.not_false, if_true, if_false, reduceIte, forall_const, Bool.false_eq_true, false_implies, implies_true, true_implies, reduceCtorEq, Nat.reduceBEq, con_MOST_MORE, con_NEAR, con_MOST_REACH, con_MOST_PLACES, con_MOST_BASE, con_LEAST_BASE, con_MOST_FIGURES, con_ZERO, con_UP, con_DOWN, cls_Grid, kl0, A_own_step, A_own_bounds, A_own_tops, A_own_places, A_own_reach, A_own_figures, A_own_base, A_check, C_Grid, ins_of i4, hi4, hl4, boundsL_eq]
  have bp : (0 : Int) < b := by omega
  have bl : (b : Int).natAbs.log2 < 9000 := by have := (Sm.base b10).log; omega
  refine ⟨⟨bp, bl⟩, h _ (Kp.set q4) ⟨⟨b2, b10, f1, f30, r60, p30⟩, k1, k2, ?_, ?_, ?_⟩⟩
  · rw [List.getElem?_set_self hkl4]; rfl
  · rw [List.getElem?_set_ne n12]; exact l4
  · rw [List.getElem?_set_ne n2]; exact m4
theorem Grid_make_ok {b f r p : Nat} {Q : Sto → Prop} (hg : GP b f r p) (hf : 1000 < fuel) (h : ∀ s', Gr s s' → IsGrid s' s.length b f r p → Q s') :
    wp (call Z fuel (n + 4) F_Grid___init [.ref s.length, .int b, .int f, .int r, .int p] (s ++ [.ins C_Grid []])) fun d s2 => d = .non ∧ Q s2 := by
  refine Grid_init_ok hg (by simp) hf fun s' kp ig => ⟨rfl, h s' (fun i c e => ?_) ig⟩
  have hi := (List.getElem?_eq_some_iff.mp e).1
  exact kp.2 i c (by omega) (Gr.app _ _ _ e)
/-- the greatest number -/
def gtop (b f r : Nat) : Nat := (b ^ f - 1) * b ^ r
theorem gtop_int {b f r : Nat} (hb : 0 < b) : ((b : Int) ^ f - 1) * (b : Int) ^ r = (gtop b f r : Int) := by
  unfold gtop
  have : 1 ≤ b ^ f := Nat.pow_pos hb
  rw [Int.natCast_mul, Int.natCast_sub this]
  simp
/-- a number of the grid -/
def onGrid (b f r : Nat) (x : Int) : Prop := x.natAbs ≤ gtop b f r ∧ x % ((b : Int) ^ spn b (b ^ f) x.natAbs) = 0
instance {b f r : Nat} {x : Int} : Decidable (onGrid b f r x) := by unfold onGrid; infer_instance
theorem gtop_lt {b f r p : Nat} (gp : GP b f r p) : gtop b f r < 2 ^ 400 := by
  obtain ⟨b2, b10, f1, f30, r60, p30⟩ := gp
  unfold gtop
  have h1 : b ^ f ≤ 10 ^ 30 := Nat.le_trans (Nat.pow_le_pow_left b10 f) (Nat.pow_le_pow_right (by decide) f30)
  have h2 : b ^ r ≤ 10 ^ 60 := Nat.le_trans (Nat.pow_le_pow_left b10 r) (Nat.pow_le_pow_right (by decide) r60)
  have h3 : (b ^ f - 1) * b ^ r ≤ 10 ^ 30 * 10 ^ 60 := Nat.mul_le_mul (by omega) h2
  have h4 : (10 : Nat) ^ 30 * 10 ^ 60 < 2 ^ 400 := by decide +kernel
  omega
theorem bf_lt {b f r p : Nat} (gp : GP b f r p) (j : Nat) (hj : j ≤ 3) : b ^ (f + j) < 2 ^ 300 := by
  obtain ⟨b2, b10, f1, f30, r60, p30⟩ := gp
  have h1 : b ^ (f + j) ≤ 10 ^ 33 := Nat.le_trans (Nat.pow_le_pow_left b10 _) (Nat.pow_le_pow_right (by decide) (by omega))
  have h4 : (10 : Nat) ^ 33 < 2 ^ 300 := by decide +kernel
  omega
theorem cast_pow {b j : Nat} : ((b : Int) ^ j) = ((b ^ j : Nat) : Int) := by simp
theorem spow_pos {b j : Nat} (hb : 0 < b) : (0 : Int) < (b : Int) ^ j := by
  rw [cast_pow]
  have := Nat.pow_pos (n := j) hb
  omega
theorem Grid_contains_ok {k b f r p : Nat} {x : Int} (hg : IsGrid s k b f r p) (hf : 1000 < fuel) (h : Q (.bl (decide (onGrid b f r x))) s) : wp (call Z fuel (n + 2) F_Grid___contains [.ref k, .int x] s) Q := by
  obtain ⟨gp, k1, k2, h1, h2, h3⟩ := hg
  have b0 : 0 < b := by have := gp.b2; omega
  refine wp_call (r := d_Grid___contains) rfl rfl ?_
  simp only [d_Grid___contains, ↓wf_nil, ↓wf_cons, ↓wg_asg, ↓wf_par, ↓wf_par3, ↓wg_setF, ↓wg_setI, ↓wf_ex, ↓wf_ret, ↓wf_retN, ↓wf_pass, ↓wf_brk, ↓wf_cnt, ↓wg_ite, ↓wf_for, ↓wp_var, ↓wp_lit, ↓wp_glob, ↓wp_bin, ↓wp_dct, ↓wp_dix, ↓wp_cmpEq, ↓wp_cmpIn, ↓wp_nin, onB_b, ↓wp_cmpNe, ↓wp_neg, ↓wp_cmp, ↓wp_chain, ↓wp_not, ↓wp_and, ↓wp_or, ↓wp_ite, ↓wp_fld, ↓wp_tup, ↓wp_new, ↓wp_callE, ↓wp_meth, ↓wp_make, ↓wp_bi, ↓wp_fold, ↓wp_foldv, ↓wp_append, ↓wp_extend, ↓wp_ix, ↓wp_sl, ↓wp_slk, ↓wp_enil, ↓wp_econs, ↓wp_disp, ↓wp_lrange, ↓wp_lcomp, ↓wp_cnil, ↓wp_ccons, ↓wp_seq, ↓wp_fresh, ↓wp_irange, ↓wp_enum, ↓wp_bind, ↓wp_ok, ↓wp_if, ↓swB_bl, ↓swT_s, ↓onS_s, ↓onO_s, ↓onI_i, ↓onR_r, ↓brB_t, ↓brB_f, ↓brB_n, ↓brB_d, cls_gOf, dct_new, pairsD, keyOf, not_true_eq_false, not_false_eq_true, ixN_30, ixN_31, ixN_32, lst_new, eqD_int, eqD_non_int, fuel_gOf, atI_0, atI_1, atI_2, atI_3, atI_4, putD, List.set_set, List.contains_cons, List.contains_nil, beq_self_eq_true, Bool.or_true, Bool.true_or, Bool.or_false, Bool.false_or, Nat.reduceEqDiff, Nat.reduceLT, Nat.zero_lt_succ, T.put, setAll, wipeE, tru, binD, cmpD, biD, itemsOf, tupOk, fldP, walkP, bnd, isNon, swB_bl, swT_s, onS_s, onO_s, onI_i, onR_r, brB_t, brB_f, brB_n, brB_d, brB_and, brB_or, List.map_cons, List.map_nil, List.cons_append, List.nil_append, List.append_nil, List.replicate, List.getElem?_cons_zero, List.getElem?_cons_succ, List.set_cons_zero, List.set_cons_succ, List.length_cons, List.length_nil, Nat.reduceAdd, Nat.reduceSub, Nat.reduceLeDiff, List.lookup_cons, List.lookup_nil, true_and, and_true, Bool.not_true, Bool.not_false, if_true, if_false, reduceIte, forall_const, Bool.false_eq_true, false_implies, implies_true, true_implies, reduceCtorEq, Nat.reduceBEq, con_MOST_MORE, con_NEAR, con_MOST_REACH, con_MOST_PLACES, con_MOST_BASE, con_LEAST_BASE, con_MOST_FIGURES, con_ZERO, con_UP, con_DOWN, cls_Grid, kl0, A_own_step, A_own_bounds, A_own_tops, A_own_places, A_own_reach, A_own_figures, A_own_base, A_check, C_Grid, ins_of h1, gridF, lst_of h3, topsL_eq]
  refine is_whole_ok _ ?_
  simp only [↓wf_nil, ↓wf_cons, ↓wg_asg, ↓wf_par, ↓wf_par3, ↓wg_setF, ↓wg_setI, ↓wf_ex, ↓wf_ret, ↓wf_retN, ↓wf_pass, ↓wf_brk, ↓wf_cnt, ↓wg_ite, ↓wf_for, ↓wp_var, ↓wp_lit, ↓wp_glob, ↓wp_bin, ↓wp_dct, ↓wp_dix, ↓wp_cmpEq, ↓wp_cmpIn, ↓wp_nin, onB_b, ↓wp_cmpNe, ↓wp_neg, ↓wp_cmp, ↓wp_chain, ↓wp_not, ↓wp_and, ↓wp_or, ↓wp_ite, ↓wp_fld, ↓wp_tup, ↓wp_new, ↓wp_callE, ↓wp_meth, ↓wp_make, ↓wp_bi, ↓wp_fold, ↓wp_foldv, ↓wp_append, ↓wp_extend, ↓wp_ix, ↓wp_sl, ↓wp_slk, ↓wp_enil, ↓wp_econs, ↓wp_disp, ↓wp_lrange, ↓wp_lcomp, ↓wp_cnil, ↓wp_ccons, ↓wp_seq, ↓wp_fresh, ↓wp_irange, ↓wp_enum, ↓wp_bind, ↓wp_ok, ↓wp_if, ↓swB_bl, ↓swT_s, ↓onS_s, ↓onO_s, ↓onI_i, ↓onR_r, ↓brB_t, ↓brB_f, ↓brB_n, ↓brB_d, cls_gOf, dct_new, pairsD, keyOf, not_true_eq_false, not_false_eq_true, ixN_30, ixN_31, ixN_32, lst_new, eqD_int, eqD_non_int, fuel_gOf, atI_0, atI_1, atI_2, atI_3, atI_4, putD, List.set_set, List.contains_cons, List.contains_nil, beq_self_eq_true, Bool.or_true, Bool.true_or, Bool.or_false, Bool.false_or, Nat.reduceEqDiff, Nat.reduceLT, Nat.zero_lt_succ, T.put, setAll, wipeE, tru, binD, cmpD, biD, itemsOf, tupOk, fldP, walkP, bnd, isNon, swB_bl, swT_s, onS_s, onO_s, onI_i, onR_r, brB_t, brB_f, brB_n, brB_d, brB_and, brB_or, List.map_cons, List.map_nil, List.cons_append, List.nil_append, List.append_nil, List.replicate, List.getElem?_cons_zero, List.getElem?_cons_succ, List.set_cons_zero, List.set_cons_succ, List.length_cons, List.length_nil, Nat.reduceAdd, Nat.reduceSub, Nat.reduceLeDiff, List.lookup_cons, List.lookup_nil, true_and, and_true, Bool.not_true, Bool.not_false, if_true, if_false, reduceIte, forall_const, Bool.false_eq_true, false_implies, implies_true, true_implies, reduceCtorEq, Nat.reduceBEq, con_MOST_MORE, con_NEAR, con_MOST_REACH, con_MOST_PLACES, con_MOST_BASE, con_LEAST_BASE, con_MOST_FIGURES, con_ZERO, con_UP, con_DOWN, cls_Grid, kl0, A_own_step, A_own_bounds, A_own_tops, A_own_places, A_own_reach, A_own_figures, A_own_base, A_check, C_Grid, ins_of h1, gridF, lst_of h3, topsL_eq, gtop_int b0, abs_int]
  refine ⟨fun a => ?_, fun a => ?_⟩
  · rw [decide_eq_false (fun w => by have := w.1; omega)] at h
    exact h
  · simp only [↓wf_nil, ↓wf_cons, ↓wg_asg, ↓wf_par, ↓wf_par3, ↓wg_setF, ↓wg_setI, ↓wf_ex, ↓wf_ret, ↓wf_retN, ↓wf_pass, ↓wf_brk, ↓wf_cnt, ↓wg_ite, ↓wf_for, ↓wp_var, ↓wp_lit, ↓wp_glob, ↓wp_bin, ↓wp_dct, ↓wp_dix, ↓wp_cmpEq, ↓wp_cmpIn, ↓wp_nin, onB_b, ↓wp_cmpNe, ↓wp_neg, ↓wp_cmp, ↓wp_chain, ↓wp_not, ↓wp_and, ↓wp_or, ↓wp_ite, ↓wp_fld, ↓wp_tup, ↓wp_new, ↓wp_callE, ↓wp_meth, ↓wp_make, ↓wp_bi, ↓wp_fold, ↓wp_foldv, ↓wp_append, ↓wp_extend, ↓wp_ix, ↓wp_sl, ↓wp_slk, ↓wp_enil, ↓wp_econs, ↓wp_disp, ↓wp_lrange, ↓wp_lcomp, ↓wp_cnil, ↓wp_ccons, ↓wp_seq, ↓wp_fresh, ↓wp_irange, ↓wp_enum, ↓wp_bind, ↓wp_ok, ↓wp_if, ↓swB_bl, ↓swT_s, ↓onS_s, ↓onO_s, ↓onI_i, ↓onR_r, ↓brB_t, ↓brB_f, ↓brB_n, ↓brB_d, cls_gOf, dct_new, pairsD, keyOf, not_true_eq_false, not_false_eq_true, ixN_30, ixN_31, ixN_32, lst_new, eqD_int, eqD_non_int, fuel_gOf, atI_0, atI_1, atI_2, atI_3, atI_4, putD, List.set_set, List.contains_cons, List.contains_nil, beq_self_eq_true, Bool.or_true, Bool.true_or, Bool.or_false, Bool.false_or, Nat.reduceEqDiff, Nat.reduceLT, Nat.zero_lt_succ, T.put, setAll, wipeE, tru, binD, cmpD, biD, itemsOf, tupOk, fldP, walkP, bnd, isNon, swB_bl, swT_s, onS_s, onO_s, onI_i, onR_r, brB_t, brB_f, brB_n, brB_d, brB_and, brB_or, List.map_cons, List.map_nil, List.cons_append, List.nil_append, List.append_nil, List.replicate, List.getElem?_cons_zero, List.getElem?_cons_succ, List.set_cons_zero, List.set_cons_succ, List.length_cons, List.length_nil, Nat.reduceAdd, Nat.reduceSub, Nat.reduceLeDiff, List.lookup_cons, List.lookup_nil, true_and, and_true, Bool.not_true, Bool.not_false, if_true, if_false, reduceIte, forall_const, Bool.false_eq_true, false_implies, implies_true, true_implies, reduceCtorEq, Nat.reduceBEq, con_MOST_MORE, con_NEAR, con_MOST_REACH, con_MOST_PLACES, con_MOST_BASE, con_LEAST_BASE, con_MOST_FIGURES, con_ZERO, con_UP, con_DOWN, cls_Grid, kl0, A_own_step, A_own_bounds, A_own_tops, A_own_places, A_own_reach, A_own_figures, A_own_base, A_check, C_Grid, ins_of h1, gridF, lst_of h2, boundsL_eq]
    have l4 := gtop_lt gp
    have l5 : (2 : Nat) ^ 400 < 2 ^ 500 := by decide +kernel
    have l6 : (2 : Nat) ^ 300 < 2 ^ 500 := by decide +kernel
    have l7 := bf_lt gp 0 (by omega)
    have l8 : 1 < (2 : Nat) ^ 500 := by decide +kernel
    rw [Nat.add_zero] at l7
    rw [cast_pow]
    refine spacing_at_ok (bo := 1) ⟨gp.b2, gp.b10⟩ (Nat.pow_pos b0) rfl (by omega) (by omega) (by omega) l8 hf ?_
    simp only [↓wf_nil, ↓wf_cons, ↓wg_asg, ↓wf_par, ↓wf_par3, ↓wg_setF, ↓wg_setI, ↓wf_ex, ↓wf_ret, ↓wf_retN, ↓wf_pass, ↓wf_brk, ↓wf_cnt, ↓wg_ite, ↓wf_for, ↓wp_var, ↓wp_lit, ↓wp_glob, ↓wp_bin, ↓wp_dct, ↓wp_dix, ↓wp_cmpEq, ↓wp_cmpIn, ↓wp_nin, onB_b, ↓wp_cmpNe, ↓wp_neg, ↓wp_cmp, ↓wp_chain, ↓wp_not, ↓wp_and, ↓wp_or, ↓wp_ite, ↓wp_fld, ↓wp_tup, ↓wp_new, ↓wp_callE, ↓wp_meth, ↓wp_make, ↓wp_bi, ↓wp_fold, ↓wp_foldv, ↓wp_append, ↓wp_extend, ↓wp_ix, ↓wp_sl, ↓wp_slk, ↓wp_enil, ↓wp_econs, ↓wp_disp, ↓wp_lrange, ↓wp_lcomp, ↓wp_cnil, ↓wp_ccons, ↓wp_seq, ↓wp_fresh, ↓wp_irange, ↓wp_enum, ↓wp_bind, ↓wp_ok, ↓wp_if, ↓swB_bl, ↓swT_s, ↓onS_s, ↓onO_s, ↓onI_i, ↓onR_r, ↓brB_t, ↓brB_f, ↓brB_n, ↓brB_d, cls_gOf, dct_new, pairsD, keyOf, not_true_eq_false, not_false_eq_true, ixN_30, ixN_31, ixN_32, lst_new, eqD_int, eqD_non_int, fuel_gOf, atI_0, atI_1, atI_2, atI_3, atI_4, putD, List.set_set, List.contains_cons, List.contains_nil, beq_self_eq_true, Bool.or_true, Bool.true_or, Bool.or_false, Bool.false_or, Nat.reduceEqDiff, Nat.reduceLT, Nat.zero_lt_succ, T.put, setAll, wipeE, tru, binD, cmpD, biD, itemsOf, tupOk, fldP, walkP, bnd, isNon, swB_bl, swT_s, onS_s, onO_s, onI_i, onR_r, brB_t, brB_f, brB_n, brB_d, brB_and, brB_or, List.map_cons, List.map_nil, List.cons_append, List.nil_append, List.append_nil, List.replicate, List.getElem?_cons_zero, List.getElem?_cons_succ, List.set_cons_zero, List.set_cons_succ, List.length_cons, List.length_nil, Nat.reduceAdd, Nat.reduceSub, Nat.reduceLeDiff, List.lookup_cons, List.lookup_nil, true_and, and_true, Bool.not_true, Bool.not_false, if_true, if_false, reduceIte, forall_const, Bool.false_eq_true, false_implies, implies_true, true_implies, reduceCtorEq, Nat.reduceBEq, con_MOST_MORE, con_NEAR, con_MOST_REACH, con_MOST_PLACES, con_MOST_BASE, con_LEAST_BASE, con_MOST_FIGURES, con_ZERO, con_UP, con_DOWN, cls_Grid, kl0, A_own_step, A_own_bounds, A_own_tops, A_own_places, A_own_reach, A_own_figures, A_own_base, A_check, C_Grid, Nat.one_mul]
    refine ⟨spow_pos b0, ?_⟩
    have e : decide (onGrid b f r x) = decide (x % ((b : Int) ^ spn b (b ^ f) x.natAbs) = 0) := by
      apply decide_eq_decide.mpr
      exact ⟨fun w => w.2, fun w => ⟨by omega, w⟩⟩
    rw [e] at h
    exact h
theorem Grid_check_ok {k b f r p : Nat} {x : Int} (hg : IsGrid s k b f r p) (hf : 1000 < fuel) (hx : onGrid b f r x) (h : Q .non s) : wp (call Z fuel (n + 3) F_Grid_check [.ref k, .int x] s) Q := by
  obtain ⟨k1, k2, h1, h2, h3⟩ := hg.ex
  refine wp_call (r := d_Grid_check) rfl rfl ?_
  simp only [d_Grid_check, ↓wf_nil, ↓wf_cons, ↓wg_asg, ↓wf_par, ↓wf_par3, ↓wg_setF, ↓wg_setI, ↓wf_ex, ↓wf_ret, ↓wf_retN, ↓wf_pass, ↓wf_brk, ↓wf_cnt, ↓wg_ite, ↓wf_for, ↓wp_var, ↓wp_lit, ↓wp_glob, ↓wp_bin, ↓wp_dct, ↓wp_dix, ↓wp_cmpEq, ↓wp_cmpIn, ↓wp_nin, onB_b, ↓wp_cmpNe, ↓wp_neg, ↓wp_cmp, ↓wp_chain, ↓wp_not, ↓wp_and, ↓wp_or, ↓wp_ite, ↓wp_fld, ↓wp_tup, ↓wp_new, ↓wp_callE, ↓wp_meth, ↓wp_make, ↓wp_bi, ↓wp_fold, ↓wp_foldv, ↓wp_append, ↓wp_extend, ↓wp_ix, ↓wp_sl, ↓wp_slk, ↓wp_enil, ↓wp_econs, ↓wp_disp, ↓wp_lrange, ↓wp_lcomp, ↓wp_cnil, ↓wp_ccons, ↓wp_seq, ↓wp_fresh, ↓wp_irange, ↓wp_enum, ↓wp_bind, ↓wp_ok, ↓wp_if, ↓swB_bl, ↓swT_s, ↓onS_s, ↓onO_s, ↓onI_i, ↓onR_r, ↓brB_t, ↓brB_f, ↓brB_n, ↓brB_d, cls_gOf, dct_new, pairsD, keyOf, not_true_eq_false, not_false_eq_true, ixN_30, ixN_31, ixN_32, lst_new, eqD_int, eqD_non_int, fuel_gOf, atI_0, atI_1, atI_2, atI_3, atI_4, putD, List.set_set, List.contains_cons, List.contains_nil, beq_self_eq_true, Bool.or_true, Bool.true_or, Bool.or_false, Bool.false_or, Nat.reduceEqDiff, Nat.reduceLT, Nat.zero_lt_succ, T.put, setAll, wipeE, tru, binD, cmpD, biD, itemsOf, tupOk, fldP, walkP, bnd, isNon, swB_bl, swT_s, onS_s, onO_s, onI_i, onR_r, brB_t, brB_f, brB_n, brB_d, brB_and, brB_or, List.map_cons, List.map_nil, List.cons_append, List.nil_append, List.append_nil, List.replicate, List.getElem?_cons_zero, List.getElem?_cons_succ, List.set_cons_zero, List.set_cons_succ, List.length_cons, List.length_nil, Nat.reduceAdd, Nat.reduceSub, Nat.reduceLeDiff, List.lookup_cons, List.lookup_nil, true_and, and_true, Bool.not_true, Bool.not_false, if_true, if_false, reduceIte, forall_const, Bool.false_eq_true, false_implies, implies_true, true_implies, reduceCtorEq, Nat.reduceBEq, con_MOST_MORE, con_NEAR, con_MOST_REACH, con_MOST_PLACES, con_MOST_BASE, con_LEAST_BASE, con_MOST_FIGURES, con_ZERO, con_UP, con_DOWN, cls_Grid, kl0, A_own_step, A_own_bounds, A_own_tops, A_own_places, A_own_reach, A_own_figures, A_own_base, A_check, C_Grid]
  refine wp_inIns (ins_of h1) rfl rfl ?_
  refine Grid_contains_ok hg hf ?_
  simp only [↓wf_nil, ↓wf_cons, ↓wg_asg, ↓wf_par, ↓wf_par3, ↓wg_setF, ↓wg_setI, ↓wf_ex, ↓wf_ret, ↓wf_retN, ↓wf_pass, ↓wf_brk, ↓wf_cnt, ↓wg_ite, ↓wf_for, ↓wp_var, ↓wp_lit, ↓wp_glob, ↓wp_bin, ↓wp_dct, ↓wp_dix, ↓wp_cmpEq, ↓wp_cmpIn, ↓wp_nin, onB_b, ↓wp_cmpNe, ↓wp_neg, ↓wp_cmp, ↓wp_chain, ↓wp_not, ↓wp_and, ↓wp_or, ↓wp_ite, ↓wp_fld, ↓wp_tup, ↓wp_new, ↓wp_callE, ↓wp_meth, ↓wp_make, ↓wp_bi, ↓wp_fold, ↓wp_foldv, ↓wp_append, ↓wp_extend, ↓wp_ix, ↓wp_sl, ↓wp_slk, ↓wp_enil, ↓wp_econs, ↓wp_disp, ↓wp_lrange, ↓wp_lcomp, ↓wp_cnil, ↓wp_ccons, ↓wp_seq, ↓wp_fresh, ↓wp_irange, ↓wp_enum, ↓wp_bind, ↓wp_ok, ↓wp_if, ↓swB_bl, ↓swT_s, ↓onS_s, ↓onO_s, ↓onI_i, ↓onR_r, ↓brB_t, ↓brB_f, ↓brB_n, ↓brB_d, cls_gOf, dct_new, pairsD, keyOf, not_true_eq_false, not_false_eq_true, ixN_30, ixN_31, ixN_32, lst_new, eqD_int, eqD_non_int, fuel_gOf, atI_0, atI_1, atI_2, atI_3, atI_4, putD, List.set_set, List.contains_cons, List.contains_nil, beq_self_eq_true, Bool.or_true, Bool.true_or, Bool.or_false, Bool.false_or, Nat.reduceEqDiff, Nat.reduceLT, Nat.zero_lt_succ, T.put, setAll, wipeE, tru, binD, cmpD, biD, itemsOf, tupOk, fldP, walkP, bnd, isNon, swB_bl, swT_s, onS_s, onO_s, onI_i, onR_r, brB_t, brB_f, brB_n, brB_d, brB_and, brB_or, List.map_cons, List.map_nil, List.cons_append, List.nil_append, List.append_nil, List.replicate, List.getElem?_cons_zero, List.getElem?_cons_succ, List.set_cons_zero, List.set_cons_succ, List.length_cons, List.length_nil, Nat.reduceAdd, Nat.reduceSub, Nat.reduceLeDiff, List.lookup_cons, List.lookup_nil, true_and, and_true, Bool.not_true, Bool.not_false, if_true, if_false, reduceIte, forall_const, Bool.false_eq_true, false_implies, implies_true, true_implies, reduceCtorEq, Nat.reduceBEq, con_MOST_MORE, con_NEAR, con_MOST_REACH, con_MOST_PLACES, con_MOST_BASE, con_LEAST_BASE, con_MOST_FIGURES, con_ZERO, con_UP, con_DOWN, cls_Grid, kl0, A_own_step, A_own_bounds, A_own_tops, A_own_places, A_own_reach, A_own_figures, A_own_base, A_check, C_Grid, decide_eq_true hx]
  exact h
end
theorem w_near_near {s : Sto} : eqD s (.str "near") (.str "near") = some true := by
  rw [eqD_str (by decide +kernel) (by decide +kernel)]
  exact congrArg some (by decide +kernel)
theorem w_near_down {s : Sto} : eqD s (.str "near") (.str "down") = some false := by
  rw [eqD_str (by decide +kernel) (by decide +kernel)]
  exact congrArg some (by decide +kernel)
theorem w_near_up {s : Sto} : eqD s (.str "near") (.str "up") = some false := by
  rw [eqD_str (by decide +kernel) (by decide +kernel)]
  exact congrArg some (by decide +kernel)
theorem w_near_zero {s : Sto} : eqD s (.str "near") (.str "zero") = some false := by
  rw [eqD_str (by decide +kernel) (by decide +kernel)]
  exact congrArg some (by decide +kernel)
theorem w_down_near {s : Sto} : eqD s (.str "down") (.str "near") = some false := by
  rw [eqD_str (by decide +kernel) (by decide +kernel)]
  exact congrArg some (by decide +kernel)
theorem w_down_down {s : Sto} : eqD s (.str "down") (.str "down") = some true := by
  rw [eqD_str (by decide +kernel) (by decide +kernel)]
  exact congrArg some (by decide +kernel)
theorem w_down_up {s : Sto} : eqD s (.str "down") (.str "up") = some false := by
  rw [eqD_str (by decide +kernel) (by decide +kernel)]
  exact congrArg some (by decide +kernel)
theorem w_down_zero {s : Sto} : eqD s (.str "down") (.str "zero") = some false := by
  rw [eqD_str (by decide +kernel) (by decide +kernel)]
  exact congrArg some (by decide +kernel)
theorem w_up_near {s : Sto} : eqD s (.str "up") (.str "near") = some false := by
  rw [eqD_str (by decide +kernel) (by decide +kernel)]
  exact congrArg some (by decide +kernel)
theorem w_up_down {s : Sto} : eqD s (.str "up") (.str "down") = some false := by
  rw [eqD_str (by decide +kernel) (by decide +kernel)]
  exact congrArg some (by decide +kernel)
theorem w_up_up {s : Sto} : eqD s (.str "up") (.str "up") = some true := by
  rw [eqD_str (by decide +kernel) (by decide +kernel)]
  exact congrArg some (by decide +kernel)
theorem w_up_zero {s : Sto} : eqD s (.str "up") (.str "zero") = some false := by
  rw [eqD_str (by decide +kernel) (by decide +kernel)]
  exact congrArg some (by decide +kernel)
theorem w_zero_near {s : Sto} : eqD s (.str "zero") (.str "near") = some false := by
  rw [eqD_str (by decide +kernel) (by decide +kernel)]
  exact congrArg some (by decide +kernel)
theorem w_zero_down {s : Sto} : eqD s (.str "zero") (.str "down") = some false := by
  rw [eqD_str (by decide +kernel) (by decide +kernel)]
  exact congrArg some (by decide +kernel)
theorem w_zero_up {s : Sto} : eqD s (.str "zero") (.str "up") = some false := by
  rw [eqD_str (by decide +kernel) (by decide +kernel)]
  exact congrArg some (by decide +kernel)
theorem w_zero_zero {s : Sto} : eqD s (.str "zero") (.str "zero") = some true := by
  rw [eqD_str (by decide +kernel) (by decide +kernel)]
  exact congrArg some (by decide +kernel)
inductive Way where
  | near | down | up | zero
  deriving DecidableEq
def Way.s : Way → Str
  | .near => "near"
  | .down => "down"
  | .up => "up"
  | .zero => "zero"
/-- whether a quotient goes up -/
def ledUp (mult left whole top : Int) : Way → Bool
  | .down => false
  | .up => !decide (left = 0)
  | .zero => !decide (left = 0) && decide (top < 0)
  | .near => !decide (left = 0) && (decide (whole < 2 * left) || (decide (2 * left = whole) && decide (mult % 2 = 1)))
/-- the ulp -/
def ulp (b f m : Nat) (top : Int) (bo : Nat) : Nat := b ^ spn b (bo * b ^ (f + m)) top.natAbs
def rnum (b f m : Nat) (top : Int) (bo : Nat) (way : Way) : Int :=
  (top / ((bo * ulp b f m top bo : Nat) : Int) + if ledUp (top / ((bo * ulp b f m top bo : Nat) : Int)) (top % ((bo * ulp b f m top bo : Nat) : Int)) ((bo * ulp b f m top bo : Nat) : Int) top way = true then 1 else 0) * (ulp b f m top bo : Int)
def rndD (b f r m : Nat) (top : Int) (bo : Nat) (way : Way) : D := if (rnum b f m top bo way).natAbs ≤ gtop b (f + m) r then .int (rnum b f m top bo way) else .non
theorem pylong_no {x y : Int} (h : Sm y) : Builtin.divisionGoesByPylong x y = false := by
  unfold Builtin.divisionGoesByPylong
  have hl := h.log
  simp only [Bool.and_eq_false_iff, decide_eq_false_iff_not]
  left
  split
  · omega
  · have : y.natAbs.log2 / 30 < 134 := by omega
    omega
theorem ulp_lt {b f m : Nat} {top : Int} {bo : Nat} (hb : 2 ≤ b ∧ b ≤ 10) (hbo : 0 < bo) (h1 : top.natAbs < 2 ^ 500) : 0 < ulp b f m top bo ∧ ulp b f m top bo < 2 ^ 3000 := by
  have hm : 0 < bo * b ^ (f + m) := Nat.mul_pos hbo (Nat.pow_pos (by omega))
  have hsp : spn b (bo * b ^ (f + m)) top.natAbs ≤ 500 := spn_le hb.1 hm (by
    have e1 : 2 ^ 500 ≤ b ^ 500 := Nat.pow_le_pow_left hb.1 500
    have e2 : 1 * b ^ 500 ≤ bo * b ^ (f + m) * b ^ 500 := Nat.mul_le_mul_right _ hm
    omega)
  exact ⟨Nat.pow_pos (by omega), pow_lt hb.2 (by omega)⟩
theorem whole_lt {bo u : Nat} (h1 : bo < 2 ^ 500) (h2 : u < 2 ^ 3000) : bo * u < 2 ^ 3500 := by
  have e : (2 : Nat) ^ 3500 = 2 ^ 500 * 2 ^ 3000 := by decide +kernel
  rw [e]
  exact Nat.mul_lt_mul'' h1 h2
section
variable {fuel n : Nat} {s : Sto} {Q : D → Sto → Prop}
theorem parted_ok {k b f r p m : Nat} {top : Int} {bo : Nat} (hg : IsGrid s k b f r p) (hm : m ≤ 3) (hbo : 0 < bo) (h1 : top.natAbs < 2 ^ 500) (h2 : bo < 2 ^ 500) (hf : 1000 < fuel)
    (h : Q (.tup [.int (ulp b f m top bo), .int (top / ((bo * ulp b f m top bo : Nat) : Int)), .int (top % ((bo * ulp b f m top bo : Nat) : Int))]) s) : wp (call Z fuel (n + 2) F_parted [.ref k, .int top, .int bo, .int m] s) Q := by
  obtain ⟨gp, k1, k2, i1, i2, i3⟩ := hg
  have hb := And.intro gp.b2 gp.b10
  obtain ⟨u0, u1⟩ := ulp_lt (f := f) (m := m) hb hbo h1
  refine wp_call (r := d_parted) rfl rfl ?_
  simp only [d_parted, ↓wf_nil, ↓wf_cons, ↓wg_asg, ↓wf_par, ↓wf_par3, ↓wg_setF, ↓wg_setI, ↓wf_ex, ↓wf_ret, ↓wf_retN, ↓wf_pass, ↓wf_brk, ↓wf_cnt, ↓wg_ite, ↓wf_for, ↓wp_var, ↓wp_lit, ↓wp_glob, ↓wp_bin, ↓wp_dct, ↓wp_dix, ↓wp_cmpEq, ↓wp_cmpIn, ↓wp_nin, onB_b, ↓wp_cmpNe, ↓wp_neg, ↓wp_cmp, ↓wp_chain, ↓wp_not, ↓wp_and, ↓wp_or, ↓wp_ite, ↓wp_fld, ↓wp_tup, ↓wp_new, ↓wp_callE, ↓wp_meth, ↓wp_make, ↓wp_bi, ↓wp_fold, ↓wp_foldv, ↓wp_append, ↓wp_extend, ↓wp_ix, ↓wp_sl, ↓wp_slk, ↓wp_enil, ↓wp_econs, ↓wp_disp, ↓wp_lrange, ↓wp_lcomp, ↓wp_cnil, ↓wp_ccons, ↓wp_seq, ↓wp_fresh, ↓wp_irange, ↓wp_enum, ↓wp_bind, ↓wp_ok, ↓wp_if, ↓swB_bl, ↓swT_s, ↓onS_s, ↓onO_s, ↓onI_i, ↓onR_r, ↓brB_t, ↓brB_f, ↓brB_n, ↓brB_d, cls_gOf, dct_new, pairsD, keyOf, not_true_eq_false, not_false_eq_true, ixN_30, ixN_31, ixN_32, lst_new, eqD_int, eqD_non_int, fuel_gOf, atI_0, atI_1, atI_2, atI_3, atI_4, putD, List.set_set, List.contains_cons, List.contains_nil, beq_self_eq_true, Bool.or_true, Bool.true_or, Bool.or_false, Bool.false_or, Nat.reduceEqDiff, Nat.reduceLT, Nat.zero_lt_succ, T.put, setAll, wipeE, tru, binD, cmpD, biD, itemsOf, tupOk, fldP, walkP, bnd, isNon, swB_bl, swT_s, onS_s, onO_s, onI_i, onR_r, brB_t, brB_f, brB_n, brB_d, brB_and, brB_or, List.map_cons, List.map_nil, List.cons_append, List.nil_append, List.append_nil, List.replicate, List.getElem?_cons_zero, List.getElem?_cons_succ, List.set_cons_zero, List.set_cons_succ, List.length_cons, List.length_nil, Nat.reduceAdd, Nat.reduceSub, Nat.reduceLeDiff, List.lookup_cons, List.lookup_nil, true_and, and_true, Bool.not_true, Bool.not_false, if_true, if_false, reduceIte, forall_const, Bool.false_eq_true, false_implies, implies_true, true_implies, reduceCtorEq, Nat.reduceBEq, con_MOST_MORE, con_NEAR, con_MOST_REACH, con_MOST_PLACES, con_MOST_BASE, con_LEAST_BASE, con_MOST_FIGURES, con_ZERO, con_UP, con_DOWN, cls_Grid, kl0, A_own_step, A_own_bounds, A_own_tops, A_own_places, A_own_reach, A_own_figures, A_own_base, A_check, C_Grid, ins_of i1, gridF, lst_of i2]
  have at_ : atI (boundsL b f) (m : Int) = some (.int ((b ^ (f + m) : Nat) : Int)) := by
    rw [atI_nat, boundsL_eq]
    have : m = 0 ∨ m = 1 ∨ m = 2 ∨ m = 3 := by omega
    rcases this with rfl | rfl | rfl | rfl <;> simp
  refine onO_of at_ ?_
  simp only [↓wf_nil, ↓wf_cons, ↓wg_asg, ↓wf_par, ↓wf_par3, ↓wg_setF, ↓wg_setI, ↓wf_ex, ↓wf_ret, ↓wf_retN, ↓wf_pass, ↓wf_brk, ↓wf_cnt, ↓wg_ite, ↓wf_for, ↓wp_var, ↓wp_lit, ↓wp_glob, ↓wp_bin, ↓wp_dct, ↓wp_dix, ↓wp_cmpEq, ↓wp_cmpIn, ↓wp_nin, onB_b, ↓wp_cmpNe, ↓wp_neg, ↓wp_cmp, ↓wp_chain, ↓wp_not, ↓wp_and, ↓wp_or, ↓wp_ite, ↓wp_fld, ↓wp_tup, ↓wp_new, ↓wp_callE, ↓wp_meth, ↓wp_make, ↓wp_bi, ↓wp_fold, ↓wp_foldv, ↓wp_append, ↓wp_extend, ↓wp_ix, ↓wp_sl, ↓wp_slk, ↓wp_enil, ↓wp_econs, ↓wp_disp, ↓wp_lrange, ↓wp_lcomp, ↓wp_cnil, ↓wp_ccons, ↓wp_seq, ↓wp_fresh, ↓wp_irange, ↓wp_enum, ↓wp_bind, ↓wp_ok, ↓wp_if, ↓swB_bl, ↓swT_s, ↓onS_s, ↓onO_s, ↓onI_i, ↓onR_r, ↓brB_t, ↓brB_f, ↓brB_n, ↓brB_d, cls_gOf, dct_new, pairsD, keyOf, not_true_eq_false, not_false_eq_true, ixN_30, ixN_31, ixN_32, lst_new, eqD_int, eqD_non_int, fuel_gOf, atI_0, atI_1, atI_2, atI_3, atI_4, putD, List.set_set, List.contains_cons, List.contains_nil, beq_self_eq_true, Bool.or_true, Bool.true_or, Bool.or_false, Bool.false_or, Nat.reduceEqDiff, Nat.reduceLT, Nat.zero_lt_succ, T.put, setAll, wipeE, tru, binD, cmpD, biD, itemsOf, tupOk, fldP, walkP, bnd, isNon, swB_bl, swT_s, onS_s, onO_s, onI_i, onR_r, brB_t, brB_f, brB_n, brB_d, brB_and, brB_or, List.map_cons, List.map_nil, List.cons_append, List.nil_append, List.append_nil, List.replicate, List.getElem?_cons_zero, List.getElem?_cons_succ, List.set_cons_zero, List.set_cons_succ, List.length_cons, List.length_nil, Nat.reduceAdd, Nat.reduceSub, Nat.reduceLeDiff, List.lookup_cons, List.lookup_nil, true_and, and_true, Bool.not_true, Bool.not_false, if_true, if_false, reduceIte, forall_const, Bool.false_eq_true, false_implies, implies_true, true_implies, reduceCtorEq, Nat.reduceBEq, con_MOST_MORE, con_NEAR, con_MOST_REACH, con_MOST_PLACES, con_MOST_BASE, con_LEAST_BASE, con_MOST_FIGURES, con_ZERO, con_UP, con_DOWN, cls_Grid, kl0, A_own_step, A_own_bounds, A_own_tops, A_own_places, A_own_reach, A_own_figures, A_own_base, A_check, C_Grid]
  have l6 : (2 : Nat) ^ 300 < 2 ^ 500 := by decide +kernel
  have l7 := bf_lt gp m hm
  refine spacing_at_ok hb (Nat.pow_pos (by omega)) rfl hbo h1 (by omega) h2 hf ?_
  have eu : ((b : Int) ^ spn b (bo * b ^ (f + m)) top.natAbs) = (ulp b f m top bo : Int) := by simp [ulp]
  rw [eu]
  have l8 := whole_lt h2 u1
  have l9 : (2 : Nat) ^ 3500 < 2 ^ 4000 := by decide +kernel
  have l10 : (2 : Nat) ^ 3000 < 2 ^ 4000 := by decide +kernel
  have l11 : (2 : Nat) ^ 500 < 2 ^ 4000 := by decide +kernel
  have sW : Sm ((bo : Int) * (ulp b f m top bo : Int)) := by rw [← Int.natCast_mul]; exact Sm.nat (by omega)
  have pW : 0 < bo * ulp b f m top bo := Nat.mul_pos hbo u0
  simp only [↓wf_nil, ↓wf_cons, ↓wg_asg, ↓wf_par, ↓wf_par3, ↓wg_setF, ↓wg_setI, ↓wf_ex, ↓wf_ret, ↓wf_retN, ↓wf_pass, ↓wf_brk, ↓wf_cnt, ↓wg_ite, ↓wf_for, ↓wp_var, ↓wp_lit, ↓wp_glob, ↓wp_bin, ↓wp_dct, ↓wp_dix, ↓wp_cmpEq, ↓wp_cmpIn, ↓wp_nin, onB_b, ↓wp_cmpNe, ↓wp_neg, ↓wp_cmp, ↓wp_chain, ↓wp_not, ↓wp_and, ↓wp_or, ↓wp_ite, ↓wp_fld, ↓wp_tup, ↓wp_new, ↓wp_callE, ↓wp_meth, ↓wp_make, ↓wp_bi, ↓wp_fold, ↓wp_foldv, ↓wp_append, ↓wp_extend, ↓wp_ix, ↓wp_sl, ↓wp_slk, ↓wp_enil, ↓wp_econs, ↓wp_disp, ↓wp_lrange, ↓wp_lcomp, ↓wp_cnil, ↓wp_ccons, ↓wp_seq, ↓wp_fresh, ↓wp_irange, ↓wp_enum, ↓wp_bind, ↓wp_ok, ↓wp_if, ↓swB_bl, ↓swT_s, ↓onS_s, ↓onO_s, ↓onI_i, ↓onR_r, ↓brB_t, ↓brB_f, ↓brB_n, ↓brB_d, cls_gOf, dct_new, pairsD, keyOf, not_true_eq_false, not_false_eq_true, ixN_30, ixN_31, ixN_32, lst_new, eqD_int, eqD_non_int, fuel_gOf, atI_0, atI_1, atI_2, atI_3, atI_4, putD, List.set_set, List.contains_cons, List.contains_nil, beq_self_eq_true, Bool.or_true, Bool.true_or, Bool.or_false, Bool.false_or, Nat.reduceEqDiff, Nat.reduceLT, Nat.zero_lt_succ, T.put, setAll, wipeE, tru, binD, cmpD, biD, itemsOf, tupOk, fldP, walkP, bnd, isNon, swB_bl, swT_s, onS_s, onO_s, onI_i, onR_r, brB_t, brB_f, brB_n, brB_d, brB_and, brB_or, List.map_cons, List.map_nil, List.cons_append, List.nil_append, List.append_nil, List.replicate, List.getElem?_cons_zero, List.getElem?_cons_succ, List.set_cons_zero, List.set_cons_succ, List.length_cons, List.length_nil, Nat.reduceAdd, Nat.reduceSub, Nat.reduceLeDiff, List.lookup_cons, List.lookup_nil, true_and, and_true, Bool.not_true, Bool.not_false, if_true, if_false, reduceIte, forall_const, Bool.false_eq_true, false_implies, implies_true, true_implies, reduceCtorEq, Nat.reduceBEq, con_MOST_MORE, con_NEAR, con_MOST_REACH, con_MOST_PLACES, con_MOST_BASE, con_LEAST_BASE, con_MOST_FIGURES, con_ZERO, con_UP, con_DOWN, cls_Grid, kl0, A_own_step, A_own_bounds, A_own_tops, A_own_places, A_own_reach, A_own_figures, A_own_base, A_check, C_Grid]
  refine ⟨Sm.mul (Sm.nat (by omega)) (Sm.nat (by omega)), ⟨by rw [← Int.natCast_mul]; omega, pylong_no sW⟩, by decide, ?_⟩
  rw [← Int.natCast_mul]
  exact h
theorem is_led_up_ok {mult left whole top : Int} {way : Way} (h1 : left.natAbs < 2 ^ 3500) (h : Q (.bl (ledUp mult left whole top way)) s) : wp (call Z fuel (n + 1) F_is_led_up [.int mult, .int left, .int whole, .int top, .str way.s] s) Q := by
  have l9 : (2 : Nat) ^ 3500 < 2 ^ 4000 := by decide +kernel
  have s2 : (2 : Int).natAbs.log2 + left.natAbs.log2 < 1000000 := Sm.mul (x := 2) (Sm.nat (k := 2) (sm_small (by omega))) (show Sm left from by unfold Sm; omega)
  refine wp_call (r := d_is_led_up) rfl rfl ?_
  cases way
  all_goals
    simp only [d_is_led_up, Way.s, ↓wf_nil, ↓wf_cons, ↓wg_asg, ↓wf_par, ↓wf_par3, ↓wg_setF, ↓wg_setI, ↓wf_ex, ↓wf_ret, ↓wf_retN, ↓wf_pass, ↓wf_brk, ↓wf_cnt, ↓wg_ite, ↓wf_for, ↓wp_var, ↓wp_lit, ↓wp_glob, ↓wp_bin, ↓wp_dct, ↓wp_dix, ↓wp_cmpEq, ↓wp_cmpIn, ↓wp_nin, onB_b, ↓wp_cmpNe, ↓wp_neg, ↓wp_cmp, ↓wp_chain, ↓wp_not, ↓wp_and, ↓wp_or, ↓wp_ite, ↓wp_fld, ↓wp_tup, ↓wp_new, ↓wp_callE, ↓wp_meth, ↓wp_make, ↓wp_bi, ↓wp_fold, ↓wp_foldv, ↓wp_append, ↓wp_extend, ↓wp_ix, ↓wp_sl, ↓wp_slk, ↓wp_enil, ↓wp_econs, ↓wp_disp, ↓wp_lrange, ↓wp_lcomp, ↓wp_cnil, ↓wp_ccons, ↓wp_seq, ↓wp_fresh, ↓wp_irange, ↓wp_enum, ↓wp_bind, ↓wp_ok, ↓wp_if, ↓swB_bl, ↓swT_s, ↓onS_s, ↓onO_s, ↓onI_i, ↓onR_r, ↓brB_t, ↓brB_f, ↓brB_n, ↓brB_d, cls_gOf, dct_new, pairsD, keyOf, not_true_eq_false, not_false_eq_true, ixN_30, ixN_31, ixN_32, lst_new, eqD_int, eqD_non_int, fuel_gOf, atI_0, atI_1, atI_2, atI_3, atI_4, putD, List.set_set, List.contains_cons, List.contains_nil, beq_self_eq_true, Bool.or_true, Bool.true_or, Bool.or_false, Bool.false_or, Nat.reduceEqDiff, Nat.reduceLT, Nat.zero_lt_succ, T.put, setAll, wipeE, tru, binD, cmpD, biD, itemsOf, tupOk, fldP, walkP, bnd, isNon, swB_bl, swT_s, onS_s, onO_s, onI_i, onR_r, brB_t, brB_f, brB_n, brB_d, brB_and, brB_or, List.map_cons, List.map_nil, List.cons_append, List.nil_append, List.append_nil, List.replicate, List.getElem?_cons_zero, List.getElem?_cons_succ, List.set_cons_zero, List.set_cons_succ, List.length_cons, List.length_nil, Nat.reduceAdd, Nat.reduceSub, Nat.reduceLeDiff, List.lookup_cons, List.lookup_nil, true_and, and_true, Bool.not_true, Bool.not_false, if_true, if_false, reduceIte, forall_const, Bool.false_eq_true, false_implies, implies_true, true_implies, reduceCtorEq, Nat.reduceBEq, con_MOST_MORE, con_NEAR, con_MOST_REACH, con_MOST_PLACES, con_MOST_BASE, con_LEAST_BASE, con_MOST_FIGURES, con_ZERO, con_UP, con_DOWN, cls_Grid, kl0, A_own_step, A_own_bounds, A_own_tops, A_own_places, A_own_reach, A_own_figures, A_own_base, A_check, C_Grid, w_near_near, w_near_down, w_near_up, w_near_zero, w_down_near, w_down_down, w_down_up, w_down_zero, w_up_near, w_up_down, w_up_up, w_up_zero, w_zero_near, w_zero_down, w_zero_up, w_zero_zero, s2, (show (0 : Int) < 2 by decide), Int.reduceLT]
    simp only [ledUp] at h
  all_goals ((repeat' first | apply And.intro | intro) <;> simp_all)
theorem rounded_to_ok {k b f r p m : Nat} {top : Int} {bo : Nat} {way : Way} (hg : IsGrid s k b f r p) (hm : m ≤ 3) (hbo : 0 < bo) (h1 : top.natAbs < 2 ^ 500) (h2 : bo < 2 ^ 500) (hf : 1000 < fuel)
    (h : Q (rndD b f r m top bo way) s) : wp (call Z fuel (n + 3) F_rounded_to [.ref k, .int top, .int bo, .str way.s, .int m] s) Q := by
  obtain ⟨k1, k2, i1, i2, i3⟩ := hg.ex
  have gp := hg.gp
  have hb := And.intro gp.b2 gp.b10
  obtain ⟨u0, u1⟩ := ulp_lt (f := f) (m := m) hb hbo h1
  have l8 := whole_lt h2 u1
  have l9 : (2 : Nat) ^ 3500 < 2 ^ 4000 := by decide +kernel
  have l10 : (2 : Nat) ^ 3000 < 2 ^ 4000 := by decide +kernel
  have l11 : (2 : Nat) ^ 500 + 1 < 2 ^ 4000 := by decide +kernel
  have pW : 0 < bo * ulp b f m top bo := Nat.mul_pos hbo u0
  refine wp_call (r := d_rounded_to) rfl rfl ?_
  simp only [d_rounded_to, ↓wf_nil, ↓wf_cons, ↓wg_asg, ↓wf_par, ↓wf_par3, ↓wg_setF, ↓wg_setI, ↓wf_ex, ↓wf_ret, ↓wf_retN, ↓wf_pass, ↓wf_brk, ↓wf_cnt, ↓wg_ite, ↓wf_for, ↓wp_var, ↓wp_lit, ↓wp_glob, ↓wp_bin, ↓wp_dct, ↓wp_dix, ↓wp_cmpEq, ↓wp_cmpIn, ↓wp_nin, onB_b, ↓wp_cmpNe, ↓wp_neg, ↓wp_cmp, ↓wp_chain, ↓wp_not, ↓wp_and, ↓wp_or, ↓wp_ite, ↓wp_fld, ↓wp_tup, ↓wp_new, ↓wp_callE, ↓wp_meth, ↓wp_make, ↓wp_bi, ↓wp_fold, ↓wp_foldv, ↓wp_append, ↓wp_extend, ↓wp_ix, ↓wp_sl, ↓wp_slk, ↓wp_enil, ↓wp_econs, ↓wp_disp, ↓wp_lrange, ↓wp_lcomp, ↓wp_cnil, ↓wp_ccons, ↓wp_seq, ↓wp_fresh, ↓wp_irange, ↓wp_enum, ↓wp_bind, ↓wp_ok, ↓wp_if, ↓swB_bl, ↓swT_s, ↓onS_s, ↓onO_s, ↓onI_i, ↓onR_r, ↓brB_t, ↓brB_f, ↓brB_n, ↓brB_d, cls_gOf, dct_new, pairsD, keyOf, not_true_eq_false, not_false_eq_true, ixN_30, ixN_31, ixN_32, lst_new, eqD_int, eqD_non_int, fuel_gOf, atI_0, atI_1, atI_2, atI_3, atI_4, putD, List.set_set, List.contains_cons, List.contains_nil, beq_self_eq_true, Bool.or_true, Bool.true_or, Bool.or_false, Bool.false_or, Nat.reduceEqDiff, Nat.reduceLT, Nat.zero_lt_succ, T.put, setAll, wipeE, tru, binD, cmpD, biD, itemsOf, tupOk, fldP, walkP, bnd, isNon, swB_bl, swT_s, onS_s, onO_s, onI_i, onR_r, brB_t, brB_f, brB_n, brB_d, brB_and, brB_or, List.map_cons, List.map_nil, List.cons_append, List.nil_append, List.append_nil, List.replicate, List.getElem?_cons_zero, List.getElem?_cons_succ, List.set_cons_zero, List.set_cons_succ, List.length_cons, List.length_nil, Nat.reduceAdd, Nat.reduceSub, Nat.reduceLeDiff, List.lookup_cons, List.lookup_nil, true_and, and_true, Bool.not_true, Bool.not_false, if_true, if_false, reduceIte, forall_const, Bool.false_eq_true, false_implies, implies_true, true_implies, reduceCtorEq, Nat.reduceBEq, con_MOST_MORE, con_NEAR, con_MOST_REACH, con_MOST_PLACES, con_MOST_BASE, con_LEAST_BASE, con_MOST_FIGURES, con_ZERO, con_UP, con_DOWN, cls_Grid, kl0, A_own_step, A_own_bounds, A_own_tops, A_own_places, A_own_reach, A_own_figures, A_own_base, A_check, C_Grid]
  refine parted_ok hg hm hbo h1 h2 hf ?_
  simp only [↓wf_nil, ↓wf_cons, ↓wg_asg, ↓wf_par, ↓wf_par3, ↓wg_setF, ↓wg_setI, ↓wf_ex, ↓wf_ret, ↓wf_retN, ↓wf_pass, ↓wf_brk, ↓wf_cnt, ↓wg_ite, ↓wf_for, ↓wp_var, ↓wp_lit, ↓wp_glob, ↓wp_bin, ↓wp_dct, ↓wp_dix, ↓wp_cmpEq, ↓wp_cmpIn, ↓wp_nin, onB_b, ↓wp_cmpNe, ↓wp_neg, ↓wp_cmp, ↓wp_chain, ↓wp_not, ↓wp_and, ↓wp_or, ↓wp_ite, ↓wp_fld, ↓wp_tup, ↓wp_new, ↓wp_callE, ↓wp_meth, ↓wp_make, ↓wp_bi, ↓wp_fold, ↓wp_foldv, ↓wp_append, ↓wp_extend, ↓wp_ix, ↓wp_sl, ↓wp_slk, ↓wp_enil, ↓wp_econs, ↓wp_disp, ↓wp_lrange, ↓wp_lcomp, ↓wp_cnil, ↓wp_ccons, ↓wp_seq, ↓wp_fresh, ↓wp_irange, ↓wp_enum, ↓wp_bind, ↓wp_ok, ↓wp_if, ↓swB_bl, ↓swT_s, ↓onS_s, ↓onO_s, ↓onI_i, ↓onR_r, ↓brB_t, ↓brB_f, ↓brB_n, ↓brB_d, cls_gOf, dct_new, pairsD, keyOf, not_true_eq_false, not_false_eq_true, ixN_30, ixN_31, ixN_32, lst_new, eqD_int, eqD_non_int, fuel_gOf, atI_0, atI_1, atI_2, atI_3, atI_4, putD, List.set_set, List.contains_cons, List.contains_nil, beq_self_eq_true, Bool.or_true, Bool.true_or, Bool.or_false, Bool.false_or, Nat.reduceEqDiff, Nat.reduceLT, Nat.zero_lt_succ, T.put, setAll, wipeE, tru, binD, cmpD, biD, itemsOf, tupOk, fldP, walkP, bnd, isNon, swB_bl, swT_s, onS_s, onO_s, onI_i, onR_r, brB_t, brB_f, brB_n, brB_d, brB_and, brB_or, List.map_cons, List.map_nil, List.cons_append, List.nil_append, List.append_nil, List.replicate, List.getElem?_cons_zero, List.getElem?_cons_succ, List.set_cons_zero, List.set_cons_succ, List.length_cons, List.length_nil, Nat.reduceAdd, Nat.reduceSub, Nat.reduceLeDiff, List.lookup_cons, List.lookup_nil, true_and, and_true, Bool.not_true, Bool.not_false, if_true, if_false, reduceIte, forall_const, Bool.false_eq_true, false_implies, implies_true, true_implies, reduceCtorEq, Nat.reduceBEq, con_MOST_MORE, con_NEAR, con_MOST_REACH, con_MOST_PLACES, con_MOST_BASE, con_LEAST_BASE, con_MOST_FIGURES, con_ZERO, con_UP, con_DOWN, cls_Grid, kl0, A_own_step, A_own_bounds, A_own_tops, A_own_places, A_own_reach, A_own_figures, A_own_base, A_check, C_Grid]
  refine ⟨Sm.mul (Sm.nat (by omega)) (Sm.nat (by omega)), ?_⟩
  rw [← Int.natCast_mul]
  generalize eW : bo * ulp b f m top bo = W at *
  have q0 : 0 ≤ top % (W : Int) := Int.emod_nonneg _ (by omega)
  have q1 : top % (W : Int) < W := Int.emod_lt_of_pos _ (by omega)
  refine is_led_up_ok (by omega) ?_
  have hd : (top / (W : Int)).natAbs ≤ top.natAbs := Int.natAbs_ediv_le_natAbs _ _
  have sM : Sm (top / (W : Int) + if ledUp (top / (W : Int)) (top % (W : Int)) (W : Int) top way = true then 1 else 0) := by
    unfold Sm
    split <;> omega
  simp only [↓wf_nil, ↓wf_cons, ↓wg_asg, ↓wf_par, ↓wf_par3, ↓wg_setF, ↓wg_setI, ↓wf_ex, ↓wf_ret, ↓wf_retN, ↓wf_pass, ↓wf_brk, ↓wf_cnt, ↓wg_ite, ↓wf_for, ↓wp_var, ↓wp_lit, ↓wp_glob, ↓wp_bin, ↓wp_dct, ↓wp_dix, ↓wp_cmpEq, ↓wp_cmpIn, ↓wp_nin, onB_b, ↓wp_cmpNe, ↓wp_neg, ↓wp_cmp, ↓wp_chain, ↓wp_not, ↓wp_and, ↓wp_or, ↓wp_ite, ↓wp_fld, ↓wp_tup, ↓wp_new, ↓wp_callE, ↓wp_meth, ↓wp_make, ↓wp_bi, ↓wp_fold, ↓wp_foldv, ↓wp_append, ↓wp_extend, ↓wp_ix, ↓wp_sl, ↓wp_slk, ↓wp_enil, ↓wp_econs, ↓wp_disp, ↓wp_lrange, ↓wp_lcomp, ↓wp_cnil, ↓wp_ccons, ↓wp_seq, ↓wp_fresh, ↓wp_irange, ↓wp_enum, ↓wp_bind, ↓wp_ok, ↓wp_if, ↓swB_bl, ↓swT_s, ↓onS_s, ↓onO_s, ↓onI_i, ↓onR_r, ↓brB_t, ↓brB_f, ↓brB_n, ↓brB_d, cls_gOf, dct_new, pairsD, keyOf, not_true_eq_false, not_false_eq_true, ixN_30, ixN_31, ixN_32, lst_new, eqD_int, eqD_non_int, fuel_gOf, atI_0, atI_1, atI_2, atI_3, atI_4, putD, List.set_set, List.contains_cons, List.contains_nil, beq_self_eq_true, Bool.or_true, Bool.true_or, Bool.or_false, Bool.false_or, Nat.reduceEqDiff, Nat.reduceLT, Nat.zero_lt_succ, T.put, setAll, wipeE, tru, binD, cmpD, biD, itemsOf, tupOk, fldP, walkP, bnd, isNon, swB_bl, swT_s, onS_s, onO_s, onI_i, onR_r, brB_t, brB_f, brB_n, brB_d, brB_and, brB_or, List.map_cons, List.map_nil, List.cons_append, List.nil_append, List.append_nil, List.replicate, List.getElem?_cons_zero, List.getElem?_cons_succ, List.set_cons_zero, List.set_cons_succ, List.length_cons, List.length_nil, Nat.reduceAdd, Nat.reduceSub, Nat.reduceLeDiff, List.lookup_cons, List.lookup_nil, true_and, and_true, Bool.not_true, Bool.not_false, if_true, if_false, reduceIte, forall_const, Bool.false_eq_true, false_implies, implies_true, true_implies, reduceCtorEq, Nat.reduceBEq, con_MOST_MORE, con_NEAR, con_MOST_REACH, con_MOST_PLACES, con_MOST_BASE, con_LEAST_BASE, con_MOST_FIGURES, con_ZERO, con_UP, con_DOWN, cls_Grid, kl0, A_own_step, A_own_bounds, A_own_tops, A_own_places, A_own_reach, A_own_figures, A_own_base, A_check, C_Grid]
  refine ⟨sM.mul (Sm.nat (by omega)), ?_⟩
  have at_ : atI (topsL b f r) (m : Int) = some (.int (gtop b (f + m) r : Int)) := by
    rw [atI_nat, topsL_eq]
    have b0 : 0 < b := by omega
    have : m = 0 ∨ m = 1 ∨ m = 2 ∨ m = 3 := by omega
    rcases this with rfl | rfl | rfl | rfl <;> simp [← gtop_int b0]
  have en : (top / (W : Int) + if ledUp (top / (W : Int)) (top % (W : Int)) (W : Int) top way = true then 1 else 0) * (ulp b f m top bo : Int) = rnum b f m top bo way := by
    unfold rnum
    rw [eW]
  rw [en]
  simp only [ins_of i1, gridF, ↓wf_nil, ↓wf_cons, ↓wg_asg, ↓wf_par, ↓wf_par3, ↓wg_setF, ↓wg_setI, ↓wf_ex, ↓wf_ret, ↓wf_retN, ↓wf_pass, ↓wf_brk, ↓wf_cnt, ↓wg_ite, ↓wf_for, ↓wp_var, ↓wp_lit, ↓wp_glob, ↓wp_bin, ↓wp_dct, ↓wp_dix, ↓wp_cmpEq, ↓wp_cmpIn, ↓wp_nin, onB_b, ↓wp_cmpNe, ↓wp_neg, ↓wp_cmp, ↓wp_chain, ↓wp_not, ↓wp_and, ↓wp_or, ↓wp_ite, ↓wp_fld, ↓wp_tup, ↓wp_new, ↓wp_callE, ↓wp_meth, ↓wp_make, ↓wp_bi, ↓wp_fold, ↓wp_foldv, ↓wp_append, ↓wp_extend, ↓wp_ix, ↓wp_sl, ↓wp_slk, ↓wp_enil, ↓wp_econs, ↓wp_disp, ↓wp_lrange, ↓wp_lcomp, ↓wp_cnil, ↓wp_ccons, ↓wp_seq, ↓wp_fresh, ↓wp_irange, ↓wp_enum, ↓wp_bind, ↓wp_ok, ↓wp_if, ↓swB_bl, ↓swT_s, ↓onS_s, ↓onO_s, ↓onI_i, ↓onR_r, ↓brB_t, ↓brB_f, ↓brB_n, ↓brB_d, cls_gOf, dct_new, pairsD, keyOf, not_true_eq_false, not_false_eq_true, ixN_30, ixN_31, ixN_32, lst_new, eqD_int, eqD_non_int, fuel_gOf, atI_0, atI_1, atI_2, atI_3, atI_4, putD, List.set_set, List.contains_cons, List.contains_nil, beq_self_eq_true, Bool.or_true, Bool.true_or, Bool.or_false, Bool.false_or, Nat.reduceEqDiff, Nat.reduceLT, Nat.zero_lt_succ, T.put, setAll, wipeE, tru, binD, cmpD, biD, itemsOf, tupOk, fldP, walkP, bnd, isNon, swB_bl, swT_s, onS_s, onO_s, onI_i, onR_r, brB_t, brB_f, brB_n, brB_d, brB_and, brB_or, List.map_cons, List.map_nil, List.cons_append, List.nil_append, List.append_nil, List.replicate, List.getElem?_cons_zero, List.getElem?_cons_succ, List.set_cons_zero, List.set_cons_succ, List.length_cons, List.length_nil, Nat.reduceAdd, Nat.reduceSub, Nat.reduceLeDiff, List.lookup_cons, List.lookup_nil, true_and, and_true, Bool.not_true, Bool.not_false, if_true, if_false, reduceIte, forall_const, Bool.false_eq_true, false_implies, implies_true, true_implies, reduceCtorEq, Nat.reduceBEq, con_MOST_MORE, con_NEAR, con_MOST_REACH, con_MOST_PLACES, con_MOST_BASE, con_LEAST_BASE, con_MOST_FIGURES, con_ZERO, con_UP, con_DOWN, cls_Grid, kl0, A_own_step, A_own_bounds, A_own_tops, A_own_places, A_own_reach, A_own_figures, A_own_base, A_check, C_Grid, lst_of i3]
  refine onO_of at_ ?_
  simp only [↓wf_nil, ↓wf_cons, ↓wg_asg, ↓wf_par, ↓wf_par3, ↓wg_setF, ↓wg_setI, ↓wf_ex, ↓wf_ret, ↓wf_retN, ↓wf_pass, ↓wf_brk, ↓wf_cnt, ↓wg_ite, ↓wf_for, ↓wp_var, ↓wp_lit, ↓wp_glob, ↓wp_bin, ↓wp_dct, ↓wp_dix, ↓wp_cmpEq, ↓wp_cmpIn, ↓wp_nin, onB_b, ↓wp_cmpNe, ↓wp_neg, ↓wp_cmp, ↓wp_chain, ↓wp_not, ↓wp_and, ↓wp_or, ↓wp_ite, ↓wp_fld, ↓wp_tup, ↓wp_new, ↓wp_callE, ↓wp_meth, ↓wp_make, ↓wp_bi, ↓wp_fold, ↓wp_foldv, ↓wp_append, ↓wp_extend, ↓wp_ix, ↓wp_sl, ↓wp_slk, ↓wp_enil, ↓wp_econs, ↓wp_disp, ↓wp_lrange, ↓wp_lcomp, ↓wp_cnil, ↓wp_ccons, ↓wp_seq, ↓wp_fresh, ↓wp_irange, ↓wp_enum, ↓wp_bind, ↓wp_ok, ↓wp_if, ↓swB_bl, ↓swT_s, ↓onS_s, ↓onO_s, ↓onI_i, ↓onR_r, ↓brB_t, ↓brB_f, ↓brB_n, ↓brB_d, cls_gOf, dct_new, pairsD, keyOf, not_true_eq_false, not_false_eq_true, ixN_30, ixN_31, ixN_32, lst_new, eqD_int, eqD_non_int, fuel_gOf, atI_0, atI_1, atI_2, atI_3, atI_4, putD, List.set_set, List.contains_cons, List.contains_nil, beq_self_eq_true, Bool.or_true, Bool.true_or, Bool.or_false, Bool.false_or, Nat.reduceEqDiff, Nat.reduceLT, Nat.zero_lt_succ, T.put, setAll, wipeE, tru, binD, cmpD, biD, itemsOf, tupOk, fldP, walkP, bnd, isNon, swB_bl, swT_s, onS_s, onO_s, onI_i, onR_r, brB_t, brB_f, brB_n, brB_d, brB_and, brB_or, List.map_cons, List.map_nil, List.cons_append, List.nil_append, List.append_nil, List.replicate, List.getElem?_cons_zero, List.getElem?_cons_succ, List.set_cons_zero, List.set_cons_succ, List.length_cons, List.length_nil, Nat.reduceAdd, Nat.reduceSub, Nat.reduceLeDiff, List.lookup_cons, List.lookup_nil, true_and, and_true, Bool.not_true, Bool.not_false, if_true, if_false, reduceIte, forall_const, Bool.false_eq_true, false_implies, implies_true, true_implies, reduceCtorEq, Nat.reduceBEq, con_MOST_MORE, con_NEAR, con_MOST_REACH, con_MOST_PLACES, con_MOST_BASE, con_LEAST_BASE, con_MOST_FIGURES, con_ZERO, con_UP, con_DOWN, cls_Grid, kl0, A_own_step, A_own_bounds, A_own_tops, A_own_places, A_own_reach, A_own_figures, A_own_base, A_check, C_Grid, abs_int]
  unfold rndD at h
  refine ⟨fun a => ?_, fun a => ?_⟩
  · rw [if_pos (by omega)] at h
    exact h
  · rw [if_neg (by omega)] at h
    exact h
end
/-- a pot of draws: at most N of them were made by its own numbers -/
structure PotAt (s : Sto) (p N : Nat) : Prop where
  small : N < 2 ^ 1000
  ex : ∃ a b c : Nat, s[p]? = some (.lst [.int a, .int b, .int c]) ∧ a < 2 ^ 1000 ∧ b < 2 ^ 64 ∧ c ≤ N
theorem PotAt.gr {s s' : Sto} {p N : Nat} (h : PotAt s p N) (g : Gr s s') : PotAt s' p N := by
  obtain ⟨a, b, c, h1, h2⟩ := h.ex
  exact ⟨h.small, a, b, c, g _ _ h1, h2⟩
theorem IsGrid.pot {s s' : Sto} {k b f r p q N : Nat} (h : IsGrid s k b f r p) (hp : PotAt s q N) (g : Kp q s s') : IsGrid s' k b f r p := by
  obtain ⟨a, b, c, h1, h2⟩ := hp.ex
  exact h.kp h1 g
theorem intBits_lt {i : Int} {k : Nat} (h : i.natAbs < 2 ^ k) : Builtin.Int.intBits i ≤ k + 1 := by
  unfold Builtin.Int.intBits
  by_cases h0 : i.natAbs = 0
  · have : i = 0 := by omega
    subst this
    simp
  · have := (Nat.log2_lt h0).mpr h
    split <;> omega
def Bd (k : Nat) (x : Int) : Prop := x.natAbs < 2 ^ k
theorem Bd.mul {i j : Nat} {x y : Int} (h : Bd i x) (k : Bd j y) : Bd (i + j) (x * y) := by
  unfold Bd
  rw [Int.natAbs_mul, Nat.pow_add]
  exact Nat.mul_lt_mul'' h k
theorem Bd.mono {i j : Nat} {x : Int} (h : Bd i x) (k : i ≤ j) : Bd j x := Nat.lt_of_lt_of_le h (Nat.pow_le_pow_right (by decide) k)
theorem Bd.add {i j : Nat} {x y : Int} (h : Bd i x) (k : Bd j y) : Bd (max i j + 1) (x + y) := by
  have h1 := h.mono (Nat.le_max_left i j)
  have h2 := k.mono (Nat.le_max_right i j)
  unfold Bd at *
  rw [Nat.pow_succ]
  omega
theorem Bd.mod {k : Nat} {x m : Int} (h : 0 < m) (hm : m.natAbs < 2 ^ k) : Bd k (x % m) := by
  have q0 : 0 ≤ x % m := Int.emod_nonneg _ (by omega)
  have q1 : x % m < m := Int.emod_lt_of_pos _ h
  unfold Bd
  omega
theorem Bd.log {i : Nat} {x : Int} (h : Bd i x) : x.natAbs.log2 ≤ i := by
  by_cases h0 : x.natAbs = 0
  · rw [h0]; simp
  · exact Nat.le_of_lt ((Nat.log2_lt h0).mpr h)
theorem Bd.lg {i j : Nat} {x y : Int} (h : Bd i x) (k : Bd j y) (l : i + j < 1000000 := by decide) : x.natAbs.log2 + y.natAbs.log2 < 1000000 := by
  have := h.log
  have := k.log
  omega
theorem Kp.app {s s1 : Sto} {p : Nat} (a : Kp p s s1) (m : Sto) : Kp p s (s1 ++ m) := a.gr (.app m)
section
variable {fuel n : Nat} {s : Sto} {Q : D → Sto → Prop}
theorem take_ok {p N u : Nat} (hp : PotAt s p N) (hN : N + 1 < 2 ^ 1000) (hu : 0 < u) (hu2 : u < 2 ^ 4000) (h : ∀ d s', d < u → Kp p s s' → PotAt s' p (N + 1) → Q (.int ((d : Nat) : Int)) s') :
    wp (call Z fuel (n + 1) F_law_take [.ref p, .int u] s) Q := by
  obtain ⟨sm, a, b, c, h1, ha, hb, hc⟩ := hp
  have hl := (List.getElem?_eq_some_iff.mp h1).1
  have hs : ∀ ds, lstAt (s.set p (.lst ds)) p = some ds := fun ds => lst_of (List.getElem?_set_self hl)
  have hs2 : ∀ ds m, lstAt (s.set p (.lst ds) ++ m) p = some ds := fun ds m => (Gr.app m).lst (hs ds)
  have lu : (u : Int).natAbs.log2 < 9000 := by have := (Sm.nat hu2).log; omega
  have iu : (0 : Int) < u := by omega
  refine wp_call (r := d_law_take) rfl rfl ?_
  simp only [d_law_take, ↓wf_nil, ↓wf_cons, ↓wg_asg, ↓wf_par, ↓wf_par3, ↓wg_setF, ↓wg_setI, ↓wf_ex, ↓wf_ret, ↓wf_retN, ↓wf_pass, ↓wf_brk, ↓wf_cnt, ↓wg_ite, ↓wf_for, ↓wp_var, ↓wp_lit, ↓wp_glob, ↓wp_bin, ↓wp_dct, ↓wp_dix, ↓wp_cmpEq, ↓wp_cmpIn, ↓wp_nin, onB_b, ↓wp_cmpNe, ↓wp_neg, ↓wp_cmp, ↓wp_chain, ↓wp_not, ↓wp_and, ↓wp_or, ↓wp_ite, ↓wp_fld, ↓wp_tup, ↓wp_new, ↓wp_callE, ↓wp_meth, ↓wp_make, ↓wp_bi, ↓wp_fold, ↓wp_foldv, ↓wp_append, ↓wp_extend, ↓wp_ix, ↓wp_sl, ↓wp_slk, ↓wp_enil, ↓wp_econs, ↓wp_disp, ↓wp_lrange, ↓wp_lcomp, ↓wp_cnil, ↓wp_ccons, ↓wp_seq, ↓wp_fresh, ↓wp_irange, ↓wp_enum, ↓wp_bind, ↓wp_ok, ↓wp_if, ↓swB_bl, ↓swT_s, ↓onS_s, ↓onO_s, ↓onI_i, ↓onR_r, ↓brB_t, ↓brB_f, ↓brB_n, ↓brB_d, cls_gOf, dct_new, pairsD, keyOf, not_true_eq_false, not_false_eq_true, ixN_30, ixN_31, ixN_32, lst_new, eqD_int, eqD_non_int, fuel_gOf, atI_0, atI_1, atI_2, atI_3, atI_4, putD, List.set_set, List.contains_cons, List.contains_nil, beq_self_eq_true, Bool.or_true, Bool.true_or, Bool.or_false, Bool.false_or, Nat.reduceEqDiff, Nat.reduceLT, Nat.zero_lt_succ, T.put, setAll, wipeE, tru, binD, cmpD, biD, itemsOf, tupOk, fldP, walkP, bnd, isNon, swB_bl, swT_s, onS_s, onO_s, onI_i, onR_r, brB_t, brB_f, brB_n, brB_d, brB_and, brB_or, List.map_cons, List.map_nil, List.cons_append, List.nil_append, List.append_nil, List.replicate, List.getElem?_cons_zero, List.getElem?_cons_succ, List.set_cons_zero, List.set_cons_succ, List.length_cons, List.length_nil, Nat.reduceAdd, Nat.reduceSub, Nat.reduceLeDiff, List.lookup_cons, List.lookup_nil, true_and, and_true, Bool.not_true, Bool.not_false, if_true, if_false, reduceIte, forall_const, Bool.false_eq_true, false_implies, implies_true, true_implies, reduceCtorEq, Nat.reduceBEq, con_MOST_MORE, con_NEAR, con_MOST_REACH, con_MOST_PLACES, con_MOST_BASE, con_LEAST_BASE, con_MOST_FIGURES, con_ZERO, con_UP, con_DOWN, cls_Grid, kl0, A_own_step, A_own_bounds, A_own_tops, A_own_places, A_own_reach, A_own_figures, A_own_base, A_check, C_Grid, lst_of h1, hs, hs2, iu, lu]
  refine ⟨fun ha0 => ?_, fun ha0 => ?_⟩
  · have e : ((a : Int) % (u : Int)) = ((a % u : Nat) : Int) := by simp
    rw [e]
    refine h _ _ (Nat.mod_lt _ hu) (.set .refl) ⟨hN, a / u, b, c, ?_, ?_, hb, by omega⟩
    · rw [List.getElem?_set_self hl]; simp
    · have := Nat.div_le_self a u
      omega
  · obtain ⟨q, q0, q1, at_⟩ : ∃ q : Nat, 0 < q ∧ q < 2 ^ 32 ∧ atI [D.int 2147483647, D.int 2147483629, D.int 2147483587, D.int 2147483579, D.int 2147483563] (((c : Int) + 1) % 5) = some (.int q) := by
      have : ((c : Int) + 1) % 5 = 0 ∨ ((c : Int) + 1) % 5 = 1 ∨ ((c : Int) + 1) % 5 = 2 ∨ ((c : Int) + 1) % 5 = 3 ∨ ((c : Int) + 1) % 5 = 4 := by omega
      rcases this with e | e | e | e | e <;> rw [e]
      · exact ⟨2147483647, by decide, by decide, atI_0⟩
      · exact ⟨2147483629, by decide, by decide, atI_1⟩
      · exact ⟨2147483587, by decide, by decide, atI_2⟩
      · exact ⟨2147483579, by decide, by decide, atI_3⟩
      · exact ⟨2147483563, by decide, by decide, atI_4⟩
    have iq : (0 : Int) < q := by omega
    refine ⟨by decide, by decide, onO_of at_ ?_⟩
    simp only [↓wf_nil, ↓wf_cons, ↓wg_asg, ↓wf_par, ↓wf_par3, ↓wg_setF, ↓wg_setI, ↓wf_ex, ↓wf_ret, ↓wf_retN, ↓wf_pass, ↓wf_brk, ↓wf_cnt, ↓wg_ite, ↓wf_for, ↓wp_var, ↓wp_lit, ↓wp_glob, ↓wp_bin, ↓wp_dct, ↓wp_dix, ↓wp_cmpEq, ↓wp_cmpIn, ↓wp_nin, onB_b, ↓wp_cmpNe, ↓wp_neg, ↓wp_cmp, ↓wp_chain, ↓wp_not, ↓wp_and, ↓wp_or, ↓wp_ite, ↓wp_fld, ↓wp_tup, ↓wp_new, ↓wp_callE, ↓wp_meth, ↓wp_make, ↓wp_bi, ↓wp_fold, ↓wp_foldv, ↓wp_append, ↓wp_extend, ↓wp_ix, ↓wp_sl, ↓wp_slk, ↓wp_enil, ↓wp_econs, ↓wp_disp, ↓wp_lrange, ↓wp_lcomp, ↓wp_cnil, ↓wp_ccons, ↓wp_seq, ↓wp_fresh, ↓wp_irange, ↓wp_enum, ↓wp_bind, ↓wp_ok, ↓wp_if, ↓swB_bl, ↓swT_s, ↓onS_s, ↓onO_s, ↓onI_i, ↓onR_r, ↓brB_t, ↓brB_f, ↓brB_n, ↓brB_d, cls_gOf, dct_new, pairsD, keyOf, not_true_eq_false, not_false_eq_true, ixN_30, ixN_31, ixN_32, lst_new, eqD_int, eqD_non_int, fuel_gOf, atI_0, atI_1, atI_2, atI_3, atI_4, putD, List.set_set, List.contains_cons, List.contains_nil, beq_self_eq_true, Bool.or_true, Bool.true_or, Bool.or_false, Bool.false_or, Nat.reduceEqDiff, Nat.reduceLT, Nat.zero_lt_succ, T.put, setAll, wipeE, tru, binD, cmpD, biD, itemsOf, tupOk, fldP, walkP, bnd, isNon, swB_bl, swT_s, onS_s, onO_s, onI_i, onR_r, brB_t, brB_f, brB_n, brB_d, brB_and, brB_or, List.map_cons, List.map_nil, List.cons_append, List.nil_append, List.append_nil, List.replicate, List.getElem?_cons_zero, List.getElem?_cons_succ, List.set_cons_zero, List.set_cons_succ, List.length_cons, List.length_nil, Nat.reduceAdd, Nat.reduceSub, Nat.reduceLeDiff, List.lookup_cons, List.lookup_nil, true_and, and_true, Bool.not_true, Bool.not_false, if_true, if_false, reduceIte, forall_const, Bool.false_eq_true, false_implies, implies_true, true_implies, reduceCtorEq, Nat.reduceBEq, con_MOST_MORE, con_NEAR, con_MOST_REACH, con_MOST_PLACES, con_MOST_BASE, con_LEAST_BASE, con_MOST_FIGURES, con_ZERO, con_UP, con_DOWN, cls_Grid, kl0, A_own_step, A_own_bounds, A_own_tops, A_own_places, A_own_reach, A_own_figures, A_own_base, A_check, C_Grid, hs2, iu, iq, lu]
    have bc : Bd 1001 ((c : Int) + 1) := by
      have e : (2 : Nat) ^ 1001 = 2 ^ 1000 * 2 := by rw [← Nat.pow_succ]
      unfold Bd
      omega
    have bb : Bd 64 (b : Int) := hb
    have bl : ∀ x : Int, x.natAbs < 18446744073709551616 → Bd 64 x := fun x h => h
    have bX : ∀ x y : Int, x.natAbs < 18446744073709551616 → y.natAbs < 18446744073709551616 → Bd 2068 ((b : Int) + x * ((c : Int) + 1) * ((c : Int) + 1) + y) := fun x y hx hy => ((bb.add (((bl _ hx).mul bc).mul bc)).add (bl _ hy)).mono (by decide)
    have bI : ∀ x : Int, Bd 2068 x → (Builtin.Int.intBits x : Int) * 3 ≤ 2 ^ 27 := fun x h => by
      have := intBits_lt h
      omega
    have bq : ∀ x : Int, Bd 32 (x % (q : Int)) := fun x => Bd.mod iq q1
    refine ⟨(bl _ (by decide)).lg bc, ((bl _ (by decide)).mul bc).lg bc, ⟨by decide, ?_⟩, by decide, (bl _ (by decide)).lg bc, (bq _).lg ((Bd.mod (k := 64) (by decide) (by decide)).add ((bl _ (by decide)).mul bc)), by decide, ⟨by decide, by decide⟩, ?_⟩
    · exact bI _ (bX _ _ (by decide) (by decide))
    · have emod : ∀ y : Int, ∃ d : Nat, d < u ∧ y % (u : Int) = (d : Int) := fun y => by
        have q0 : 0 ≤ y % (u : Int) := Int.emod_nonneg _ (by omega)
        have q1 : y % (u : Int) < u := Int.emod_lt_of_pos _ (by omega)
        exact ⟨(y % (u : Int)).toNat, by omega, by omega⟩
      obtain ⟨d, hd, ed⟩ := emod _
      rw [ed]
      refine h d _ hd ((Kp.set .refl).app _) ⟨hN, a, b, c + 1, ?_, ha, hb, by omega⟩
      rw [List.getElem?_append_left (by rw [List.length_set]; exact hl), List.getElem?_set_self hl]
      simp
end
section
variable {fuel n : Nat} {s : Sto} {Q : D → Sto → Prop}
theorem pot_ok {ns : List Int} {i : Nat} (hi : i < ns.length ∨ (ns = [] ∧ i = 0)) (hi2 : i ≤ 63) (h : ∀ p s', Gr s s' → s.length ≤ p → PotAt s' p 0 → Q (.ref p) s') :
    wp (call Z fuel (n + 1) F_law_pot [.rol (ns.map D.int), .int i] s) Q := by
  have own : ∀ (c : Int) (s1 : Sto) (b : Nat), Gr s s1 → b < 2 ^ 64 → ∀ k : Nat, k ≤ 1 → Q (.ref s1.length) (s1 ++ [.lst [.int ((c.natAbs : Int) % (10 ^ Int.toNat 60) ^ Int.toNat 5 * (k : Int)), .int b, .int 0]]) := fun c s1 b g hb k hk => by
    refine h _ _ (g.trans (.app _)) g.len ⟨by decide +kernel, c.natAbs % 10 ^ 300 * k, b, 0, ?_, ?_, hb, by omega⟩
    · rw [List.getElem?_append_right (Nat.le_refl _), Nat.sub_self]
      have e : ((10 : Int) ^ Int.toNat 60) ^ Int.toNat 5 = ((10 ^ 300 : Nat) : Int) := by decide +kernel
      rw [e]
      simp
    · have h1 : c.natAbs % 10 ^ 300 < 10 ^ 300 := Nat.mod_lt _ (by decide +kernel)
      have h2 : (10 : Nat) ^ 300 < 2 ^ 1000 := by decide +kernel
      have : k = 0 ∨ k = 1 := by omega
      rcases this with rfl | rfl <;> omega
  have bl : ∀ x : Int, x.natAbs < 18446744073709551616 → Bd 64 x := fun x h => h
  have bi : Bd 64 (i : Int) := by unfold Bd; omega
  have e18 : ((10 : Int) ^ Int.toNat 60) ^ Int.toNat 5 = ((10 ^ 300 : Nat) : Int) := by decide +kernel
  have p300 : (0 : Int) < ((10 : Int) ^ Int.toNat 60) ^ Int.toNat 5 := by rw [e18]; decide +kernel
  have n300 : (((10 : Int) ^ Int.toNat 60) ^ Int.toNat 5).natAbs < 2 ^ 1000 := by rw [e18]; decide +kernel
  have fin : ∀ (c : Int) (s1 : Sto) (X Y W : Int), Gr s s1 → Bd 64 X → Bd 64 Y → (((0 : Int) ≤ 60 ∧ (Builtin.Int.intBits 10 : Int) * 60 ≤ 2 ^ 27) ∧
    ((0 : Int) ≤ 5 ∧ (Builtin.Int.intBits (10 ^ Int.toNat 60) : Int) * 5 ≤ 2 ^ 27) ∧
      (0 : Int) < (10 ^ Int.toNat 60) ^ Int.toNat 5 ∧
        ((0 : Int) ≤ 18 ∧ (Builtin.Int.intBits 10 : Int) * 18 ≤ 2 ^ 27) ∧
          ((c.natAbs : Int) % (10 ^ Int.toNat 60) ^ Int.toNat 5).natAbs.log2 +
                (if decide ((10 : Int) ^ Int.toNat 18 ≤ (c.natAbs : Int)) = true then (1 : Int) else 0).natAbs.log2 <
              1000000 ∧
            (0 : Int) < 2305843009213693951 ∧
              (c % 2305843009213693951).natAbs.log2 + X.natAbs.log2 < 1000000 ∧
                Y.natAbs.log2 + (i : Int).natAbs.log2 < 1000000 ∧
                  (Y * (i : Int)).natAbs.log2 + (i : Int).natAbs.log2 < 1000000 ∧
                    (0 : Int) < 2305843009213693921 ∧
                      3 ≤ sizeLine ∧
                        Q (D.ref (List.length s1))
                          (s1 ++
                            [Cell.lst
                                [D.int
                                    ((c.natAbs : Int) % (10 ^ Int.toNat 60) ^ Int.toNat 5 *
                                      if decide ((10 : Int) ^ Int.toNat 18 ≤ (c.natAbs : Int)) = true then 1 else 0),
                                  D.int
                                    ((c % 2305843009213693951 * X + Y * (i : Int) * (i : Int) + W) %
                                      2305843009213693921),
                                  D.int 0]])) := fun c s1 X Y W g hX hY => by
    have q0 : 0 ≤ (c % 2305843009213693951 * X + Y * (i : Int) * (i : Int) + W) % 2305843009213693921 := Int.emod_nonneg _ (by decide)
    have q1 : (c % 2305843009213693951 * X + Y * (i : Int) * (i : Int) + W) % 2305843009213693921 < 2305843009213693921 := Int.emod_lt_of_pos _ (by decide)
    have em : ∃ b : Nat, b < 2 ^ 64 ∧ (c % 2305843009213693951 * X + Y * (i : Int) * (i : Int) + W) % 2305843009213693921 = (b : Int) := ⟨((c % 2305843009213693951 * X + Y * (i : Int) * (i : Int) + W) % 2305843009213693921).toNat, by omega, by omega⟩
    obtain ⟨b, hb, eb⟩ := em
    refine ⟨by decide, by decide +kernel, p300, by decide, (Bd.mod p300 n300).lg (j := 64) (bl _ (by split <;> decide)), by decide, (Bd.mod (k := 64) (by decide) (by decide)).lg hX, hY.lg bi, (hY.mul bi).lg bi, by decide, by decide, ?_⟩
    rw [eb]
    split
    · exact own c s1 b g hb 1 (by omega)
    · exact own c s1 b g hb 0 (by omega)
  refine wp_call (r := d_law_pot) rfl rfl ?_
  simp only [d_law_pot, ↓wf_nil, ↓wf_cons, ↓wg_asg, ↓wf_par, ↓wf_par3, ↓wg_setF, ↓wg_setI, ↓wf_ex, ↓wf_ret, ↓wf_retN, ↓wf_pass, ↓wf_brk, ↓wf_cnt, ↓wg_ite, ↓wf_for, ↓wp_var, ↓wp_lit, ↓wp_glob, ↓wp_bin, ↓wp_dct, ↓wp_dix, ↓wp_cmpEq, ↓wp_cmpIn, ↓wp_nin, onB_b, ↓wp_cmpNe, ↓wp_neg, ↓wp_cmp, ↓wp_chain, ↓wp_not, ↓wp_and, ↓wp_or, ↓wp_ite, ↓wp_fld, ↓wp_tup, ↓wp_new, ↓wp_callE, ↓wp_meth, ↓wp_make, ↓wp_bi, ↓wp_fold, ↓wp_foldv, ↓wp_append, ↓wp_extend, ↓wp_ix, ↓wp_sl, ↓wp_slk, ↓wp_enil, ↓wp_econs, ↓wp_disp, ↓wp_lrange, ↓wp_lcomp, ↓wp_cnil, ↓wp_ccons, ↓wp_seq, ↓wp_fresh, ↓wp_irange, ↓wp_enum, ↓wp_bind, ↓wp_ok, ↓wp_if, ↓swB_bl, ↓swT_s, ↓onS_s, ↓onO_s, ↓onI_i, ↓onR_r, ↓brB_t, ↓brB_f, ↓brB_n, ↓brB_d, cls_gOf, dct_new, pairsD, keyOf, not_true_eq_false, not_false_eq_true, ixN_30, ixN_31, ixN_32, lst_new, eqD_int, eqD_non_int, fuel_gOf, atI_0, atI_1, atI_2, atI_3, atI_4, putD, List.set_set, List.contains_cons, List.contains_nil, beq_self_eq_true, Bool.or_true, Bool.true_or, Bool.or_false, Bool.false_or, Nat.reduceEqDiff, Nat.reduceLT, Nat.zero_lt_succ, T.put, setAll, wipeE, tru, binD, cmpD, biD, itemsOf, tupOk, fldP, walkP, bnd, isNon, swB_bl, swT_s, onS_s, onO_s, onI_i, onR_r, brB_t, brB_f, brB_n, brB_d, brB_and, brB_or, List.map_cons, List.map_nil, List.cons_append, List.nil_append, List.append_nil, List.replicate, List.getElem?_cons_zero, List.getElem?_cons_succ, List.set_cons_zero, List.set_cons_succ, List.length_cons, List.length_nil, Nat.reduceAdd, Nat.reduceSub, Nat.reduceLeDiff, List.lookup_cons, List.lookup_nil, true_and, and_true, Bool.not_true, Bool.not_false, if_true, if_false, reduceIte, forall_const, Bool.false_eq_true, false_implies, implies_true, true_implies, reduceCtorEq, Nat.reduceBEq, con_MOST_MORE, con_NEAR, con_MOST_REACH, con_MOST_PLACES, con_MOST_BASE, con_LEAST_BASE, con_MOST_FIGURES, con_ZERO, con_UP, con_DOWN, cls_Grid, kl0, A_own_step, A_own_bounds, A_own_tops, A_own_places, A_own_reach, A_own_figures, A_own_base, A_check, C_Grid, foldD, List.length_map]
  refine ⟨fun a => ?_, fun a => ?_⟩
  · have hl : i < ns.length := by omega
    rw [atI_nat, List.getElem?_map, List.getElem?_eq_getElem hl]
    simp only [↓wf_nil, ↓wf_cons, ↓wg_asg, ↓wf_par, ↓wf_par3, ↓wg_setF, ↓wg_setI, ↓wf_ex, ↓wf_ret, ↓wf_retN, ↓wf_pass, ↓wf_brk, ↓wf_cnt, ↓wg_ite, ↓wf_for, ↓wp_var, ↓wp_lit, ↓wp_glob, ↓wp_bin, ↓wp_dct, ↓wp_dix, ↓wp_cmpEq, ↓wp_cmpIn, ↓wp_nin, onB_b, ↓wp_cmpNe, ↓wp_neg, ↓wp_cmp, ↓wp_chain, ↓wp_not, ↓wp_and, ↓wp_or, ↓wp_ite, ↓wp_fld, ↓wp_tup, ↓wp_new, ↓wp_callE, ↓wp_meth, ↓wp_make, ↓wp_bi, ↓wp_fold, ↓wp_foldv, ↓wp_append, ↓wp_extend, ↓wp_ix, ↓wp_sl, ↓wp_slk, ↓wp_enil, ↓wp_econs, ↓wp_disp, ↓wp_lrange, ↓wp_lcomp, ↓wp_cnil, ↓wp_ccons, ↓wp_seq, ↓wp_fresh, ↓wp_irange, ↓wp_enum, ↓wp_bind, ↓wp_ok, ↓wp_if, ↓swB_bl, ↓swT_s, ↓onS_s, ↓onO_s, ↓onI_i, ↓onR_r, ↓brB_t, ↓brB_f, ↓brB_n, ↓brB_d, cls_gOf, dct_new, pairsD, keyOf, not_true_eq_false, not_false_eq_true, ixN_30, ixN_31, ixN_32, lst_new, eqD_int, eqD_non_int, fuel_gOf, atI_0, atI_1, atI_2, atI_3, atI_4, putD, List.set_set, List.contains_cons, List.contains_nil, beq_self_eq_true, Bool.or_true, Bool.true_or, Bool.or_false, Bool.false_or, Nat.reduceEqDiff, Nat.reduceLT, Nat.zero_lt_succ, T.put, setAll, wipeE, tru, binD, cmpD, biD, itemsOf, tupOk, fldP, walkP, bnd, isNon, swB_bl, swT_s, onS_s, onO_s, onI_i, onR_r, brB_t, brB_f, brB_n, brB_d, brB_and, brB_or, List.map_cons, List.map_nil, List.cons_append, List.nil_append, List.append_nil, List.replicate, List.getElem?_cons_zero, List.getElem?_cons_succ, List.set_cons_zero, List.set_cons_succ, List.length_cons, List.length_nil, Nat.reduceAdd, Nat.reduceSub, Nat.reduceLeDiff, List.lookup_cons, List.lookup_nil, true_and, and_true, Bool.not_true, Bool.not_false, if_true, if_false, reduceIte, forall_const, Bool.false_eq_true, false_implies, implies_true, true_implies, reduceCtorEq, Nat.reduceBEq, con_MOST_MORE, con_NEAR, con_MOST_REACH, con_MOST_PLACES, con_MOST_BASE, con_LEAST_BASE, con_MOST_FIGURES, con_ZERO, con_UP, con_DOWN, cls_Grid, kl0, A_own_step, A_own_bounds, A_own_tops, A_own_places, A_own_reach, A_own_figures, A_own_base, A_check, C_Grid, Option.map_some, abs_int]
    refine fin _ _ _ _ _ .refl ?_ ?_ <;> exact bl _ (by decide)
  · have hn : ns = [] := by
      rcases hi with z | z
      · omega
      · exact z.1
    subst hn
    have ec : cutD ([] : List D) none (some 1) = [] := rfl
    simp only [↓wf_nil, ↓wf_cons, ↓wg_asg, ↓wf_par, ↓wf_par3, ↓wg_setF, ↓wg_setI, ↓wf_ex, ↓wf_ret, ↓wf_retN, ↓wf_pass, ↓wf_brk, ↓wf_cnt, ↓wg_ite, ↓wf_for, ↓wp_var, ↓wp_lit, ↓wp_glob, ↓wp_bin, ↓wp_dct, ↓wp_dix, ↓wp_cmpEq, ↓wp_cmpIn, ↓wp_nin, onB_b, ↓wp_cmpNe, ↓wp_neg, ↓wp_cmp, ↓wp_chain, ↓wp_not, ↓wp_and, ↓wp_or, ↓wp_ite, ↓wp_fld, ↓wp_tup, ↓wp_new, ↓wp_callE, ↓wp_meth, ↓wp_make, ↓wp_bi, ↓wp_fold, ↓wp_foldv, ↓wp_append, ↓wp_extend, ↓wp_ix, ↓wp_sl, ↓wp_slk, ↓wp_enil, ↓wp_econs, ↓wp_disp, ↓wp_lrange, ↓wp_lcomp, ↓wp_cnil, ↓wp_ccons, ↓wp_seq, ↓wp_fresh, ↓wp_irange, ↓wp_enum, ↓wp_bind, ↓wp_ok, ↓wp_if, ↓swB_bl, ↓swT_s, ↓onS_s, ↓onO_s, ↓onI_i, ↓onR_r, ↓brB_t, ↓brB_f, ↓brB_n, ↓brB_d, cls_gOf, dct_new, pairsD, keyOf, not_true_eq_false, not_false_eq_true, ixN_30, ixN_31, ixN_32, lst_new, eqD_int, eqD_non_int, fuel_gOf, atI_0, atI_1, atI_2, atI_3, atI_4, putD, List.set_set, List.contains_cons, List.contains_nil, beq_self_eq_true, Bool.or_true, Bool.true_or, Bool.or_false, Bool.false_or, Nat.reduceEqDiff, Nat.reduceLT, Nat.zero_lt_succ, T.put, setAll, wipeE, tru, binD, cmpD, biD, itemsOf, tupOk, fldP, walkP, bnd, isNon, swB_bl, swT_s, onS_s, onO_s, onI_i, onR_r, brB_t, brB_f, brB_n, brB_d, brB_and, brB_or, List.map_cons, List.map_nil, List.cons_append, List.nil_append, List.append_nil, List.replicate, List.getElem?_cons_zero, List.getElem?_cons_succ, List.set_cons_zero, List.set_cons_succ, List.length_cons, List.length_nil, Nat.reduceAdd, Nat.reduceSub, Nat.reduceLeDiff, List.lookup_cons, List.lookup_nil, true_and, and_true, Bool.not_true, Bool.not_false, if_true, if_false, reduceIte, forall_const, Bool.false_eq_true, false_implies, implies_true, true_implies, reduceCtorEq, Nat.reduceBEq, con_MOST_MORE, con_NEAR, con_MOST_REACH, con_MOST_PLACES, con_MOST_BASE, con_LEAST_BASE, con_MOST_FIGURES, con_ZERO, con_UP, con_DOWN, cls_Grid, kl0, A_own_step, A_own_bounds, A_own_tops, A_own_places, A_own_reach, A_own_figures, A_own_base, A_check, C_Grid, List.map_nil, slD, newL, ec, allInt]
    refine ⟨by decide, (bl _ (by decide)).lg bi, ?_⟩
    simp only [abs_int]
    refine fin _ _ _ _ _ (.app _) ?_ ?_ <;> exact bl _ (by decide)
end
def gt (b f r p : Nat) : D := .tup [.int b, .int f, .int r, .int p]
section
variable {fuel n : Nat} {s : Sto} {Q : D → Sto → Prop}
theorem of_ok {p N k : Nat} {ds : List D} (hp : PotAt s p N) (hN : N + 1 < 2 ^ 1000) (hk : k ≠ p) (hl : lstAt s k = some ds) (h0 : ds ≠ []) (h1 : ds.length ≤ 1000000) (h : ∀ d s', d ∈ ds → Kp p s s' → PotAt s' p (N + 1) → Q d s') :
    wp (call Z fuel (n + 2) F_law_of [.ref p, .ref k] s) Q := by
  refine wp_call (r := d_law_of) rfl rfl ?_
  simp only [d_law_of, ↓wf_nil, ↓wf_cons, ↓wg_asg, ↓wf_par, ↓wf_par3, ↓wg_setF, ↓wg_setI, ↓wf_ex, ↓wf_ret, ↓wf_retN, ↓wf_pass, ↓wf_brk, ↓wf_cnt, ↓wg_ite, ↓wf_for, ↓wp_var, ↓wp_lit, ↓wp_glob, ↓wp_bin, ↓wp_dct, ↓wp_dix, ↓wp_cmpEq, ↓wp_cmpIn, ↓wp_nin, onB_b, ↓wp_cmpNe, ↓wp_neg, ↓wp_cmp, ↓wp_chain, ↓wp_not, ↓wp_and, ↓wp_or, ↓wp_ite, ↓wp_fld, ↓wp_tup, ↓wp_new, ↓wp_callE, ↓wp_meth, ↓wp_make, ↓wp_bi, ↓wp_fold, ↓wp_foldv, ↓wp_append, ↓wp_extend, ↓wp_ix, ↓wp_sl, ↓wp_slk, ↓wp_enil, ↓wp_econs, ↓wp_disp, ↓wp_lrange, ↓wp_lcomp, ↓wp_cnil, ↓wp_ccons, ↓wp_seq, ↓wp_fresh, ↓wp_irange, ↓wp_enum, ↓wp_bind, ↓wp_ok, ↓wp_if, ↓swB_bl, ↓swT_s, ↓onS_s, ↓onO_s, ↓onI_i, ↓onR_r, ↓brB_t, ↓brB_f, ↓brB_n, ↓brB_d, cls_gOf, dct_new, pairsD, keyOf, not_true_eq_false, not_false_eq_true, ixN_30, ixN_31, ixN_32, lst_new, eqD_int, eqD_non_int, fuel_gOf, atI_0, atI_1, atI_2, atI_3, atI_4, putD, List.set_set, List.contains_cons, List.contains_nil, beq_self_eq_true, Bool.or_true, Bool.true_or, Bool.or_false, Bool.false_or, Nat.reduceEqDiff, Nat.reduceLT, Nat.zero_lt_succ, T.put, setAll, wipeE, tru, binD, cmpD, biD, itemsOf, tupOk, fldP, walkP, bnd, isNon, swB_bl, swT_s, onS_s, onO_s, onI_i, onR_r, brB_t, brB_f, brB_n, brB_d, brB_and, brB_or, List.map_cons, List.map_nil, List.cons_append, List.nil_append, List.append_nil, List.replicate, List.getElem?_cons_zero, List.getElem?_cons_succ, List.set_cons_zero, List.set_cons_succ, List.length_cons, List.length_nil, Nat.reduceAdd, Nat.reduceSub, Nat.reduceLeDiff, List.lookup_cons, List.lookup_nil, true_and, and_true, Bool.not_true, Bool.not_false, if_true, if_false, reduceIte, forall_const, Bool.false_eq_true, false_implies, implies_true, true_implies, reduceCtorEq, Nat.reduceBEq, con_MOST_MORE, con_NEAR, con_MOST_REACH, con_MOST_PLACES, con_MOST_BASE, con_LEAST_BASE, con_MOST_FIGURES, con_ZERO, con_UP, con_DOWN, cls_Grid, kl0, A_own_step, A_own_bounds, A_own_tops, A_own_places, A_own_reach, A_own_figures, A_own_base, A_check, C_Grid, hl, foldD]
  refine take_ok hp hN (List.length_pos_iff.mpr h0) (sm_mid h1) fun d s' hd kp hp' => ?_
  simp only [↓wf_nil, ↓wf_cons, ↓wg_asg, ↓wf_par, ↓wf_par3, ↓wg_setF, ↓wg_setI, ↓wf_ex, ↓wf_ret, ↓wf_retN, ↓wf_pass, ↓wf_brk, ↓wf_cnt, ↓wg_ite, ↓wf_for, ↓wp_var, ↓wp_lit, ↓wp_glob, ↓wp_bin, ↓wp_dct, ↓wp_dix, ↓wp_cmpEq, ↓wp_cmpIn, ↓wp_nin, onB_b, ↓wp_cmpNe, ↓wp_neg, ↓wp_cmp, ↓wp_chain, ↓wp_not, ↓wp_and, ↓wp_or, ↓wp_ite, ↓wp_fld, ↓wp_tup, ↓wp_new, ↓wp_callE, ↓wp_meth, ↓wp_make, ↓wp_bi, ↓wp_fold, ↓wp_foldv, ↓wp_append, ↓wp_extend, ↓wp_ix, ↓wp_sl, ↓wp_slk, ↓wp_enil, ↓wp_econs, ↓wp_disp, ↓wp_lrange, ↓wp_lcomp, ↓wp_cnil, ↓wp_ccons, ↓wp_seq, ↓wp_fresh, ↓wp_irange, ↓wp_enum, ↓wp_bind, ↓wp_ok, ↓wp_if, ↓swB_bl, ↓swT_s, ↓onS_s, ↓onO_s, ↓onI_i, ↓onR_r, ↓brB_t, ↓brB_f, ↓brB_n, ↓brB_d, cls_gOf, dct_new, pairsD, keyOf, not_true_eq_false, not_false_eq_true, ixN_30, ixN_31, ixN_32, lst_new, eqD_int, eqD_non_int, fuel_gOf, atI_0, atI_1, atI_2, atI_3, atI_4, putD, List.set_set, List.contains_cons, List.contains_nil, beq_self_eq_true, Bool.or_true, Bool.true_or, Bool.or_false, Bool.false_or, Nat.reduceEqDiff, Nat.reduceLT, Nat.zero_lt_succ, T.put, setAll, wipeE, tru, binD, cmpD, biD, itemsOf, tupOk, fldP, walkP, bnd, isNon, swB_bl, swT_s, onS_s, onO_s, onI_i, onR_r, brB_t, brB_f, brB_n, brB_d, brB_and, brB_or, List.map_cons, List.map_nil, List.cons_append, List.nil_append, List.append_nil, List.replicate, List.getElem?_cons_zero, List.getElem?_cons_succ, List.set_cons_zero, List.set_cons_succ, List.length_cons, List.length_nil, Nat.reduceAdd, Nat.reduceSub, Nat.reduceLeDiff, List.lookup_cons, List.lookup_nil, true_and, and_true, Bool.not_true, Bool.not_false, if_true, if_false, reduceIte, forall_const, Bool.false_eq_true, false_implies, implies_true, true_implies, reduceCtorEq, Nat.reduceBEq, con_MOST_MORE, con_NEAR, con_MOST_REACH, con_MOST_PLACES, con_MOST_BASE, con_LEAST_BASE, con_MOST_FIGURES, con_ZERO, con_UP, con_DOWN, cls_Grid, kl0, A_own_step, A_own_bounds, A_own_tops, A_own_places, A_own_reach, A_own_figures, A_own_base, A_check, C_Grid, kp.lst hk hl]
  refine onO_of (d := ds[d]) ?_ (h _ _ (List.getElem_mem hd) kp hp')
  rw [atI_nat]
  exact List.getElem?_eq_getElem hd
theorem gpower_ok {b k : Nat} (hb : b ≤ 10) (hk : k ≤ 500) (hf : 1000 < fuel) (h : Q (.int ((b : Int) ^ k)) s) : wp (call Z fuel (n + 1) F_law_grid_power [.int b, .int k] s) Q := by
  refine wp_call (r := d_law_grid_power) rfl rfl ?_
  simp only [d_law_grid_power, ↓wf_nil, ↓wf_cons, ↓wg_asg, ↓wf_par, ↓wf_par3, ↓wg_setF, ↓wg_setI, ↓wf_ex, ↓wf_ret, ↓wf_retN, ↓wf_pass, ↓wf_brk, ↓wf_cnt, ↓wg_ite, ↓wf_for, ↓wp_var, ↓wp_lit, ↓wp_glob, ↓wp_bin, ↓wp_dct, ↓wp_dix, ↓wp_cmpEq, ↓wp_cmpIn, ↓wp_nin, onB_b, ↓wp_cmpNe, ↓wp_neg, ↓wp_cmp, ↓wp_chain, ↓wp_not, ↓wp_and, ↓wp_or, ↓wp_ite, ↓wp_fld, ↓wp_tup, ↓wp_new, ↓wp_callE, ↓wp_meth, ↓wp_make, ↓wp_bi, ↓wp_fold, ↓wp_foldv, ↓wp_append, ↓wp_extend, ↓wp_ix, ↓wp_sl, ↓wp_slk, ↓wp_enil, ↓wp_econs, ↓wp_disp, ↓wp_lrange, ↓wp_lcomp, ↓wp_cnil, ↓wp_ccons, ↓wp_seq, ↓wp_fresh, ↓wp_irange, ↓wp_enum, ↓wp_bind, ↓wp_ok, ↓wp_if, ↓swB_bl, ↓swT_s, ↓onS_s, ↓onO_s, ↓onI_i, ↓onR_r, ↓brB_t, ↓brB_f, ↓brB_n, ↓brB_d, cls_gOf, dct_new, pairsD, keyOf, not_true_eq_false, not_false_eq_true, ixN_30, ixN_31, ixN_32, lst_new, eqD_int, eqD_non_int, fuel_gOf, atI_0, atI_1, atI_2, atI_3, atI_4, putD, List.set_set, List.contains_cons, List.contains_nil, beq_self_eq_true, Bool.or_true, Bool.true_or, Bool.or_false, Bool.false_or, Nat.reduceEqDiff, Nat.reduceLT, Nat.zero_lt_succ, T.put, setAll, wipeE, tru, binD, cmpD, biD, itemsOf, tupOk, fldP, walkP, bnd, isNon, swB_bl, swT_s, onS_s, onO_s, onI_i, onR_r, brB_t, brB_f, brB_n, brB_d, brB_and, brB_or, List.map_cons, List.map_nil, List.cons_append, List.nil_append, List.append_nil, List.replicate, List.getElem?_cons_zero, List.getElem?_cons_succ, List.set_cons_zero, List.set_cons_succ, List.length_cons, List.length_nil, Nat.reduceAdd, Nat.reduceSub, Nat.reduceLeDiff, List.lookup_cons, List.lookup_nil, true_and, and_true, Bool.not_true, Bool.not_false, if_true, if_false, reduceIte, forall_const, Bool.false_eq_true, false_implies, implies_true, true_implies, reduceCtorEq, Nat.reduceBEq, con_MOST_MORE, con_NEAR, con_MOST_REACH, con_MOST_PLACES, con_MOST_BASE, con_LEAST_BASE, con_MOST_FIGURES, con_ZERO, con_UP, con_DOWN, cls_Grid, kl0, A_own_step, A_own_bounds, A_own_tops, A_own_places, A_own_reach, A_own_figures, A_own_base, A_check, C_Grid]
  rw [rangeD1 (by omega)]
  simp only [↓wf_nil, ↓wf_cons, ↓wg_asg, ↓wf_par, ↓wf_par3, ↓wg_setF, ↓wg_setI, ↓wf_ex, ↓wf_ret, ↓wf_retN, ↓wf_pass, ↓wf_brk, ↓wf_cnt, ↓wg_ite, ↓wf_for, ↓wp_var, ↓wp_lit, ↓wp_glob, ↓wp_bin, ↓wp_dct, ↓wp_dix, ↓wp_cmpEq, ↓wp_cmpIn, ↓wp_nin, onB_b, ↓wp_cmpNe, ↓wp_neg, ↓wp_cmp, ↓wp_chain, ↓wp_not, ↓wp_and, ↓wp_or, ↓wp_ite, ↓wp_fld, ↓wp_tup, ↓wp_new, ↓wp_callE, ↓wp_meth, ↓wp_make, ↓wp_bi, ↓wp_fold, ↓wp_foldv, ↓wp_append, ↓wp_extend, ↓wp_ix, ↓wp_sl, ↓wp_slk, ↓wp_enil, ↓wp_econs, ↓wp_disp, ↓wp_lrange, ↓wp_lcomp, ↓wp_cnil, ↓wp_ccons, ↓wp_seq, ↓wp_fresh, ↓wp_irange, ↓wp_enum, ↓wp_bind, ↓wp_ok, ↓wp_if, ↓swB_bl, ↓swT_s, ↓onS_s, ↓onO_s, ↓onI_i, ↓onR_r, ↓brB_t, ↓brB_f, ↓brB_n, ↓brB_d, cls_gOf, dct_new, pairsD, keyOf, not_true_eq_false, not_false_eq_true, ixN_30, ixN_31, ixN_32, lst_new, eqD_int, eqD_non_int, fuel_gOf, atI_0, atI_1, atI_2, atI_3, atI_4, putD, List.set_set, List.contains_cons, List.contains_nil, beq_self_eq_true, Bool.or_true, Bool.true_or, Bool.or_false, Bool.false_or, Nat.reduceEqDiff, Nat.reduceLT, Nat.zero_lt_succ, T.put, setAll, wipeE, tru, binD, cmpD, biD, itemsOf, tupOk, fldP, walkP, bnd, isNon, swB_bl, swT_s, onS_s, onO_s, onI_i, onR_r, brB_t, brB_f, brB_n, brB_d, brB_and, brB_or, List.map_cons, List.map_nil, List.cons_append, List.nil_append, List.append_nil, List.replicate, List.getElem?_cons_zero, List.getElem?_cons_succ, List.set_cons_zero, List.set_cons_succ, List.length_cons, List.length_nil, Nat.reduceAdd, Nat.reduceSub, Nat.reduceLeDiff, List.lookup_cons, List.lookup_nil, true_and, and_true, Bool.not_true, Bool.not_false, if_true, if_false, reduceIte, forall_const, Bool.false_eq_true, false_implies, implies_true, true_implies, reduceCtorEq, Nat.reduceBEq, con_MOST_MORE, con_NEAR, con_MOST_REACH, con_MOST_PLACES, con_MOST_BASE, con_LEAST_BASE, con_MOST_FIGURES, con_ZERO, con_UP, con_DOWN, cls_Grid, kl0, A_own_step, A_own_bounds, A_own_tops, A_own_places, A_own_reach, A_own_figures, A_own_base, A_check, C_Grid]
  refine wf_fix (I := fun i e s' => s' = s ∧ ∃ l, e = [some (.int b), some (.int k), some (.int ((b : Int) ^ i)), l]) ?_ ⟨rfl, none, by simp⟩ ?_ ?_
  · rw [rangeI_len]; show k < fuel; omega
  · rintro i d e s1 hd ⟨rfl, l, rfl⟩
    obtain ⟨rfl, hi⟩ := rangeI_at hd
    refine ⟨_, rfl, ?_⟩
    simp only [↓wf_nil, ↓wf_cons, ↓wg_asg, ↓wf_par, ↓wf_par3, ↓wg_setF, ↓wg_setI, ↓wf_ex, ↓wf_ret, ↓wf_retN, ↓wf_pass, ↓wf_brk, ↓wf_cnt, ↓wg_ite, ↓wf_for, ↓wp_var, ↓wp_lit, ↓wp_glob, ↓wp_bin, ↓wp_dct, ↓wp_dix, ↓wp_cmpEq, ↓wp_cmpIn, ↓wp_nin, onB_b, ↓wp_cmpNe, ↓wp_neg, ↓wp_cmp, ↓wp_chain, ↓wp_not, ↓wp_and, ↓wp_or, ↓wp_ite, ↓wp_fld, ↓wp_tup, ↓wp_new, ↓wp_callE, ↓wp_meth, ↓wp_make, ↓wp_bi, ↓wp_fold, ↓wp_foldv, ↓wp_append, ↓wp_extend, ↓wp_ix, ↓wp_sl, ↓wp_slk, ↓wp_enil, ↓wp_econs, ↓wp_disp, ↓wp_lrange, ↓wp_lcomp, ↓wp_cnil, ↓wp_ccons, ↓wp_seq, ↓wp_fresh, ↓wp_irange, ↓wp_enum, ↓wp_bind, ↓wp_ok, ↓wp_if, ↓swB_bl, ↓swT_s, ↓onS_s, ↓onO_s, ↓onI_i, ↓onR_r, ↓brB_t, ↓brB_f, ↓brB_n, ↓brB_d, cls_gOf, dct_new, pairsD, keyOf, not_true_eq_false, not_false_eq_true, ixN_30, ixN_31, ixN_32, lst_new, eqD_int, eqD_non_int, fuel_gOf, atI_0, atI_1, atI_2, atI_3, atI_4, putD, List.set_set, List.contains_cons, List.contains_nil, beq_self_eq_true, Bool.or_true, Bool.true_or, Bool.or_false, Bool.false_or, Nat.reduceEqDiff, Nat.reduceLT, Nat.zero_lt_succ, T.put, setAll, wipeE, tru, binD, cmpD, biD, itemsOf, tupOk, fldP, walkP, bnd, isNon, swB_bl, swT_s, onS_s, onO_s, onI_i, onR_r, brB_t, brB_f, brB_n, brB_d, brB_and, brB_or, List.map_cons, List.map_nil, List.cons_append, List.nil_append, List.append_nil, List.replicate, List.getElem?_cons_zero, List.getElem?_cons_succ, List.set_cons_zero, List.set_cons_succ, List.length_cons, List.length_nil, Nat.reduceAdd, Nat.reduceSub, Nat.reduceLeDiff, List.lookup_cons, List.lookup_nil, true_and, and_true, Bool.not_true, Bool.not_false, if_true, if_false, reduceIte, forall_const, Bool.false_eq_true, false_implies, implies_true, true_implies, reduceCtorEq, Nat.reduceBEq, con_MOST_MORE, con_NEAR, con_MOST_REACH, con_MOST_PLACES, con_MOST_BASE, con_LEAST_BASE, con_MOST_FIGURES, con_ZERO, con_UP, con_DOWN, cls_Grid, kl0, A_own_step, A_own_bounds, A_own_tops, A_own_places, A_own_reach, A_own_figures, A_own_base, A_check, C_Grid]
    exact ⟨(Sm.pow hb (by omega)).mul (Sm.base hb), _, by rw [Int.pow_succ]⟩
  · rintro e s1 ⟨rfl, l, rfl⟩
    rw [rangeI_len]
    simp only [↓wf_nil, ↓wf_cons, ↓wg_asg, ↓wf_par, ↓wf_par3, ↓wg_setF, ↓wg_setI, ↓wf_ex, ↓wf_ret, ↓wf_retN, ↓wf_pass, ↓wf_brk, ↓wf_cnt, ↓wg_ite, ↓wf_for, ↓wp_var, ↓wp_lit, ↓wp_glob, ↓wp_bin, ↓wp_dct, ↓wp_dix, ↓wp_cmpEq, ↓wp_cmpIn, ↓wp_nin, onB_b, ↓wp_cmpNe, ↓wp_neg, ↓wp_cmp, ↓wp_chain, ↓wp_not, ↓wp_and, ↓wp_or, ↓wp_ite, ↓wp_fld, ↓wp_tup, ↓wp_new, ↓wp_callE, ↓wp_meth, ↓wp_make, ↓wp_bi, ↓wp_fold, ↓wp_foldv, ↓wp_append, ↓wp_extend, ↓wp_ix, ↓wp_sl, ↓wp_slk, ↓wp_enil, ↓wp_econs, ↓wp_disp, ↓wp_lrange, ↓wp_lcomp, ↓wp_cnil, ↓wp_ccons, ↓wp_seq, ↓wp_fresh, ↓wp_irange, ↓wp_enum, ↓wp_bind, ↓wp_ok, ↓wp_if, ↓swB_bl, ↓swT_s, ↓onS_s, ↓onO_s, ↓onI_i, ↓onR_r, ↓brB_t, ↓brB_f, ↓brB_n, ↓brB_d, cls_gOf, dct_new, pairsD, keyOf, not_true_eq_false, not_false_eq_true, ixN_30, ixN_31, ixN_32, lst_new, eqD_int, eqD_non_int, fuel_gOf, atI_0, atI_1, atI_2, atI_3, atI_4, putD, List.set_set, List.contains_cons, List.contains_nil, beq_self_eq_true, Bool.or_true, Bool.true_or, Bool.or_false, Bool.false_or, Nat.reduceEqDiff, Nat.reduceLT, Nat.zero_lt_succ, T.put, setAll, wipeE, tru, binD, cmpD, biD, itemsOf, tupOk, fldP, walkP, bnd, isNon, swB_bl, swT_s, onS_s, onO_s, onI_i, onR_r, brB_t, brB_f, brB_n, brB_d, brB_and, brB_or, List.map_cons, List.map_nil, List.cons_append, List.nil_append, List.append_nil, List.replicate, List.getElem?_cons_zero, List.getElem?_cons_succ, List.set_cons_zero, List.set_cons_succ, List.length_cons, List.length_nil, Nat.reduceAdd, Nat.reduceSub, Nat.reduceLeDiff, List.lookup_cons, List.lookup_nil, true_and, and_true, Bool.not_true, Bool.not_false, if_true, if_false, reduceIte, forall_const, Bool.false_eq_true, false_implies, implies_true, true_implies, reduceCtorEq, Nat.reduceBEq, con_MOST_MORE, con_NEAR, con_MOST_REACH, con_MOST_PLACES, con_MOST_BASE, con_LEAST_BASE, con_MOST_FIGURES, con_ZERO, con_UP, con_DOWN, cls_Grid, kl0, A_own_step, A_own_bounds, A_own_tops, A_own_places, A_own_reach, A_own_figures, A_own_base, A_check, C_Grid]
    exact h
theorem ggreatest_ok {b f r p : Nat} (b0 : 0 < b) (b10 : b ≤ 10) (hF : f ≤ 40) (hr : r ≤ 60) (hf : 1000 < fuel) (h : Q (.int (gtop b f r)) s) : wp (call Z fuel (n + 2) F_law_grid_greatest [gt b f r p] s) Q := by
  refine wp_call (r := d_law_grid_greatest) rfl rfl ?_
  simp only [d_law_grid_greatest, ↓wf_nil, ↓wf_cons, ↓wg_asg, ↓wf_par, ↓wf_par3, ↓wg_setF, ↓wg_setI, ↓wf_ex, ↓wf_ret, ↓wf_retN, ↓wf_pass, ↓wf_brk, ↓wf_cnt, ↓wg_ite, ↓wf_for, ↓wp_var, ↓wp_lit, ↓wp_glob, ↓wp_bin, ↓wp_dct, ↓wp_dix, ↓wp_cmpEq, ↓wp_cmpIn, ↓wp_nin, onB_b, ↓wp_cmpNe, ↓wp_neg, ↓wp_cmp, ↓wp_chain, ↓wp_not, ↓wp_and, ↓wp_or, ↓wp_ite, ↓wp_fld, ↓wp_tup, ↓wp_new, ↓wp_callE, ↓wp_meth, ↓wp_make, ↓wp_bi, ↓wp_fold, ↓wp_foldv, ↓wp_append, ↓wp_extend, ↓wp_ix, ↓wp_sl, ↓wp_slk, ↓wp_enil, ↓wp_econs, ↓wp_disp, ↓wp_lrange, ↓wp_lcomp, ↓wp_cnil, ↓wp_ccons, ↓wp_seq, ↓wp_fresh, ↓wp_irange, ↓wp_enum, ↓wp_bind, ↓wp_ok, ↓wp_if, ↓swB_bl, ↓swT_s, ↓onS_s, ↓onO_s, ↓onI_i, ↓onR_r, ↓brB_t, ↓brB_f, ↓brB_n, ↓brB_d, cls_gOf, dct_new, pairsD, keyOf, not_true_eq_false, not_false_eq_true, ixN_30, ixN_31, ixN_32, lst_new, eqD_int, eqD_non_int, fuel_gOf, atI_0, atI_1, atI_2, atI_3, atI_4, putD, List.set_set, List.contains_cons, List.contains_nil, beq_self_eq_true, Bool.or_true, Bool.true_or, Bool.or_false, Bool.false_or, Nat.reduceEqDiff, Nat.reduceLT, Nat.zero_lt_succ, T.put, setAll, wipeE, tru, binD, cmpD, biD, itemsOf, tupOk, fldP, walkP, bnd, isNon, swB_bl, swT_s, onS_s, onO_s, onI_i, onR_r, brB_t, brB_f, brB_n, brB_d, brB_and, brB_or, List.map_cons, List.map_nil, List.cons_append, List.nil_append, List.append_nil, List.replicate, List.getElem?_cons_zero, List.getElem?_cons_succ, List.set_cons_zero, List.set_cons_succ, List.length_cons, List.length_nil, Nat.reduceAdd, Nat.reduceSub, Nat.reduceLeDiff, List.lookup_cons, List.lookup_nil, true_and, and_true, Bool.not_true, Bool.not_false, if_true, if_false, reduceIte, forall_const, Bool.false_eq_true, false_implies, implies_true, true_implies, reduceCtorEq, Nat.reduceBEq, con_MOST_MORE, con_NEAR, con_MOST_REACH, con_MOST_PLACES, con_MOST_BASE, con_LEAST_BASE, con_MOST_FIGURES, con_ZERO, con_UP, con_DOWN, cls_Grid, kl0, A_own_step, A_own_bounds, A_own_tops, A_own_places, A_own_reach, A_own_figures, A_own_base, A_check, C_Grid, gt]
  refine gpower_ok b10 (by omega) hf ?_
  simp only [↓wf_nil, ↓wf_cons, ↓wg_asg, ↓wf_par, ↓wf_par3, ↓wg_setF, ↓wg_setI, ↓wf_ex, ↓wf_ret, ↓wf_retN, ↓wf_pass, ↓wf_brk, ↓wf_cnt, ↓wg_ite, ↓wf_for, ↓wp_var, ↓wp_lit, ↓wp_glob, ↓wp_bin, ↓wp_dct, ↓wp_dix, ↓wp_cmpEq, ↓wp_cmpIn, ↓wp_nin, onB_b, ↓wp_cmpNe, ↓wp_neg, ↓wp_cmp, ↓wp_chain, ↓wp_not, ↓wp_and, ↓wp_or, ↓wp_ite, ↓wp_fld, ↓wp_tup, ↓wp_new, ↓wp_callE, ↓wp_meth, ↓wp_make, ↓wp_bi, ↓wp_fold, ↓wp_foldv, ↓wp_append, ↓wp_extend, ↓wp_ix, ↓wp_sl, ↓wp_slk, ↓wp_enil, ↓wp_econs, ↓wp_disp, ↓wp_lrange, ↓wp_lcomp, ↓wp_cnil, ↓wp_ccons, ↓wp_seq, ↓wp_fresh, ↓wp_irange, ↓wp_enum, ↓wp_bind, ↓wp_ok, ↓wp_if, ↓swB_bl, ↓swT_s, ↓onS_s, ↓onO_s, ↓onI_i, ↓onR_r, ↓brB_t, ↓brB_f, ↓brB_n, ↓brB_d, cls_gOf, dct_new, pairsD, keyOf, not_true_eq_false, not_false_eq_true, ixN_30, ixN_31, ixN_32, lst_new, eqD_int, eqD_non_int, fuel_gOf, atI_0, atI_1, atI_2, atI_3, atI_4, putD, List.set_set, List.contains_cons, List.contains_nil, beq_self_eq_true, Bool.or_true, Bool.true_or, Bool.or_false, Bool.false_or, Nat.reduceEqDiff, Nat.reduceLT, Nat.zero_lt_succ, T.put, setAll, wipeE, tru, binD, cmpD, biD, itemsOf, tupOk, fldP, walkP, bnd, isNon, swB_bl, swT_s, onS_s, onO_s, onI_i, onR_r, brB_t, brB_f, brB_n, brB_d, brB_and, brB_or, List.map_cons, List.map_nil, List.cons_append, List.nil_append, List.append_nil, List.replicate, List.getElem?_cons_zero, List.getElem?_cons_succ, List.set_cons_zero, List.set_cons_succ, List.length_cons, List.length_nil, Nat.reduceAdd, Nat.reduceSub, Nat.reduceLeDiff, List.lookup_cons, List.lookup_nil, true_and, and_true, Bool.not_true, Bool.not_false, if_true, if_false, reduceIte, forall_const, Bool.false_eq_true, false_implies, implies_true, true_implies, reduceCtorEq, Nat.reduceBEq, con_MOST_MORE, con_NEAR, con_MOST_REACH, con_MOST_PLACES, con_MOST_BASE, con_LEAST_BASE, con_MOST_FIGURES, con_ZERO, con_UP, con_DOWN, cls_Grid, kl0, A_own_step, A_own_bounds, A_own_tops, A_own_places, A_own_reach, A_own_figures, A_own_base, A_check, C_Grid]
  refine gpower_ok b10 (by omega) hf ?_
  simp only [↓wf_nil, ↓wf_cons, ↓wg_asg, ↓wf_par, ↓wf_par3, ↓wg_setF, ↓wg_setI, ↓wf_ex, ↓wf_ret, ↓wf_retN, ↓wf_pass, ↓wf_brk, ↓wf_cnt, ↓wg_ite, ↓wf_for, ↓wp_var, ↓wp_lit, ↓wp_glob, ↓wp_bin, ↓wp_dct, ↓wp_dix, ↓wp_cmpEq, ↓wp_cmpIn, ↓wp_nin, onB_b, ↓wp_cmpNe, ↓wp_neg, ↓wp_cmp, ↓wp_chain, ↓wp_not, ↓wp_and, ↓wp_or, ↓wp_ite, ↓wp_fld, ↓wp_tup, ↓wp_new, ↓wp_callE, ↓wp_meth, ↓wp_make, ↓wp_bi, ↓wp_fold, ↓wp_foldv, ↓wp_append, ↓wp_extend, ↓wp_ix, ↓wp_sl, ↓wp_slk, ↓wp_enil, ↓wp_econs, ↓wp_disp, ↓wp_lrange, ↓wp_lcomp, ↓wp_cnil, ↓wp_ccons, ↓wp_seq, ↓wp_fresh, ↓wp_irange, ↓wp_enum, ↓wp_bind, ↓wp_ok, ↓wp_if, ↓swB_bl, ↓swT_s, ↓onS_s, ↓onO_s, ↓onI_i, ↓onR_r, ↓brB_t, ↓brB_f, ↓brB_n, ↓brB_d, cls_gOf, dct_new, pairsD, keyOf, not_true_eq_false, not_false_eq_true, ixN_30, ixN_31, ixN_32, lst_new, eqD_int, eqD_non_int, fuel_gOf, atI_0, atI_1, atI_2, atI_3, atI_4, putD, List.set_set, List.contains_cons, List.contains_nil, beq_self_eq_true, Bool.or_true, Bool.true_or, Bool.or_false, Bool.false_or, Nat.reduceEqDiff, Nat.reduceLT, Nat.zero_lt_succ, T.put, setAll, wipeE, tru, binD, cmpD, biD, itemsOf, tupOk, fldP, walkP, bnd, isNon, swB_bl, swT_s, onS_s, onO_s, onI_i, onR_r, brB_t, brB_f, brB_n, brB_d, brB_and, brB_or, List.map_cons, List.map_nil, List.cons_append, List.nil_append, List.append_nil, List.replicate, List.getElem?_cons_zero, List.getElem?_cons_succ, List.set_cons_zero, List.set_cons_succ, List.length_cons, List.length_nil, Nat.reduceAdd, Nat.reduceSub, Nat.reduceLeDiff, List.lookup_cons, List.lookup_nil, true_and, and_true, Bool.not_true, Bool.not_false, if_true, if_false, reduceIte, forall_const, Bool.false_eq_true, false_implies, implies_true, true_implies, reduceCtorEq, Nat.reduceBEq, con_MOST_MORE, con_NEAR, con_MOST_REACH, con_MOST_PLACES, con_MOST_BASE, con_LEAST_BASE, con_MOST_FIGURES, con_ZERO, con_UP, con_DOWN, cls_Grid, kl0, A_own_step, A_own_bounds, A_own_tops, A_own_places, A_own_reach, A_own_figures, A_own_base, A_check, C_Grid]
  rw [gtop_int b0]
  exact ⟨(sm_pred b10 (by omega)).mul (Sm.pow b10 (by omega)), h⟩
theorem gspacing_ok {b f r p : Nat} {top : Int} {bo : Nat} (hb : 2 ≤ b ∧ b ≤ 10) (hF : f ≤ 40) (hbo : 0 < bo) (h1 : top.natAbs < 2 ^ 500) (h2 : bo < 2 ^ 500) (hf : 1000 < fuel)
    (h : Q (.int (ulp b f 0 top bo)) s) : wp (call Z fuel (n + 2) F_law_grid_spacing [gt b f r p, .int top, .int bo] s) Q := by
  have hM : 0 < bo * b ^ f := Nat.mul_pos hbo (Nat.pow_pos (by omega))
  have hsp : spn b (bo * b ^ f) top.natAbs ≤ 500 := spn_le hb.1 hM (by
    have e1 : 2 ^ 500 ≤ b ^ 500 := Nat.pow_le_pow_left hb.1 500
    have e2 : 1 * b ^ 500 ≤ bo * b ^ f * b ^ 500 := Nat.mul_le_mul_right _ hM
    omega)
  have l1 : (2 : Nat) ^ 500 < 2 ^ 4000 := by decide +kernel
  refine wp_call (r := d_law_grid_spacing) rfl rfl ?_
  simp only [d_law_grid_spacing, ↓wf_nil, ↓wf_cons, ↓wg_asg, ↓wf_par, ↓wf_par3, ↓wg_setF, ↓wg_setI, ↓wf_ex, ↓wf_ret, ↓wf_retN, ↓wf_pass, ↓wf_brk, ↓wf_cnt, ↓wg_ite, ↓wf_for, ↓wp_var, ↓wp_lit, ↓wp_glob, ↓wp_bin, ↓wp_dct, ↓wp_dix, ↓wp_cmpEq, ↓wp_cmpIn, ↓wp_nin, onB_b, ↓wp_cmpNe, ↓wp_neg, ↓wp_cmp, ↓wp_chain, ↓wp_not, ↓wp_and, ↓wp_or, ↓wp_ite, ↓wp_fld, ↓wp_tup, ↓wp_new, ↓wp_callE, ↓wp_meth, ↓wp_make, ↓wp_bi, ↓wp_fold, ↓wp_foldv, ↓wp_append, ↓wp_extend, ↓wp_ix, ↓wp_sl, ↓wp_slk, ↓wp_enil, ↓wp_econs, ↓wp_disp, ↓wp_lrange, ↓wp_lcomp, ↓wp_cnil, ↓wp_ccons, ↓wp_seq, ↓wp_fresh, ↓wp_irange, ↓wp_enum, ↓wp_bind, ↓wp_ok, ↓wp_if, ↓swB_bl, ↓swT_s, ↓onS_s, ↓onO_s, ↓onI_i, ↓onR_r, ↓brB_t, ↓brB_f, ↓brB_n, ↓brB_d, cls_gOf, dct_new, pairsD, keyOf, not_true_eq_false, not_false_eq_true, ixN_30, ixN_31, ixN_32, lst_new, eqD_int, eqD_non_int, fuel_gOf, atI_0, atI_1, atI_2, atI_3, atI_4, putD, List.set_set, List.contains_cons, List.contains_nil, beq_self_eq_true, Bool.or_true, Bool.true_or, Bool.or_false, Bool.false_or, Nat.reduceEqDiff, Nat.reduceLT, Nat.zero_lt_succ, T.put, setAll, wipeE, tru, binD, cmpD, biD, itemsOf, tupOk, fldP, walkP, bnd, isNon, swB_bl, swT_s, onS_s, onO_s, onI_i, onR_r, brB_t, brB_f, brB_n, brB_d, brB_and, brB_or, List.map_cons, List.map_nil, List.cons_append, List.nil_append, List.append_nil, List.replicate, List.getElem?_cons_zero, List.getElem?_cons_succ, List.set_cons_zero, List.set_cons_succ, List.length_cons, List.length_nil, Nat.reduceAdd, Nat.reduceSub, Nat.reduceLeDiff, List.lookup_cons, List.lookup_nil, true_and, and_true, Bool.not_true, Bool.not_false, if_true, if_false, reduceIte, forall_const, Bool.false_eq_true, false_implies, implies_true, true_implies, reduceCtorEq, Nat.reduceBEq, con_MOST_MORE, con_NEAR, con_MOST_REACH, con_MOST_PLACES, con_MOST_BASE, con_LEAST_BASE, con_MOST_FIGURES, con_ZERO, con_UP, con_DOWN, cls_Grid, kl0, A_own_step, A_own_bounds, A_own_tops, A_own_places, A_own_reach, A_own_figures, A_own_base, A_check, C_Grid, gt]
  refine gpower_ok hb.2 (by omega) hf ?_
  simp only [↓wf_nil, ↓wf_cons, ↓wg_asg, ↓wf_par, ↓wf_par3, ↓wg_setF, ↓wg_setI, ↓wf_ex, ↓wf_ret, ↓wf_retN, ↓wf_pass, ↓wf_brk, ↓wf_cnt, ↓wg_ite, ↓wf_for, ↓wp_var, ↓wp_lit, ↓wp_glob, ↓wp_bin, ↓wp_dct, ↓wp_dix, ↓wp_cmpEq, ↓wp_cmpIn, ↓wp_nin, onB_b, ↓wp_cmpNe, ↓wp_neg, ↓wp_cmp, ↓wp_chain, ↓wp_not, ↓wp_and, ↓wp_or, ↓wp_ite, ↓wp_fld, ↓wp_tup, ↓wp_new, ↓wp_callE, ↓wp_meth, ↓wp_make, ↓wp_bi, ↓wp_fold, ↓wp_foldv, ↓wp_append, ↓wp_extend, ↓wp_ix, ↓wp_sl, ↓wp_slk, ↓wp_enil, ↓wp_econs, ↓wp_disp, ↓wp_lrange, ↓wp_lcomp, ↓wp_cnil, ↓wp_ccons, ↓wp_seq, ↓wp_fresh, ↓wp_irange, ↓wp_enum, ↓wp_bind, ↓wp_ok, ↓wp_if, ↓swB_bl, ↓swT_s, ↓onS_s, ↓onO_s, ↓onI_i, ↓onR_r, ↓brB_t, ↓brB_f, ↓brB_n, ↓brB_d, cls_gOf, dct_new, pairsD, keyOf, not_true_eq_false, not_false_eq_true, ixN_30, ixN_31, ixN_32, lst_new, eqD_int, eqD_non_int, fuel_gOf, atI_0, atI_1, atI_2, atI_3, atI_4, putD, List.set_set, List.contains_cons, List.contains_nil, beq_self_eq_true, Bool.or_true, Bool.true_or, Bool.or_false, Bool.false_or, Nat.reduceEqDiff, Nat.reduceLT, Nat.zero_lt_succ, T.put, setAll, wipeE, tru, binD, cmpD, biD, itemsOf, tupOk, fldP, walkP, bnd, isNon, swB_bl, swT_s, onS_s, onO_s, onI_i, onR_r, brB_t, brB_f, brB_n, brB_d, brB_and, brB_or, List.map_cons, List.map_nil, List.cons_append, List.nil_append, List.append_nil, List.replicate, List.getElem?_cons_zero, List.getElem?_cons_succ, List.set_cons_zero, List.set_cons_succ, List.length_cons, List.length_nil, Nat.reduceAdd, Nat.reduceSub, Nat.reduceLeDiff, List.lookup_cons, List.lookup_nil, true_and, and_true, Bool.not_true, Bool.not_false, if_true, if_false, reduceIte, forall_const, Bool.false_eq_true, false_implies, implies_true, true_implies, reduceCtorEq, Nat.reduceBEq, con_MOST_MORE, con_NEAR, con_MOST_REACH, con_MOST_PLACES, con_MOST_BASE, con_LEAST_BASE, con_MOST_FIGURES, con_ZERO, con_UP, con_DOWN, cls_Grid, kl0, A_own_step, A_own_bounds, A_own_tops, A_own_places, A_own_reach, A_own_figures, A_own_base, A_check, C_Grid]
  refine wf_whl (I := fun v e s' => s' = s ∧ ∃ j, v + j = spn b (bo * b ^ f) top.natAbs ∧ e = [some (gt b f r p), some (.int top), some (.int bo), some (.int ((b : Int) ^ j)), some (.int ((b : Int) ^ f))]) (m := spn b (bo * b ^ f) top.natAbs) ?_ ⟨rfl, 0, rfl, ?_⟩ ?_
  · show spn b (bo * b ^ f) top.natAbs < fuel; omega
  · simp [gt]
  · rintro v e s1 ⟨rfl, j, hj, rfl⟩
    rw [wp_tru]
    have sB := Sm.base hb.2
    have sO : Sm (bo : Int) := Sm.nat (by omega)
    have sP : Sm ((b : Int) ^ j) := Sm.pow hb.2 (by omega)
    have sF : Sm ((b : Int) ^ f) := Sm.pow hb.2 (by omega)
    have sL : Sm ((bo : Int) * (b : Int) ^ f) := by
      have e1 := pow_lt hb.2 (k := f) (by omega)
      have := whole_lt h2 e1
      have : (2 : Nat) ^ 3500 < 2 ^ 4000 := by decide +kernel
      rw [cast_pow, ← Int.natCast_mul]
      exact Sm.nat (by omega)
    have cast : ((bo : Int) * (b : Int) ^ f * (b : Int) ^ j) = ((bo * b ^ f * b ^ j : Nat) : Int) := by simp
    simp only [↓wf_nil, ↓wf_cons, ↓wg_asg, ↓wf_par, ↓wf_par3, ↓wg_setF, ↓wg_setI, ↓wf_ex, ↓wf_ret, ↓wf_retN, ↓wf_pass, ↓wf_brk, ↓wf_cnt, ↓wg_ite, ↓wf_for, ↓wp_var, ↓wp_lit, ↓wp_glob, ↓wp_bin, ↓wp_dct, ↓wp_dix, ↓wp_cmpEq, ↓wp_cmpIn, ↓wp_nin, onB_b, ↓wp_cmpNe, ↓wp_neg, ↓wp_cmp, ↓wp_chain, ↓wp_not, ↓wp_and, ↓wp_or, ↓wp_ite, ↓wp_fld, ↓wp_tup, ↓wp_new, ↓wp_callE, ↓wp_meth, ↓wp_make, ↓wp_bi, ↓wp_fold, ↓wp_foldv, ↓wp_append, ↓wp_extend, ↓wp_ix, ↓wp_sl, ↓wp_slk, ↓wp_enil, ↓wp_econs, ↓wp_disp, ↓wp_lrange, ↓wp_lcomp, ↓wp_cnil, ↓wp_ccons, ↓wp_seq, ↓wp_fresh, ↓wp_irange, ↓wp_enum, ↓wp_bind, ↓wp_ok, ↓wp_if, ↓swB_bl, ↓swT_s, ↓onS_s, ↓onO_s, ↓onI_i, ↓onR_r, ↓brB_t, ↓brB_f, ↓brB_n, ↓brB_d, cls_gOf, dct_new, pairsD, keyOf, not_true_eq_false, not_false_eq_true, ixN_30, ixN_31, ixN_32, lst_new, eqD_int, eqD_non_int, fuel_gOf, atI_0, atI_1, atI_2, atI_3, atI_4, putD, List.set_set, List.contains_cons, List.contains_nil, beq_self_eq_true, Bool.or_true, Bool.true_or, Bool.or_false, Bool.false_or, Nat.reduceEqDiff, Nat.reduceLT, Nat.zero_lt_succ, T.put, setAll, wipeE, tru, binD, cmpD, biD, itemsOf, tupOk, fldP, walkP, bnd, isNon, swB_bl, swT_s, onS_s, onO_s, onI_i, onR_r, brB_t, brB_f, brB_n, brB_d, brB_and, brB_or, List.map_cons, List.map_nil, List.cons_append, List.nil_append, List.append_nil, List.replicate, List.getElem?_cons_zero, List.getElem?_cons_succ, List.set_cons_zero, List.set_cons_succ, List.length_cons, List.length_nil, Nat.reduceAdd, Nat.reduceSub, Nat.reduceLeDiff, List.lookup_cons, List.lookup_nil, true_and, and_true, Bool.not_true, Bool.not_false, if_true, if_false, reduceIte, forall_const, Bool.false_eq_true, false_implies, implies_true, true_implies, reduceCtorEq, Nat.reduceBEq, con_MOST_MORE, con_NEAR, con_MOST_REACH, con_MOST_PLACES, con_MOST_BASE, con_LEAST_BASE, con_MOST_FIGURES, con_ZERO, con_UP, con_DOWN, cls_Grid, kl0, A_own_step, A_own_bounds, A_own_tops, A_own_places, A_own_reach, A_own_figures, A_own_base, A_check, C_Grid, abs_int, gt]
    refine ⟨sO.mul sF, sL.mul sP, fun hk => ?_, fun hk => ?_⟩
    · have hk' := of_decide_eq_false hk
      rw [cast] at hk'
      have : spn b (bo * b ^ f) top.natAbs ≤ j := spn_le hb.1 hM (by omega)
      have : j = spn b (bo * b ^ f) top.natAbs := by omega
      subst this
      unfold ulp at h
      rw [Nat.add_zero, ← cast_pow] at h
      exact h
    · have hk' := of_decide_eq_true hk
      rw [cast] at hk'
      have hlt : j < spn b (bo * b ^ f) top.natAbs := by
        apply Classical.byContradiction
        intro hn
        have : j = spn b (bo * b ^ f) top.natAbs := by omega
        subst this
        have := spn_lt hb.1 hM (a := top.natAbs)
        omega
      exact ⟨sP.mul sB, v - 1, by omega, j + 1, by omega, by simp only [Int.pow_succ]⟩
theorem gmore_ok {b f r p m : Nat} (h : Q (gt b (f + m) r p) s) : wp (call Z fuel (n + 1) F_law_grid_more [gt b f r p, .int m] s) Q := by
  refine wp_call (r := d_law_grid_more) rfl rfl ?_
  simp only [d_law_grid_more, ↓wf_nil, ↓wf_cons, ↓wg_asg, ↓wf_par, ↓wf_par3, ↓wg_setF, ↓wg_setI, ↓wf_ex, ↓wf_ret, ↓wf_retN, ↓wf_pass, ↓wf_brk, ↓wf_cnt, ↓wg_ite, ↓wf_for, ↓wp_var, ↓wp_lit, ↓wp_glob, ↓wp_bin, ↓wp_dct, ↓wp_dix, ↓wp_cmpEq, ↓wp_cmpIn, ↓wp_nin, onB_b, ↓wp_cmpNe, ↓wp_neg, ↓wp_cmp, ↓wp_chain, ↓wp_not, ↓wp_and, ↓wp_or, ↓wp_ite, ↓wp_fld, ↓wp_tup, ↓wp_new, ↓wp_callE, ↓wp_meth, ↓wp_make, ↓wp_bi, ↓wp_fold, ↓wp_foldv, ↓wp_append, ↓wp_extend, ↓wp_ix, ↓wp_sl, ↓wp_slk, ↓wp_enil, ↓wp_econs, ↓wp_disp, ↓wp_lrange, ↓wp_lcomp, ↓wp_cnil, ↓wp_ccons, ↓wp_seq, ↓wp_fresh, ↓wp_irange, ↓wp_enum, ↓wp_bind, ↓wp_ok, ↓wp_if, ↓swB_bl, ↓swT_s, ↓onS_s, ↓onO_s, ↓onI_i, ↓onR_r, ↓brB_t, ↓brB_f, ↓brB_n, ↓brB_d, cls_gOf, dct_new, pairsD, keyOf, not_true_eq_false, not_false_eq_true, ixN_30, ixN_31, ixN_32, lst_new, eqD_int, eqD_non_int, fuel_gOf, atI_0, atI_1, atI_2, atI_3, atI_4, putD, List.set_set, List.contains_cons, List.contains_nil, beq_self_eq_true, Bool.or_true, Bool.true_or, Bool.or_false, Bool.false_or, Nat.reduceEqDiff, Nat.reduceLT, Nat.zero_lt_succ, T.put, setAll, wipeE, tru, binD, cmpD, biD, itemsOf, tupOk, fldP, walkP, bnd, isNon, swB_bl, swT_s, onS_s, onO_s, onI_i, onR_r, brB_t, brB_f, brB_n, brB_d, brB_and, brB_or, List.map_cons, List.map_nil, List.cons_append, List.nil_append, List.append_nil, List.replicate, List.getElem?_cons_zero, List.getElem?_cons_succ, List.set_cons_zero, List.set_cons_succ, List.length_cons, List.length_nil, Nat.reduceAdd, Nat.reduceSub, Nat.reduceLeDiff, List.lookup_cons, List.lookup_nil, true_and, and_true, Bool.not_true, Bool.not_false, if_true, if_false, reduceIte, forall_const, Bool.false_eq_true, false_implies, implies_true, true_implies, reduceCtorEq, Nat.reduceBEq, con_MOST_MORE, con_NEAR, con_MOST_REACH, con_MOST_PLACES, con_MOST_BASE, con_LEAST_BASE, con_MOST_FIGURES, con_ZERO, con_UP, con_DOWN, cls_Grid, kl0, A_own_step, A_own_bounds, A_own_tops, A_own_places, A_own_reach, A_own_figures, A_own_base, A_check, C_Grid, gt]
  refine ⟨by decide, ?_⟩
  unfold gt at h
  rw [Int.natCast_add] at h
  exact h
end
section
variable {fuel n : Nat} {s : Sto} {Q : D → Sto → Prop}
theorem ghas_ok {b f r p : Nat} {x : Int} (hb : 2 ≤ b ∧ b ≤ 10) (hF : f ≤ 30) (hr : r ≤ 60) (h1 : x.natAbs < 2 ^ 500) (hf : 1000 < fuel) (h : Q (.bl (decide (onGrid b f r x))) s) : wp (call Z fuel (n + 3) F_law_grid_has [gt b f r p, .int x] s) Q := by
  refine wp_call (r := d_law_grid_has) rfl rfl ?_
  simp only [d_law_grid_has, ↓wf_nil, ↓wf_cons, ↓wg_asg, ↓wf_par, ↓wf_par3, ↓wg_setF, ↓wg_setI, ↓wf_ex, ↓wf_ret, ↓wf_retN, ↓wf_pass, ↓wf_brk, ↓wf_cnt, ↓wg_ite, ↓wf_for, ↓wp_var, ↓wp_lit, ↓wp_glob, ↓wp_bin, ↓wp_dct, ↓wp_dix, ↓wp_cmpEq, ↓wp_cmpIn, ↓wp_nin, onB_b, ↓wp_cmpNe, ↓wp_neg, ↓wp_cmp, ↓wp_chain, ↓wp_not, ↓wp_and, ↓wp_or, ↓wp_ite, ↓wp_fld, ↓wp_tup, ↓wp_new, ↓wp_callE, ↓wp_meth, ↓wp_make, ↓wp_bi, ↓wp_fold, ↓wp_foldv, ↓wp_append, ↓wp_extend, ↓wp_ix, ↓wp_sl, ↓wp_slk, ↓wp_enil, ↓wp_econs, ↓wp_disp, ↓wp_lrange, ↓wp_lcomp, ↓wp_cnil, ↓wp_ccons, ↓wp_seq, ↓wp_fresh, ↓wp_irange, ↓wp_enum, ↓wp_bind, ↓wp_ok, ↓wp_if, ↓swB_bl, ↓swT_s, ↓onS_s, ↓onO_s, ↓onI_i, ↓onR_r, ↓brB_t, ↓brB_f, ↓brB_n, ↓brB_d, cls_gOf, dct_new, pairsD, keyOf, not_true_eq_false, not_false_eq_true, ixN_30, ixN_31, ixN_32, lst_new, eqD_int, eqD_non_int, fuel_gOf, atI_0, atI_1, atI_2, atI_3, atI_4, putD, List.set_set, List.contains_cons, List.contains_nil, beq_self_eq_true, Bool.or_true, Bool.true_or, Bool.or_false, Bool.false_or, Nat.reduceEqDiff, Nat.reduceLT, Nat.zero_lt_succ, T.put, setAll, wipeE, tru, binD, cmpD, biD, itemsOf, tupOk, fldP, walkP, bnd, isNon, swB_bl, swT_s, onS_s, onO_s, onI_i, onR_r, brB_t, brB_f, brB_n, brB_d, brB_and, brB_or, List.map_cons, List.map_nil, List.cons_append, List.nil_append, List.append_nil, List.replicate, List.getElem?_cons_zero, List.getElem?_cons_succ, List.set_cons_zero, List.set_cons_succ, List.length_cons, List.length_nil, Nat.reduceAdd, Nat.reduceSub, Nat.reduceLeDiff, List.lookup_cons, List.lookup_nil, true_and, and_true, Bool.not_true, Bool.not_false, if_true, if_false, reduceIte, forall_const, Bool.false_eq_true, false_implies, implies_true, true_implies, reduceCtorEq, Nat.reduceBEq, con_MOST_MORE, con_NEAR, con_MOST_REACH, con_MOST_PLACES, con_MOST_BASE, con_LEAST_BASE, con_MOST_FIGURES, con_ZERO, con_UP, con_DOWN, cls_Grid, kl0, A_own_step, A_own_bounds, A_own_tops, A_own_places, A_own_reach, A_own_figures, A_own_base, A_check, C_Grid]
  refine ggreatest_ok (by omega) hb.2 (by omega) hr hf ?_
  simp only [↓wf_nil, ↓wf_cons, ↓wg_asg, ↓wf_par, ↓wf_par3, ↓wg_setF, ↓wg_setI, ↓wf_ex, ↓wf_ret, ↓wf_retN, ↓wf_pass, ↓wf_brk, ↓wf_cnt, ↓wg_ite, ↓wf_for, ↓wp_var, ↓wp_lit, ↓wp_glob, ↓wp_bin, ↓wp_dct, ↓wp_dix, ↓wp_cmpEq, ↓wp_cmpIn, ↓wp_nin, onB_b, ↓wp_cmpNe, ↓wp_neg, ↓wp_cmp, ↓wp_chain, ↓wp_not, ↓wp_and, ↓wp_or, ↓wp_ite, ↓wp_fld, ↓wp_tup, ↓wp_new, ↓wp_callE, ↓wp_meth, ↓wp_make, ↓wp_bi, ↓wp_fold, ↓wp_foldv, ↓wp_append, ↓wp_extend, ↓wp_ix, ↓wp_sl, ↓wp_slk, ↓wp_enil, ↓wp_econs, ↓wp_disp, ↓wp_lrange, ↓wp_lcomp, ↓wp_cnil, ↓wp_ccons, ↓wp_seq, ↓wp_fresh, ↓wp_irange, ↓wp_enum, ↓wp_bind, ↓wp_ok, ↓wp_if, ↓swB_bl, ↓swT_s, ↓onS_s, ↓onO_s, ↓onI_i, ↓onR_r, ↓brB_t, ↓brB_f, ↓brB_n, ↓brB_d, cls_gOf, dct_new, pairsD, keyOf, not_true_eq_false, not_false_eq_true, ixN_30, ixN_31, ixN_32, lst_new, eqD_int, eqD_non_int, fuel_gOf, atI_0, atI_1, atI_2, atI_3, atI_4, putD, List.set_set, List.contains_cons, List.contains_nil, beq_self_eq_true, Bool.or_true, Bool.true_or, Bool.or_false, Bool.false_or, Nat.reduceEqDiff, Nat.reduceLT, Nat.zero_lt_succ, T.put, setAll, wipeE, tru, binD, cmpD, biD, itemsOf, tupOk, fldP, walkP, bnd, isNon, swB_bl, swT_s, onS_s, onO_s, onI_i, onR_r, brB_t, brB_f, brB_n, brB_d, brB_and, brB_or, List.map_cons, List.map_nil, List.cons_append, List.nil_append, List.append_nil, List.replicate, List.getElem?_cons_zero, List.getElem?_cons_succ, List.set_cons_zero, List.set_cons_succ, List.length_cons, List.length_nil, Nat.reduceAdd, Nat.reduceSub, Nat.reduceLeDiff, List.lookup_cons, List.lookup_nil, true_and, and_true, Bool.not_true, Bool.not_false, if_true, if_false, reduceIte, forall_const, Bool.false_eq_true, false_implies, implies_true, true_implies, reduceCtorEq, Nat.reduceBEq, con_MOST_MORE, con_NEAR, con_MOST_REACH, con_MOST_PLACES, con_MOST_BASE, con_LEAST_BASE, con_MOST_FIGURES, con_ZERO, con_UP, con_DOWN, cls_Grid, kl0, A_own_step, A_own_bounds, A_own_tops, A_own_places, A_own_reach, A_own_figures, A_own_base, A_check, C_Grid, abs_int]
  refine ⟨fun a => ?_, fun a => ?_⟩
  · have l8 : 1 < (2 : Nat) ^ 500 := by decide +kernel
    refine gspacing_ok (bo := 1) hb (by omega) (by omega) h1 l8 hf ?_
    obtain ⟨u0, u1⟩ := ulp_lt (f := f) (m := 0) hb (by decide : 0 < 1) h1
    simp only [↓wf_nil, ↓wf_cons, ↓wg_asg, ↓wf_par, ↓wf_par3, ↓wg_setF, ↓wg_setI, ↓wf_ex, ↓wf_ret, ↓wf_retN, ↓wf_pass, ↓wf_brk, ↓wf_cnt, ↓wg_ite, ↓wf_for, ↓wp_var, ↓wp_lit, ↓wp_glob, ↓wp_bin, ↓wp_dct, ↓wp_dix, ↓wp_cmpEq, ↓wp_cmpIn, ↓wp_nin, onB_b, ↓wp_cmpNe, ↓wp_neg, ↓wp_cmp, ↓wp_chain, ↓wp_not, ↓wp_and, ↓wp_or, ↓wp_ite, ↓wp_fld, ↓wp_tup, ↓wp_new, ↓wp_callE, ↓wp_meth, ↓wp_make, ↓wp_bi, ↓wp_fold, ↓wp_foldv, ↓wp_append, ↓wp_extend, ↓wp_ix, ↓wp_sl, ↓wp_slk, ↓wp_enil, ↓wp_econs, ↓wp_disp, ↓wp_lrange, ↓wp_lcomp, ↓wp_cnil, ↓wp_ccons, ↓wp_seq, ↓wp_fresh, ↓wp_irange, ↓wp_enum, ↓wp_bind, ↓wp_ok, ↓wp_if, ↓swB_bl, ↓swT_s, ↓onS_s, ↓onO_s, ↓onI_i, ↓onR_r, ↓brB_t, ↓brB_f, ↓brB_n, ↓brB_d, cls_gOf, dct_new, pairsD, keyOf, not_true_eq_false, not_false_eq_true, ixN_30, ixN_31, ixN_32, lst_new, eqD_int, eqD_non_int, fuel_gOf, atI_0, atI_1, atI_2, atI_3, atI_4, putD, List.set_set, List.contains_cons, List.contains_nil, beq_self_eq_true, Bool.or_true, Bool.true_or, Bool.or_false, Bool.false_or, Nat.reduceEqDiff, Nat.reduceLT, Nat.zero_lt_succ, T.put, setAll, wipeE, tru, binD, cmpD, biD, itemsOf, tupOk, fldP, walkP, bnd, isNon, swB_bl, swT_s, onS_s, onO_s, onI_i, onR_r, brB_t, brB_f, brB_n, brB_d, brB_and, brB_or, List.map_cons, List.map_nil, List.cons_append, List.nil_append, List.append_nil, List.replicate, List.getElem?_cons_zero, List.getElem?_cons_succ, List.set_cons_zero, List.set_cons_succ, List.length_cons, List.length_nil, Nat.reduceAdd, Nat.reduceSub, Nat.reduceLeDiff, List.lookup_cons, List.lookup_nil, true_and, and_true, Bool.not_true, Bool.not_false, if_true, if_false, reduceIte, forall_const, Bool.false_eq_true, false_implies, implies_true, true_implies, reduceCtorEq, Nat.reduceBEq, con_MOST_MORE, con_NEAR, con_MOST_REACH, con_MOST_PLACES, con_MOST_BASE, con_LEAST_BASE, con_MOST_FIGURES, con_ZERO, con_UP, con_DOWN, cls_Grid, kl0, A_own_step, A_own_bounds, A_own_tops, A_own_places, A_own_reach, A_own_figures, A_own_base, A_check, C_Grid]
    refine ⟨by omega, ?_⟩
    have e : decide (onGrid b f r x) = decide (x % (ulp b f 0 x 1 : Int) = 0) := by
      apply decide_eq_decide.mpr
      have eu : ((b : Int) ^ spn b (b ^ f) x.natAbs) = (ulp b f 0 x 1 : Int) := by simp [ulp]
      rw [← eu]
      exact ⟨fun w => w.2, fun w => ⟨by omega, w⟩⟩
    rw [e] at h
    exact h
  · rw [decide_eq_false (fun w => a (by have := w.1; omega))] at h
    exact h
end
section
variable {fuel n : Nat} {s : Sto} {Q : D → Sto → Prop}
theorem grounded_ok {b f r p m : Nat} {top : Int} {bo : Nat} {way : Way} (hw : way ≠ .down) (hb : 2 ≤ b ∧ b ≤ 10) (hF : f + m ≤ 40) (hr : r ≤ 60) (hbo : 0 < bo) (h1 : top.natAbs < 2 ^ 500) (h2 : bo < 2 ^ 500) (hf : 1000 < fuel)
    (h : Q (rndD b f r m top bo way) s) : wp (call Z fuel (n + 3) F_law_grid_rounded [gt b f r p, .int top, .int bo, .str way.s, .int m] s) Q := by
  obtain ⟨u0, u1⟩ := ulp_lt (f := f) (m := m) hb hbo h1
  have l8 := whole_lt h2 u1
  have l9 : (2 : Nat) ^ 3500 < 2 ^ 4000 := by decide +kernel
  have l10 : (2 : Nat) ^ 3000 < 2 ^ 4000 := by decide +kernel
  have l11 : (2 : Nat) ^ 500 + 1 < 2 ^ 4000 := by decide +kernel
  have pW : 0 < bo * ulp b f m top bo := Nat.mul_pos hbo u0
  refine wp_call (r := d_law_grid_rounded) rfl rfl ?_
  simp only [d_law_grid_rounded, ↓wf_nil, ↓wf_cons, ↓wg_asg, ↓wf_par, ↓wf_par3, ↓wg_setF, ↓wg_setI, ↓wf_ex, ↓wf_ret, ↓wf_retN, ↓wf_pass, ↓wf_brk, ↓wf_cnt, ↓wg_ite, ↓wf_for, ↓wp_var, ↓wp_lit, ↓wp_glob, ↓wp_bin, ↓wp_dct, ↓wp_dix, ↓wp_cmpEq, ↓wp_cmpIn, ↓wp_nin, onB_b, ↓wp_cmpNe, ↓wp_neg, ↓wp_cmp, ↓wp_chain, ↓wp_not, ↓wp_and, ↓wp_or, ↓wp_ite, ↓wp_fld, ↓wp_tup, ↓wp_new, ↓wp_callE, ↓wp_meth, ↓wp_make, ↓wp_bi, ↓wp_fold, ↓wp_foldv, ↓wp_append, ↓wp_extend, ↓wp_ix, ↓wp_sl, ↓wp_slk, ↓wp_enil, ↓wp_econs, ↓wp_disp, ↓wp_lrange, ↓wp_lcomp, ↓wp_cnil, ↓wp_ccons, ↓wp_seq, ↓wp_fresh, ↓wp_irange, ↓wp_enum, ↓wp_bind, ↓wp_ok, ↓wp_if, ↓swB_bl, ↓swT_s, ↓onS_s, ↓onO_s, ↓onI_i, ↓onR_r, ↓brB_t, ↓brB_f, ↓brB_n, ↓brB_d, cls_gOf, dct_new, pairsD, keyOf, not_true_eq_false, not_false_eq_true, ixN_30, ixN_31, ixN_32, lst_new, eqD_int, eqD_non_int, fuel_gOf, atI_0, atI_1, atI_2, atI_3, atI_4, putD, List.set_set, List.contains_cons, List.contains_nil, beq_self_eq_true, Bool.or_true, Bool.true_or, Bool.or_false, Bool.false_or, Nat.reduceEqDiff, Nat.reduceLT, Nat.zero_lt_succ, T.put, setAll, wipeE, tru, binD, cmpD, biD, itemsOf, tupOk, fldP, walkP, bnd, isNon, swB_bl, swT_s, onS_s, onO_s, onI_i, onR_r, brB_t, brB_f, brB_n, brB_d, brB_and, brB_or, List.map_cons, List.map_nil, List.cons_append, List.nil_append, List.append_nil, List.replicate, List.getElem?_cons_zero, List.getElem?_cons_succ, List.set_cons_zero, List.set_cons_succ, List.length_cons, List.length_nil, Nat.reduceAdd, Nat.reduceSub, Nat.reduceLeDiff, List.lookup_cons, List.lookup_nil, true_and, and_true, Bool.not_true, Bool.not_false, if_true, if_false, reduceIte, forall_const, Bool.false_eq_true, false_implies, implies_true, true_implies, reduceCtorEq, Nat.reduceBEq, con_MOST_MORE, con_NEAR, con_MOST_REACH, con_MOST_PLACES, con_MOST_BASE, con_LEAST_BASE, con_MOST_FIGURES, con_ZERO, con_UP, con_DOWN, cls_Grid, kl0, A_own_step, A_own_bounds, A_own_tops, A_own_places, A_own_reach, A_own_figures, A_own_base, A_check, C_Grid]
  refine gmore_ok ?_
  simp only [↓wf_nil, ↓wf_cons, ↓wg_asg, ↓wf_par, ↓wf_par3, ↓wg_setF, ↓wg_setI, ↓wf_ex, ↓wf_ret, ↓wf_retN, ↓wf_pass, ↓wf_brk, ↓wf_cnt, ↓wg_ite, ↓wf_for, ↓wp_var, ↓wp_lit, ↓wp_glob, ↓wp_bin, ↓wp_dct, ↓wp_dix, ↓wp_cmpEq, ↓wp_cmpIn, ↓wp_nin, onB_b, ↓wp_cmpNe, ↓wp_neg, ↓wp_cmp, ↓wp_chain, ↓wp_not, ↓wp_and, ↓wp_or, ↓wp_ite, ↓wp_fld, ↓wp_tup, ↓wp_new, ↓wp_callE, ↓wp_meth, ↓wp_make, ↓wp_bi, ↓wp_fold, ↓wp_foldv, ↓wp_append, ↓wp_extend, ↓wp_ix, ↓wp_sl, ↓wp_slk, ↓wp_enil, ↓wp_econs, ↓wp_disp, ↓wp_lrange, ↓wp_lcomp, ↓wp_cnil, ↓wp_ccons, ↓wp_seq, ↓wp_fresh, ↓wp_irange, ↓wp_enum, ↓wp_bind, ↓wp_ok, ↓wp_if, ↓swB_bl, ↓swT_s, ↓onS_s, ↓onO_s, ↓onI_i, ↓onR_r, ↓brB_t, ↓brB_f, ↓brB_n, ↓brB_d, cls_gOf, dct_new, pairsD, keyOf, not_true_eq_false, not_false_eq_true, ixN_30, ixN_31, ixN_32, lst_new, eqD_int, eqD_non_int, fuel_gOf, atI_0, atI_1, atI_2, atI_3, atI_4, putD, List.set_set, List.contains_cons, List.contains_nil, beq_self_eq_true, Bool.or_true, Bool.true_or, Bool.or_false, Bool.false_or, Nat.reduceEqDiff, Nat.reduceLT, Nat.zero_lt_succ, T.put, setAll, wipeE, tru, binD, cmpD, biD, itemsOf, tupOk, fldP, walkP, bnd, isNon, swB_bl, swT_s, onS_s, onO_s, onI_i, onR_r, brB_t, brB_f, brB_n, brB_d, brB_and, brB_or, List.map_cons, List.map_nil, List.cons_append, List.nil_append, List.append_nil, List.replicate, List.getElem?_cons_zero, List.getElem?_cons_succ, List.set_cons_zero, List.set_cons_succ, List.length_cons, List.length_nil, Nat.reduceAdd, Nat.reduceSub, Nat.reduceLeDiff, List.lookup_cons, List.lookup_nil, true_and, and_true, Bool.not_true, Bool.not_false, if_true, if_false, reduceIte, forall_const, Bool.false_eq_true, false_implies, implies_true, true_implies, reduceCtorEq, Nat.reduceBEq, con_MOST_MORE, con_NEAR, con_MOST_REACH, con_MOST_PLACES, con_MOST_BASE, con_LEAST_BASE, con_MOST_FIGURES, con_ZERO, con_UP, con_DOWN, cls_Grid, kl0, A_own_step, A_own_bounds, A_own_tops, A_own_places, A_own_reach, A_own_figures, A_own_base, A_check, C_Grid]
  refine gspacing_ok hb (by omega) hbo h1 h2 hf ?_
  have eu : ulp b (f + m) 0 top bo = ulp b f m top bo := rfl
  rw [eu]
  have sb : Sm (bo : Int) := Sm.nat (by omega)
  have su : Sm (ulp b f m top bo : Int) := Sm.nat (by omega)
  simp only [↓wf_nil, ↓wf_cons, ↓wg_asg, ↓wf_par, ↓wf_par3, ↓wg_setF, ↓wg_setI, ↓wf_ex, ↓wf_ret, ↓wf_retN, ↓wf_pass, ↓wf_brk, ↓wf_cnt, ↓wg_ite, ↓wf_for, ↓wp_var, ↓wp_lit, ↓wp_glob, ↓wp_bin, ↓wp_dct, ↓wp_dix, ↓wp_cmpEq, ↓wp_cmpIn, ↓wp_nin, onB_b, ↓wp_cmpNe, ↓wp_neg, ↓wp_cmp, ↓wp_chain, ↓wp_not, ↓wp_and, ↓wp_or, ↓wp_ite, ↓wp_fld, ↓wp_tup, ↓wp_new, ↓wp_callE, ↓wp_meth, ↓wp_make, ↓wp_bi, ↓wp_fold, ↓wp_foldv, ↓wp_append, ↓wp_extend, ↓wp_ix, ↓wp_sl, ↓wp_slk, ↓wp_enil, ↓wp_econs, ↓wp_disp, ↓wp_lrange, ↓wp_lcomp, ↓wp_cnil, ↓wp_ccons, ↓wp_seq, ↓wp_fresh, ↓wp_irange, ↓wp_enum, ↓wp_bind, ↓wp_ok, ↓wp_if, ↓swB_bl, ↓swT_s, ↓onS_s, ↓onO_s, ↓onI_i, ↓onR_r, ↓brB_t, ↓brB_f, ↓brB_n, ↓brB_d, cls_gOf, dct_new, pairsD, keyOf, not_true_eq_false, not_false_eq_true, ixN_30, ixN_31, ixN_32, lst_new, eqD_int, eqD_non_int, fuel_gOf, atI_0, atI_1, atI_2, atI_3, atI_4, putD, List.set_set, List.contains_cons, List.contains_nil, beq_self_eq_true, Bool.or_true, Bool.true_or, Bool.or_false, Bool.false_or, Nat.reduceEqDiff, Nat.reduceLT, Nat.zero_lt_succ, T.put, setAll, wipeE, tru, binD, cmpD, biD, itemsOf, tupOk, fldP, walkP, bnd, isNon, swB_bl, swT_s, onS_s, onO_s, onI_i, onR_r, brB_t, brB_f, brB_n, brB_d, brB_and, brB_or, List.map_cons, List.map_nil, List.cons_append, List.nil_append, List.append_nil, List.replicate, List.getElem?_cons_zero, List.getElem?_cons_succ, List.set_cons_zero, List.set_cons_succ, List.length_cons, List.length_nil, Nat.reduceAdd, Nat.reduceSub, Nat.reduceLeDiff, List.lookup_cons, List.lookup_nil, true_and, and_true, Bool.not_true, Bool.not_false, if_true, if_false, reduceIte, forall_const, Bool.false_eq_true, false_implies, implies_true, true_implies, reduceCtorEq, Nat.reduceBEq, con_MOST_MORE, con_NEAR, con_MOST_REACH, con_MOST_PLACES, con_MOST_BASE, con_LEAST_BASE, con_MOST_FIGURES, con_ZERO, con_UP, con_DOWN, cls_Grid, kl0, A_own_step, A_own_bounds, A_own_tops, A_own_places, A_own_reach, A_own_figures, A_own_base, A_check, C_Grid]
  rw [← Int.natCast_mul]
  generalize eW : bo * ulp b f m top bo = W at *
  have q0 : 0 ≤ top % (W : Int) := Int.emod_nonneg _ (by omega)
  have q1 : top % (W : Int) < W := Int.emod_lt_of_pos _ (by omega)
  have hd : (top / (W : Int)).natAbs ≤ top.natAbs := Int.natAbs_ediv_le_natAbs _ _
  have sW : Sm (W : Int) := Sm.nat (by omega)
  have sL : Sm (top % (W : Int)) := by unfold Sm; omega
  have iW : (0 : Int) < W := by omega
  have lW : (W : Int).natAbs.log2 < 9000 := by have := sW.log; omega
  have fin : ∀ (st : Int), st = (if ledUp (top / (W : Int)) (top % (W : Int)) (W : Int) top way = true then 1 else 0) →
      Sm (top / (W : Int) + st) ∧ (top / (W : Int) + st) * (ulp b f m top bo : Int) = rnum b f m top bo way := fun st e => by
    subst e
    refine ⟨?_, ?_⟩
    · unfold Sm
      split <;> omega
    · unfold rnum
      rw [eW]
  have two : Sm 2 := Sm.nat (k := 2) (sm_small (by omega))
  have last : ∀ (st : Int), st = (if ledUp (top / (W : Int)) (top % (W : Int)) (W : Int) top way = true then 1 else 0) → 
      (top / (W : Int) + st).natAbs.log2 + (ulp b f m top bo : Int).natAbs.log2 < 1000000 := fun st e => (fin st e).1.mul su
  refine ⟨sb.mul su, ⟨iW, lW⟩, sb.mul su, iW, ?_⟩
  have gg : ∀ (e1 : Slo), True := fun _ => trivial
  have eWi : (bo : Int) * (ulp b f m top bo : Int) = (W : Int) := by rw [← Int.natCast_mul, eW]
  cases hway : way with
  | down => exact absurd hway hw
  | near =>
    simp only [Way.s, w_near_near, w_near_down, w_near_up, w_near_zero, w_down_near, w_down_down, w_down_up, w_down_zero, w_up_near, w_up_down, w_up_up, w_up_zero, w_zero_near, w_zero_down, w_zero_up, w_zero_zero, ↓wf_nil, ↓wf_cons, ↓wg_asg, ↓wf_par, ↓wf_par3, ↓wg_setF, ↓wg_setI, ↓wf_ex, ↓wf_ret, ↓wf_retN, ↓wf_pass, ↓wf_brk, ↓wf_cnt, ↓wg_ite, ↓wf_for, ↓wp_var, ↓wp_lit, ↓wp_glob, ↓wp_bin, ↓wp_dct, ↓wp_dix, ↓wp_cmpEq, ↓wp_cmpIn, ↓wp_nin, onB_b, ↓wp_cmpNe, ↓wp_neg, ↓wp_cmp, ↓wp_chain, ↓wp_not, ↓wp_and, ↓wp_or, ↓wp_ite, ↓wp_fld, ↓wp_tup, ↓wp_new, ↓wp_callE, ↓wp_meth, ↓wp_make, ↓wp_bi, ↓wp_fold, ↓wp_foldv, ↓wp_append, ↓wp_extend, ↓wp_ix, ↓wp_sl, ↓wp_slk, ↓wp_enil, ↓wp_econs, ↓wp_disp, ↓wp_lrange, ↓wp_lcomp, ↓wp_cnil, ↓wp_ccons, ↓wp_seq, ↓wp_fresh, ↓wp_irange, ↓wp_enum, ↓wp_bind, ↓wp_ok, ↓wp_if, ↓swB_bl, ↓swT_s, ↓onS_s, ↓onO_s, ↓onI_i, ↓onR_r, ↓brB_t, ↓brB_f, ↓brB_n, ↓brB_d, cls_gOf, dct_new, pairsD, keyOf, not_true_eq_false, not_false_eq_true, ixN_30, ixN_31, ixN_32, lst_new, eqD_int, eqD_non_int, fuel_gOf, atI_0, atI_1, atI_2, atI_3, atI_4, putD, List.set_set, List.contains_cons, List.contains_nil, beq_self_eq_true, Bool.or_true, Bool.true_or, Bool.or_false, Bool.false_or, Nat.reduceEqDiff, Nat.reduceLT, Nat.zero_lt_succ, T.put, setAll, wipeE, tru, binD, cmpD, biD, itemsOf, tupOk, fldP, walkP, bnd, isNon, swB_bl, swT_s, onS_s, onO_s, onI_i, onR_r, brB_t, brB_f, brB_n, brB_d, brB_and, brB_or, List.map_cons, List.map_nil, List.cons_append, List.nil_append, List.append_nil, List.replicate, List.getElem?_cons_zero, List.getElem?_cons_succ, List.set_cons_zero, List.set_cons_succ, List.length_cons, List.length_nil, Nat.reduceAdd, Nat.reduceSub, Nat.reduceLeDiff, List.lookup_cons, List.lookup_nil, true_and, and_true, Bool.not_true, Bool.not_false, if_true, if_false, reduceIte, forall_const, Bool.false_eq_true, false_implies, implies_true, true_implies, reduceCtorEq, Nat.reduceBEq, con_MOST_MORE, con_NEAR, con_MOST_REACH, con_MOST_PLACES, con_MOST_BASE, con_LEAST_BASE, con_MOST_FIGURES, con_ZERO, con_UP, con_DOWN, cls_Grid, kl0, A_own_step, A_own_bounds, A_own_tops, A_own_places, A_own_reach, A_own_figures, A_own_base, A_check, C_Grid, eWi]
    refine ⟨two.mul sL, by rw [← eWi] at sW; exact sb.mul su, fun c1 => ?_, fun c1 => ⟨fun c2 => ?_, fun c2 => ?_⟩⟩
    · have e : (1 : Int) = (if ledUp (top / (W : Int)) (top % (W : Int)) (W : Int) top way = true then 1 else 0) := (if_pos (by rw [hway]; simp [ledUp]; omega)).symm
      refine ⟨last _ e, ?_⟩
      refine ggreatest_ok (by omega) hb.2 (by omega) hr hf ?_
      simp only [↓wf_nil, ↓wf_cons, ↓wg_asg, ↓wf_par, ↓wf_par3, ↓wg_setF, ↓wg_setI, ↓wf_ex, ↓wf_ret, ↓wf_retN, ↓wf_pass, ↓wf_brk, ↓wf_cnt, ↓wg_ite, ↓wf_for, ↓wp_var, ↓wp_lit, ↓wp_glob, ↓wp_bin, ↓wp_dct, ↓wp_dix, ↓wp_cmpEq, ↓wp_cmpIn, ↓wp_nin, onB_b, ↓wp_cmpNe, ↓wp_neg, ↓wp_cmp, ↓wp_chain, ↓wp_not, ↓wp_and, ↓wp_or, ↓wp_ite, ↓wp_fld, ↓wp_tup, ↓wp_new, ↓wp_callE, ↓wp_meth, ↓wp_make, ↓wp_bi, ↓wp_fold, ↓wp_foldv, ↓wp_append, ↓wp_extend, ↓wp_ix, ↓wp_sl, ↓wp_slk, ↓wp_enil, ↓wp_econs, ↓wp_disp, ↓wp_lrange, ↓wp_lcomp, ↓wp_cnil, ↓wp_ccons, ↓wp_seq, ↓wp_fresh, ↓wp_irange, ↓wp_enum, ↓wp_bind, ↓wp_ok, ↓wp_if, ↓swB_bl, ↓swT_s, ↓onS_s, ↓onO_s, ↓onI_i, ↓onR_r, ↓brB_t, ↓brB_f, ↓brB_n, ↓brB_d, cls_gOf, dct_new, pairsD, keyOf, not_true_eq_false, not_false_eq_true, ixN_30, ixN_31, ixN_32, lst_new, eqD_int, eqD_non_int, fuel_gOf, atI_0, atI_1, atI_2, atI_3, atI_4, putD, List.set_set, List.contains_cons, List.contains_nil, beq_self_eq_true, Bool.or_true, Bool.true_or, Bool.or_false, Bool.false_or, Nat.reduceEqDiff, Nat.reduceLT, Nat.zero_lt_succ, T.put, setAll, wipeE, tru, binD, cmpD, biD, itemsOf, tupOk, fldP, walkP, bnd, isNon, swB_bl, swT_s, onS_s, onO_s, onI_i, onR_r, brB_t, brB_f, brB_n, brB_d, brB_and, brB_or, List.map_cons, List.map_nil, List.cons_append, List.nil_append, List.append_nil, List.replicate, List.getElem?_cons_zero, List.getElem?_cons_succ, List.set_cons_zero, List.set_cons_succ, List.length_cons, List.length_nil, Nat.reduceAdd, Nat.reduceSub, Nat.reduceLeDiff, List.lookup_cons, List.lookup_nil, true_and, and_true, Bool.not_true, Bool.not_false, if_true, if_false, reduceIte, forall_const, Bool.false_eq_true, false_implies, implies_true, true_implies, reduceCtorEq, Nat.reduceBEq, con_MOST_MORE, con_NEAR, con_MOST_REACH, con_MOST_PLACES, con_MOST_BASE, con_LEAST_BASE, con_MOST_FIGURES, con_ZERO, con_UP, con_DOWN, cls_Grid, kl0, A_own_step, A_own_bounds, A_own_tops, A_own_places, A_own_reach, A_own_figures, A_own_base, A_check, C_Grid, abs_int, (fin _ e).2]
      unfold rndD at h
      refine ⟨fun a => ?_, fun a => ?_⟩
      · rw [if_pos (by omega)] at h; exact h
      · rw [if_neg (by omega)] at h; exact h
    · have e : (if decide ((top / (W : Int)) % 2 = 1) = true then (1 : Int) else 0) = (if ledUp (top / (W : Int)) (top % (W : Int)) (W : Int) top way = true then 1 else 0) := by rw [show ledUp (top / (W : Int)) (top % (W : Int)) (W : Int) top way = decide ((top / (W : Int)) % 2 = 1) from by rw [hway]; unfold ledUp; rw [decide_eq_false (show ¬ (top % (W : Int) = 0) by omega), decide_eq_false (show ¬ ((W : Int) < 2 * (top % (W : Int))) by omega), decide_eq_true (show 2 * (top % (W : Int)) = (W : Int) by omega)]; simp]
      refine ⟨by decide, last _ e, ?_⟩
      refine ggreatest_ok (by omega) hb.2 (by omega) hr hf ?_
      simp only [↓wf_nil, ↓wf_cons, ↓wg_asg, ↓wf_par, ↓wf_par3, ↓wg_setF, ↓wg_setI, ↓wf_ex, ↓wf_ret, ↓wf_retN, ↓wf_pass, ↓wf_brk, ↓wf_cnt, ↓wg_ite, ↓wf_for, ↓wp_var, ↓wp_lit, ↓wp_glob, ↓wp_bin, ↓wp_dct, ↓wp_dix, ↓wp_cmpEq, ↓wp_cmpIn, ↓wp_nin, onB_b, ↓wp_cmpNe, ↓wp_neg, ↓wp_cmp, ↓wp_chain, ↓wp_not, ↓wp_and, ↓wp_or, ↓wp_ite, ↓wp_fld, ↓wp_tup, ↓wp_new, ↓wp_callE, ↓wp_meth, ↓wp_make, ↓wp_bi, ↓wp_fold, ↓wp_foldv, ↓wp_append, ↓wp_extend, ↓wp_ix, ↓wp_sl, ↓wp_slk, ↓wp_enil, ↓wp_econs, ↓wp_disp, ↓wp_lrange, ↓wp_lcomp, ↓wp_cnil, ↓wp_ccons, ↓wp_seq, ↓wp_fresh, ↓wp_irange, ↓wp_enum, ↓wp_bind, ↓wp_ok, ↓wp_if, ↓swB_bl, ↓swT_s, ↓onS_s, ↓onO_s, ↓onI_i, ↓onR_r, ↓brB_t, ↓brB_f, ↓brB_n, ↓brB_d, cls_gOf, dct_new, pairsD, keyOf, not_true_eq_false, not_false_eq_true, ixN_30, ixN_31, ixN_32, lst_new, eqD_int, eqD_non_int, fuel_gOf, atI_0, atI_1, atI_2, atI_3, atI_4, putD, List.set_set, List.contains_cons, List.contains_nil, beq_self_eq_true, Bool.or_true, Bool.true_or, Bool.or_false, Bool.false_or, Nat.reduceEqDiff, Nat.reduceLT, Nat.zero_lt_succ, T.put, setAll, wipeE, tru, binD, cmpD, biD, itemsOf, tupOk, fldP, walkP, bnd, isNon, swB_bl, swT_s, onS_s, onO_s, onI_i, onR_r, brB_t, brB_f, brB_n, brB_d, brB_and, brB_or, List.map_cons, List.map_nil, List.cons_append, List.nil_append, List.append_nil, List.replicate, List.getElem?_cons_zero, List.getElem?_cons_succ, List.set_cons_zero, List.set_cons_succ, List.length_cons, List.length_nil, Nat.reduceAdd, Nat.reduceSub, Nat.reduceLeDiff, List.lookup_cons, List.lookup_nil, true_and, and_true, Bool.not_true, Bool.not_false, if_true, if_false, reduceIte, forall_const, Bool.false_eq_true, false_implies, implies_true, true_implies, reduceCtorEq, Nat.reduceBEq, con_MOST_MORE, con_NEAR, con_MOST_REACH, con_MOST_PLACES, con_MOST_BASE, con_LEAST_BASE, con_MOST_FIGURES, con_ZERO, con_UP, con_DOWN, cls_Grid, kl0, A_own_step, A_own_bounds, A_own_tops, A_own_places, A_own_reach, A_own_figures, A_own_base, A_check, C_Grid, abs_int, (fin _ e).2]
      unfold rndD at h
      refine ⟨fun a => ?_, fun a => ?_⟩
      · rw [if_pos (by omega)] at h; exact h
      · rw [if_neg (by omega)] at h; exact h
    · have e : (0 : Int) = (if ledUp (top / (W : Int)) (top % (W : Int)) (W : Int) top way = true then 1 else 0) := (if_neg (by rw [hway]; simp [ledUp]; omega)).symm
      refine ⟨last _ e, ?_⟩
      refine ggreatest_ok (by omega) hb.2 (by omega) hr hf ?_
      simp only [↓wf_nil, ↓wf_cons, ↓wg_asg, ↓wf_par, ↓wf_par3, ↓wg_setF, ↓wg_setI, ↓wf_ex, ↓wf_ret, ↓wf_retN, ↓wf_pass, ↓wf_brk, ↓wf_cnt, ↓wg_ite, ↓wf_for, ↓wp_var, ↓wp_lit, ↓wp_glob, ↓wp_bin, ↓wp_dct, ↓wp_dix, ↓wp_cmpEq, ↓wp_cmpIn, ↓wp_nin, onB_b, ↓wp_cmpNe, ↓wp_neg, ↓wp_cmp, ↓wp_chain, ↓wp_not, ↓wp_and, ↓wp_or, ↓wp_ite, ↓wp_fld, ↓wp_tup, ↓wp_new, ↓wp_callE, ↓wp_meth, ↓wp_make, ↓wp_bi, ↓wp_fold, ↓wp_foldv, ↓wp_append, ↓wp_extend, ↓wp_ix, ↓wp_sl, ↓wp_slk, ↓wp_enil, ↓wp_econs, ↓wp_disp, ↓wp_lrange, ↓wp_lcomp, ↓wp_cnil, ↓wp_ccons, ↓wp_seq, ↓wp_fresh, ↓wp_irange, ↓wp_enum, ↓wp_bind, ↓wp_ok, ↓wp_if, ↓swB_bl, ↓swT_s, ↓onS_s, ↓onO_s, ↓onI_i, ↓onR_r, ↓brB_t, ↓brB_f, ↓brB_n, ↓brB_d, cls_gOf, dct_new, pairsD, keyOf, not_true_eq_false, not_false_eq_true, ixN_30, ixN_31, ixN_32, lst_new, eqD_int, eqD_non_int, fuel_gOf, atI_0, atI_1, atI_2, atI_3, atI_4, putD, List.set_set, List.contains_cons, List.contains_nil, beq_self_eq_true, Bool.or_true, Bool.true_or, Bool.or_false, Bool.false_or, Nat.reduceEqDiff, Nat.reduceLT, Nat.zero_lt_succ, T.put, setAll, wipeE, tru, binD, cmpD, biD, itemsOf, tupOk, fldP, walkP, bnd, isNon, swB_bl, swT_s, onS_s, onO_s, onI_i, onR_r, brB_t, brB_f, brB_n, brB_d, brB_and, brB_or, List.map_cons, List.map_nil, List.cons_append, List.nil_append, List.append_nil, List.replicate, List.getElem?_cons_zero, List.getElem?_cons_succ, List.set_cons_zero, List.set_cons_succ, List.length_cons, List.length_nil, Nat.reduceAdd, Nat.reduceSub, Nat.reduceLeDiff, List.lookup_cons, List.lookup_nil, true_and, and_true, Bool.not_true, Bool.not_false, if_true, if_false, reduceIte, forall_const, Bool.false_eq_true, false_implies, implies_true, true_implies, reduceCtorEq, Nat.reduceBEq, con_MOST_MORE, con_NEAR, con_MOST_REACH, con_MOST_PLACES, con_MOST_BASE, con_LEAST_BASE, con_MOST_FIGURES, con_ZERO, con_UP, con_DOWN, cls_Grid, kl0, A_own_step, A_own_bounds, A_own_tops, A_own_places, A_own_reach, A_own_figures, A_own_base, A_check, C_Grid, abs_int, (fin _ e).2]
      unfold rndD at h
      refine ⟨fun a => ?_, fun a => ?_⟩
      · rw [if_pos (by omega)] at h; exact h
      · rw [if_neg (by omega)] at h; exact h
  | up =>
    simp only [Way.s, w_near_near, w_near_down, w_near_up, w_near_zero, w_down_near, w_down_down, w_down_up, w_down_zero, w_up_near, w_up_down, w_up_up, w_up_zero, w_zero_near, w_zero_down, w_zero_up, w_zero_zero, ↓wf_nil, ↓wf_cons, ↓wg_asg, ↓wf_par, ↓wf_par3, ↓wg_setF, ↓wg_setI, ↓wf_ex, ↓wf_ret, ↓wf_retN, ↓wf_pass, ↓wf_brk, ↓wf_cnt, ↓wg_ite, ↓wf_for, ↓wp_var, ↓wp_lit, ↓wp_glob, ↓wp_bin, ↓wp_dct, ↓wp_dix, ↓wp_cmpEq, ↓wp_cmpIn, ↓wp_nin, onB_b, ↓wp_cmpNe, ↓wp_neg, ↓wp_cmp, ↓wp_chain, ↓wp_not, ↓wp_and, ↓wp_or, ↓wp_ite, ↓wp_fld, ↓wp_tup, ↓wp_new, ↓wp_callE, ↓wp_meth, ↓wp_make, ↓wp_bi, ↓wp_fold, ↓wp_foldv, ↓wp_append, ↓wp_extend, ↓wp_ix, ↓wp_sl, ↓wp_slk, ↓wp_enil, ↓wp_econs, ↓wp_disp, ↓wp_lrange, ↓wp_lcomp, ↓wp_cnil, ↓wp_ccons, ↓wp_seq, ↓wp_fresh, ↓wp_irange, ↓wp_enum, ↓wp_bind, ↓wp_ok, ↓wp_if, ↓swB_bl, ↓swT_s, ↓onS_s, ↓onO_s, ↓onI_i, ↓onR_r, ↓brB_t, ↓brB_f, ↓brB_n, ↓brB_d, cls_gOf, dct_new, pairsD, keyOf, not_true_eq_false, not_false_eq_true, ixN_30, ixN_31, ixN_32, lst_new, eqD_int, eqD_non_int, fuel_gOf, atI_0, atI_1, atI_2, atI_3, atI_4, putD, List.set_set, List.contains_cons, List.contains_nil, beq_self_eq_true, Bool.or_true, Bool.true_or, Bool.or_false, Bool.false_or, Nat.reduceEqDiff, Nat.reduceLT, Nat.zero_lt_succ, T.put, setAll, wipeE, tru, binD, cmpD, biD, itemsOf, tupOk, fldP, walkP, bnd, isNon, swB_bl, swT_s, onS_s, onO_s, onI_i, onR_r, brB_t, brB_f, brB_n, brB_d, brB_and, brB_or, List.map_cons, List.map_nil, List.cons_append, List.nil_append, List.append_nil, List.replicate, List.getElem?_cons_zero, List.getElem?_cons_succ, List.set_cons_zero, List.set_cons_succ, List.length_cons, List.length_nil, Nat.reduceAdd, Nat.reduceSub, Nat.reduceLeDiff, List.lookup_cons, List.lookup_nil, true_and, and_true, Bool.not_true, Bool.not_false, if_true, if_false, reduceIte, forall_const, Bool.false_eq_true, false_implies, implies_true, true_implies, reduceCtorEq, Nat.reduceBEq, con_MOST_MORE, con_NEAR, con_MOST_REACH, con_MOST_PLACES, con_MOST_BASE, con_LEAST_BASE, con_MOST_FIGURES, con_ZERO, con_UP, con_DOWN, cls_Grid, kl0, A_own_step, A_own_bounds, A_own_tops, A_own_places, A_own_reach, A_own_figures, A_own_base, A_check, C_Grid, eWi]
    refine ⟨fun c1 => ?_, fun c1 => ?_⟩
    · have e : (1 : Int) = (if ledUp (top / (W : Int)) (top % (W : Int)) (W : Int) top way = true then 1 else 0) := (if_pos (by rw [hway]; simp [ledUp]; omega)).symm
      refine ⟨last _ e, ?_⟩
      refine ggreatest_ok (by omega) hb.2 (by omega) hr hf ?_
      simp only [↓wf_nil, ↓wf_cons, ↓wg_asg, ↓wf_par, ↓wf_par3, ↓wg_setF, ↓wg_setI, ↓wf_ex, ↓wf_ret, ↓wf_retN, ↓wf_pass, ↓wf_brk, ↓wf_cnt, ↓wg_ite, ↓wf_for, ↓wp_var, ↓wp_lit, ↓wp_glob, ↓wp_bin, ↓wp_dct, ↓wp_dix, ↓wp_cmpEq, ↓wp_cmpIn, ↓wp_nin, onB_b, ↓wp_cmpNe, ↓wp_neg, ↓wp_cmp, ↓wp_chain, ↓wp_not, ↓wp_and, ↓wp_or, ↓wp_ite, ↓wp_fld, ↓wp_tup, ↓wp_new, ↓wp_callE, ↓wp_meth, ↓wp_make, ↓wp_bi, ↓wp_fold, ↓wp_foldv, ↓wp_append, ↓wp_extend, ↓wp_ix, ↓wp_sl, ↓wp_slk, ↓wp_enil, ↓wp_econs, ↓wp_disp, ↓wp_lrange, ↓wp_lcomp, ↓wp_cnil, ↓wp_ccons, ↓wp_seq, ↓wp_fresh, ↓wp_irange, ↓wp_enum, ↓wp_bind, ↓wp_ok, ↓wp_if, ↓swB_bl, ↓swT_s, ↓onS_s, ↓onO_s, ↓onI_i, ↓onR_r, ↓brB_t, ↓brB_f, ↓brB_n, ↓brB_d, cls_gOf, dct_new, pairsD, keyOf, not_true_eq_false, not_false_eq_true, ixN_30, ixN_31, ixN_32, lst_new, eqD_int, eqD_non_int, fuel_gOf, atI_0, atI_1, atI_2, atI_3, atI_4, putD, List.set_set, List.contains_cons, List.contains_nil, beq_self_eq_true, Bool.or_true, Bool.true_or, Bool.or_false, Bool.false_or, Nat.reduceEqDiff, Nat.reduceLT, Nat.zero_lt_succ, T.put, setAll, wipeE, tru, binD, cmpD, biD, itemsOf, tupOk, fldP, walkP, bnd, isNon, swB_bl, swT_s, onS_s, onO_s, onI_i, onR_r, brB_t, brB_f, brB_n, brB_d, brB_and, brB_or, List.map_cons, List.map_nil, List.cons_append, List.nil_append, List.append_nil, List.replicate, List.getElem?_cons_zero, List.getElem?_cons_succ, List.set_cons_zero, List.set_cons_succ, List.length_cons, List.length_nil, Nat.reduceAdd, Nat.reduceSub, Nat.reduceLeDiff, List.lookup_cons, List.lookup_nil, true_and, and_true, Bool.not_true, Bool.not_false, if_true, if_false, reduceIte, forall_const, Bool.false_eq_true, false_implies, implies_true, true_implies, reduceCtorEq, Nat.reduceBEq, con_MOST_MORE, con_NEAR, con_MOST_REACH, con_MOST_PLACES, con_MOST_BASE, con_LEAST_BASE, con_MOST_FIGURES, con_ZERO, con_UP, con_DOWN, cls_Grid, kl0, A_own_step, A_own_bounds, A_own_tops, A_own_places, A_own_reach, A_own_figures, A_own_base, A_check, C_Grid, abs_int, (fin _ e).2]
      unfold rndD at h
      refine ⟨fun a => ?_, fun a => ?_⟩
      · rw [if_pos (by omega)] at h; exact h
      · rw [if_neg (by omega)] at h; exact h
    · have e : (0 : Int) = (if ledUp (top / (W : Int)) (top % (W : Int)) (W : Int) top way = true then 1 else 0) := (if_neg (by rw [hway]; simp [ledUp]; omega)).symm
      refine ⟨last _ e, ?_⟩
      refine ggreatest_ok (by omega) hb.2 (by omega) hr hf ?_
      simp only [↓wf_nil, ↓wf_cons, ↓wg_asg, ↓wf_par, ↓wf_par3, ↓wg_setF, ↓wg_setI, ↓wf_ex, ↓wf_ret, ↓wf_retN, ↓wf_pass, ↓wf_brk, ↓wf_cnt, ↓wg_ite, ↓wf_for, ↓wp_var, ↓wp_lit, ↓wp_glob, ↓wp_bin, ↓wp_dct, ↓wp_dix, ↓wp_cmpEq, ↓wp_cmpIn, ↓wp_nin, onB_b, ↓wp_cmpNe, ↓wp_neg, ↓wp_cmp, ↓wp_chain, ↓wp_not, ↓wp_and, ↓wp_or, ↓wp_ite, ↓wp_fld, ↓wp_tup, ↓wp_new, ↓wp_callE, ↓wp_meth, ↓wp_make, ↓wp_bi, ↓wp_fold, ↓wp_foldv, ↓wp_append, ↓wp_extend, ↓wp_ix, ↓wp_sl, ↓wp_slk, ↓wp_enil, ↓wp_econs, ↓wp_disp, ↓wp_lrange, ↓wp_lcomp, ↓wp_cnil, ↓wp_ccons, ↓wp_seq, ↓wp_fresh, ↓wp_irange, ↓wp_enum, ↓wp_bind, ↓wp_ok, ↓wp_if, ↓swB_bl, ↓swT_s, ↓onS_s, ↓onO_s, ↓onI_i, ↓onR_r, ↓brB_t, ↓brB_f, ↓brB_n, ↓brB_d, cls_gOf, dct_new, pairsD, keyOf, not_true_eq_false, not_false_eq_true, ixN_30, ixN_31, ixN_32, lst_new, eqD_int, eqD_non_int, fuel_gOf, atI_0, atI_1, atI_2, atI_3, atI_4, putD, List.set_set, List.contains_cons, List.contains_nil, beq_self_eq_true, Bool.or_true, Bool.true_or, Bool.or_false, Bool.false_or, Nat.reduceEqDiff, Nat.reduceLT, Nat.zero_lt_succ, T.put, setAll, wipeE, tru, binD, cmpD, biD, itemsOf, tupOk, fldP, walkP, bnd, isNon, swB_bl, swT_s, onS_s, onO_s, onI_i, onR_r, brB_t, brB_f, brB_n, brB_d, brB_and, brB_or, List.map_cons, List.map_nil, List.cons_append, List.nil_append, List.append_nil, List.replicate, List.getElem?_cons_zero, List.getElem?_cons_succ, List.set_cons_zero, List.set_cons_succ, List.length_cons, List.length_nil, Nat.reduceAdd, Nat.reduceSub, Nat.reduceLeDiff, List.lookup_cons, List.lookup_nil, true_and, and_true, Bool.not_true, Bool.not_false, if_true, if_false, reduceIte, forall_const, Bool.false_eq_true, false_implies, implies_true, true_implies, reduceCtorEq, Nat.reduceBEq, con_MOST_MORE, con_NEAR, con_MOST_REACH, con_MOST_PLACES, con_MOST_BASE, con_LEAST_BASE, con_MOST_FIGURES, con_ZERO, con_UP, con_DOWN, cls_Grid, kl0, A_own_step, A_own_bounds, A_own_tops, A_own_places, A_own_reach, A_own_figures, A_own_base, A_check, C_Grid, abs_int, (fin _ e).2]
      unfold rndD at h
      refine ⟨fun a => ?_, fun a => ?_⟩
      · rw [if_pos (by omega)] at h; exact h
      · rw [if_neg (by omega)] at h; exact h
  | zero =>
    simp only [Way.s, w_near_near, w_near_down, w_near_up, w_near_zero, w_down_near, w_down_down, w_down_up, w_down_zero, w_up_near, w_up_down, w_up_up, w_up_zero, w_zero_near, w_zero_down, w_zero_up, w_zero_zero, ↓wf_nil, ↓wf_cons, ↓wg_asg, ↓wf_par, ↓wf_par3, ↓wg_setF, ↓wg_setI, ↓wf_ex, ↓wf_ret, ↓wf_retN, ↓wf_pass, ↓wf_brk, ↓wf_cnt, ↓wg_ite, ↓wf_for, ↓wp_var, ↓wp_lit, ↓wp_glob, ↓wp_bin, ↓wp_dct, ↓wp_dix, ↓wp_cmpEq, ↓wp_cmpIn, ↓wp_nin, onB_b, ↓wp_cmpNe, ↓wp_neg, ↓wp_cmp, ↓wp_chain, ↓wp_not, ↓wp_and, ↓wp_or, ↓wp_ite, ↓wp_fld, ↓wp_tup, ↓wp_new, ↓wp_callE, ↓wp_meth, ↓wp_make, ↓wp_bi, ↓wp_fold, ↓wp_foldv, ↓wp_append, ↓wp_extend, ↓wp_ix, ↓wp_sl, ↓wp_slk, ↓wp_enil, ↓wp_econs, ↓wp_disp, ↓wp_lrange, ↓wp_lcomp, ↓wp_cnil, ↓wp_ccons, ↓wp_seq, ↓wp_fresh, ↓wp_irange, ↓wp_enum, ↓wp_bind, ↓wp_ok, ↓wp_if, ↓swB_bl, ↓swT_s, ↓onS_s, ↓onO_s, ↓onI_i, ↓onR_r, ↓brB_t, ↓brB_f, ↓brB_n, ↓brB_d, cls_gOf, dct_new, pairsD, keyOf, not_true_eq_false, not_false_eq_true, ixN_30, ixN_31, ixN_32, lst_new, eqD_int, eqD_non_int, fuel_gOf, atI_0, atI_1, atI_2, atI_3, atI_4, putD, List.set_set, List.contains_cons, List.contains_nil, beq_self_eq_true, Bool.or_true, Bool.true_or, Bool.or_false, Bool.false_or, Nat.reduceEqDiff, Nat.reduceLT, Nat.zero_lt_succ, T.put, setAll, wipeE, tru, binD, cmpD, biD, itemsOf, tupOk, fldP, walkP, bnd, isNon, swB_bl, swT_s, onS_s, onO_s, onI_i, onR_r, brB_t, brB_f, brB_n, brB_d, brB_and, brB_or, List.map_cons, List.map_nil, List.cons_append, List.nil_append, List.append_nil, List.replicate, List.getElem?_cons_zero, List.getElem?_cons_succ, List.set_cons_zero, List.set_cons_succ, List.length_cons, List.length_nil, Nat.reduceAdd, Nat.reduceSub, Nat.reduceLeDiff, List.lookup_cons, List.lookup_nil, true_and, and_true, Bool.not_true, Bool.not_false, if_true, if_false, reduceIte, forall_const, Bool.false_eq_true, false_implies, implies_true, true_implies, reduceCtorEq, Nat.reduceBEq, con_MOST_MORE, con_NEAR, con_MOST_REACH, con_MOST_PLACES, con_MOST_BASE, con_LEAST_BASE, con_MOST_FIGURES, con_ZERO, con_UP, con_DOWN, cls_Grid, kl0, A_own_step, A_own_bounds, A_own_tops, A_own_places, A_own_reach, A_own_figures, A_own_base, A_check, C_Grid, eWi]
    refine ⟨fun c1 => ?_, fun c1 => ?_⟩
    · have e : (if decide (top < 0) = true then (1 : Int) else 0) = (if ledUp (top / (W : Int)) (top % (W : Int)) (W : Int) top way = true then 1 else 0) := by rw [show ledUp (top / (W : Int)) (top % (W : Int)) (W : Int) top way = decide (top < 0) from by rw [hway]; simp [ledUp]; omega]
      refine ⟨last _ e, ?_⟩
      refine ggreatest_ok (by omega) hb.2 (by omega) hr hf ?_
      simp only [↓wf_nil, ↓wf_cons, ↓wg_asg, ↓wf_par, ↓wf_par3, ↓wg_setF, ↓wg_setI, ↓wf_ex, ↓wf_ret, ↓wf_retN, ↓wf_pass, ↓wf_brk, ↓wf_cnt, ↓wg_ite, ↓wf_for, ↓wp_var, ↓wp_lit, ↓wp_glob, ↓wp_bin, ↓wp_dct, ↓wp_dix, ↓wp_cmpEq, ↓wp_cmpIn, ↓wp_nin, onB_b, ↓wp_cmpNe, ↓wp_neg, ↓wp_cmp, ↓wp_chain, ↓wp_not, ↓wp_and, ↓wp_or, ↓wp_ite, ↓wp_fld, ↓wp_tup, ↓wp_new, ↓wp_callE, ↓wp_meth, ↓wp_make, ↓wp_bi, ↓wp_fold, ↓wp_foldv, ↓wp_append, ↓wp_extend, ↓wp_ix, ↓wp_sl, ↓wp_slk, ↓wp_enil, ↓wp_econs, ↓wp_disp, ↓wp_lrange, ↓wp_lcomp, ↓wp_cnil, ↓wp_ccons, ↓wp_seq, ↓wp_fresh, ↓wp_irange, ↓wp_enum, ↓wp_bind, ↓wp_ok, ↓wp_if, ↓swB_bl, ↓swT_s, ↓onS_s, ↓onO_s, ↓onI_i, ↓onR_r, ↓brB_t, ↓brB_f, ↓brB_n, ↓brB_d, cls_gOf, dct_new, pairsD, keyOf, not_true_eq_false, not_false_eq_true, ixN_30, ixN_31, ixN_32, lst_new, eqD_int, eqD_non_int, fuel_gOf, atI_0, atI_1, atI_2, atI_3, atI_4, putD, List.set_set, List.contains_cons, List.contains_nil, beq_self_eq_true, Bool.or_true, Bool.true_or, Bool.or_false, Bool.false_or, Nat.reduceEqDiff, Nat.reduceLT, Nat.zero_lt_succ, T.put, setAll, wipeE, tru, binD, cmpD, biD, itemsOf, tupOk, fldP, walkP, bnd, isNon, swB_bl, swT_s, onS_s, onO_s, onI_i, onR_r, brB_t, brB_f, brB_n, brB_d, brB_and, brB_or, List.map_cons, List.map_nil, List.cons_append, List.nil_append, List.append_nil, List.replicate, List.getElem?_cons_zero, List.getElem?_cons_succ, List.set_cons_zero, List.set_cons_succ, List.length_cons, List.length_nil, Nat.reduceAdd, Nat.reduceSub, Nat.reduceLeDiff, List.lookup_cons, List.lookup_nil, true_and, and_true, Bool.not_true, Bool.not_false, if_true, if_false, reduceIte, forall_const, Bool.false_eq_true, false_implies, implies_true, true_implies, reduceCtorEq, Nat.reduceBEq, con_MOST_MORE, con_NEAR, con_MOST_REACH, con_MOST_PLACES, con_MOST_BASE, con_LEAST_BASE, con_MOST_FIGURES, con_ZERO, con_UP, con_DOWN, cls_Grid, kl0, A_own_step, A_own_bounds, A_own_tops, A_own_places, A_own_reach, A_own_figures, A_own_base, A_check, C_Grid, abs_int, (fin _ e).2]
      unfold rndD at h
      refine ⟨fun a => ?_, fun a => ?_⟩
      · rw [if_pos (by omega)] at h; exact h
      · rw [if_neg (by omega)] at h; exact h
    · have e : (0 : Int) = (if ledUp (top / (W : Int)) (top % (W : Int)) (W : Int) top way = true then 1 else 0) := (if_neg (by rw [hway]; simp [ledUp]; omega)).symm
      refine ⟨last _ e, ?_⟩
      refine ggreatest_ok (by omega) hb.2 (by omega) hr hf ?_
      simp only [↓wf_nil, ↓wf_cons, ↓wg_asg, ↓wf_par, ↓wf_par3, ↓wg_setF, ↓wg_setI, ↓wf_ex, ↓wf_ret, ↓wf_retN, ↓wf_pass, ↓wf_brk, ↓wf_cnt, ↓wg_ite, ↓wf_for, ↓wp_var, ↓wp_lit, ↓wp_glob, ↓wp_bin, ↓wp_dct, ↓wp_dix, ↓wp_cmpEq, ↓wp_cmpIn, ↓wp_nin, onB_b, ↓wp_cmpNe, ↓wp_neg, ↓wp_cmp, ↓wp_chain, ↓wp_not, ↓wp_and, ↓wp_or, ↓wp_ite, ↓wp_fld, ↓wp_tup, ↓wp_new, ↓wp_callE, ↓wp_meth, ↓wp_make, ↓wp_bi, ↓wp_fold, ↓wp_foldv, ↓wp_append, ↓wp_extend, ↓wp_ix, ↓wp_sl, ↓wp_slk, ↓wp_enil, ↓wp_econs, ↓wp_disp, ↓wp_lrange, ↓wp_lcomp, ↓wp_cnil, ↓wp_ccons, ↓wp_seq, ↓wp_fresh, ↓wp_irange, ↓wp_enum, ↓wp_bind, ↓wp_ok, ↓wp_if, ↓swB_bl, ↓swT_s, ↓onS_s, ↓onO_s, ↓onI_i, ↓onR_r, ↓brB_t, ↓brB_f, ↓brB_n, ↓brB_d, cls_gOf, dct_new, pairsD, keyOf, not_true_eq_false, not_false_eq_true, ixN_30, ixN_31, ixN_32, lst_new, eqD_int, eqD_non_int, fuel_gOf, atI_0, atI_1, atI_2, atI_3, atI_4, putD, List.set_set, List.contains_cons, List.contains_nil, beq_self_eq_true, Bool.or_true, Bool.true_or, Bool.or_false, Bool.false_or, Nat.reduceEqDiff, Nat.reduceLT, Nat.zero_lt_succ, T.put, setAll, wipeE, tru, binD, cmpD, biD, itemsOf, tupOk, fldP, walkP, bnd, isNon, swB_bl, swT_s, onS_s, onO_s, onI_i, onR_r, brB_t, brB_f, brB_n, brB_d, brB_and, brB_or, List.map_cons, List.map_nil, List.cons_append, List.nil_append, List.append_nil, List.replicate, List.getElem?_cons_zero, List.getElem?_cons_succ, List.set_cons_zero, List.set_cons_succ, List.length_cons, List.length_nil, Nat.reduceAdd, Nat.reduceSub, Nat.reduceLeDiff, List.lookup_cons, List.lookup_nil, true_and, and_true, Bool.not_true, Bool.not_false, if_true, if_false, reduceIte, forall_const, Bool.false_eq_true, false_implies, implies_true, true_implies, reduceCtorEq, Nat.reduceBEq, con_MOST_MORE, con_NEAR, con_MOST_REACH, con_MOST_PLACES, con_MOST_BASE, con_LEAST_BASE, con_MOST_FIGURES, con_ZERO, con_UP, con_DOWN, cls_Grid, kl0, A_own_step, A_own_bounds, A_own_tops, A_own_places, A_own_reach, A_own_figures, A_own_base, A_check, C_Grid, abs_int, (fin _ e).2]
      unfold rndD at h
      refine ⟨fun a => ?_, fun a => ?_⟩
      · rw [if_pos (by omega)] at h; exact h
      · rw [if_neg (by omega)] at h; exact h
theorem cells_ok {ns : List Int} {most : Nat} (hm : 1 ≤ most ∧ most ≤ 63) (h : ∀ c : Nat, 1 ≤ c → c ≤ 63 → (c ≤ ns.length ∨ (ns = [] ∧ c = 1)) → Q (.ref s.length) (s ++ [.lst (rangeI 0 c)])) : wp (call Z fuel (n + 1) F_law_cells [.rol (ns.map D.int), .int most] s) Q := by
  refine wp_call (r := d_law_cells) rfl rfl ?_
  simp only [d_law_cells, ↓wf_nil, ↓wf_cons, ↓wg_asg, ↓wf_par, ↓wf_par3, ↓wg_setF, ↓wg_setI, ↓wf_ex, ↓wf_ret, ↓wf_retN, ↓wf_pass, ↓wf_brk, ↓wf_cnt, ↓wg_ite, ↓wf_for, ↓wp_var, ↓wp_lit, ↓wp_glob, ↓wp_bin, ↓wp_dct, ↓wp_dix, ↓wp_cmpEq, ↓wp_cmpIn, ↓wp_nin, onB_b, ↓wp_cmpNe, ↓wp_neg, ↓wp_cmp, ↓wp_chain, ↓wp_not, ↓wp_and, ↓wp_or, ↓wp_ite, ↓wp_fld, ↓wp_tup, ↓wp_new, ↓wp_callE, ↓wp_meth, ↓wp_make, ↓wp_bi, ↓wp_fold, ↓wp_foldv, ↓wp_append, ↓wp_extend, ↓wp_ix, ↓wp_sl, ↓wp_slk, ↓wp_enil, ↓wp_econs, ↓wp_disp, ↓wp_lrange, ↓wp_lcomp, ↓wp_cnil, ↓wp_ccons, ↓wp_seq, ↓wp_fresh, ↓wp_irange, ↓wp_enum, ↓wp_bind, ↓wp_ok, ↓wp_if, ↓swB_bl, ↓swT_s, ↓onS_s, ↓onO_s, ↓onI_i, ↓onR_r, ↓brB_t, ↓brB_f, ↓brB_n, ↓brB_d, cls_gOf, dct_new, pairsD, keyOf, not_true_eq_false, not_false_eq_true, ixN_30, ixN_31, ixN_32, lst_new, eqD_int, eqD_non_int, fuel_gOf, atI_0, atI_1, atI_2, atI_3, atI_4, putD, List.set_set, List.contains_cons, List.contains_nil, beq_self_eq_true, Bool.or_true, Bool.true_or, Bool.or_false, Bool.false_or, Nat.reduceEqDiff, Nat.reduceLT, Nat.zero_lt_succ, T.put, setAll, wipeE, tru, binD, cmpD, biD, itemsOf, tupOk, fldP, walkP, bnd, isNon, swB_bl, swT_s, onS_s, onO_s, onI_i, onR_r, brB_t, brB_f, brB_n, brB_d, brB_and, brB_or, List.map_cons, List.map_nil, List.cons_append, List.nil_append, List.append_nil, List.replicate, List.getElem?_cons_zero, List.getElem?_cons_succ, List.set_cons_zero, List.set_cons_succ, List.length_cons, List.length_nil, Nat.reduceAdd, Nat.reduceSub, Nat.reduceLeDiff, List.lookup_cons, List.lookup_nil, true_and, and_true, Bool.not_true, Bool.not_false, if_true, if_false, reduceIte, forall_const, Bool.false_eq_true, false_implies, implies_true, true_implies, reduceCtorEq, Nat.reduceBEq, con_MOST_MORE, con_NEAR, con_MOST_REACH, con_MOST_PLACES, con_MOST_BASE, con_LEAST_BASE, con_MOST_FIGURES, con_ZERO, con_UP, con_DOWN, cls_Grid, kl0, A_own_step, A_own_bounds, A_own_tops, A_own_places, A_own_reach, A_own_figures, A_own_base, A_check, C_Grid, foldD, List.length_map]
  obtain ⟨c, hc⟩ : ∃ c : Nat, c = max 1 (min most ns.length) := ⟨_, rfl⟩
  have e : (if (if (ns.length : Int) < (most : Int) then (ns.length : Int) else (most : Int)) > (1 : Int) then (if (ns.length : Int) < (most : Int) then (ns.length : Int) else (most : Int)) else 1) = (c : Int) := by
    split <;> split <;> omega
  rw [e, rangeD1 (by omega)]
  simp only [↓wf_nil, ↓wf_cons, ↓wg_asg, ↓wf_par, ↓wf_par3, ↓wg_setF, ↓wg_setI, ↓wf_ex, ↓wf_ret, ↓wf_retN, ↓wf_pass, ↓wf_brk, ↓wf_cnt, ↓wg_ite, ↓wf_for, ↓wp_var, ↓wp_lit, ↓wp_glob, ↓wp_bin, ↓wp_dct, ↓wp_dix, ↓wp_cmpEq, ↓wp_cmpIn, ↓wp_nin, onB_b, ↓wp_cmpNe, ↓wp_neg, ↓wp_cmp, ↓wp_chain, ↓wp_not, ↓wp_and, ↓wp_or, ↓wp_ite, ↓wp_fld, ↓wp_tup, ↓wp_new, ↓wp_callE, ↓wp_meth, ↓wp_make, ↓wp_bi, ↓wp_fold, ↓wp_foldv, ↓wp_append, ↓wp_extend, ↓wp_ix, ↓wp_sl, ↓wp_slk, ↓wp_enil, ↓wp_econs, ↓wp_disp, ↓wp_lrange, ↓wp_lcomp, ↓wp_cnil, ↓wp_ccons, ↓wp_seq, ↓wp_fresh, ↓wp_irange, ↓wp_enum, ↓wp_bind, ↓wp_ok, ↓wp_if, ↓swB_bl, ↓swT_s, ↓onS_s, ↓onO_s, ↓onI_i, ↓onR_r, ↓brB_t, ↓brB_f, ↓brB_n, ↓brB_d, cls_gOf, dct_new, pairsD, keyOf, not_true_eq_false, not_false_eq_true, ixN_30, ixN_31, ixN_32, lst_new, eqD_int, eqD_non_int, fuel_gOf, atI_0, atI_1, atI_2, atI_3, atI_4, putD, List.set_set, List.contains_cons, List.contains_nil, beq_self_eq_true, Bool.or_true, Bool.true_or, Bool.or_false, Bool.false_or, Nat.reduceEqDiff, Nat.reduceLT, Nat.zero_lt_succ, T.put, setAll, wipeE, tru, binD, cmpD, biD, itemsOf, tupOk, fldP, walkP, bnd, isNon, swB_bl, swT_s, onS_s, onO_s, onI_i, onR_r, brB_t, brB_f, brB_n, brB_d, brB_and, brB_or, List.map_cons, List.map_nil, List.cons_append, List.nil_append, List.append_nil, List.replicate, List.getElem?_cons_zero, List.getElem?_cons_succ, List.set_cons_zero, List.set_cons_succ, List.length_cons, List.length_nil, Nat.reduceAdd, Nat.reduceSub, Nat.reduceLeDiff, List.lookup_cons, List.lookup_nil, true_and, and_true, Bool.not_true, Bool.not_false, if_true, if_false, reduceIte, forall_const, Bool.false_eq_true, false_implies, implies_true, true_implies, reduceCtorEq, Nat.reduceBEq, con_MOST_MORE, con_NEAR, con_MOST_REACH, con_MOST_PLACES, con_MOST_BASE, con_LEAST_BASE, con_MOST_FIGURES, con_ZERO, con_UP, con_DOWN, cls_Grid, kl0, A_own_step, A_own_bounds, A_own_tops, A_own_places, A_own_reach, A_own_figures, A_own_base, A_check, C_Grid, rangeI_len]
  have sz : 1000 ≤ sizeLine := by decide
  refine ⟨by omega, h c (by omega) (by omega) ?_⟩
  cases ns with
  | nil => exact .inr ⟨rfl, by simp at hc; omega⟩
  | cons x xs => rw [List.length_cons] at *; left; omega
end
theorem dvd_pow_int {b i j : Nat} (h : i ≤ j) : ((b : Int) ^ i) ∣ ((b : Int) ^ j) := ⟨(b : Int) ^ (j - i), by rw [← Int.pow_add]; congr 1; omega⟩
theorem onGrid_of {b f r e : Nat} {x m : Int} (hb : 2 ≤ b) (hx : x = m * (b : Int) ^ e) (hm : m.natAbs < b ^ f) (he : e ≤ r) : onGrid b f r x := by
  subst hx
  have na : (m * (b : Int) ^ e).natAbs = m.natAbs * b ^ e := by rw [Int.natAbs_mul, Int.natAbs_pow, Int.natAbs_natCast]
  have bp : 0 < b ^ e := Nat.pow_pos (by omega)
  refine ⟨?_, ?_⟩
  · rw [na]
    exact Nat.mul_le_mul (by omega) (Nat.pow_le_pow_right (by omega) he)
  · rw [na]
    have : spn b (b ^ f) (m.natAbs * b ^ e) ≤ e := spn_le hb (Nat.pow_pos (by omega)) (Nat.mul_lt_mul_of_pos_right hm bp)
    exact Int.emod_eq_zero_of_dvd (Int.dvd_trans (dvd_pow_int this) (Int.dvd_mul_left _ _))
/-- a number of the grid by its two parts -/
theorem onGrid_parts {b f r : Nat} {x : Int} (hb : 2 ≤ b) (h : onGrid b f r x) : ∃ (m : Int) (e : Nat), x = m * (b : Int) ^ e ∧ m.natAbs < b ^ f ∧ e ≤ r := by
  obtain ⟨h1, h2⟩ := h
  have bf : 0 < b ^ f := Nat.pow_pos (by omega)
  obtain ⟨m, hm⟩ := Int.dvd_of_emod_eq_zero h2
  refine ⟨m, spn b (b ^ f) x.natAbs, by rw [Int.mul_comm]; exact hm, ?_, ?_⟩
  · have h3 := spn_lt hb bf (a := x.natAbs)
    have na : x.natAbs = m.natAbs * b ^ spn b (b ^ f) x.natAbs := by
      have := congrArg Int.natAbs hm
      rw [Int.natAbs_mul, Int.natAbs_pow, Int.natAbs_natCast, Nat.mul_comm] at this
      exact this
    have bp : 0 < b ^ spn b (b ^ f) x.natAbs := Nat.pow_pos (by omega)
    apply Classical.byContradiction
    intro hn
    have := Nat.mul_le_mul_right (b ^ spn b (b ^ f) x.natAbs) (show b ^ f ≤ m.natAbs by omega)
    omega
  · refine spn_le hb bf ?_
    unfold gtop at h1
    have bp : 0 < b ^ r := Nat.pow_pos (by omega)
    have := Nat.mul_lt_mul_of_pos_right (show b ^ f - 1 < b ^ f by omega) bp
    omega
theorem onGrid_neg {b f r : Nat} {x : Int} (h : onGrid b f r x) : onGrid b f r (-x) := by
  obtain ⟨h1, h2⟩ := h
  refine ⟨by rw [Int.natAbs_neg]; exact h1, ?_⟩
  rw [Int.natAbs_neg]
  exact Int.emod_eq_zero_of_dvd ((Int.dvd_neg).mpr (Int.dvd_of_emod_eq_zero h2))
section
variable {b f : Nat} {x : Int}
/-- the ulp at a whole number -/
def ul (b f : Nat) (x : Int) : Nat := b ^ spn b (b ^ f) x.natAbs
def nr (b f : Nat) (x : Int) (way : Way) : Int := (x / (ul b f x : Int) + if ledUp (x / (ul b f x : Int)) (x % (ul b f x : Int)) (ul b f x : Int) x way = true then 1 else 0) * (ul b f x : Int)
theorem rnum_nr {m : Nat} {way : Way} : rnum b f m x 1 way = nr b (f + m) x way := by
  unfold rnum nr ulp ul
  simp only [Nat.one_mul]
theorem ul_pos (hb : 2 ≤ b) : 0 < ul b f x := Nat.pow_pos (by omega)
theorem ul_int : (ul b f x : Int) = (b : Int) ^ spn b (b ^ f) x.natAbs := by unfold ul; simp
theorem nr_exact {way : Way} (h : x % (ul b f x : Int) = 0) : nr b f x way = x := by
  unfold nr
  rw [h]
  have : ledUp (x / (ul b f x : Int)) 0 (ul b f x : Int) x way = false := by cases way <;> simp [ledUp]
  rw [this]
  simp
  exact Int.ediv_mul_cancel (Int.dvd_of_emod_eq_zero h)
/-- the quotient, the rest -/
theorem qr (hb : 2 ≤ b) : ∃ q l : Int, x / (ul b f x : Int) = q ∧ x % (ul b f x : Int) = l ∧ x = q * (ul b f x : Int) + l ∧ 0 ≤ l ∧ l < (ul b f x : Int) := by
  have hp : (0 : Int) < (ul b f x : Int) := by have := ul_pos (f := f) (x := x) hb; omega
  refine ⟨_, _, rfl, rfl, ?_, Int.emod_nonneg _ (by omega), Int.emod_lt_of_pos _ hp⟩
  have := Int.mul_ediv_add_emod x (ul b f x : Int)
  rw [Int.mul_comm] at this
  omega
theorem nr_near (hb : 2 ≤ b) : (2 * (x - nr b f x .near)).natAbs ≤ ul b f x := by
  obtain ⟨q, l, e1, e2, e3, h1, h2⟩ := qr (b := b) (f := f) (x := x) hb
  unfold nr
  rw [e1, e2]
  generalize ul b f x = u at *
  by_cases hl : ledUp q l u x .near = true
  · rw [if_pos hl, Int.add_mul, Int.one_mul]
    simp [ledUp] at hl
    generalize q * (u : Int) = z at *
    omega
  · rw [if_neg hl, Int.add_zero]
    simp [ledUp] at hl
    generalize q * (u : Int) = z at *
    omega
end
section
variable {b f r : Nat} {x : Int} {way : Way}
theorem ul_le (hb : 2 ≤ b) (hf : 1 ≤ f) (hx : x ≠ 0) : ul b f x ≤ x.natAbs := by
  unfold ul
  cases hk : spn b (b ^ f) x.natAbs with
  | zero => rw [Nat.pow_zero]; omega
  | succ k =>
    have h := spn_ge (i := k) hb (Nat.pow_pos (n := f) (show 0 < b by omega)) (a := x.natAbs) (by omega)
    rw [← Nat.pow_add] at h
    exact Nat.le_trans (Nat.pow_le_pow_right (by omega) (by omega)) h
theorem nr_less (hb : 2 ≤ b) (hf : 1 ≤ f) : 2 * (x - nr b f x .near).natAbs ≤ x.natAbs := by
  by_cases hx : x = 0
  · subst hx
    rw [nr_exact (by simp)]
    simp
  · have := nr_near (f := f) (x := x) hb
    have := ul_le hb hf hx
    omega
theorem nr_le {G : Int} (hb : 2 ≤ b) (hG : 0 ≤ G) (h : (x.natAbs : Int) ≤ G * (ul b f x : Int)) : ((nr b f x way).natAbs : Int) ≤ G * (ul b f x : Int) := by
  obtain ⟨q, l, e1, e2, e3, h1, h2⟩ := qr (b := b) (f := f) (x := x) hb
  unfold nr
  rw [e1, e2]
  have up : (0 : Int) < (ul b f x : Int) := by have := ul_pos (f := f) (x := x) hb; omega
  generalize (ul b f x : Int) = u at *
  have low : -G ≤ q := by
    have : -(G + 1) * u < q * u := by
      have : -(G + 1) * u = -(G * u) - u := by rw [Int.neg_mul, Int.add_mul]; omega
      omega
    have := Int.lt_of_mul_lt_mul_right this (by omega)
    omega
  have hi : q ≤ G := by
    have : q * u ≤ G * u := by omega
    exact Int.le_of_mul_le_mul_right this up
  have step : ∀ st : Int, (st = 0 ∨ (st = 1 ∧ 0 < l)) → (((q + st) * u).natAbs : Int) ≤ G * u := fun st hs => by
    have a1 : -G ≤ q + st := by omega
    have a2 : q + st ≤ G := by
      rcases hs with rfl | ⟨rfl, hl⟩
      · omega
      · have : q * u < G * u := by omega
        have := Int.lt_of_mul_lt_mul_right this (by omega)
        omega
    have b1 := Int.mul_le_mul_of_nonneg_right a1 (Int.le_of_lt up)
    have b2 := Int.mul_le_mul_of_nonneg_right a2 (Int.le_of_lt up)
    rw [Int.neg_mul] at b1
    omega
  apply step
  by_cases hl : ledUp q l u x way = true
  · rw [if_pos hl]
    refine .inr ⟨rfl, ?_⟩
    have : l ≠ 0 := fun e => by
      subst e
      cases way <;> simp [ledUp] at hl
    omega
  · rw [if_neg hl]
    exact .inl rfl
theorem spn_r (hb : 2 ≤ b) (h : x.natAbs ≤ gtop b f r) : spn b (b ^ f) x.natAbs ≤ r := by
  refine spn_le hb (Nat.pow_pos (by omega)) ?_
  unfold gtop at h
  have bf : 0 < b ^ f := Nat.pow_pos (by omega)
  have bp : 0 < b ^ r := Nat.pow_pos (by omega)
  have := Nat.mul_lt_mul_of_pos_right (show b ^ f - 1 < b ^ f by omega) bp
  omega
theorem gtop_ul (hb : 2 ≤ b) (h : x.natAbs ≤ gtop b f r) : ∃ G : Int, 0 ≤ G ∧ (gtop b f r : Int) = G * (ul b f x : Int) := by
  have hk := spn_r hb h
  refine ⟨(((b ^ f - 1) * b ^ (r - spn b (b ^ f) x.natAbs) : Nat) : Int), by omega, ?_⟩
  unfold gtop ul
  rw [← Int.natCast_mul, Nat.mul_assoc, ← Nat.pow_add]
  congr 3
  omega
theorem nr_top (hb : 2 ≤ b) (h : x.natAbs ≤ gtop b f r) : (nr b f x way).natAbs ≤ gtop b f r := by
  obtain ⟨G, hG, e⟩ := gtop_ul hb h
  have := nr_le (way := way) hb hG (show (x.natAbs : Int) ≤ G * (ul b f x : Int) by omega)
  omega
theorem nr_grid (hb : 2 ≤ b) (hf : 1 ≤ f) (h : x.natAbs ≤ gtop b f r) : onGrid b f r (nr b f x way) := by
  have hk := spn_r hb h
  have ht := nr_top (way := way) hb h
  have bf : 0 < b ^ f := Nat.pow_pos (by omega)
  obtain ⟨q, hq⟩ : ∃ q : Int, nr b f x way = q * (b : Int) ^ spn b (b ^ f) x.natAbs := ⟨_, by unfold nr; rw [ul_int]⟩
  have hq2 : q.natAbs ≤ b ^ f := by
    have e1 : (x.natAbs : Int) ≤ ((b ^ f : Nat) : Int) * (ul b f x : Int) := by
      have := spn_lt hb bf (a := x.natAbs)
      rw [← Int.natCast_mul]
      unfold ul
      omega
    have e2 := nr_le (way := way) hb (by omega) e1
    rw [hq, Int.natAbs_mul, ← ul_int, Int.natAbs_natCast, ← Int.natCast_mul] at e2
    exact Nat.le_of_mul_le_mul_right (by omega) (ul_pos (f := f) (x := x) hb)
  generalize spn b (b ^ f) x.natAbs = k at *
  by_cases hlt : q.natAbs < b ^ f
  · exact onGrid_of hb hq hlt hk
  · have hqe : q.natAbs = b ^ f := by omega
    have hkr : k < r := by
      apply Classical.byContradiction
      intro hn
      have hkr : k = r := by omega
      subst hkr
      rw [hq, Int.natAbs_mul, Int.natAbs_pow, Int.natAbs_natCast, hqe] at ht
      unfold gtop at ht
      have bp : 0 < b ^ k := Nat.pow_pos (by omega)
      have := Nat.mul_lt_mul_of_pos_right (show b ^ f - 1 < b ^ f by omega) bp
      omega
    have e1 : b ^ f = b ^ (f - 1) * b := by rw [← Nat.pow_succ]; congr 1; omega
    have lt : b ^ (f - 1) < b ^ f := Nat.pow_lt_pow_right (by omega) (by omega)
    have e2 : ((b ^ f : Nat) : Int) * (b : Int) ^ k = ((b ^ (f - 1) : Nat) : Int) * (b : Int) ^ (k + 1) := by
      rw [e1, Int.pow_succ, Int.natCast_mul, Int.mul_assoc, Int.mul_comm (b : Int)]
    rcases Int.natAbs_eq q with e | e
    · refine onGrid_of (m := ((b ^ (f - 1) : Nat) : Int)) (e := k + 1) hb ?_ ?_ hkr
      · rw [hq, e, hqe, e2]
      · rw [Int.natAbs_natCast]; exact lt
    · refine onGrid_of (m := -((b ^ (f - 1) : Nat) : Int)) (e := k + 1) hb ?_ ?_ hkr
      · rw [hq, e, hqe, Int.neg_mul, e2, Int.neg_mul]
      · rw [Int.natAbs_neg, Int.natAbs_natCast]; exact lt
theorem ul_neg : ul b f (-x) = ul b f x := by unfold ul; rw [Int.natAbs_neg]
theorem nr_neg (hb : 2 ≤ b) : nr b f (-x) .near = - nr b f x .near := by
  obtain ⟨q, l, e1, e2, e3, h1, h2⟩ := qr (b := b) (f := f) (x := x) hb
  unfold nr
  rw [ul_neg, e1, e2]
  have up : (0 : Int) < (ul b f x : Int) := by have := ul_pos (f := f) (x := x) hb; omega
  generalize (ul b f x : Int) = u at *
  by_cases hl : l = 0
  · subst hl
    have hh := (Int.ediv_emod_unique up (a := -x) (r := 0) (q := -q)).mpr ⟨by rw [e3]; rw [Int.mul_comm u, Int.neg_mul]; omega, by omega, up⟩
    rw [hh.1, hh.2]
    simp [ledUp, Int.neg_mul]
  · have hh := (Int.ediv_emod_unique up (a := -x) (r := u - l) (q := -q - 1)).mpr ⟨by rw [e3, Int.mul_sub, Int.mul_comm u, Int.neg_mul]; omega, by omega, by omega⟩
    rw [hh.1, hh.2]
    have hl2 : ¬ (u - l = 0) := by omega
    have opp : ledUp (-q - 1) (u - l) u (-x) .near = !(ledUp q l u x .near) := by
      simp only [ledUp, decide_eq_false hl, decide_eq_false hl2, Bool.not_false, Bool.true_and]
      rcases Int.lt_trichotomy u (2 * l) with h | h | h
      · rw [decide_eq_false (show ¬ u < 2 * (u - l) by omega), decide_eq_true h, decide_eq_false (show ¬ (2 * (u - l) = u) by omega)]; simp
      · rw [decide_eq_false (show ¬ u < 2 * (u - l) by omega), decide_eq_false (show ¬ u < 2 * l by omega), decide_eq_true (show (2 * (u - l) = u) by omega), decide_eq_true h.symm]
        simp only [Bool.false_or, Bool.true_and]
        by_cases hq : q % 2 = 1
        · rw [decide_eq_true hq, decide_eq_false (show ¬ ((-q - 1) % 2 = 1) by omega)]; rfl
        · rw [decide_eq_false hq, decide_eq_true (show ((-q - 1) % 2 = 1) by omega)]; rfl
      · rw [decide_eq_true (show u < 2 * (u - l) by omega), decide_eq_false (show ¬ u < 2 * l by omega), decide_eq_false (show ¬ (2 * l = u) by omega)]; simp
    rw [opp, ← Int.neg_mul]
    congr 1
    cases ledUp q l u x .near <;> simp <;> omega
end
section
variable {b f r : Nat} {x : Int} {way : Way}
theorem nr_on (h : onGrid b f r x) : nr b f x way = x := nr_exact (by rw [ul_int]; exact h.2)
theorem prod_rest {y z : Int} (hb : 2 ≤ b) (hf : 1 ≤ f) (hy : onGrid b f r y) (hz : onGrid b f r z) (hx : x = y * z) (ht : x.natAbs ≤ gtop b f r) : onGrid b f r (x - nr b f x .near) := by
  obtain ⟨m1, e1, h1, h2, _⟩ := onGrid_parts hb hy
  obtain ⟨m2, e2, h3, h4, _⟩ := onGrid_parts hb hz
  have hk := spn_r hb ht
  have bf : 0 < b ^ f := Nat.pow_pos (by omega)
  have hx2 : x = m1 * m2 * (b : Int) ^ (e1 + e2) := by
    rw [hx, h1, h3, Int.pow_add]
    simp only [Int.mul_assoc, Int.mul_left_comm, Int.mul_comm]
  by_cases hc : spn b (b ^ f) x.natAbs ≤ e1 + e2
  · have : nr b f x .near = x := nr_exact (by
      rw [ul_int, hx2]
      rw [← hx2]
      exact Int.emod_eq_zero_of_dvd (by rw [hx2]; rw [← hx2]; exact Int.dvd_trans (dvd_pow_int hc) ⟨m1 * m2, by rw [Int.mul_comm, ← hx2]⟩))
    rw [this, Int.sub_self]
    exact onGrid_of (m := 0) (e := 0) hb (by simp) (by simpa using bf) (Nat.zero_le _)
  · -- the rest is a multiple of the product's last place
    obtain ⟨q, hq⟩ : ∃ q : Int, nr b f x .near = q * (b : Int) ^ spn b (b ^ f) x.natAbs := ⟨_, by unfold nr; rw [ul_int]⟩
    obtain ⟨c, hc2⟩ := dvd_pow_int (b := b) (i := e1 + e2) (j := spn b (b ^ f) x.natAbs) (by omega)
    have near := nr_near (f := f) (x := x) hb
    have hr : x - nr b f x .near = (m1 * m2 - q * c) * (b : Int) ^ (e1 + e2) := by
      rw [hq, hc2, Int.sub_mul, ← hx2, Int.mul_assoc, Int.mul_comm c]
    have kle : spn b (b ^ f) x.natAbs ≤ e1 + e2 + f := by
      refine spn_le hb bf ?_
      rw [hx2, Int.natAbs_mul, Int.natAbs_pow, Int.natAbs_natCast, Int.natAbs_mul]
      have h5 : m1.natAbs * m2.natAbs < b ^ f * b ^ f := Nat.mul_lt_mul'' h2 h4
      have h6 := Nat.mul_lt_mul_of_pos_right h5 (Nat.pow_pos (n := e1 + e2) (show 0 < b by omega))
      have e9 : b ^ f * b ^ (e1 + e2 + f) = b ^ f * b ^ f * b ^ (e1 + e2) := by rw [Nat.pow_add _ (e1 + e2) f, Nat.mul_comm (b ^ (e1 + e2)), Nat.mul_assoc]
      rw [e9]
      exact h6
    refine onGrid_of hb hr ?_ (show e1 + e2 ≤ r by omega)
    have ule : ul b f x ≤ b ^ (e1 + e2) * b ^ f := by
      rw [← Nat.pow_add]
      exact Nat.pow_le_pow_right (by omega) kle
    have na : (x - nr b f x .near).natAbs = (m1 * m2 - q * c).natAbs * b ^ (e1 + e2) := by
      rw [hr, Int.natAbs_mul, Int.natAbs_pow, Int.natAbs_natCast]
    apply Classical.byContradiction
    intro hn
    have h7 := Nat.mul_le_mul_right (b ^ (e1 + e2)) (show b ^ f ≤ (m1 * m2 - q * c).natAbs by omega)
    have h8 : 0 < b ^ f * b ^ (e1 + e2) := Nat.mul_pos bf (Nat.pow_pos (by omega))
    rw [Nat.mul_comm (b ^ (e1 + e2))] at ule
    omega
/-- the parts of a whole number, the nearest first -/
def parts (b f : Nat) (x : Int) : List Int := if h : x ≠ 0 ∧ (x - nr b f x .near).natAbs < x.natAbs then nr b f x .near :: parts b f (x - nr b f x .near) else []
termination_by x.natAbs
decreasing_by exact h.2
theorem parts_0 : parts b f 0 = [] := by rw [parts, dif_neg (by simp)]
theorem parts_s (hb : 2 ≤ b) (hf : 1 ≤ f) (hx : x ≠ 0) : parts b f x = nr b f x .near :: parts b f (x - nr b f x .near) := by
  have := nr_less (x := x) hb hf
  rw [parts, dif_pos ⟨hx, by omega⟩]
theorem parts_ind (hb : 2 ≤ b) (hf : 1 ≤ f) {p : Int → Prop} (h0 : p 0) (hs : ∀ x, x ≠ 0 → 2 * (x - nr b f x .near).natAbs ≤ x.natAbs → p (x - nr b f x .near) → p x) : ∀ x, p x := by
  have go : ∀ (k : Nat) (x : Int), x.natAbs ≤ k → p x := by
    intro k
    induction k with
    | zero => intro x hx; have : x = 0 := by omega
              subst this; exact h0
    | succ k ih =>
      intro x hx
      by_cases h : x = 0
      · subst h; exact h0
      · have := nr_less (x := x) hb hf
        exact hs x h this (ih _ (by omega))
  exact fun x => go x.natAbs x (Nat.le_refl _)
theorem parts_sum (hb : 2 ≤ b) (hf : 1 ≤ f) : ∀ x, (parts b f x).sum = x := parts_ind hb hf (by rw [parts_0]; rfl) fun x hx _ ih => by
  rw [parts_s hb hf hx, List.sum_cons, ih]
  omega
theorem parts_neg (hb : 2 ≤ b) (hf : 1 ≤ f) : ∀ x, parts b f (-x) = (parts b f x).map fun y => -y := parts_ind hb hf (by rw [Int.neg_zero, parts_0]; rfl) fun x hx _ ih => by
  rw [parts_s hb hf hx, parts_s hb hf (by omega), nr_neg hb, List.map_cons, ← ih]
  congr 2
  omega
theorem parts_grid (hb : 2 ≤ b) (hf : 1 ≤ f) : ∀ x : Int, x.natAbs ≤ gtop b f r → ∀ y ∈ parts b f x, onGrid b f r y := parts_ind hb hf (by rw [parts_0]; simp) fun x hx hl ih ht y hy => by
  rw [parts_s hb hf hx] at hy
  rcases List.mem_cons.mp hy with rfl | hy
  · exact nr_grid hb hf ht
  · exact ih (by omega) y hy
theorem parts_len (hb : 2 ≤ b) (hf : 1 ≤ f) : ∀ (x : Int) (k : Nat), x.natAbs < 2 ^ k → (parts b f x).length ≤ k := parts_ind hb hf (by rw [parts_0]; simp) fun x hx hl ih k hk => by
  rw [parts_s hb hf hx, List.length_cons]
  cases k with
  | zero => rw [Nat.pow_zero] at hk; omega
  | succ k =>
    rw [Nat.pow_succ] at hk
    have := ih k (by omega)
    omega
theorem parts_on (hb : 2 ≤ b) (hf : 1 ≤ f) (hx : x ≠ 0) (h : onGrid b f r x) : parts b f x = [x] := by
  rw [parts_s hb hf hx, nr_on h, Int.sub_self, parts_0]
/-- what is known of a product's parts -/
theorem parts_prod {y z : Int} (hb : 2 ≤ b) (hf : 1 ≤ f) (hy : onGrid b f r y) (hz : onGrid b f r z) (hx : x = y * z) (ht : x.natAbs ≤ gtop b f r) : (parts b f x).length ≤ 2 ∧ ((parts b f x).length < 2 ↔ onGrid b f r x) := by
  by_cases h0 : x = 0
  · rw [h0, parts_0]
    exact ⟨by simp, fun _ => onGrid_of (m := 0) (e := 0) hb (by simp) (by simpa using Nat.pow_pos (n := f) (show 0 < b by omega)) (Nat.zero_le _), fun _ => by simp⟩
  · by_cases h1 : onGrid b f r x
    · rw [parts_on hb hf h0 h1]
      exact ⟨by simp, fun _ => h1, fun _ => by simp⟩
    · have h2 := prod_rest hb hf hy hz hx ht
      have h3 : x - nr b f x .near ≠ 0 := fun e => h1 (by
        have : x = nr b f x .near := by omega
        rw [this]
        exact nr_grid hb hf ht)
      rw [parts_s hb hf h0, parts_on hb hf h3 h2]
      exact ⟨by simp, fun h => by simp at h, fun h => absurd h h1⟩
end
theorem rnd_nr {b f r m : Nat} {x : Int} {way : Way} (hb : 2 ≤ b) (h : x.natAbs ≤ gtop b (f + m) r) : rndD b f r m x 1 way = .int (nr b (f + m) x way) := by
  unfold rndD
  rw [rnum_nr, if_pos (nr_top hb h)]
theorem allInt_map : ∀ xs : List Int, allInt (xs.map D.int) = some xs
  | [] => rfl
  | x :: xs => by simp [allInt, allInt_map xs]
theorem allBl_map {α : Type} (p : α → Bool) : ∀ xs : List α, allBl (xs.map fun x => D.bl (p x)) = some (xs.map p)
  | [] => rfl
  | x :: xs => by simp [allBl, allBl_map p xs]
section
variable {fuel n : Nat} {s : Sto} {Q : D → Sto → Prop} {k b f r p : Nat} {x : Int}
end
theorem toPyL_int {xs : List Int} : toPy (.tup (xs.map D.int)) = some (.tuple (xs.map PyData.int)) := by
  show (match toPyL (xs.map D.int) with | some ys => some (PyData.tuple ys) | none => none) = _
  rw [toPyL_ints]
theorem eqv_ints : ∀ xs ys : List Int, PyData.eqvAll (xs.map PyData.int) (ys.map PyData.int) = decide (xs = ys)
  | [], [] => rfl
  | [], y :: ys => rfl
  | x :: xs, [] => rfl
  | x :: xs, y :: ys => by
    show (x == y && PyData.eqvAll (xs.map PyData.int) (ys.map PyData.int)) = _
    rw [eqv_ints xs ys]
    by_cases h : x = y <;> by_cases h2 : xs = ys <;> simp [h, h2]
theorem canLay_ints : ∀ xs : List Int, PyData.canLayAll0 (xs.map PyData.int) = true ∧ PyData.depthAll (xs.map PyData.int) ≤ 1
  | [] => ⟨rfl, by simp [PyData.depthAll]⟩
  | x :: xs => by
    obtain ⟨h1, h2⟩ := canLay_ints xs
    refine ⟨?_, ?_⟩
    · simp [PyData.canLayAll0, PyData.canLay0, h1]
    · simp only [List.map_cons, PyData.depthAll, PyData.depth]
      omega
theorem eqD_ints {s : Sto} {xs ys : List Int} : eqD s (.tup (xs.map D.int)) (.tup (ys.map D.int)) = some (decide (xs = ys)) := by
  show (match toPy (.tup (xs.map D.int)), toPy (.tup (ys.map D.int)) with | some a, some b => if SeqAt.shaped a = true ∧ SeqAt.shaped b = true then some (PyData.eqv a b) else none | _, _ => none) = _
  rw [toPyL_int, toPyL_int]
  have sh : ∀ zs : List Int, SeqAt.shaped (.tuple (zs.map PyData.int)) = true := fun zs => by
    obtain ⟨h1, h2⟩ := canLay_ints zs
    unfold SeqAt.shaped
    rw [Bool.and_eq_true]
    exact ⟨h1, decide_eq_true (show PyData.depthAll (zs.map PyData.int) + 1 ≤ 64 by omega)⟩
  simp only
  rw [if_pos ⟨sh xs, sh ys⟩]
  exact congrArg some (eqv_ints xs ys)
theorem eqD_nil {s : Sto} {xs : List Int} : eqD s (.tup (xs.map D.int)) (.tup []) = some (decide (xs = [])) := eqD_ints (ys := [])
theorem eqD_bl {s : Sto} {a b : Bool} : eqD s (.bl a) (.bl b) = some (a == b) := by
  cases a <;> cases b <;> rfl
theorem PotAt.mono {s : Sto} {p N M : Nat} (h : PotAt s p N) (a : N ≤ M) (b : M < 2 ^ 1000) : PotAt s p M := by
  obtain ⟨a1, b1, c1, h1, h2, h3, h4⟩ := h.ex
  exact ⟨b, a1, b1, c1, h1, h2, h3, by omega⟩
theorem PotAt.lt {s : Sto} {p N : Nat} (h : PotAt s p N) : p < s.length := by
  obtain ⟨a1, b1, c1, h1, _⟩ := h.ex
  exact (List.getElem?_eq_some_iff.mp h1).1
theorem PotAt.app {s : Sto} {p N : Nat} (h : PotAt s p N) (m : Sto) : PotAt (s ++ m) p N := h.gr (.app m)
section
variable {b f r : Nat} {x : Int} {way : Way}
theorem nr_ge {G : Int} (hb : 2 ≤ b) (hG : 0 ≤ G) (h : G * (ul b f x : Int) ≤ (x.natAbs : Int)) : G * (ul b f x : Int) ≤ ((nr b f x way).natAbs : Int) := by
  obtain ⟨q, l, e1, e2, e3, h1, h2⟩ := qr (b := b) (f := f) (x := x) hb
  unfold nr
  rw [e1, e2]
  have up : (0 : Int) < (ul b f x : Int) := by have := ul_pos (f := f) (x := x) hb; omega
  generalize (ul b f x : Int) = u at *
  have hst : ∃ st : Int, (st = 0 ∨ (st = 1 ∧ 0 < l)) ∧ (if ledUp q l u x way = true then 1 else 0) = st := by
    by_cases hl : ledUp q l u x way = true
    · rw [if_pos hl]
      refine ⟨1, .inr ⟨rfl, ?_⟩, rfl⟩
      have : l ≠ 0 := fun e => by
        subst e
        cases way <;> simp [ledUp] at hl
      omega
    · rw [if_neg hl]
      exact ⟨0, .inl rfl, rfl⟩
  obtain ⟨st, hs, est⟩ := hst
  rw [est]
  rcases Int.lt_or_le x 0 with hx | hx
  · have h3 : q * u + l ≤ -(G * u) := by omega
    have h4 : (q + st) ≤ -G := by
      rcases hs with rfl | ⟨rfl, hl⟩
      · have : q * u ≤ -G * u := by rw [Int.neg_mul]; omega
        have := Int.le_of_mul_le_mul_right this up
        omega
      · have : q * u < -G * u := by rw [Int.neg_mul]; omega
        have := Int.lt_of_mul_lt_mul_right this (by omega)
        omega
    have h5 := Int.mul_le_mul_of_nonneg_right h4 (Int.le_of_lt up)
    rw [Int.neg_mul] at h5
    omega
  · have h3 : G * u < (q + 1) * u := by rw [Int.add_mul]; omega
    have h4 := Int.lt_of_mul_lt_mul_right h3 (by omega)
    have h5 := Int.mul_le_mul_of_nonneg_right (show G ≤ q + st by omega) (Int.le_of_lt up)
    omega
/-- what is rounded and is not beyond the greatest is of the grid -/
theorem nr_grid2 (hb : 2 ≤ b) (hf : 1 ≤ f) (h : (nr b f x way).natAbs ≤ gtop b f r) : onGrid b f r (nr b f x way) := by
  rcases Nat.lt_or_ge (gtop b f r) x.natAbs with hx | hx
  rotate_left
  · exact nr_grid hb hf hx
  -- x is beyond the greatest, the rounded one is not: it is the greatest
  have bf : 0 < b ^ f := Nat.pow_pos (by omega)
  have hk : spn b (b ^ f) x.natAbs ≤ r := by
    apply Classical.byContradiction
    intro hn
    obtain ⟨k, hk⟩ : ∃ k, spn b (b ^ f) x.natAbs = k + 1 := ⟨spn b (b ^ f) x.natAbs - 1, by omega⟩
    have h1 := spn_ge (i := k) hb bf (a := x.natAbs) (by omega)
    have eu : ul b f x = b ^ (k + 1) := by unfold ul; rw [hk]
    have e1 : b ^ f = b ^ (f - 1) * b := by rw [← Nat.pow_succ]; congr 1; omega
    have e2 : ((b ^ (f - 1) : Nat) : Int) * (ul b f x : Int) = ((b ^ f * b ^ k : Nat) : Int) := by
      rw [eu, e1, ← Int.natCast_mul, Nat.pow_succ, Nat.mul_assoc, Nat.mul_comm b]
    have h2 := nr_ge (way := way) (G := ((b ^ (f - 1) : Nat) : Int)) hb (by omega) (by rw [e2]; omega)
    rw [e2] at h2
    have h3 : b ^ f * b ^ r ≤ b ^ f * b ^ k := Nat.mul_le_mul_left _ (Nat.pow_le_pow_right (by omega) (by omega))
    unfold gtop at h
    have h4 := Nat.mul_lt_mul_of_pos_right (show b ^ f - 1 < b ^ f by omega) (Nat.pow_pos (n := r) (show 0 < b by omega))
    omega
  obtain ⟨q, hq⟩ : ∃ q : Int, nr b f x way = q * (b : Int) ^ spn b (b ^ f) x.natAbs := ⟨_, by unfold nr; rw [ul_int]⟩
  have h6 : ((b ^ f - 1 : Nat) : Int) * ((b ^ r : Nat) : Int) ≤ ((nr b f x way).natAbs : Int) := by
    obtain ⟨G, hG, e⟩ : ∃ G : Int, 0 ≤ G ∧ (gtop b f r : Int) = G * (ul b f x : Int) := by
      refine ⟨(((b ^ f - 1) * b ^ (r - spn b (b ^ f) x.natAbs) : Nat) : Int), by omega, ?_⟩
      unfold gtop ul
      rw [← Int.natCast_mul, Nat.mul_assoc, ← Nat.pow_add]
      congr 3
      omega
    have := nr_ge (f := f) (x := x) (way := way) hb hG (by omega)
    rw [← e] at this
    unfold gtop at this
    rw [← Int.natCast_mul]
    exact this
  have h7 : (nr b f x way).natAbs = (b ^ f - 1) * b ^ r := by
    unfold gtop at h
    rw [← Int.natCast_mul] at h6
    omega
  rcases Int.natAbs_eq (nr b f x way) with e | e
  · refine onGrid_of (m := ((b ^ f - 1 : Nat) : Int)) (e := r) hb ?_ (by rw [Int.natAbs_natCast]; omega) (Nat.le_refl _)
    rw [e, h7, cast_pow, ← Int.natCast_mul]
  · refine onGrid_of (m := -((b ^ f - 1 : Nat) : Int)) (e := r) hb ?_ (by rw [Int.natAbs_neg, Int.natAbs_natCast]; omega) (Nat.le_refl _)
    rw [e, h7, cast_pow, Int.neg_mul, ← Int.natCast_mul]
theorem gtop_on (hb : 2 ≤ b) : onGrid b f r (gtop b f r) := by
  have bf : 0 < b ^ f := Nat.pow_pos (by omega)
  refine onGrid_of (m := ((b ^ f - 1 : Nat) : Int)) (e := r) hb ?_ (by rw [Int.natAbs_natCast]; omega) (Nat.le_refl _)
  unfold gtop
  rw [cast_pow, ← Int.natCast_mul]
theorem small_on (hb : 2 ≤ b) (hf : 1 ≤ f) {t : Nat} (ht : t ≤ 2) (h : t ≤ gtop b f r) : onGrid b f r (t : Int) := by
  have e1 : b ^ 1 ≤ b ^ f := Nat.pow_le_pow_right (by omega) hf
  rw [Nat.pow_one] at e1
  rcases Nat.lt_or_ge t (b ^ f) with hl | hl
  · exact onGrid_of (m := (t : Int)) (e := 0) hb (by simp) (by simpa using hl) (Nat.zero_le _)
  · have : b = 2 := by omega
    have t2 : t = 2 := by omega
    subst this
    subst t2
    refine onGrid_of (m := 1) (e := 1) hb (by simp) (by simp; omega) ?_
    apply Classical.byContradiction
    intro hn
    have : r = 0 := by omega
    subst this
    unfold gtop at h
    rw [Nat.pow_zero] at h
    omega
end
section
variable {fuel n : Nat} {s : Sto} {Q : D → Sto → Prop} {b f r p q N : Nat}
theorem rndD_cases {x : Int} (hb : 2 ≤ b) (hf : 1 ≤ f) {way : Way} : (∃ y, onGrid b f r y ∧ rndD b f r 0 x 1 way = .int y) ∨ rndD b f r 0 x 1 way = .non := by
  unfold rndD
  rw [rnum_nr, Nat.add_zero]
  split
  · rename_i h
    exact .inl ⟨_, nr_grid2 hb hf h, rfl⟩
  · exact .inr rfl
theorem a_number_ok (gp : GP b f r p) (hp : PotAt s q N) (hN : N + 4 < 2 ^ 1000) (hf : 1000 < fuel) (h : ∀ x s', onGrid b f r x → Kp q s s' → PotAt s' q (N + 4) → Q (.int x) s') :
    wp (call Z fuel (n + 4) F_law_grid_a_number [.ref q, gt b f r p] s) Q := by
  have hb := And.intro gp.b2 gp.b10
  have f1 := gp.f1
  have f30 := gp.f30
  have r60 := gp.r60
  have l4 := gtop_lt gp
  have l5 : (2 : Nat) ^ 400 < 2 ^ 500 := by decide +kernel
  have l6 : (2 : Nat) ^ 500 < 2 ^ 4000 := by decide +kernel
  have l8 : 1 < (2 : Nat) ^ 500 := by decide +kernel
  have gg : ∀ {n : Nat} {s : Sto} {Q : D → Sto → Prop}, Q (.int (gtop b f r)) s → wp (call Z fuel (n + 2) F_law_grid_greatest [gt b f r p] s) Q := fun h => ggreatest_ok (by omega) hb.2 (by omega) r60 hf h
  refine wp_call (r := d_law_grid_a_number) rfl rfl ?_
  simp only [d_law_grid_a_number, ↓wf_nil, ↓wf_cons, ↓wg_asg, ↓wf_par, ↓wf_par3, ↓wg_setF, ↓wg_setI, ↓wf_ex, ↓wf_ret, ↓wf_retN, ↓wf_pass, ↓wf_brk, ↓wf_cnt, ↓wg_ite, ↓wf_for, ↓wp_var, ↓wp_lit, ↓wp_glob, ↓wp_bin, ↓wp_dct, ↓wp_dix, ↓wp_cmpEq, ↓wp_cmpIn, ↓wp_nin, onB_b, ↓wp_cmpNe, ↓wp_neg, ↓wp_cmp, ↓wp_chain, ↓wp_not, ↓wp_and, ↓wp_or, ↓wp_ite, ↓wp_fld, ↓wp_tup, ↓wp_new, ↓wp_callE, ↓wp_meth, ↓wp_make, ↓wp_bi, ↓wp_fold, ↓wp_foldv, ↓wp_append, ↓wp_extend, ↓wp_ix, ↓wp_sl, ↓wp_slk, ↓wp_enil, ↓wp_econs, ↓wp_disp, ↓wp_lrange, ↓wp_lcomp, ↓wp_cnil, ↓wp_ccons, ↓wp_seq, ↓wp_fresh, ↓wp_irange, ↓wp_enum, ↓wp_bind, ↓wp_ok, ↓wp_if, ↓swB_bl, ↓swT_s, ↓onS_s, ↓onO_s, ↓onI_i, ↓onR_r, ↓brB_t, ↓brB_f, ↓brB_n, ↓brB_d, cls_gOf, dct_new, pairsD, keyOf, not_true_eq_false, not_false_eq_true, ixN_30, ixN_31, ixN_32, lst_new, eqD_int, eqD_non_int, fuel_gOf, atI_0, atI_1, atI_2, atI_3, atI_4, putD, List.set_set, List.contains_cons, List.contains_nil, beq_self_eq_true, Bool.or_true, Bool.true_or, Bool.or_false, Bool.false_or, Nat.reduceEqDiff, Nat.reduceLT, Nat.zero_lt_succ, T.put, setAll, wipeE, tru, binD, cmpD, biD, itemsOf, tupOk, fldP, walkP, bnd, isNon, swB_bl, swT_s, onS_s, onO_s, onI_i, onR_r, brB_t, brB_f, brB_n, brB_d, brB_and, brB_or, List.map_cons, List.map_nil, List.cons_append, List.nil_append, List.append_nil, List.replicate, List.getElem?_cons_zero, List.getElem?_cons_succ, List.set_cons_zero, List.set_cons_succ, List.length_cons, List.length_nil, Nat.reduceAdd, Nat.reduceSub, Nat.reduceLeDiff, List.lookup_cons, List.lookup_nil, true_and, and_true, Bool.not_true, Bool.not_false, if_true, if_false, reduceIte, forall_const, Bool.false_eq_true, false_implies, implies_true, true_implies, reduceCtorEq, Nat.reduceBEq, con_MOST_MORE, con_NEAR, con_MOST_REACH, con_MOST_PLACES, con_MOST_BASE, con_LEAST_BASE, con_MOST_FIGURES, con_ZERO, con_UP, con_DOWN, cls_Grid, kl0, A_own_step, A_own_bounds, A_own_tops, A_own_places, A_own_reach, A_own_figures, A_own_base, A_check, C_Grid]
  refine take_ok (u := 6) hp (by omega) (by omega) (by omega) fun way s1 hway k1 hp1 => ?_
  simp only [↓wf_nil, ↓wf_cons, ↓wg_asg, ↓wf_par, ↓wf_par3, ↓wg_setF, ↓wg_setI, ↓wf_ex, ↓wf_ret, ↓wf_retN, ↓wf_pass, ↓wf_brk, ↓wf_cnt, ↓wg_ite, ↓wf_for, ↓wp_var, ↓wp_lit, ↓wp_glob, ↓wp_bin, ↓wp_dct, ↓wp_dix, ↓wp_cmpEq, ↓wp_cmpIn, ↓wp_nin, onB_b, ↓wp_cmpNe, ↓wp_neg, ↓wp_cmp, ↓wp_chain, ↓wp_not, ↓wp_and, ↓wp_or, ↓wp_ite, ↓wp_fld, ↓wp_tup, ↓wp_new, ↓wp_callE, ↓wp_meth, ↓wp_make, ↓wp_bi, ↓wp_fold, ↓wp_foldv, ↓wp_append, ↓wp_extend, ↓wp_ix, ↓wp_sl, ↓wp_slk, ↓wp_enil, ↓wp_econs, ↓wp_disp, ↓wp_lrange, ↓wp_lcomp, ↓wp_cnil, ↓wp_ccons, ↓wp_seq, ↓wp_fresh, ↓wp_irange, ↓wp_enum, ↓wp_bind, ↓wp_ok, ↓wp_if, ↓swB_bl, ↓swT_s, ↓onS_s, ↓onO_s, ↓onI_i, ↓onR_r, ↓brB_t, ↓brB_f, ↓brB_n, ↓brB_d, cls_gOf, dct_new, pairsD, keyOf, not_true_eq_false, not_false_eq_true, ixN_30, ixN_31, ixN_32, lst_new, eqD_int, eqD_non_int, fuel_gOf, atI_0, atI_1, atI_2, atI_3, atI_4, putD, List.set_set, List.contains_cons, List.contains_nil, beq_self_eq_true, Bool.or_true, Bool.true_or, Bool.or_false, Bool.false_or, Nat.reduceEqDiff, Nat.reduceLT, Nat.zero_lt_succ, T.put, setAll, wipeE, tru, binD, cmpD, biD, itemsOf, tupOk, fldP, walkP, bnd, isNon, swB_bl, swT_s, onS_s, onO_s, onI_i, onR_r, brB_t, brB_f, brB_n, brB_d, brB_and, brB_or, List.map_cons, List.map_nil, List.cons_append, List.nil_append, List.append_nil, List.replicate, List.getElem?_cons_zero, List.getElem?_cons_succ, List.set_cons_zero, List.set_cons_succ, List.length_cons, List.length_nil, Nat.reduceAdd, Nat.reduceSub, Nat.reduceLeDiff, List.lookup_cons, List.lookup_nil, true_and, and_true, Bool.not_true, Bool.not_false, if_true, if_false, reduceIte, forall_const, Bool.false_eq_true, false_implies, implies_true, true_implies, reduceCtorEq, Nat.reduceBEq, con_MOST_MORE, con_NEAR, con_MOST_REACH, con_MOST_PLACES, con_MOST_BASE, con_LEAST_BASE, con_MOST_FIGURES, con_ZERO, con_UP, con_DOWN, cls_Grid, kl0, A_own_step, A_own_bounds, A_own_tops, A_own_places, A_own_reach, A_own_figures, A_own_base, A_check, C_Grid]
  refine gg ?_
  simp only [↓wf_nil, ↓wf_cons, ↓wg_asg, ↓wf_par, ↓wf_par3, ↓wg_setF, ↓wg_setI, ↓wf_ex, ↓wf_ret, ↓wf_retN, ↓wf_pass, ↓wf_brk, ↓wf_cnt, ↓wg_ite, ↓wf_for, ↓wp_var, ↓wp_lit, ↓wp_glob, ↓wp_bin, ↓wp_dct, ↓wp_dix, ↓wp_cmpEq, ↓wp_cmpIn, ↓wp_nin, onB_b, ↓wp_cmpNe, ↓wp_neg, ↓wp_cmp, ↓wp_chain, ↓wp_not, ↓wp_and, ↓wp_or, ↓wp_ite, ↓wp_fld, ↓wp_tup, ↓wp_new, ↓wp_callE, ↓wp_meth, ↓wp_make, ↓wp_bi, ↓wp_fold, ↓wp_foldv, ↓wp_append, ↓wp_extend, ↓wp_ix, ↓wp_sl, ↓wp_slk, ↓wp_enil, ↓wp_econs, ↓wp_disp, ↓wp_lrange, ↓wp_lcomp, ↓wp_cnil, ↓wp_ccons, ↓wp_seq, ↓wp_fresh, ↓wp_irange, ↓wp_enum, ↓wp_bind, ↓wp_ok, ↓wp_if, ↓swB_bl, ↓swT_s, ↓onS_s, ↓onO_s, ↓onI_i, ↓onR_r, ↓brB_t, ↓brB_f, ↓brB_n, ↓brB_d, cls_gOf, dct_new, pairsD, keyOf, not_true_eq_false, not_false_eq_true, ixN_30, ixN_31, ixN_32, lst_new, eqD_int, eqD_non_int, fuel_gOf, atI_0, atI_1, atI_2, atI_3, atI_4, putD, List.set_set, List.contains_cons, List.contains_nil, beq_self_eq_true, Bool.or_true, Bool.true_or, Bool.or_false, Bool.false_or, Nat.reduceEqDiff, Nat.reduceLT, Nat.zero_lt_succ, T.put, setAll, wipeE, tru, binD, cmpD, biD, itemsOf, tupOk, fldP, walkP, bnd, isNon, swB_bl, swT_s, onS_s, onO_s, onI_i, onR_r, brB_t, brB_f, brB_n, brB_d, brB_and, brB_or, List.map_cons, List.map_nil, List.cons_append, List.nil_append, List.append_nil, List.replicate, List.getElem?_cons_zero, List.getElem?_cons_succ, List.set_cons_zero, List.set_cons_succ, List.length_cons, List.length_nil, Nat.reduceAdd, Nat.reduceSub, Nat.reduceLeDiff, List.lookup_cons, List.lookup_nil, true_and, and_true, Bool.not_true, Bool.not_false, if_true, if_false, reduceIte, forall_const, Bool.false_eq_true, false_implies, implies_true, true_implies, reduceCtorEq, Nat.reduceBEq, con_MOST_MORE, con_NEAR, con_MOST_REACH, con_MOST_PLACES, con_MOST_BASE, con_LEAST_BASE, con_MOST_FIGURES, con_ZERO, con_UP, con_DOWN, cls_Grid, kl0, A_own_step, A_own_bounds, A_own_tops, A_own_places, A_own_reach, A_own_figures, A_own_base, A_check, C_Grid]
  -- the end: a sign
  have fin : ∀ (y : Int) (s2 : Sto) (M : Nat) (Q' : D → Sto → Prop), (∀ d s3, Kp q s s3 → PotAt s3 q (N + 4) → d < 3 → Q' (.int ((d : Nat) : Int)) s3) → Kp q s s2 → PotAt s2 q M → M ≤ N + 3 → wp (call Z fuel (n + 3) F_law_take [.ref q, .int 3] s2) Q' := fun y s2 M Q' hq kp hpp hM =>
    take_ok (u := 3) (hpp.mono hM (by omega)) (by omega) (by omega) (by omega) fun d s3 hd k3 hp3 => hq d s3 (kp.trans k3) hp3 hd
  have last : ∀ (y : Int) (d : Nat) (s3 : Sto), onGrid b f r y → Kp q s s3 → PotAt s3 q (N + 4) → ((((d : Int) = 0) → Q (.int (-y)) s3) ∧ (¬ ((d : Int) = 0) → Q (.int y) s3)) := fun y d s3 hy k3 hp3 =>
    ⟨fun _ => h _ _ (onGrid_neg hy) k3 hp3, fun _ => h _ _ hy k3 hp3⟩
  have zw : (.str (Str.ofString "zero") : D) = .str Way.zero.s := rfl
  refine ⟨fun c => ?_, fun c => ?_⟩
  · refine take_ok (u := 3) hp1 (by omega) (by omega) (by omega) fun t s2 ht k2 hp2 => ?_
    simp only [↓wf_nil, ↓wf_cons, ↓wg_asg, ↓wf_par, ↓wf_par3, ↓wg_setF, ↓wg_setI, ↓wf_ex, ↓wf_ret, ↓wf_retN, ↓wf_pass, ↓wf_brk, ↓wf_cnt, ↓wg_ite, ↓wf_for, ↓wp_var, ↓wp_lit, ↓wp_glob, ↓wp_bin, ↓wp_dct, ↓wp_dix, ↓wp_cmpEq, ↓wp_cmpIn, ↓wp_nin, onB_b, ↓wp_cmpNe, ↓wp_neg, ↓wp_cmp, ↓wp_chain, ↓wp_not, ↓wp_and, ↓wp_or, ↓wp_ite, ↓wp_fld, ↓wp_tup, ↓wp_new, ↓wp_callE, ↓wp_meth, ↓wp_make, ↓wp_bi, ↓wp_fold, ↓wp_foldv, ↓wp_append, ↓wp_extend, ↓wp_ix, ↓wp_sl, ↓wp_slk, ↓wp_enil, ↓wp_econs, ↓wp_disp, ↓wp_lrange, ↓wp_lcomp, ↓wp_cnil, ↓wp_ccons, ↓wp_seq, ↓wp_fresh, ↓wp_irange, ↓wp_enum, ↓wp_bind, ↓wp_ok, ↓wp_if, ↓swB_bl, ↓swT_s, ↓onS_s, ↓onO_s, ↓onI_i, ↓onR_r, ↓brB_t, ↓brB_f, ↓brB_n, ↓brB_d, cls_gOf, dct_new, pairsD, keyOf, not_true_eq_false, not_false_eq_true, ixN_30, ixN_31, ixN_32, lst_new, eqD_int, eqD_non_int, fuel_gOf, atI_0, atI_1, atI_2, atI_3, atI_4, putD, List.set_set, List.contains_cons, List.contains_nil, beq_self_eq_true, Bool.or_true, Bool.true_or, Bool.or_false, Bool.false_or, Nat.reduceEqDiff, Nat.reduceLT, Nat.zero_lt_succ, T.put, setAll, wipeE, tru, binD, cmpD, biD, itemsOf, tupOk, fldP, walkP, bnd, isNon, swB_bl, swT_s, onS_s, onO_s, onI_i, onR_r, brB_t, brB_f, brB_n, brB_d, brB_and, brB_or, List.map_cons, List.map_nil, List.cons_append, List.nil_append, List.append_nil, List.replicate, List.getElem?_cons_zero, List.getElem?_cons_succ, List.set_cons_zero, List.set_cons_succ, List.length_cons, List.length_nil, Nat.reduceAdd, Nat.reduceSub, Nat.reduceLeDiff, List.lookup_cons, List.lookup_nil, true_and, and_true, Bool.not_true, Bool.not_false, if_true, if_false, reduceIte, forall_const, Bool.false_eq_true, false_implies, implies_true, true_implies, reduceCtorEq, Nat.reduceBEq, con_MOST_MORE, con_NEAR, con_MOST_REACH, con_MOST_PLACES, con_MOST_BASE, con_LEAST_BASE, con_MOST_FIGURES, con_ZERO, con_UP, con_DOWN, cls_Grid, kl0, A_own_step, A_own_bounds, A_own_tops, A_own_places, A_own_reach, A_own_figures, A_own_base, A_check, C_Grid]
    refine fin 0 s2 _ _ (fun d s3 k3 hp3 hd => ?_) (k1.trans k2) hp2 (by omega)
    simp only [↓wf_nil, ↓wf_cons, ↓wg_asg, ↓wf_par, ↓wf_par3, ↓wg_setF, ↓wg_setI, ↓wf_ex, ↓wf_ret, ↓wf_retN, ↓wf_pass, ↓wf_brk, ↓wf_cnt, ↓wg_ite, ↓wf_for, ↓wp_var, ↓wp_lit, ↓wp_glob, ↓wp_bin, ↓wp_dct, ↓wp_dix, ↓wp_cmpEq, ↓wp_cmpIn, ↓wp_nin, onB_b, ↓wp_cmpNe, ↓wp_neg, ↓wp_cmp, ↓wp_chain, ↓wp_not, ↓wp_and, ↓wp_or, ↓wp_ite, ↓wp_fld, ↓wp_tup, ↓wp_new, ↓wp_callE, ↓wp_meth, ↓wp_make, ↓wp_bi, ↓wp_fold, ↓wp_foldv, ↓wp_append, ↓wp_extend, ↓wp_ix, ↓wp_sl, ↓wp_slk, ↓wp_enil, ↓wp_econs, ↓wp_disp, ↓wp_lrange, ↓wp_lcomp, ↓wp_cnil, ↓wp_ccons, ↓wp_seq, ↓wp_fresh, ↓wp_irange, ↓wp_enum, ↓wp_bind, ↓wp_ok, ↓wp_if, ↓swB_bl, ↓swT_s, ↓onS_s, ↓onO_s, ↓onI_i, ↓onR_r, ↓brB_t, ↓brB_f, ↓brB_n, ↓brB_d, cls_gOf, dct_new, pairsD, keyOf, not_true_eq_false, not_false_eq_true, ixN_30, ixN_31, ixN_32, lst_new, eqD_int, eqD_non_int, fuel_gOf, atI_0, atI_1, atI_2, atI_3, atI_4, putD, List.set_set, List.contains_cons, List.contains_nil, beq_self_eq_true, Bool.or_true, Bool.true_or, Bool.or_false, Bool.false_or, Nat.reduceEqDiff, Nat.reduceLT, Nat.zero_lt_succ, T.put, setAll, wipeE, tru, binD, cmpD, biD, itemsOf, tupOk, fldP, walkP, bnd, isNon, swB_bl, swT_s, onS_s, onO_s, onI_i, onR_r, brB_t, brB_f, brB_n, brB_d, brB_and, brB_or, List.map_cons, List.map_nil, List.cons_append, List.nil_append, List.append_nil, List.replicate, List.getElem?_cons_zero, List.getElem?_cons_succ, List.set_cons_zero, List.set_cons_succ, List.length_cons, List.length_nil, Nat.reduceAdd, Nat.reduceSub, Nat.reduceLeDiff, List.lookup_cons, List.lookup_nil, true_and, and_true, Bool.not_true, Bool.not_false, if_true, if_false, reduceIte, forall_const, Bool.false_eq_true, false_implies, implies_true, true_implies, reduceCtorEq, Nat.reduceBEq, con_MOST_MORE, con_NEAR, con_MOST_REACH, con_MOST_PLACES, con_MOST_BASE, con_LEAST_BASE, con_MOST_FIGURES, con_ZERO, con_UP, con_DOWN, cls_Grid, kl0, A_own_step, A_own_bounds, A_own_tops, A_own_places, A_own_reach, A_own_figures, A_own_base, A_check, C_Grid]
    refine last _ d s3 ?_ k3 hp3
    split
    · exact small_on hb.1 f1 (by omega) (by omega)
    · exact gtop_on hb.1
  · refine ⟨fun c2 => ?_, fun c2 => ?_⟩
    · simp only [↓wf_nil, ↓wf_cons, ↓wg_asg, ↓wf_par, ↓wf_par3, ↓wg_setF, ↓wg_setI, ↓wf_ex, ↓wf_ret, ↓wf_retN, ↓wf_pass, ↓wf_brk, ↓wf_cnt, ↓wg_ite, ↓wf_for, ↓wp_var, ↓wp_lit, ↓wp_glob, ↓wp_bin, ↓wp_dct, ↓wp_dix, ↓wp_cmpEq, ↓wp_cmpIn, ↓wp_nin, onB_b, ↓wp_cmpNe, ↓wp_neg, ↓wp_cmp, ↓wp_chain, ↓wp_not, ↓wp_and, ↓wp_or, ↓wp_ite, ↓wp_fld, ↓wp_tup, ↓wp_new, ↓wp_callE, ↓wp_meth, ↓wp_make, ↓wp_bi, ↓wp_fold, ↓wp_foldv, ↓wp_append, ↓wp_extend, ↓wp_ix, ↓wp_sl, ↓wp_slk, ↓wp_enil, ↓wp_econs, ↓wp_disp, ↓wp_lrange, ↓wp_lcomp, ↓wp_cnil, ↓wp_ccons, ↓wp_seq, ↓wp_fresh, ↓wp_irange, ↓wp_enum, ↓wp_bind, ↓wp_ok, ↓wp_if, ↓swB_bl, ↓swT_s, ↓onS_s, ↓onO_s, ↓onI_i, ↓onR_r, ↓brB_t, ↓brB_f, ↓brB_n, ↓brB_d, cls_gOf, dct_new, pairsD, keyOf, not_true_eq_false, not_false_eq_true, ixN_30, ixN_31, ixN_32, lst_new, eqD_int, eqD_non_int, fuel_gOf, atI_0, atI_1, atI_2, atI_3, atI_4, putD, List.set_set, List.contains_cons, List.contains_nil, beq_self_eq_true, Bool.or_true, Bool.true_or, Bool.or_false, Bool.false_or, Nat.reduceEqDiff, Nat.reduceLT, Nat.zero_lt_succ, T.put, setAll, wipeE, tru, binD, cmpD, biD, itemsOf, tupOk, fldP, walkP, bnd, isNon, swB_bl, swT_s, onS_s, onO_s, onI_i, onR_r, brB_t, brB_f, brB_n, brB_d, brB_and, brB_or, List.map_cons, List.map_nil, List.cons_append, List.nil_append, List.append_nil, List.replicate, List.getElem?_cons_zero, List.getElem?_cons_succ, List.set_cons_zero, List.set_cons_succ, List.length_cons, List.length_nil, Nat.reduceAdd, Nat.reduceSub, Nat.reduceLeDiff, List.lookup_cons, List.lookup_nil, true_and, and_true, Bool.not_true, Bool.not_false, if_true, if_false, reduceIte, forall_const, Bool.false_eq_true, false_implies, implies_true, true_implies, reduceCtorEq, Nat.reduceBEq, con_MOST_MORE, con_NEAR, con_MOST_REACH, con_MOST_PLACES, con_MOST_BASE, con_LEAST_BASE, con_MOST_FIGURES, con_ZERO, con_UP, con_DOWN, cls_Grid, kl0, A_own_step, A_own_bounds, A_own_tops, A_own_places, A_own_reach, A_own_figures, A_own_base, A_check, C_Grid, gt]
      refine take_ok (u := r + 1) hp1 (by omega) (by omega) (by omega) fun j s2 hj k2 hp2 => ?_
      simp only [↓wf_nil, ↓wf_cons, ↓wg_asg, ↓wf_par, ↓wf_par3, ↓wg_setF, ↓wg_setI, ↓wf_ex, ↓wf_ret, ↓wf_retN, ↓wf_pass, ↓wf_brk, ↓wf_cnt, ↓wg_ite, ↓wf_for, ↓wp_var, ↓wp_lit, ↓wp_glob, ↓wp_bin, ↓wp_dct, ↓wp_dix, ↓wp_cmpEq, ↓wp_cmpIn, ↓wp_nin, onB_b, ↓wp_cmpNe, ↓wp_neg, ↓wp_cmp, ↓wp_chain, ↓wp_not, ↓wp_and, ↓wp_or, ↓wp_ite, ↓wp_fld, ↓wp_tup, ↓wp_new, ↓wp_callE, ↓wp_meth, ↓wp_make, ↓wp_bi, ↓wp_fold, ↓wp_foldv, ↓wp_append, ↓wp_extend, ↓wp_ix, ↓wp_sl, ↓wp_slk, ↓wp_enil, ↓wp_econs, ↓wp_disp, ↓wp_lrange, ↓wp_lcomp, ↓wp_cnil, ↓wp_ccons, ↓wp_seq, ↓wp_fresh, ↓wp_irange, ↓wp_enum, ↓wp_bind, ↓wp_ok, ↓wp_if, ↓swB_bl, ↓swT_s, ↓onS_s, ↓onO_s, ↓onI_i, ↓onR_r, ↓brB_t, ↓brB_f, ↓brB_n, ↓brB_d, cls_gOf, dct_new, pairsD, keyOf, not_true_eq_false, not_false_eq_true, ixN_30, ixN_31, ixN_32, lst_new, eqD_int, eqD_non_int, fuel_gOf, atI_0, atI_1, atI_2, atI_3, atI_4, putD, List.set_set, List.contains_cons, List.contains_nil, beq_self_eq_true, Bool.or_true, Bool.true_or, Bool.or_false, Bool.false_or, Nat.reduceEqDiff, Nat.reduceLT, Nat.zero_lt_succ, T.put, setAll, wipeE, tru, binD, cmpD, biD, itemsOf, tupOk, fldP, walkP, bnd, isNon, swB_bl, swT_s, onS_s, onO_s, onI_i, onR_r, brB_t, brB_f, brB_n, brB_d, brB_and, brB_or, List.map_cons, List.map_nil, List.cons_append, List.nil_append, List.append_nil, List.replicate, List.getElem?_cons_zero, List.getElem?_cons_succ, List.set_cons_zero, List.set_cons_succ, List.length_cons, List.length_nil, Nat.reduceAdd, Nat.reduceSub, Nat.reduceLeDiff, List.lookup_cons, List.lookup_nil, true_and, and_true, Bool.not_true, Bool.not_false, if_true, if_false, reduceIte, forall_const, Bool.false_eq_true, false_implies, implies_true, true_implies, reduceCtorEq, Nat.reduceBEq, con_MOST_MORE, con_NEAR, con_MOST_REACH, con_MOST_PLACES, con_MOST_BASE, con_LEAST_BASE, con_MOST_FIGURES, con_ZERO, con_UP, con_DOWN, cls_Grid, kl0, A_own_step, A_own_bounds, A_own_tops, A_own_places, A_own_reach, A_own_figures, A_own_base, A_check, C_Grid]
      rw [← Int.natCast_add]
      refine gpower_ok hb.2 (by omega) hf ?_
      simp only [↓wf_nil, ↓wf_cons, ↓wg_asg, ↓wf_par, ↓wf_par3, ↓wg_setF, ↓wg_setI, ↓wf_ex, ↓wf_ret, ↓wf_retN, ↓wf_pass, ↓wf_brk, ↓wf_cnt, ↓wg_ite, ↓wf_for, ↓wp_var, ↓wp_lit, ↓wp_glob, ↓wp_bin, ↓wp_dct, ↓wp_dix, ↓wp_cmpEq, ↓wp_cmpIn, ↓wp_nin, onB_b, ↓wp_cmpNe, ↓wp_neg, ↓wp_cmp, ↓wp_chain, ↓wp_not, ↓wp_and, ↓wp_or, ↓wp_ite, ↓wp_fld, ↓wp_tup, ↓wp_new, ↓wp_callE, ↓wp_meth, ↓wp_make, ↓wp_bi, ↓wp_fold, ↓wp_foldv, ↓wp_append, ↓wp_extend, ↓wp_ix, ↓wp_sl, ↓wp_slk, ↓wp_enil, ↓wp_econs, ↓wp_disp, ↓wp_lrange, ↓wp_lcomp, ↓wp_cnil, ↓wp_ccons, ↓wp_seq, ↓wp_fresh, ↓wp_irange, ↓wp_enum, ↓wp_bind, ↓wp_ok, ↓wp_if, ↓swB_bl, ↓swT_s, ↓onS_s, ↓onO_s, ↓onI_i, ↓onR_r, ↓brB_t, ↓brB_f, ↓brB_n, ↓brB_d, cls_gOf, dct_new, pairsD, keyOf, not_true_eq_false, not_false_eq_true, ixN_30, ixN_31, ixN_32, lst_new, eqD_int, eqD_non_int, fuel_gOf, atI_0, atI_1, atI_2, atI_3, atI_4, putD, List.set_set, List.contains_cons, List.contains_nil, beq_self_eq_true, Bool.or_true, Bool.true_or, Bool.or_false, Bool.false_or, Nat.reduceEqDiff, Nat.reduceLT, Nat.zero_lt_succ, T.put, setAll, wipeE, tru, binD, cmpD, biD, itemsOf, tupOk, fldP, walkP, bnd, isNon, swB_bl, swT_s, onS_s, onO_s, onI_i, onR_r, brB_t, brB_f, brB_n, brB_d, brB_and, brB_or, List.map_cons, List.map_nil, List.cons_append, List.nil_append, List.append_nil, List.replicate, List.getElem?_cons_zero, List.getElem?_cons_succ, List.set_cons_zero, List.set_cons_succ, List.length_cons, List.length_nil, Nat.reduceAdd, Nat.reduceSub, Nat.reduceLeDiff, List.lookup_cons, List.lookup_nil, true_and, and_true, Bool.not_true, Bool.not_false, if_true, if_false, reduceIte, forall_const, Bool.false_eq_true, false_implies, implies_true, true_implies, reduceCtorEq, Nat.reduceBEq, con_MOST_MORE, con_NEAR, con_MOST_REACH, con_MOST_PLACES, con_MOST_BASE, con_LEAST_BASE, con_MOST_FIGURES, con_ZERO, con_UP, con_DOWN, cls_Grid, kl0, A_own_step, A_own_bounds, A_own_tops, A_own_places, A_own_reach, A_own_figures, A_own_base, A_check, C_Grid]
      have hl := hp2.lt
      refine ⟨by decide, ?_⟩
      refine of_ok (hp2.app _) (by omega) (by omega) lst_new (by simp) (by simp) fun d s3 hd k3 hp3 => ?_
      have hd2 : ∃ i : Int, d = .int i ∧ i.natAbs ≤ 1 := by
        simp only [List.mem_cons, List.not_mem_nil, or_false] at hd
        rcases hd with rfl | rfl | rfl
        · exact ⟨_, rfl, by decide⟩
        · exact ⟨_, rfl, by decide⟩
        · exact ⟨_, rfl, by decide⟩
      obtain ⟨i, rfl, hi⟩ := hd2
      have hv : ((b : Int) ^ (f + j) + i).natAbs < 2 ^ 500 := by
        have h1 : b ^ (f + j) ≤ 10 ^ 90 := Nat.le_trans (Nat.pow_le_pow_left hb.2 _) (Nat.pow_le_pow_right (by decide) (by omega))
        have h2 : (10 : Nat) ^ 90 + 1 < 2 ^ 500 := by decide +kernel
        rw [cast_pow]
        omega
      have kk : Kp q s s3 := ((k1.trans k2).app _).trans k3
      simp only [↓wf_nil, ↓wf_cons, ↓wg_asg, ↓wf_par, ↓wf_par3, ↓wg_setF, ↓wg_setI, ↓wf_ex, ↓wf_ret, ↓wf_retN, ↓wf_pass, ↓wf_brk, ↓wf_cnt, ↓wg_ite, ↓wf_for, ↓wp_var, ↓wp_lit, ↓wp_glob, ↓wp_bin, ↓wp_dct, ↓wp_dix, ↓wp_cmpEq, ↓wp_cmpIn, ↓wp_nin, onB_b, ↓wp_cmpNe, ↓wp_neg, ↓wp_cmp, ↓wp_chain, ↓wp_not, ↓wp_and, ↓wp_or, ↓wp_ite, ↓wp_fld, ↓wp_tup, ↓wp_new, ↓wp_callE, ↓wp_meth, ↓wp_make, ↓wp_bi, ↓wp_fold, ↓wp_foldv, ↓wp_append, ↓wp_extend, ↓wp_ix, ↓wp_sl, ↓wp_slk, ↓wp_enil, ↓wp_econs, ↓wp_disp, ↓wp_lrange, ↓wp_lcomp, ↓wp_cnil, ↓wp_ccons, ↓wp_seq, ↓wp_fresh, ↓wp_irange, ↓wp_enum, ↓wp_bind, ↓wp_ok, ↓wp_if, ↓swB_bl, ↓swT_s, ↓onS_s, ↓onO_s, ↓onI_i, ↓onR_r, ↓brB_t, ↓brB_f, ↓brB_n, ↓brB_d, cls_gOf, dct_new, pairsD, keyOf, not_true_eq_false, not_false_eq_true, ixN_30, ixN_31, ixN_32, lst_new, eqD_int, eqD_non_int, fuel_gOf, atI_0, atI_1, atI_2, atI_3, atI_4, putD, List.set_set, List.contains_cons, List.contains_nil, beq_self_eq_true, Bool.or_true, Bool.true_or, Bool.or_false, Bool.false_or, Nat.reduceEqDiff, Nat.reduceLT, Nat.zero_lt_succ, T.put, setAll, wipeE, tru, binD, cmpD, biD, itemsOf, tupOk, fldP, walkP, bnd, isNon, swB_bl, swT_s, onS_s, onO_s, onI_i, onR_r, brB_t, brB_f, brB_n, brB_d, brB_and, brB_or, List.map_cons, List.map_nil, List.cons_append, List.nil_append, List.append_nil, List.replicate, List.getElem?_cons_zero, List.getElem?_cons_succ, List.set_cons_zero, List.set_cons_succ, List.length_cons, List.length_nil, Nat.reduceAdd, Nat.reduceSub, Nat.reduceLeDiff, List.lookup_cons, List.lookup_nil, true_and, and_true, Bool.not_true, Bool.not_false, if_true, if_false, reduceIte, forall_const, Bool.false_eq_true, false_implies, implies_true, true_implies, reduceCtorEq, Nat.reduceBEq, con_MOST_MORE, con_NEAR, con_MOST_REACH, con_MOST_PLACES, con_MOST_BASE, con_LEAST_BASE, con_MOST_FIGURES, con_ZERO, con_UP, con_DOWN, cls_Grid, kl0, A_own_step, A_own_bounds, A_own_tops, A_own_places, A_own_reach, A_own_figures, A_own_base, A_check, C_Grid]
      refine grounded_ok (way := .zero) (m := 0) (bo := 1) (by decide) hb (by omega) r60 (by omega) hv l8 hf ?_
      rcases rndD_cases (b := b) (f := f) (r := r) (x := (b : Int) ^ (f + j) + i) hb.1 f1 (way := .zero) with ⟨y, hy, ey⟩ | ey
      · rw [ey]
        simp only [↓wf_nil, ↓wf_cons, ↓wg_asg, ↓wf_par, ↓wf_par3, ↓wg_setF, ↓wg_setI, ↓wf_ex, ↓wf_ret, ↓wf_retN, ↓wf_pass, ↓wf_brk, ↓wf_cnt, ↓wg_ite, ↓wf_for, ↓wp_var, ↓wp_lit, ↓wp_glob, ↓wp_bin, ↓wp_dct, ↓wp_dix, ↓wp_cmpEq, ↓wp_cmpIn, ↓wp_nin, onB_b, ↓wp_cmpNe, ↓wp_neg, ↓wp_cmp, ↓wp_chain, ↓wp_not, ↓wp_and, ↓wp_or, ↓wp_ite, ↓wp_fld, ↓wp_tup, ↓wp_new, ↓wp_callE, ↓wp_meth, ↓wp_make, ↓wp_bi, ↓wp_fold, ↓wp_foldv, ↓wp_append, ↓wp_extend, ↓wp_ix, ↓wp_sl, ↓wp_slk, ↓wp_enil, ↓wp_econs, ↓wp_disp, ↓wp_lrange, ↓wp_lcomp, ↓wp_cnil, ↓wp_ccons, ↓wp_seq, ↓wp_fresh, ↓wp_irange, ↓wp_enum, ↓wp_bind, ↓wp_ok, ↓wp_if, ↓swB_bl, ↓swT_s, ↓onS_s, ↓onO_s, ↓onI_i, ↓onR_r, ↓brB_t, ↓brB_f, ↓brB_n, ↓brB_d, cls_gOf, dct_new, pairsD, keyOf, not_true_eq_false, not_false_eq_true, ixN_30, ixN_31, ixN_32, lst_new, eqD_int, eqD_non_int, fuel_gOf, atI_0, atI_1, atI_2, atI_3, atI_4, putD, List.set_set, List.contains_cons, List.contains_nil, beq_self_eq_true, Bool.or_true, Bool.true_or, Bool.or_false, Bool.false_or, Nat.reduceEqDiff, Nat.reduceLT, Nat.zero_lt_succ, T.put, setAll, wipeE, tru, binD, cmpD, biD, itemsOf, tupOk, fldP, walkP, bnd, isNon, swB_bl, swT_s, onS_s, onO_s, onI_i, onR_r, brB_t, brB_f, brB_n, brB_d, brB_and, brB_or, List.map_cons, List.map_nil, List.cons_append, List.nil_append, List.append_nil, List.replicate, List.getElem?_cons_zero, List.getElem?_cons_succ, List.set_cons_zero, List.set_cons_succ, List.length_cons, List.length_nil, Nat.reduceAdd, Nat.reduceSub, Nat.reduceLeDiff, List.lookup_cons, List.lookup_nil, true_and, and_true, Bool.not_true, Bool.not_false, if_true, if_false, reduceIte, forall_const, Bool.false_eq_true, false_implies, implies_true, true_implies, reduceCtorEq, Nat.reduceBEq, con_MOST_MORE, con_NEAR, con_MOST_REACH, con_MOST_PLACES, con_MOST_BASE, con_LEAST_BASE, con_MOST_FIGURES, con_ZERO, con_UP, con_DOWN, cls_Grid, kl0, A_own_step, A_own_bounds, A_own_tops, A_own_places, A_own_reach, A_own_figures, A_own_base, A_check, C_Grid]
        refine fin 0 s3 _ _ (fun d s4 k4 hp4 hd => ?_) kk hp3 (by omega)
        simp only [↓wf_nil, ↓wf_cons, ↓wg_asg, ↓wf_par, ↓wf_par3, ↓wg_setF, ↓wg_setI, ↓wf_ex, ↓wf_ret, ↓wf_retN, ↓wf_pass, ↓wf_brk, ↓wf_cnt, ↓wg_ite, ↓wf_for, ↓wp_var, ↓wp_lit, ↓wp_glob, ↓wp_bin, ↓wp_dct, ↓wp_dix, ↓wp_cmpEq, ↓wp_cmpIn, ↓wp_nin, onB_b, ↓wp_cmpNe, ↓wp_neg, ↓wp_cmp, ↓wp_chain, ↓wp_not, ↓wp_and, ↓wp_or, ↓wp_ite, ↓wp_fld, ↓wp_tup, ↓wp_new, ↓wp_callE, ↓wp_meth, ↓wp_make, ↓wp_bi, ↓wp_fold, ↓wp_foldv, ↓wp_append, ↓wp_extend, ↓wp_ix, ↓wp_sl, ↓wp_slk, ↓wp_enil, ↓wp_econs, ↓wp_disp, ↓wp_lrange, ↓wp_lcomp, ↓wp_cnil, ↓wp_ccons, ↓wp_seq, ↓wp_fresh, ↓wp_irange, ↓wp_enum, ↓wp_bind, ↓wp_ok, ↓wp_if, ↓swB_bl, ↓swT_s, ↓onS_s, ↓onO_s, ↓onI_i, ↓onR_r, ↓brB_t, ↓brB_f, ↓brB_n, ↓brB_d, cls_gOf, dct_new, pairsD, keyOf, not_true_eq_false, not_false_eq_true, ixN_30, ixN_31, ixN_32, lst_new, eqD_int, eqD_non_int, fuel_gOf, atI_0, atI_1, atI_2, atI_3, atI_4, putD, List.set_set, List.contains_cons, List.contains_nil, beq_self_eq_true, Bool.or_true, Bool.true_or, Bool.or_false, Bool.false_or, Nat.reduceEqDiff, Nat.reduceLT, Nat.zero_lt_succ, T.put, setAll, wipeE, tru, binD, cmpD, biD, itemsOf, tupOk, fldP, walkP, bnd, isNon, swB_bl, swT_s, onS_s, onO_s, onI_i, onR_r, brB_t, brB_f, brB_n, brB_d, brB_and, brB_or, List.map_cons, List.map_nil, List.cons_append, List.nil_append, List.append_nil, List.replicate, List.getElem?_cons_zero, List.getElem?_cons_succ, List.set_cons_zero, List.set_cons_succ, List.length_cons, List.length_nil, Nat.reduceAdd, Nat.reduceSub, Nat.reduceLeDiff, List.lookup_cons, List.lookup_nil, true_and, and_true, Bool.not_true, Bool.not_false, if_true, if_false, reduceIte, forall_const, Bool.false_eq_true, false_implies, implies_true, true_implies, reduceCtorEq, Nat.reduceBEq, con_MOST_MORE, con_NEAR, con_MOST_REACH, con_MOST_PLACES, con_MOST_BASE, con_LEAST_BASE, con_MOST_FIGURES, con_ZERO, con_UP, con_DOWN, cls_Grid, kl0, A_own_step, A_own_bounds, A_own_tops, A_own_places, A_own_reach, A_own_figures, A_own_base, A_check, C_Grid]
        exact last _ d s4 hy k4 hp4
      · rw [ey]
        simp only [↓wf_nil, ↓wf_cons, ↓wg_asg, ↓wf_par, ↓wf_par3, ↓wg_setF, ↓wg_setI, ↓wf_ex, ↓wf_ret, ↓wf_retN, ↓wf_pass, ↓wf_brk, ↓wf_cnt, ↓wg_ite, ↓wf_for, ↓wp_var, ↓wp_lit, ↓wp_glob, ↓wp_bin, ↓wp_dct, ↓wp_dix, ↓wp_cmpEq, ↓wp_cmpIn, ↓wp_nin, onB_b, ↓wp_cmpNe, ↓wp_neg, ↓wp_cmp, ↓wp_chain, ↓wp_not, ↓wp_and, ↓wp_or, ↓wp_ite, ↓wp_fld, ↓wp_tup, ↓wp_new, ↓wp_callE, ↓wp_meth, ↓wp_make, ↓wp_bi, ↓wp_fold, ↓wp_foldv, ↓wp_append, ↓wp_extend, ↓wp_ix, ↓wp_sl, ↓wp_slk, ↓wp_enil, ↓wp_econs, ↓wp_disp, ↓wp_lrange, ↓wp_lcomp, ↓wp_cnil, ↓wp_ccons, ↓wp_seq, ↓wp_fresh, ↓wp_irange, ↓wp_enum, ↓wp_bind, ↓wp_ok, ↓wp_if, ↓swB_bl, ↓swT_s, ↓onS_s, ↓onO_s, ↓onI_i, ↓onR_r, ↓brB_t, ↓brB_f, ↓brB_n, ↓brB_d, cls_gOf, dct_new, pairsD, keyOf, not_true_eq_false, not_false_eq_true, ixN_30, ixN_31, ixN_32, lst_new, eqD_int, eqD_non_int, fuel_gOf, atI_0, atI_1, atI_2, atI_3, atI_4, putD, List.set_set, List.contains_cons, List.contains_nil, beq_self_eq_true, Bool.or_true, Bool.true_or, Bool.or_false, Bool.false_or, Nat.reduceEqDiff, Nat.reduceLT, Nat.zero_lt_succ, T.put, setAll, wipeE, tru, binD, cmpD, biD, itemsOf, tupOk, fldP, walkP, bnd, isNon, swB_bl, swT_s, onS_s, onO_s, onI_i, onR_r, brB_t, brB_f, brB_n, brB_d, brB_and, brB_or, List.map_cons, List.map_nil, List.cons_append, List.nil_append, List.append_nil, List.replicate, List.getElem?_cons_zero, List.getElem?_cons_succ, List.set_cons_zero, List.set_cons_succ, List.length_cons, List.length_nil, Nat.reduceAdd, Nat.reduceSub, Nat.reduceLeDiff, List.lookup_cons, List.lookup_nil, true_and, and_true, Bool.not_true, Bool.not_false, if_true, if_false, reduceIte, forall_const, Bool.false_eq_true, false_implies, implies_true, true_implies, reduceCtorEq, Nat.reduceBEq, con_MOST_MORE, con_NEAR, con_MOST_REACH, con_MOST_PLACES, con_MOST_BASE, con_LEAST_BASE, con_MOST_FIGURES, con_ZERO, con_UP, con_DOWN, cls_Grid, kl0, A_own_step, A_own_bounds, A_own_tops, A_own_places, A_own_reach, A_own_figures, A_own_base, A_check, C_Grid]
        refine fin 0 s3 _ _ (fun d s4 k4 hp4 hd => ?_) kk hp3 (by omega)
        simp only [↓wf_nil, ↓wf_cons, ↓wg_asg, ↓wf_par, ↓wf_par3, ↓wg_setF, ↓wg_setI, ↓wf_ex, ↓wf_ret, ↓wf_retN, ↓wf_pass, ↓wf_brk, ↓wf_cnt, ↓wg_ite, ↓wf_for, ↓wp_var, ↓wp_lit, ↓wp_glob, ↓wp_bin, ↓wp_dct, ↓wp_dix, ↓wp_cmpEq, ↓wp_cmpIn, ↓wp_nin, onB_b, ↓wp_cmpNe, ↓wp_neg, ↓wp_cmp, ↓wp_chain, ↓wp_not, ↓wp_and, ↓wp_or, ↓wp_ite, ↓wp_fld, ↓wp_tup, ↓wp_new, ↓wp_callE, ↓wp_meth, ↓wp_make, ↓wp_bi, ↓wp_fold, ↓wp_foldv, ↓wp_append, ↓wp_extend, ↓wp_ix, ↓wp_sl, ↓wp_slk, ↓wp_enil, ↓wp_econs, ↓wp_disp, ↓wp_lrange, ↓wp_lcomp, ↓wp_cnil, ↓wp_ccons, ↓wp_seq, ↓wp_fresh, ↓wp_irange, ↓wp_enum, ↓wp_bind, ↓wp_ok, ↓wp_if, ↓swB_bl, ↓swT_s, ↓onS_s, ↓onO_s, ↓onI_i, ↓onR_r, ↓brB_t, ↓brB_f, ↓brB_n, ↓brB_d, cls_gOf, dct_new, pairsD, keyOf, not_true_eq_false, not_false_eq_true, ixN_30, ixN_31, ixN_32, lst_new, eqD_int, eqD_non_int, fuel_gOf, atI_0, atI_1, atI_2, atI_3, atI_4, putD, List.set_set, List.contains_cons, List.contains_nil, beq_self_eq_true, Bool.or_true, Bool.true_or, Bool.or_false, Bool.false_or, Nat.reduceEqDiff, Nat.reduceLT, Nat.zero_lt_succ, T.put, setAll, wipeE, tru, binD, cmpD, biD, itemsOf, tupOk, fldP, walkP, bnd, isNon, swB_bl, swT_s, onS_s, onO_s, onI_i, onR_r, brB_t, brB_f, brB_n, brB_d, brB_and, brB_or, List.map_cons, List.map_nil, List.cons_append, List.nil_append, List.append_nil, List.replicate, List.getElem?_cons_zero, List.getElem?_cons_succ, List.set_cons_zero, List.set_cons_succ, List.length_cons, List.length_nil, Nat.reduceAdd, Nat.reduceSub, Nat.reduceLeDiff, List.lookup_cons, List.lookup_nil, true_and, and_true, Bool.not_true, Bool.not_false, if_true, if_false, reduceIte, forall_const, Bool.false_eq_true, false_implies, implies_true, true_implies, reduceCtorEq, Nat.reduceBEq, con_MOST_MORE, con_NEAR, con_MOST_REACH, con_MOST_PLACES, con_MOST_BASE, con_LEAST_BASE, con_MOST_FIGURES, con_ZERO, con_UP, con_DOWN, cls_Grid, kl0, A_own_step, A_own_bounds, A_own_tops, A_own_places, A_own_reach, A_own_figures, A_own_base, A_check, C_Grid]
        exact last _ d s4 (gtop_on hb.1) k4 hp4
    · refine ⟨fun c3 => ?_, fun c3 => ?_⟩
      · refine take_ok (u := 3) hp1 (by omega) (by omega) (by omega) fun t s2 ht k2 hp2 => ?_
        simp only [↓wf_nil, ↓wf_cons, ↓wg_asg, ↓wf_par, ↓wf_par3, ↓wg_setF, ↓wg_setI, ↓wf_ex, ↓wf_ret, ↓wf_retN, ↓wf_pass, ↓wf_brk, ↓wf_cnt, ↓wg_ite, ↓wf_for, ↓wp_var, ↓wp_lit, ↓wp_glob, ↓wp_bin, ↓wp_dct, ↓wp_dix, ↓wp_cmpEq, ↓wp_cmpIn, ↓wp_nin, onB_b, ↓wp_cmpNe, ↓wp_neg, ↓wp_cmp, ↓wp_chain, ↓wp_not, ↓wp_and, ↓wp_or, ↓wp_ite, ↓wp_fld, ↓wp_tup, ↓wp_new, ↓wp_callE, ↓wp_meth, ↓wp_make, ↓wp_bi, ↓wp_fold, ↓wp_foldv, ↓wp_append, ↓wp_extend, ↓wp_ix, ↓wp_sl, ↓wp_slk, ↓wp_enil, ↓wp_econs, ↓wp_disp, ↓wp_lrange, ↓wp_lcomp, ↓wp_cnil, ↓wp_ccons, ↓wp_seq, ↓wp_fresh, ↓wp_irange, ↓wp_enum, ↓wp_bind, ↓wp_ok, ↓wp_if, ↓swB_bl, ↓swT_s, ↓onS_s, ↓onO_s, ↓onI_i, ↓onR_r, ↓brB_t, ↓brB_f, ↓brB_n, ↓brB_d, cls_gOf, dct_new, pairsD, keyOf, not_true_eq_false, not_false_eq_true, ixN_30, ixN_31, ixN_32, lst_new, eqD_int, eqD_non_int, fuel_gOf, atI_0, atI_1, atI_2, atI_3, atI_4, putD, List.set_set, List.contains_cons, List.contains_nil, beq_self_eq_true, Bool.or_true, Bool.true_or, Bool.or_false, Bool.false_or, Nat.reduceEqDiff, Nat.reduceLT, Nat.zero_lt_succ, T.put, setAll, wipeE, tru, binD, cmpD, biD, itemsOf, tupOk, fldP, walkP, bnd, isNon, swB_bl, swT_s, onS_s, onO_s, onI_i, onR_r, brB_t, brB_f, brB_n, brB_d, brB_and, brB_or, List.map_cons, List.map_nil, List.cons_append, List.nil_append, List.append_nil, List.replicate, List.getElem?_cons_zero, List.getElem?_cons_succ, List.set_cons_zero, List.set_cons_succ, List.length_cons, List.length_nil, Nat.reduceAdd, Nat.reduceSub, Nat.reduceLeDiff, List.lookup_cons, List.lookup_nil, true_and, and_true, Bool.not_true, Bool.not_false, if_true, if_false, reduceIte, forall_const, Bool.false_eq_true, false_implies, implies_true, true_implies, reduceCtorEq, Nat.reduceBEq, con_MOST_MORE, con_NEAR, con_MOST_REACH, con_MOST_PLACES, con_MOST_BASE, con_LEAST_BASE, con_MOST_FIGURES, con_ZERO, con_UP, con_DOWN, cls_Grid, kl0, A_own_step, A_own_bounds, A_own_tops, A_own_places, A_own_reach, A_own_figures, A_own_base, A_check, C_Grid, gt]
        refine gpower_ok hb.2 (by omega) hf ?_
        have sr : Sm ((b : Int) ^ r) := Sm.pow hb.2 (by omega)
        have pr := spow_pos (b := b) (j := r) (by omega)
        simp only [↓wf_nil, ↓wf_cons, ↓wg_asg, ↓wf_par, ↓wf_par3, ↓wg_setF, ↓wg_setI, ↓wf_ex, ↓wf_ret, ↓wf_retN, ↓wf_pass, ↓wf_brk, ↓wf_cnt, ↓wg_ite, ↓wf_for, ↓wp_var, ↓wp_lit, ↓wp_glob, ↓wp_bin, ↓wp_dct, ↓wp_dix, ↓wp_cmpEq, ↓wp_cmpIn, ↓wp_nin, onB_b, ↓wp_cmpNe, ↓wp_neg, ↓wp_cmp, ↓wp_chain, ↓wp_not, ↓wp_and, ↓wp_or, ↓wp_ite, ↓wp_fld, ↓wp_tup, ↓wp_new, ↓wp_callE, ↓wp_meth, ↓wp_make, ↓wp_bi, ↓wp_fold, ↓wp_foldv, ↓wp_append, ↓wp_extend, ↓wp_ix, ↓wp_sl, ↓wp_slk, ↓wp_enil, ↓wp_econs, ↓wp_disp, ↓wp_lrange, ↓wp_lcomp, ↓wp_cnil, ↓wp_ccons, ↓wp_seq, ↓wp_fresh, ↓wp_irange, ↓wp_enum, ↓wp_bind, ↓wp_ok, ↓wp_if, ↓swB_bl, ↓swT_s, ↓onS_s, ↓onO_s, ↓onI_i, ↓onR_r, ↓brB_t, ↓brB_f, ↓brB_n, ↓brB_d, cls_gOf, dct_new, pairsD, keyOf, not_true_eq_false, not_false_eq_true, ixN_30, ixN_31, ixN_32, lst_new, eqD_int, eqD_non_int, fuel_gOf, atI_0, atI_1, atI_2, atI_3, atI_4, putD, List.set_set, List.contains_cons, List.contains_nil, beq_self_eq_true, Bool.or_true, Bool.true_or, Bool.or_false, Bool.false_or, Nat.reduceEqDiff, Nat.reduceLT, Nat.zero_lt_succ, T.put, setAll, wipeE, tru, binD, cmpD, biD, itemsOf, tupOk, fldP, walkP, bnd, isNon, swB_bl, swT_s, onS_s, onO_s, onI_i, onR_r, brB_t, brB_f, brB_n, brB_d, brB_and, brB_or, List.map_cons, List.map_nil, List.cons_append, List.nil_append, List.append_nil, List.replicate, List.getElem?_cons_zero, List.getElem?_cons_succ, List.set_cons_zero, List.set_cons_succ, List.length_cons, List.length_nil, Nat.reduceAdd, Nat.reduceSub, Nat.reduceLeDiff, List.lookup_cons, List.lookup_nil, true_and, and_true, Bool.not_true, Bool.not_false, if_true, if_false, reduceIte, forall_const, Bool.false_eq_true, false_implies, implies_true, true_implies, reduceCtorEq, Nat.reduceBEq, con_MOST_MORE, con_NEAR, con_MOST_REACH, con_MOST_PLACES, con_MOST_BASE, con_LEAST_BASE, con_MOST_FIGURES, con_ZERO, con_UP, con_DOWN, cls_Grid, kl0, A_own_step, A_own_bounds, A_own_tops, A_own_places, A_own_reach, A_own_figures, A_own_base, A_check, C_Grid]
        refine ⟨(Sm.nat (by omega)).mul sr, ?_⟩
        have pos : 0 ≤ (t : Int) * (b : Int) ^ r := Int.mul_nonneg (by omega) (by omega)
        generalize (t : Int) * (b : Int) ^ r = less at pos ⊢
        have hv : ∀ v : Int, v = (if (gtop b f r : Int) - less > 0 then (gtop b f r : Int) - less else 0) → v.natAbs ≤ gtop b f r := fun v e => by
          rw [e]
          split <;> omega
        have hv2 := hv _ rfl
        refine grounded_ok (way := .zero) (m := 0) (bo := 1) (by decide) hb (by omega) r60 (by omega) (by omega) l8 hf ?_
        rw [rnd_nr hb.1 hv2, Nat.add_zero]
        have hy := nr_grid (way := .zero) hb.1 f1 hv2
        simp only [↓wf_nil, ↓wf_cons, ↓wg_asg, ↓wf_par, ↓wf_par3, ↓wg_setF, ↓wg_setI, ↓wf_ex, ↓wf_ret, ↓wf_retN, ↓wf_pass, ↓wf_brk, ↓wf_cnt, ↓wg_ite, ↓wf_for, ↓wp_var, ↓wp_lit, ↓wp_glob, ↓wp_bin, ↓wp_dct, ↓wp_dix, ↓wp_cmpEq, ↓wp_cmpIn, ↓wp_nin, onB_b, ↓wp_cmpNe, ↓wp_neg, ↓wp_cmp, ↓wp_chain, ↓wp_not, ↓wp_and, ↓wp_or, ↓wp_ite, ↓wp_fld, ↓wp_tup, ↓wp_new, ↓wp_callE, ↓wp_meth, ↓wp_make, ↓wp_bi, ↓wp_fold, ↓wp_foldv, ↓wp_append, ↓wp_extend, ↓wp_ix, ↓wp_sl, ↓wp_slk, ↓wp_enil, ↓wp_econs, ↓wp_disp, ↓wp_lrange, ↓wp_lcomp, ↓wp_cnil, ↓wp_ccons, ↓wp_seq, ↓wp_fresh, ↓wp_irange, ↓wp_enum, ↓wp_bind, ↓wp_ok, ↓wp_if, ↓swB_bl, ↓swT_s, ↓onS_s, ↓onO_s, ↓onI_i, ↓onR_r, ↓brB_t, ↓brB_f, ↓brB_n, ↓brB_d, cls_gOf, dct_new, pairsD, keyOf, not_true_eq_false, not_false_eq_true, ixN_30, ixN_31, ixN_32, lst_new, eqD_int, eqD_non_int, fuel_gOf, atI_0, atI_1, atI_2, atI_3, atI_4, putD, List.set_set, List.contains_cons, List.contains_nil, beq_self_eq_true, Bool.or_true, Bool.true_or, Bool.or_false, Bool.false_or, Nat.reduceEqDiff, Nat.reduceLT, Nat.zero_lt_succ, T.put, setAll, wipeE, tru, binD, cmpD, biD, itemsOf, tupOk, fldP, walkP, bnd, isNon, swB_bl, swT_s, onS_s, onO_s, onI_i, onR_r, brB_t, brB_f, brB_n, brB_d, brB_and, brB_or, List.map_cons, List.map_nil, List.cons_append, List.nil_append, List.append_nil, List.replicate, List.getElem?_cons_zero, List.getElem?_cons_succ, List.set_cons_zero, List.set_cons_succ, List.length_cons, List.length_nil, Nat.reduceAdd, Nat.reduceSub, Nat.reduceLeDiff, List.lookup_cons, List.lookup_nil, true_and, and_true, Bool.not_true, Bool.not_false, if_true, if_false, reduceIte, forall_const, Bool.false_eq_true, false_implies, implies_true, true_implies, reduceCtorEq, Nat.reduceBEq, con_MOST_MORE, con_NEAR, con_MOST_REACH, con_MOST_PLACES, con_MOST_BASE, con_LEAST_BASE, con_MOST_FIGURES, con_ZERO, con_UP, con_DOWN, cls_Grid, kl0, A_own_step, A_own_bounds, A_own_tops, A_own_places, A_own_reach, A_own_figures, A_own_base, A_check, C_Grid]
        refine fin 0 s2 _ _ (fun d s4 k4 hp4 hd => ?_) (k1.trans k2) hp2 (by omega)
        simp only [↓wf_nil, ↓wf_cons, ↓wg_asg, ↓wf_par, ↓wf_par3, ↓wg_setF, ↓wg_setI, ↓wf_ex, ↓wf_ret, ↓wf_retN, ↓wf_pass, ↓wf_brk, ↓wf_cnt, ↓wg_ite, ↓wf_for, ↓wp_var, ↓wp_lit, ↓wp_glob, ↓wp_bin, ↓wp_dct, ↓wp_dix, ↓wp_cmpEq, ↓wp_cmpIn, ↓wp_nin, onB_b, ↓wp_cmpNe, ↓wp_neg, ↓wp_cmp, ↓wp_chain, ↓wp_not, ↓wp_and, ↓wp_or, ↓wp_ite, ↓wp_fld, ↓wp_tup, ↓wp_new, ↓wp_callE, ↓wp_meth, ↓wp_make, ↓wp_bi, ↓wp_fold, ↓wp_foldv, ↓wp_append, ↓wp_extend, ↓wp_ix, ↓wp_sl, ↓wp_slk, ↓wp_enil, ↓wp_econs, ↓wp_disp, ↓wp_lrange, ↓wp_lcomp, ↓wp_cnil, ↓wp_ccons, ↓wp_seq, ↓wp_fresh, ↓wp_irange, ↓wp_enum, ↓wp_bind, ↓wp_ok, ↓wp_if, ↓swB_bl, ↓swT_s, ↓onS_s, ↓onO_s, ↓onI_i, ↓onR_r, ↓brB_t, ↓brB_f, ↓brB_n, ↓brB_d, cls_gOf, dct_new, pairsD, keyOf, not_true_eq_false, not_false_eq_true, ixN_30, ixN_31, ixN_32, lst_new, eqD_int, eqD_non_int, fuel_gOf, atI_0, atI_1, atI_2, atI_3, atI_4, putD, List.set_set, List.contains_cons, List.contains_nil, beq_self_eq_true, Bool.or_true, Bool.true_or, Bool.or_false, Bool.false_or, Nat.reduceEqDiff, Nat.reduceLT, Nat.zero_lt_succ, T.put, setAll, wipeE, tru, binD, cmpD, biD, itemsOf, tupOk, fldP, walkP, bnd, isNon, swB_bl, swT_s, onS_s, onO_s, onI_i, onR_r, brB_t, brB_f, brB_n, brB_d, brB_and, brB_or, List.map_cons, List.map_nil, List.cons_append, List.nil_append, List.append_nil, List.replicate, List.getElem?_cons_zero, List.getElem?_cons_succ, List.set_cons_zero, List.set_cons_succ, List.length_cons, List.length_nil, Nat.reduceAdd, Nat.reduceSub, Nat.reduceLeDiff, List.lookup_cons, List.lookup_nil, true_and, and_true, Bool.not_true, Bool.not_false, if_true, if_false, reduceIte, forall_const, Bool.false_eq_true, false_implies, implies_true, true_implies, reduceCtorEq, Nat.reduceBEq, con_MOST_MORE, con_NEAR, con_MOST_REACH, con_MOST_PLACES, con_MOST_BASE, con_LEAST_BASE, con_MOST_FIGURES, con_ZERO, con_UP, con_DOWN, cls_Grid, kl0, A_own_step, A_own_bounds, A_own_tops, A_own_places, A_own_reach, A_own_figures, A_own_base, A_check, C_Grid]
        exact last _ d s4 hy k4 hp4
      · rw [show ((gtop b f r : Int) + 1) = ((gtop b f r + 1 : Nat) : Int) by omega]
        refine take_ok (u := gtop b f r + 1) hp1 (by omega) (by omega) (by omega) fun t s2 ht k2 hp2 => ?_
        have hv2 : ((t : Nat) : Int).natAbs ≤ gtop b f r := by omega
        simp only [↓wf_nil, ↓wf_cons, ↓wg_asg, ↓wf_par, ↓wf_par3, ↓wg_setF, ↓wg_setI, ↓wf_ex, ↓wf_ret, ↓wf_retN, ↓wf_pass, ↓wf_brk, ↓wf_cnt, ↓wg_ite, ↓wf_for, ↓wp_var, ↓wp_lit, ↓wp_glob, ↓wp_bin, ↓wp_dct, ↓wp_dix, ↓wp_cmpEq, ↓wp_cmpIn, ↓wp_nin, onB_b, ↓wp_cmpNe, ↓wp_neg, ↓wp_cmp, ↓wp_chain, ↓wp_not, ↓wp_and, ↓wp_or, ↓wp_ite, ↓wp_fld, ↓wp_tup, ↓wp_new, ↓wp_callE, ↓wp_meth, ↓wp_make, ↓wp_bi, ↓wp_fold, ↓wp_foldv, ↓wp_append, ↓wp_extend, ↓wp_ix, ↓wp_sl, ↓wp_slk, ↓wp_enil, ↓wp_econs, ↓wp_disp, ↓wp_lrange, ↓wp_lcomp, ↓wp_cnil, ↓wp_ccons, ↓wp_seq, ↓wp_fresh, ↓wp_irange, ↓wp_enum, ↓wp_bind, ↓wp_ok, ↓wp_if, ↓swB_bl, ↓swT_s, ↓onS_s, ↓onO_s, ↓onI_i, ↓onR_r, ↓brB_t, ↓brB_f, ↓brB_n, ↓brB_d, cls_gOf, dct_new, pairsD, keyOf, not_true_eq_false, not_false_eq_true, ixN_30, ixN_31, ixN_32, lst_new, eqD_int, eqD_non_int, fuel_gOf, atI_0, atI_1, atI_2, atI_3, atI_4, putD, List.set_set, List.contains_cons, List.contains_nil, beq_self_eq_true, Bool.or_true, Bool.true_or, Bool.or_false, Bool.false_or, Nat.reduceEqDiff, Nat.reduceLT, Nat.zero_lt_succ, T.put, setAll, wipeE, tru, binD, cmpD, biD, itemsOf, tupOk, fldP, walkP, bnd, isNon, swB_bl, swT_s, onS_s, onO_s, onI_i, onR_r, brB_t, brB_f, brB_n, brB_d, brB_and, brB_or, List.map_cons, List.map_nil, List.cons_append, List.nil_append, List.append_nil, List.replicate, List.getElem?_cons_zero, List.getElem?_cons_succ, List.set_cons_zero, List.set_cons_succ, List.length_cons, List.length_nil, Nat.reduceAdd, Nat.reduceSub, Nat.reduceLeDiff, List.lookup_cons, List.lookup_nil, true_and, and_true, Bool.not_true, Bool.not_false, if_true, if_false, reduceIte, forall_const, Bool.false_eq_true, false_implies, implies_true, true_implies, reduceCtorEq, Nat.reduceBEq, con_MOST_MORE, con_NEAR, con_MOST_REACH, con_MOST_PLACES, con_MOST_BASE, con_LEAST_BASE, con_MOST_FIGURES, con_ZERO, con_UP, con_DOWN, cls_Grid, kl0, A_own_step, A_own_bounds, A_own_tops, A_own_places, A_own_reach, A_own_figures, A_own_base, A_check, C_Grid]
        refine grounded_ok (way := .zero) (m := 0) (bo := 1) (by decide) hb (by omega) r60 (by omega) (by omega) l8 hf ?_
        rw [rnd_nr hb.1 hv2, Nat.add_zero]
        have hy := nr_grid (way := .zero) hb.1 f1 hv2
        simp only [↓wf_nil, ↓wf_cons, ↓wg_asg, ↓wf_par, ↓wf_par3, ↓wg_setF, ↓wg_setI, ↓wf_ex, ↓wf_ret, ↓wf_retN, ↓wf_pass, ↓wf_brk, ↓wf_cnt, ↓wg_ite, ↓wf_for, ↓wp_var, ↓wp_lit, ↓wp_glob, ↓wp_bin, ↓wp_dct, ↓wp_dix, ↓wp_cmpEq, ↓wp_cmpIn, ↓wp_nin, onB_b, ↓wp_cmpNe, ↓wp_neg, ↓wp_cmp, ↓wp_chain, ↓wp_not, ↓wp_and, ↓wp_or, ↓wp_ite, ↓wp_fld, ↓wp_tup, ↓wp_new, ↓wp_callE, ↓wp_meth, ↓wp_make, ↓wp_bi, ↓wp_fold, ↓wp_foldv, ↓wp_append, ↓wp_extend, ↓wp_ix, ↓wp_sl, ↓wp_slk, ↓wp_enil, ↓wp_econs, ↓wp_disp, ↓wp_lrange, ↓wp_lcomp, ↓wp_cnil, ↓wp_ccons, ↓wp_seq, ↓wp_fresh, ↓wp_irange, ↓wp_enum, ↓wp_bind, ↓wp_ok, ↓wp_if, ↓swB_bl, ↓swT_s, ↓onS_s, ↓onO_s, ↓onI_i, ↓onR_r, ↓brB_t, ↓brB_f, ↓brB_n, ↓brB_d, cls_gOf, dct_new, pairsD, keyOf, not_true_eq_false, not_false_eq_true, ixN_30, ixN_31, ixN_32, lst_new, eqD_int, eqD_non_int, fuel_gOf, atI_0, atI_1, atI_2, atI_3, atI_4, putD, List.set_set, List.contains_cons, List.contains_nil, beq_self_eq_true, Bool.or_true, Bool.true_or, Bool.or_false, Bool.false_or, Nat.reduceEqDiff, Nat.reduceLT, Nat.zero_lt_succ, T.put, setAll, wipeE, tru, binD, cmpD, biD, itemsOf, tupOk, fldP, walkP, bnd, isNon, swB_bl, swT_s, onS_s, onO_s, onI_i, onR_r, brB_t, brB_f, brB_n, brB_d, brB_and, brB_or, List.map_cons, List.map_nil, List.cons_append, List.nil_append, List.append_nil, List.replicate, List.getElem?_cons_zero, List.getElem?_cons_succ, List.set_cons_zero, List.set_cons_succ, List.length_cons, List.length_nil, Nat.reduceAdd, Nat.reduceSub, Nat.reduceLeDiff, List.lookup_cons, List.lookup_nil, true_and, and_true, Bool.not_true, Bool.not_false, if_true, if_false, reduceIte, forall_const, Bool.false_eq_true, false_implies, implies_true, true_implies, reduceCtorEq, Nat.reduceBEq, con_MOST_MORE, con_NEAR, con_MOST_REACH, con_MOST_PLACES, con_MOST_BASE, con_LEAST_BASE, con_MOST_FIGURES, con_ZERO, con_UP, con_DOWN, cls_Grid, kl0, A_own_step, A_own_bounds, A_own_tops, A_own_places, A_own_reach, A_own_figures, A_own_base, A_check, C_Grid]
        refine fin 0 s2 _ _ (fun d s4 k4 hp4 hd => ?_) (k1.trans k2) hp2 (by omega)
        simp only [↓wf_nil, ↓wf_cons, ↓wg_asg, ↓wf_par, ↓wf_par3, ↓wg_setF, ↓wg_setI, ↓wf_ex, ↓wf_ret, ↓wf_retN, ↓wf_pass, ↓wf_brk, ↓wf_cnt, ↓wg_ite, ↓wf_for, ↓wp_var, ↓wp_lit, ↓wp_glob, ↓wp_bin, ↓wp_dct, ↓wp_dix, ↓wp_cmpEq, ↓wp_cmpIn, ↓wp_nin, onB_b, ↓wp_cmpNe, ↓wp_neg, ↓wp_cmp, ↓wp_chain, ↓wp_not, ↓wp_and, ↓wp_or, ↓wp_ite, ↓wp_fld, ↓wp_tup, ↓wp_new, ↓wp_callE, ↓wp_meth, ↓wp_make, ↓wp_bi, ↓wp_fold, ↓wp_foldv, ↓wp_append, ↓wp_extend, ↓wp_ix, ↓wp_sl, ↓wp_slk, ↓wp_enil, ↓wp_econs, ↓wp_disp, ↓wp_lrange, ↓wp_lcomp, ↓wp_cnil, ↓wp_ccons, ↓wp_seq, ↓wp_fresh, ↓wp_irange, ↓wp_enum, ↓wp_bind, ↓wp_ok, ↓wp_if, ↓swB_bl, ↓swT_s, ↓onS_s, ↓onO_s, ↓onI_i, ↓onR_r, ↓brB_t, ↓brB_f, ↓brB_n, ↓brB_d, cls_gOf, dct_new, pairsD, keyOf, not_true_eq_false, not_false_eq_true, ixN_30, ixN_31, ixN_32, lst_new, eqD_int, eqD_non_int, fuel_gOf, atI_0, atI_1, atI_2, atI_3, atI_4, putD, List.set_set, List.contains_cons, List.contains_nil, beq_self_eq_true, Bool.or_true, Bool.true_or, Bool.or_false, Bool.false_or, Nat.reduceEqDiff, Nat.reduceLT, Nat.zero_lt_succ, T.put, setAll, wipeE, tru, binD, cmpD, biD, itemsOf, tupOk, fldP, walkP, bnd, isNon, swB_bl, swT_s, onS_s, onO_s, onI_i, onR_r, brB_t, brB_f, brB_n, brB_d, brB_and, brB_or, List.map_cons, List.map_nil, List.cons_append, List.nil_append, List.append_nil, List.replicate, List.getElem?_cons_zero, List.getElem?_cons_succ, List.set_cons_zero, List.set_cons_succ, List.length_cons, List.length_nil, Nat.reduceAdd, Nat.reduceSub, Nat.reduceLeDiff, List.lookup_cons, List.lookup_nil, true_and, and_true, Bool.not_true, Bool.not_false, if_true, if_false, reduceIte, forall_const, Bool.false_eq_true, false_implies, implies_true, true_implies, reduceCtorEq, Nat.reduceBEq, con_MOST_MORE, con_NEAR, con_MOST_REACH, con_MOST_PLACES, con_MOST_BASE, con_LEAST_BASE, con_MOST_FIGURES, con_ZERO, con_UP, con_DOWN, cls_Grid, kl0, A_own_step, A_own_bounds, A_own_tops, A_own_places, A_own_reach, A_own_figures, A_own_base, A_check, C_Grid]
        exact last _ d s4 hy k4 hp4
end
theorem rangeD2 {i j : Nat} (hi : i ≤ 1000000) (hj : j ≤ 1000000) : rangeD [.int (i : Int), .int (j : Int)] = some (rangeI (i : Int) (j - i)) := by
  have e : ∀ x y : Int, (-(2 ^ 62) ≤ x ∧ x < 2 ^ 62) ∧ -(2 ^ 62) ≤ y ∧ y < 2 ^ 62 → rangeD [.int x, .int y] = some (rangeI x (y - x).toNat) := fun x y h => if_pos h
  rw [e _ _ (by omega)]
  congr 2
  omega
theorem rangeD1b {m : Nat} (h : m ≤ 1000000) : rangeD [.int (m : Int)] = some (rangeI 0 m) := by
  rw [rangeD_one _ (by omega), Int.toNat_natCast]
theorem rangeI_mem {lo : Int} {n : Nat} {d : D} (h : d ∈ rangeI lo n) : ∃ i : Nat, i < n ∧ d = .int (lo + i) := by
  obtain ⟨i, hi⟩ := List.getElem?_of_mem h
  obtain ⟨h1, h2⟩ := rangeI_at hi
  exact ⟨i, h2, h1⟩
/-- a list of ints of the grid -/
def GL (b f r : Nat) (ds : List D) : Prop := ∀ d ∈ ds, ∃ x : Int, d = .int x ∧ onGrid b f r x
section
variable {fuel n : Nat} {s : Sto} {Q : D → Sto → Prop} {b f r p : Nat}
theorem ladder_ok2 (gp : GP b f r p) (hbf : b ^ f ≤ 1000) (hf : 1000 < fuel) (h : ∀ k ds s', Gr s s' → s.length ≤ k → lstAt s' k = some ds → GL b f r ds → ds.length ≤ 100000 → ds ≠ [] → Q (.ref k) s') :
    wp (call Z fuel (n + 2) F_law_grid_ladder [gt b f r p] s) Q := by
  have hb := And.intro gp.b2 gp.b10
  have f1 := gp.f1
  have f30 := gp.f30
  have r60 := gp.r60
  have b0 : (0 : Int) < b := by omega
  have bl : (b : Int).natAbs.log2 < 9000 := by have := (Sm.base hb.2).log; omega
  have sz : 200000 ≤ sizeLine := by decide
  refine wp_call (r := d_law_grid_ladder) rfl rfl ?_
  simp only [d_law_grid_ladder, ↓wf_nil, ↓wf_cons, ↓wg_asg, ↓wf_par, ↓wf_par3, ↓wg_setF, ↓wg_setI, ↓wf_ex, ↓wf_ret, ↓wf_retN, ↓wf_pass, ↓wf_brk, ↓wf_cnt, ↓wg_ite, ↓wf_for, ↓wp_var, ↓wp_lit, ↓wp_glob, ↓wp_bin, ↓wp_dct, ↓wp_dix, ↓wp_cmpEq, ↓wp_cmpIn, ↓wp_nin, onB_b, ↓wp_cmpNe, ↓wp_neg, ↓wp_cmp, ↓wp_chain, ↓wp_not, ↓wp_and, ↓wp_or, ↓wp_ite, ↓wp_fld, ↓wp_tup, ↓wp_new, ↓wp_callE, ↓wp_meth, ↓wp_make, ↓wp_bi, ↓wp_fold, ↓wp_foldv, ↓wp_append, ↓wp_extend, ↓wp_ix, ↓wp_sl, ↓wp_slk, ↓wp_enil, ↓wp_econs, ↓wp_disp, ↓wp_lrange, ↓wp_lcomp, ↓wp_cnil, ↓wp_ccons, ↓wp_seq, ↓wp_fresh, ↓wp_irange, ↓wp_enum, ↓wp_bind, ↓wp_ok, ↓wp_if, ↓swB_bl, ↓swT_s, ↓onS_s, ↓onO_s, ↓onI_i, ↓onR_r, ↓brB_t, ↓brB_f, ↓brB_n, ↓brB_d, cls_gOf, dct_new, pairsD, keyOf, not_true_eq_false, not_false_eq_true, ixN_30, ixN_31, ixN_32, lst_new, eqD_int, eqD_non_int, fuel_gOf, atI_0, atI_1, atI_2, atI_3, atI_4, putD, List.set_set, List.contains_cons, List.contains_nil, beq_self_eq_true, Bool.or_true, Bool.true_or, Bool.or_false, Bool.false_or, Nat.reduceEqDiff, Nat.reduceLT, Nat.zero_lt_succ, T.put, setAll, wipeE, tru, binD, cmpD, biD, itemsOf, tupOk, fldP, walkP, bnd, isNon, swB_bl, swT_s, onS_s, onO_s, onI_i, onR_r, brB_t, brB_f, brB_n, brB_d, brB_and, brB_or, List.map_cons, List.map_nil, List.cons_append, List.nil_append, List.append_nil, List.replicate, List.getElem?_cons_zero, List.getElem?_cons_succ, List.set_cons_zero, List.set_cons_succ, List.length_cons, List.length_nil, Nat.reduceAdd, Nat.reduceSub, Nat.reduceLeDiff, List.lookup_cons, List.lookup_nil, true_and, and_true, Bool.not_true, Bool.not_false, if_true, if_false, reduceIte, forall_const, Bool.false_eq_true, false_implies, implies_true, true_implies, reduceCtorEq, Nat.reduceBEq, con_MOST_MORE, con_NEAR, con_MOST_REACH, con_MOST_PLACES, con_MOST_BASE, con_LEAST_BASE, con_MOST_FIGURES, con_ZERO, con_UP, con_DOWN, cls_Grid, kl0, A_own_step, A_own_bounds, A_own_tops, A_own_places, A_own_reach, A_own_figures, A_own_base, A_check, C_Grid, gt]
  refine gpower_ok hb.2 (by omega) hf ?_
  simp only [↓wf_nil, ↓wf_cons, ↓wg_asg, ↓wf_par, ↓wf_par3, ↓wg_setF, ↓wg_setI, ↓wf_ex, ↓wf_ret, ↓wf_retN, ↓wf_pass, ↓wf_brk, ↓wf_cnt, ↓wg_ite, ↓wf_for, ↓wp_var, ↓wp_lit, ↓wp_glob, ↓wp_bin, ↓wp_dct, ↓wp_dix, ↓wp_cmpEq, ↓wp_cmpIn, ↓wp_nin, onB_b, ↓wp_cmpNe, ↓wp_neg, ↓wp_cmp, ↓wp_chain, ↓wp_not, ↓wp_and, ↓wp_or, ↓wp_ite, ↓wp_fld, ↓wp_tup, ↓wp_new, ↓wp_callE, ↓wp_meth, ↓wp_make, ↓wp_bi, ↓wp_fold, ↓wp_foldv, ↓wp_append, ↓wp_extend, ↓wp_ix, ↓wp_sl, ↓wp_slk, ↓wp_enil, ↓wp_econs, ↓wp_disp, ↓wp_lrange, ↓wp_lcomp, ↓wp_cnil, ↓wp_ccons, ↓wp_seq, ↓wp_fresh, ↓wp_irange, ↓wp_enum, ↓wp_bind, ↓wp_ok, ↓wp_if, ↓swB_bl, ↓swT_s, ↓onS_s, ↓onO_s, ↓onI_i, ↓onR_r, ↓brB_t, ↓brB_f, ↓brB_n, ↓brB_d, cls_gOf, dct_new, pairsD, keyOf, not_true_eq_false, not_false_eq_true, ixN_30, ixN_31, ixN_32, lst_new, eqD_int, eqD_non_int, fuel_gOf, atI_0, atI_1, atI_2, atI_3, atI_4, putD, List.set_set, List.contains_cons, List.contains_nil, beq_self_eq_true, Bool.or_true, Bool.true_or, Bool.or_false, Bool.false_or, Nat.reduceEqDiff, Nat.reduceLT, Nat.zero_lt_succ, T.put, setAll, wipeE, tru, binD, cmpD, biD, itemsOf, tupOk, fldP, walkP, bnd, isNon, swB_bl, swT_s, onS_s, onO_s, onI_i, onR_r, brB_t, brB_f, brB_n, brB_d, brB_and, brB_or, List.map_cons, List.map_nil, List.cons_append, List.nil_append, List.append_nil, List.replicate, List.getElem?_cons_zero, List.getElem?_cons_succ, List.set_cons_zero, List.set_cons_succ, List.length_cons, List.length_nil, Nat.reduceAdd, Nat.reduceSub, Nat.reduceLeDiff, List.lookup_cons, List.lookup_nil, true_and, and_true, Bool.not_true, Bool.not_false, if_true, if_false, reduceIte, forall_const, Bool.false_eq_true, false_implies, implies_true, true_implies, reduceCtorEq, Nat.reduceBEq, con_MOST_MORE, con_NEAR, con_MOST_REACH, con_MOST_PLACES, con_MOST_BASE, con_LEAST_BASE, con_MOST_FIGURES, con_ZERO, con_UP, con_DOWN, cls_Grid, kl0, A_own_step, A_own_bounds, A_own_tops, A_own_places, A_own_reach, A_own_figures, A_own_base, A_check, C_Grid]
  rw [cast_pow, rangeD1 hbf]
  simp only [↓wf_nil, ↓wf_cons, ↓wg_asg, ↓wf_par, ↓wf_par3, ↓wg_setF, ↓wg_setI, ↓wf_ex, ↓wf_ret, ↓wf_retN, ↓wf_pass, ↓wf_brk, ↓wf_cnt, ↓wg_ite, ↓wf_for, ↓wp_var, ↓wp_lit, ↓wp_glob, ↓wp_bin, ↓wp_dct, ↓wp_dix, ↓wp_cmpEq, ↓wp_cmpIn, ↓wp_nin, onB_b, ↓wp_cmpNe, ↓wp_neg, ↓wp_cmp, ↓wp_chain, ↓wp_not, ↓wp_and, ↓wp_or, ↓wp_ite, ↓wp_fld, ↓wp_tup, ↓wp_new, ↓wp_callE, ↓wp_meth, ↓wp_make, ↓wp_bi, ↓wp_fold, ↓wp_foldv, ↓wp_append, ↓wp_extend, ↓wp_ix, ↓wp_sl, ↓wp_slk, ↓wp_enil, ↓wp_econs, ↓wp_disp, ↓wp_lrange, ↓wp_lcomp, ↓wp_cnil, ↓wp_ccons, ↓wp_seq, ↓wp_fresh, ↓wp_irange, ↓wp_enum, ↓wp_bind, ↓wp_ok, ↓wp_if, ↓swB_bl, ↓swT_s, ↓onS_s, ↓onO_s, ↓onI_i, ↓onR_r, ↓brB_t, ↓brB_f, ↓brB_n, ↓brB_d, cls_gOf, dct_new, pairsD, keyOf, not_true_eq_false, not_false_eq_true, ixN_30, ixN_31, ixN_32, lst_new, eqD_int, eqD_non_int, fuel_gOf, atI_0, atI_1, atI_2, atI_3, atI_4, putD, List.set_set, List.contains_cons, List.contains_nil, beq_self_eq_true, Bool.or_true, Bool.true_or, Bool.or_false, Bool.false_or, Nat.reduceEqDiff, Nat.reduceLT, Nat.zero_lt_succ, T.put, setAll, wipeE, tru, binD, cmpD, biD, itemsOf, tupOk, fldP, walkP, bnd, isNon, swB_bl, swT_s, onS_s, onO_s, onI_i, onR_r, brB_t, brB_f, brB_n, brB_d, brB_and, brB_or, List.map_cons, List.map_nil, List.cons_append, List.nil_append, List.append_nil, List.replicate, List.getElem?_cons_zero, List.getElem?_cons_succ, List.set_cons_zero, List.set_cons_succ, List.length_cons, List.length_nil, Nat.reduceAdd, Nat.reduceSub, Nat.reduceLeDiff, List.lookup_cons, List.lookup_nil, true_and, and_true, Bool.not_true, Bool.not_false, if_true, if_false, reduceIte, forall_const, Bool.false_eq_true, false_implies, implies_true, true_implies, reduceCtorEq, Nat.reduceBEq, con_MOST_MORE, con_NEAR, con_MOST_REACH, con_MOST_PLACES, con_MOST_BASE, con_LEAST_BASE, con_MOST_FIGURES, con_ZERO, con_UP, con_DOWN, cls_Grid, kl0, A_own_step, A_own_bounds, A_own_tops, A_own_places, A_own_reach, A_own_figures, A_own_base, A_check, C_Grid, rangeI_len]
  rw [rangeD1 (by omega)]
  simp only [↓wf_nil, ↓wf_cons, ↓wg_asg, ↓wf_par, ↓wf_par3, ↓wg_setF, ↓wg_setI, ↓wf_ex, ↓wf_ret, ↓wf_retN, ↓wf_pass, ↓wf_brk, ↓wf_cnt, ↓wg_ite, ↓wf_for, ↓wp_var, ↓wp_lit, ↓wp_glob, ↓wp_bin, ↓wp_dct, ↓wp_dix, ↓wp_cmpEq, ↓wp_cmpIn, ↓wp_nin, onB_b, ↓wp_cmpNe, ↓wp_neg, ↓wp_cmp, ↓wp_chain, ↓wp_not, ↓wp_and, ↓wp_or, ↓wp_ite, ↓wp_fld, ↓wp_tup, ↓wp_new, ↓wp_callE, ↓wp_meth, ↓wp_make, ↓wp_bi, ↓wp_fold, ↓wp_foldv, ↓wp_append, ↓wp_extend, ↓wp_ix, ↓wp_sl, ↓wp_slk, ↓wp_enil, ↓wp_econs, ↓wp_disp, ↓wp_lrange, ↓wp_lcomp, ↓wp_cnil, ↓wp_ccons, ↓wp_seq, ↓wp_fresh, ↓wp_irange, ↓wp_enum, ↓wp_bind, ↓wp_ok, ↓wp_if, ↓swB_bl, ↓swT_s, ↓onS_s, ↓onO_s, ↓onI_i, ↓onR_r, ↓brB_t, ↓brB_f, ↓brB_n, ↓brB_d, cls_gOf, dct_new, pairsD, keyOf, not_true_eq_false, not_false_eq_true, ixN_30, ixN_31, ixN_32, lst_new, eqD_int, eqD_non_int, fuel_gOf, atI_0, atI_1, atI_2, atI_3, atI_4, putD, List.set_set, List.contains_cons, List.contains_nil, beq_self_eq_true, Bool.or_true, Bool.true_or, Bool.or_false, Bool.false_or, Nat.reduceEqDiff, Nat.reduceLT, Nat.zero_lt_succ, T.put, setAll, wipeE, tru, binD, cmpD, biD, itemsOf, tupOk, fldP, walkP, bnd, isNon, swB_bl, swT_s, onS_s, onO_s, onI_i, onR_r, brB_t, brB_f, brB_n, brB_d, brB_and, brB_or, List.map_cons, List.map_nil, List.cons_append, List.nil_append, List.append_nil, List.replicate, List.getElem?_cons_zero, List.getElem?_cons_succ, List.set_cons_zero, List.set_cons_succ, List.length_cons, List.length_nil, Nat.reduceAdd, Nat.reduceSub, Nat.reduceLeDiff, List.lookup_cons, List.lookup_nil, true_and, and_true, Bool.not_true, Bool.not_false, if_true, if_false, reduceIte, forall_const, Bool.false_eq_true, false_implies, implies_true, true_implies, reduceCtorEq, Nat.reduceBEq, con_MOST_MORE, con_NEAR, con_MOST_REACH, con_MOST_PLACES, con_MOST_BASE, con_LEAST_BASE, con_MOST_FIGURES, con_ZERO, con_UP, con_DOWN, cls_Grid, kl0, A_own_step, A_own_bounds, A_own_tops, A_own_places, A_own_reach, A_own_figures, A_own_base, A_check, C_Grid]
  refine ⟨by omega, by omega, ?_⟩
  have g0 : GL b f r (rangeI 0 (b ^ f)) := fun d hd => by
    obtain ⟨i, hi, rfl⟩ := rangeI_mem hd
    exact ⟨_, rfl, onGrid_of (m := (i : Int)) (e := 0) hb.1 (by simp) (by simpa using hi) (Nat.zero_le _)⟩
  refine wf_fix (I := fun i e s' => ∃ (ds : List D) (l a : Option D), e = [some (gt b f r p), some (.ref s.length), l, some (.int (b ^ f : Nat)), some (.int ((b : Int) ^ i)), a] ∧ Gr s s' ∧ lstAt s' s.length = some ds ∧ GL b f r ds ∧ ds.length ≤ (i + 1) * 1000 ∧ 0 < ds.length) ?_ ⟨rangeI 0 (b ^ f), none, none, by simp [gt], .app _, lst_new, g0, by rw [rangeI_len]; omega, by rw [rangeI_len]; exact Nat.pow_pos (by omega)⟩ ?_ ?_
  · rw [rangeI_len]; show r < fuel; omega
  · rintro i d e s1 hd ⟨ds, l, a, rfl, gr, hl, hg, hlen, hpos⟩
    obtain ⟨rfl, hi⟩ := rangeI_at hd
    refine ⟨_, rfl, ?_⟩
    simp only [↓wf_nil, ↓wf_cons, ↓wg_asg, ↓wf_par, ↓wf_par3, ↓wg_setF, ↓wg_setI, ↓wf_ex, ↓wf_ret, ↓wf_retN, ↓wf_pass, ↓wf_brk, ↓wf_cnt, ↓wg_ite, ↓wf_for, ↓wp_var, ↓wp_lit, ↓wp_glob, ↓wp_bin, ↓wp_dct, ↓wp_dix, ↓wp_cmpEq, ↓wp_cmpIn, ↓wp_nin, onB_b, ↓wp_cmpNe, ↓wp_neg, ↓wp_cmp, ↓wp_chain, ↓wp_not, ↓wp_and, ↓wp_or, ↓wp_ite, ↓wp_fld, ↓wp_tup, ↓wp_new, ↓wp_callE, ↓wp_meth, ↓wp_make, ↓wp_bi, ↓wp_fold, ↓wp_foldv, ↓wp_append, ↓wp_extend, ↓wp_ix, ↓wp_sl, ↓wp_slk, ↓wp_enil, ↓wp_econs, ↓wp_disp, ↓wp_lrange, ↓wp_lcomp, ↓wp_cnil, ↓wp_ccons, ↓wp_seq, ↓wp_fresh, ↓wp_irange, ↓wp_enum, ↓wp_bind, ↓wp_ok, ↓wp_if, ↓swB_bl, ↓swT_s, ↓onS_s, ↓onO_s, ↓onI_i, ↓onR_r, ↓brB_t, ↓brB_f, ↓brB_n, ↓brB_d, cls_gOf, dct_new, pairsD, keyOf, not_true_eq_false, not_false_eq_true, ixN_30, ixN_31, ixN_32, lst_new, eqD_int, eqD_non_int, fuel_gOf, atI_0, atI_1, atI_2, atI_3, atI_4, putD, List.set_set, List.contains_cons, List.contains_nil, beq_self_eq_true, Bool.or_true, Bool.true_or, Bool.or_false, Bool.false_or, Nat.reduceEqDiff, Nat.reduceLT, Nat.zero_lt_succ, T.put, setAll, wipeE, tru, binD, cmpD, biD, itemsOf, tupOk, fldP, walkP, bnd, isNon, swB_bl, swT_s, onS_s, onO_s, onI_i, onR_r, brB_t, brB_f, brB_n, brB_d, brB_and, brB_or, List.map_cons, List.map_nil, List.cons_append, List.nil_append, List.append_nil, List.replicate, List.getElem?_cons_zero, List.getElem?_cons_succ, List.set_cons_zero, List.set_cons_succ, List.length_cons, List.length_nil, Nat.reduceAdd, Nat.reduceSub, Nat.reduceLeDiff, List.lookup_cons, List.lookup_nil, true_and, and_true, Bool.not_true, Bool.not_false, if_true, if_false, reduceIte, forall_const, Bool.false_eq_true, false_implies, implies_true, true_implies, reduceCtorEq, Nat.reduceBEq, con_MOST_MORE, con_NEAR, con_MOST_REACH, con_MOST_PLACES, con_MOST_BASE, con_LEAST_BASE, con_MOST_FIGURES, con_ZERO, con_UP, con_DOWN, cls_Grid, kl0, A_own_step, A_own_bounds, A_own_tops, A_own_places, A_own_reach, A_own_figures, A_own_base, A_check, C_Grid, gt, hl]
    have sP : Sm ((b : Int) ^ i) := Sm.pow hb.2 (by omega)
    have sP2 : Sm ((b : Int) ^ i * (b : Int)) := by rw [← Int.pow_succ]; exact Sm.pow hb.2 (by omega)
    have sF : Sm ((b ^ f : Nat) : Int) := Sm.nat (sm_small hbf)
    refine ⟨sP.mul (Sm.base hb.2), ⟨b0, bl⟩, ?_⟩
    have ed : ((b ^ f : Nat) : Int) / (b : Int) = ((b ^ f / b : Nat) : Int) := by simp
    have hd2 : b ^ f / b ≤ b ^ f := Nat.div_le_self _ _
    rw [ed]
    generalize b ^ f / b = D0 at hd2 ⊢
    rw [rangeD2 (by omega) (by omega)]
    simp only [↓wf_nil, ↓wf_cons, ↓wg_asg, ↓wf_par, ↓wf_par3, ↓wg_setF, ↓wg_setI, ↓wf_ex, ↓wf_ret, ↓wf_retN, ↓wf_pass, ↓wf_brk, ↓wf_cnt, ↓wg_ite, ↓wf_for, ↓wp_var, ↓wp_lit, ↓wp_glob, ↓wp_bin, ↓wp_dct, ↓wp_dix, ↓wp_cmpEq, ↓wp_cmpIn, ↓wp_nin, onB_b, ↓wp_cmpNe, ↓wp_neg, ↓wp_cmp, ↓wp_chain, ↓wp_not, ↓wp_and, ↓wp_or, ↓wp_ite, ↓wp_fld, ↓wp_tup, ↓wp_new, ↓wp_callE, ↓wp_meth, ↓wp_make, ↓wp_bi, ↓wp_fold, ↓wp_foldv, ↓wp_append, ↓wp_extend, ↓wp_ix, ↓wp_sl, ↓wp_slk, ↓wp_enil, ↓wp_econs, ↓wp_disp, ↓wp_lrange, ↓wp_lcomp, ↓wp_cnil, ↓wp_ccons, ↓wp_seq, ↓wp_fresh, ↓wp_irange, ↓wp_enum, ↓wp_bind, ↓wp_ok, ↓wp_if, ↓swB_bl, ↓swT_s, ↓onS_s, ↓onO_s, ↓onI_i, ↓onR_r, ↓brB_t, ↓brB_f, ↓brB_n, ↓brB_d, cls_gOf, dct_new, pairsD, keyOf, not_true_eq_false, not_false_eq_true, ixN_30, ixN_31, ixN_32, lst_new, eqD_int, eqD_non_int, fuel_gOf, atI_0, atI_1, atI_2, atI_3, atI_4, putD, List.set_set, List.contains_cons, List.contains_nil, beq_self_eq_true, Bool.or_true, Bool.true_or, Bool.or_false, Bool.false_or, Nat.reduceEqDiff, Nat.reduceLT, Nat.zero_lt_succ, T.put, setAll, wipeE, tru, binD, cmpD, biD, itemsOf, tupOk, fldP, walkP, bnd, isNon, swB_bl, swT_s, onS_s, onO_s, onI_i, onR_r, brB_t, brB_f, brB_n, brB_d, brB_and, brB_or, List.map_cons, List.map_nil, List.cons_append, List.nil_append, List.append_nil, List.replicate, List.getElem?_cons_zero, List.getElem?_cons_succ, List.set_cons_zero, List.set_cons_succ, List.length_cons, List.length_nil, Nat.reduceAdd, Nat.reduceSub, Nat.reduceLeDiff, List.lookup_cons, List.lookup_nil, true_and, and_true, Bool.not_true, Bool.not_false, if_true, if_false, reduceIte, forall_const, Bool.false_eq_true, false_implies, implies_true, true_implies, reduceCtorEq, Nat.reduceBEq, con_MOST_MORE, con_NEAR, con_MOST_REACH, con_MOST_PLACES, con_MOST_BASE, con_LEAST_BASE, con_MOST_FIGURES, con_ZERO, con_UP, con_DOWN, cls_Grid, kl0, A_own_step, A_own_bounds, A_own_tops, A_own_places, A_own_reach, A_own_figures, A_own_base, A_check, C_Grid]
    have hin : ∀ u, u ∈ rangeI (D0 : Int) (b ^ f - D0) → ∃ j : Nat, j < b ^ f ∧ u = .int (j : Int) := fun u hu => by
      obtain ⟨j, hj, rfl⟩ := rangeI_mem hu
      exact ⟨D0 + j, by omega, by rw [Int.natCast_add]⟩
    refine wp_map (f := fun d => match d with | .int j => .int ((b : Int) ^ i * b * j) | d => d) (by rw [rangeI_len]; show _ < fuel; omega) (by rw [rangeI_len]; omega) ?_ ?_
    · intro u hu s' g'
      obtain ⟨j, hj, rfl⟩ := hin u hu
      refine ⟨_, rfl, ?_⟩
      simp only [↓wf_nil, ↓wf_cons, ↓wg_asg, ↓wf_par, ↓wf_par3, ↓wg_setF, ↓wg_setI, ↓wf_ex, ↓wf_ret, ↓wf_retN, ↓wf_pass, ↓wf_brk, ↓wf_cnt, ↓wg_ite, ↓wf_for, ↓wp_var, ↓wp_lit, ↓wp_glob, ↓wp_bin, ↓wp_dct, ↓wp_dix, ↓wp_cmpEq, ↓wp_cmpIn, ↓wp_nin, onB_b, ↓wp_cmpNe, ↓wp_neg, ↓wp_cmp, ↓wp_chain, ↓wp_not, ↓wp_and, ↓wp_or, ↓wp_ite, ↓wp_fld, ↓wp_tup, ↓wp_new, ↓wp_callE, ↓wp_meth, ↓wp_make, ↓wp_bi, ↓wp_fold, ↓wp_foldv, ↓wp_append, ↓wp_extend, ↓wp_ix, ↓wp_sl, ↓wp_slk, ↓wp_enil, ↓wp_econs, ↓wp_disp, ↓wp_lrange, ↓wp_lcomp, ↓wp_cnil, ↓wp_ccons, ↓wp_seq, ↓wp_fresh, ↓wp_irange, ↓wp_enum, ↓wp_bind, ↓wp_ok, ↓wp_if, ↓swB_bl, ↓swT_s, ↓onS_s, ↓onO_s, ↓onI_i, ↓onR_r, ↓brB_t, ↓brB_f, ↓brB_n, ↓brB_d, cls_gOf, dct_new, pairsD, keyOf, not_true_eq_false, not_false_eq_true, ixN_30, ixN_31, ixN_32, lst_new, eqD_int, eqD_non_int, fuel_gOf, atI_0, atI_1, atI_2, atI_3, atI_4, putD, List.set_set, List.contains_cons, List.contains_nil, beq_self_eq_true, Bool.or_true, Bool.true_or, Bool.or_false, Bool.false_or, Nat.reduceEqDiff, Nat.reduceLT, Nat.zero_lt_succ, T.put, setAll, wipeE, tru, binD, cmpD, biD, itemsOf, tupOk, fldP, walkP, bnd, isNon, swB_bl, swT_s, onS_s, onO_s, onI_i, onR_r, brB_t, brB_f, brB_n, brB_d, brB_and, brB_or, List.map_cons, List.map_nil, List.cons_append, List.nil_append, List.append_nil, List.replicate, List.getElem?_cons_zero, List.getElem?_cons_succ, List.set_cons_zero, List.set_cons_succ, List.length_cons, List.length_nil, Nat.reduceAdd, Nat.reduceSub, Nat.reduceLeDiff, List.lookup_cons, List.lookup_nil, true_and, and_true, Bool.not_true, Bool.not_false, if_true, if_false, reduceIte, forall_const, Bool.false_eq_true, false_implies, implies_true, true_implies, reduceCtorEq, Nat.reduceBEq, con_MOST_MORE, con_NEAR, con_MOST_REACH, con_MOST_PLACES, con_MOST_BASE, con_LEAST_BASE, con_MOST_FIGURES, con_ZERO, con_UP, con_DOWN, cls_Grid, kl0, A_own_step, A_own_bounds, A_own_tops, A_own_places, A_own_reach, A_own_figures, A_own_base, A_check, C_Grid]
      exact ⟨sP2.mul (Sm.nat (sm_small (by omega))), .refl⟩
    · intro s2 g2
      have hk := (List.getElem?_eq_some_iff.mp (of_lst hl)).1
      have hl2 := g2.lst hl
      have hk2 := (List.getElem?_eq_some_iff.mp (of_lst hl2)).1
      have hl3 : ∀ m, lstAt (s2 ++ m) s.length = some ds := fun m => (Gr.app m).lst hl2
      simp only [↓wf_nil, ↓wf_cons, ↓wg_asg, ↓wf_par, ↓wf_par3, ↓wg_setF, ↓wg_setI, ↓wf_ex, ↓wf_ret, ↓wf_retN, ↓wf_pass, ↓wf_brk, ↓wf_cnt, ↓wg_ite, ↓wf_for, ↓wp_var, ↓wp_lit, ↓wp_glob, ↓wp_bin, ↓wp_dct, ↓wp_dix, ↓wp_cmpEq, ↓wp_cmpIn, ↓wp_nin, onB_b, ↓wp_cmpNe, ↓wp_neg, ↓wp_cmp, ↓wp_chain, ↓wp_not, ↓wp_and, ↓wp_or, ↓wp_ite, ↓wp_fld, ↓wp_tup, ↓wp_new, ↓wp_callE, ↓wp_meth, ↓wp_make, ↓wp_bi, ↓wp_fold, ↓wp_foldv, ↓wp_append, ↓wp_extend, ↓wp_ix, ↓wp_sl, ↓wp_slk, ↓wp_enil, ↓wp_econs, ↓wp_disp, ↓wp_lrange, ↓wp_lcomp, ↓wp_cnil, ↓wp_ccons, ↓wp_seq, ↓wp_fresh, ↓wp_irange, ↓wp_enum, ↓wp_bind, ↓wp_ok, ↓wp_if, ↓swB_bl, ↓swT_s, ↓onS_s, ↓onO_s, ↓onI_i, ↓onR_r, ↓brB_t, ↓brB_f, ↓brB_n, ↓brB_d, cls_gOf, dct_new, pairsD, keyOf, not_true_eq_false, not_false_eq_true, ixN_30, ixN_31, ixN_32, lst_new, eqD_int, eqD_non_int, fuel_gOf, atI_0, atI_1, atI_2, atI_3, atI_4, putD, List.set_set, List.contains_cons, List.contains_nil, beq_self_eq_true, Bool.or_true, Bool.true_or, Bool.or_false, Bool.false_or, Nat.reduceEqDiff, Nat.reduceLT, Nat.zero_lt_succ, T.put, setAll, wipeE, tru, binD, cmpD, biD, itemsOf, tupOk, fldP, walkP, bnd, isNon, swB_bl, swT_s, onS_s, onO_s, onI_i, onR_r, brB_t, brB_f, brB_n, brB_d, brB_and, brB_or, List.map_cons, List.map_nil, List.cons_append, List.nil_append, List.append_nil, List.replicate, List.getElem?_cons_zero, List.getElem?_cons_succ, List.set_cons_zero, List.set_cons_succ, List.length_cons, List.length_nil, Nat.reduceAdd, Nat.reduceSub, Nat.reduceLeDiff, List.lookup_cons, List.lookup_nil, true_and, and_true, Bool.not_true, Bool.not_false, if_true, if_false, reduceIte, forall_const, Bool.false_eq_true, false_implies, implies_true, true_implies, reduceCtorEq, Nat.reduceBEq, con_MOST_MORE, con_NEAR, con_MOST_REACH, con_MOST_PLACES, con_MOST_BASE, con_LEAST_BASE, con_MOST_FIGURES, con_ZERO, con_UP, con_DOWN, cls_Grid, kl0, A_own_step, A_own_bounds, A_own_tops, A_own_places, A_own_reach, A_own_figures, A_own_base, A_check, C_Grid, hl3, List.length_map, rangeI_len]
      refine ⟨by omega, _, _, _, rfl, ((gr.trans g2).trans (.app _)).set (Nat.le_refl _), lst_set (of_lst (hl3 _)), ?_, ?_, by rw [List.length_append]; omega⟩
      · intro u hu
        rcases List.mem_append.mp hu with hu | hu
        · exact hg u hu
        · obtain ⟨v, hv, rfl⟩ := List.mem_map.mp hu
          obtain ⟨j, hj, rfl⟩ := hin v hv
          exact ⟨_, rfl, onGrid_of (m := (j : Int)) (e := i + 1) hb.1 (by rw [Int.pow_succ, Int.mul_comm]) (by simpa using hj) (by omega)⟩
      · rw [List.length_append, List.length_map, rangeI_len]
        omega
  · rintro e s1 ⟨ds, l, a, rfl, gr, hl, hg, hlen, hpos⟩
    rw [rangeI_len] at hlen
    simp only [↓wf_nil, ↓wf_cons, ↓wg_asg, ↓wf_par, ↓wf_par3, ↓wg_setF, ↓wg_setI, ↓wf_ex, ↓wf_ret, ↓wf_retN, ↓wf_pass, ↓wf_brk, ↓wf_cnt, ↓wg_ite, ↓wf_for, ↓wp_var, ↓wp_lit, ↓wp_glob, ↓wp_bin, ↓wp_dct, ↓wp_dix, ↓wp_cmpEq, ↓wp_cmpIn, ↓wp_nin, onB_b, ↓wp_cmpNe, ↓wp_neg, ↓wp_cmp, ↓wp_chain, ↓wp_not, ↓wp_and, ↓wp_or, ↓wp_ite, ↓wp_fld, ↓wp_tup, ↓wp_new, ↓wp_callE, ↓wp_meth, ↓wp_make, ↓wp_bi, ↓wp_fold, ↓wp_foldv, ↓wp_append, ↓wp_extend, ↓wp_ix, ↓wp_sl, ↓wp_slk, ↓wp_enil, ↓wp_econs, ↓wp_disp, ↓wp_lrange, ↓wp_lcomp, ↓wp_cnil, ↓wp_ccons, ↓wp_seq, ↓wp_fresh, ↓wp_irange, ↓wp_enum, ↓wp_bind, ↓wp_ok, ↓wp_if, ↓swB_bl, ↓swT_s, ↓onS_s, ↓onO_s, ↓onI_i, ↓onR_r, ↓brB_t, ↓brB_f, ↓brB_n, ↓brB_d, cls_gOf, dct_new, pairsD, keyOf, not_true_eq_false, not_false_eq_true, ixN_30, ixN_31, ixN_32, lst_new, eqD_int, eqD_non_int, fuel_gOf, atI_0, atI_1, atI_2, atI_3, atI_4, putD, List.set_set, List.contains_cons, List.contains_nil, beq_self_eq_true, Bool.or_true, Bool.true_or, Bool.or_false, Bool.false_or, Nat.reduceEqDiff, Nat.reduceLT, Nat.zero_lt_succ, T.put, setAll, wipeE, tru, binD, cmpD, biD, itemsOf, tupOk, fldP, walkP, bnd, isNon, swB_bl, swT_s, onS_s, onO_s, onI_i, onR_r, brB_t, brB_f, brB_n, brB_d, brB_and, brB_or, List.map_cons, List.map_nil, List.cons_append, List.nil_append, List.append_nil, List.replicate, List.getElem?_cons_zero, List.getElem?_cons_succ, List.set_cons_zero, List.set_cons_succ, List.length_cons, List.length_nil, Nat.reduceAdd, Nat.reduceSub, Nat.reduceLeDiff, List.lookup_cons, List.lookup_nil, true_and, and_true, Bool.not_true, Bool.not_false, if_true, if_false, reduceIte, forall_const, Bool.false_eq_true, false_implies, implies_true, true_implies, reduceCtorEq, Nat.reduceBEq, con_MOST_MORE, con_NEAR, con_MOST_REACH, con_MOST_PLACES, con_MOST_BASE, con_LEAST_BASE, con_MOST_FIGURES, con_ZERO, con_UP, con_DOWN, cls_Grid, kl0, A_own_step, A_own_bounds, A_own_tops, A_own_places, A_own_reach, A_own_figures, A_own_base, A_check, C_Grid]
    exact h _ ds s1 gr (Nat.le_refl _) hl hg (by omega) (List.length_pos_iff.mp hpos)
theorem ladder_ok (gp : GP b f r p) (hbf : b ^ f ≤ 1000) (hf : 1000 < fuel) (h : ∀ k ds s', Gr s s' → s.length ≤ k → lstAt s' k = some ds → GL b f r ds → ds.length ≤ 100000 → Q (.ref k) s') :
    wp (call Z fuel (n + 2) F_law_grid_ladder [gt b f r p] s) Q := ladder_ok2 gp hbf hf fun k ds s' a1 a2 a3 a4 a5 _ => h k ds s' a1 a2 a3 a4 a5
end
theorem wp_allT {env : Slo} {s : Sto} {Q : List D → Sto → Prop} {t : T} {cond : Slo → Sto → R Bool} {elt : Slo → Sto → R D} {ds : List D} {fu : Nat} {it : It} (hj : ∀ i s', Gr s s' → it.at s' i = some ds[i]?) (hf : ds.length < fu) (hz : ds.length ≤ sizeLine)
    (h : ∀ d, d ∈ ds → ∀ s', Gr s s' → ∃ e1, t.put d env = some e1 ∧ wp (cond e1 s') fun b s1 => Gr s' s1 ∧ (b = true → wp (elt e1 s1) fun v s2 => v = .bl true ∧ Gr s1 s2)) (hx : ∀ m s', Gr s s' → Q (List.replicate m (.bl true)) s') :
    wp (compR it t env cond elt fu 0 [] s) Q := by
  refine wp_comp (I := fun i acc s' => (∃ m, m ≤ i ∧ acc = List.replicate m (.bl true)) ∧ Gr s s') hf ⟨⟨0, by simp⟩, .refl⟩ (fun i _ s' w => hj i s' w.2) hz (fun i acc s' ⟨⟨m, h1, e⟩, _⟩ => by rw [e]; simp; omega) ?_ ?_
  · rintro i d acc s' hd ⟨⟨m, hm, rfl⟩, gr⟩
    obtain ⟨e1, h1, h2⟩ := h d (List.mem_of_getElem? hd) s' gr
    refine ⟨e1, h1, wp_mono h2 fun b s1 ⟨g1, h3⟩ => ⟨fun hb => ?_, fun _ => ⟨⟨m, by omega, rfl⟩, gr.trans g1⟩⟩⟩
    refine wp_mono (h3 hb) fun v s2 ⟨ev, g2⟩ => ⟨⟨m + 1, by omega, ?_⟩, (gr.trans g1).trans g2⟩
    rw [ev, List.replicate_succ']
  · rintro acc s' ⟨⟨m, hm, rfl⟩, gr⟩
    exact hx m s' gr
theorem elim4 {P : Prop} {φ : Nat → Nat → Nat → Nat → Prop} (h : ∃ a b c d, φ a b c d) (k : ∀ a b c d, φ a b c d → P) : P := let ⟨a, b, c, d, z⟩ := h; k a b c d z
theorem elim1 {P : Prop} {α : Type} {φ : α → Prop} (h : ∃ a, φ a) (k : ∀ a, φ a → P) : P := let ⟨a, z⟩ := h; k a z
theorem elimO {P A B : Prop} (h : A ∨ B) (k : A → P) (j : B → P) : P := h.elim k j
theorem PotAt.set {s : Sto} {p N k : Nat} {c : Cell} (h : PotAt s p N) (n : k ≠ p) : PotAt (s.set k c) p N := by
  obtain ⟨a1, b1, c1, h1, h2⟩ := h.ex
  exact ⟨h.small, a1, b1, c1, by rw [List.getElem?_set_ne n]; exact h1, h2⟩
theorem all_rep (m : Nat) : allBl (List.replicate m (.bl true)) = some (List.replicate m true) := by
  have := allBl_map (fun _ : Nat => true) (List.replicate m 0)
  simpa using this
theorem Kp.back {s s1 s2 : Sto} {p : Nat} (g : Gr s s1) (h : s.length ≤ p) (k : Kp p s1 s2) : Gr s s2 := fun i c e => by
  have hi := (List.getElem?_eq_some_iff.mp e).1
  exact k.2 i c (by omega) (g i c e)
section
variable {b f r : Nat} {x y z : Int}
/-- nothing of the last place is nearer -/
theorem nr_best (hb : 2 ≤ b) (q : Int) : (x - nr b f x .near).natAbs ≤ (x - q * (ul b f x : Int)).natAbs := by
  obtain ⟨q0, l, e1, e2, e3, h1, h2⟩ := qr (b := b) (f := f) (x := x) hb
  unfold nr
  rw [e1, e2]
  have up : (0 : Int) < (ul b f x : Int) := by have := ul_pos (f := f) (x := x) hb; omega
  generalize (ul b f x : Int) = u at *
  have hc : (0 ≤ (q0 - q) * u) ∨ (0 ≤ (q - q0 - 1) * u) := by
    rcases (show q0 < q ∨ q ≤ q0 by omega) with h | h
    · exact .inr (Int.mul_nonneg (by omega) (by omega))
    · exact .inl (Int.mul_nonneg (by omega) (by omega))
  rw [Int.sub_mul, Int.sub_mul, Int.sub_mul, Int.one_mul] at hc
  by_cases hl : ledUp q0 l u x .near = true
  · rw [if_pos hl, Int.add_mul, Int.one_mul]
    simp [ledUp] at hl
    generalize q0 * u = z0 at *
    generalize q * u = z1 at *
    omega
  · rw [if_neg hl, Int.add_zero]
    simp [ledUp] at hl
    generalize q0 * u = z0 at *
    generalize q * u = z1 at *
    omega
theorem rest_le (hb : 2 ≤ b) (hf : 1 ≤ f) (hz : onGrid b f r z) (hx : x = y + z) : (x - nr b f x .near).natAbs ≤ y.natAbs := by
  by_cases hk : spn b (b ^ f) x.natAbs ≤ spn b (b ^ f) z.natAbs
  · obtain ⟨q, hq⟩ := Int.dvd_trans (dvd_pow_int (b := b) hk) (Int.dvd_of_emod_eq_zero hz.2)
    have := nr_best (f := f) (x := x) hb q
    rw [ul_int, Int.mul_comm q, ← hq] at this
    omega
  · obtain ⟨j, hj⟩ : ∃ j, spn b (b ^ f) x.natAbs = j + 1 := ⟨spn b (b ^ f) x.natAbs - 1, by omega⟩
    have bf : 0 < b ^ f := Nat.pow_pos (by omega)
    have h1 := spn_ge (i := j) hb bf (a := x.natAbs) (by omega)
    have h2 := spn_lt hb bf (a := z.natAbs)
    have h3 : b ^ f * b ^ spn b (b ^ f) z.natAbs ≤ b ^ f * b ^ j := Nat.mul_le_mul_left _ (Nat.pow_le_pow_right (by omega) (by omega))
    have e1 : b ^ f = b ^ (f - 1) * b := by rw [← Nat.pow_succ]; congr 1; omega
    have eu : ul b f x = b ^ (j + 1) := by unfold ul; rw [hj]
    have e2 : ((b ^ (f - 1) : Nat) : Int) * (ul b f x : Int) = ((b ^ f * b ^ j : Nat) : Int) := by
      rw [eu, e1, ← Int.natCast_mul, Nat.pow_succ, Nat.mul_assoc, Nat.mul_comm b]
    rcases Int.le_total 0 x with h0 | h0
    · have := nr_best (f := f) (x := x) hb ((b ^ (f - 1) : Nat) : Int)
      rw [e2] at this
      omega
    · have := nr_best (f := f) (x := x) hb (-((b ^ (f - 1) : Nat) : Int))
      rw [Int.neg_mul, e2] at this
      omega
theorem rest_on (hb : 2 ≤ b) (hf : 1 ≤ f) (hy : onGrid b f r y) (hz : onGrid b f r z) (hx : x = y + z) : onGrid b f r (x - nr b f x .near) := by
  have go : ∀ {y z : Int} {m1 m2 : Int} {e1 e2 : Nat}, y = m1 * (b : Int) ^ e1 → m1.natAbs < b ^ f → e1 ≤ r → z = m2 * (b : Int) ^ e2 → e1 ≤ e2 → onGrid b f r z → x = y + z → onGrid b f r (x - nr b f x .near) := by
    intro y z m1 m2 e1 e2 h1 h2 h3 h4 h5 hz hx
    have bf : 0 < b ^ f := Nat.pow_pos (by omega)
    have ez : z = m2 * (b : Int) ^ (e2 - e1) * (b : Int) ^ e1 := by
      rw [h4, Int.mul_assoc, ← Int.pow_add]
      congr 2
      omega
    have ex : x = (m1 + m2 * (b : Int) ^ (e2 - e1)) * (b : Int) ^ e1 := by rw [hx, ez, h1, Int.add_mul]
    by_cases hc : spn b (b ^ f) x.natAbs ≤ e1
    · have : nr b f x .near = x := nr_exact (by
        rw [ul_int]
        exact Int.emod_eq_zero_of_dvd (Int.dvd_trans (dvd_pow_int hc) ⟨m1 + m2 * (b : Int) ^ (e2 - e1), by rw [Int.mul_comm]; exact ex⟩))
      rw [this, Int.sub_self]
      exact onGrid_of (m := 0) (e := 0) hb (by simp) (by simpa using bf) (Nat.zero_le _)
    · obtain ⟨q, hq⟩ : ∃ q : Int, nr b f x .near = q * (b : Int) ^ spn b (b ^ f) x.natAbs := ⟨_, by unfold nr; rw [ul_int]⟩
      obtain ⟨c, hc2⟩ := dvd_pow_int (b := b) (i := e1) (j := spn b (b ^ f) x.natAbs) (by omega)
      have hr : x - nr b f x .near = ((m1 + m2 * (b : Int) ^ (e2 - e1)) - q * c) * (b : Int) ^ e1 := by
        rw [hq, hc2, Int.sub_mul, ← ex, Int.mul_assoc, Int.mul_comm c]
      refine onGrid_of hb hr ?_ h3
      have le := rest_le hb hf hz hx
      rw [hr, h1, Int.natAbs_mul, Int.natAbs_mul] at le
      have pe : 0 < ((b : Int) ^ e1).natAbs := by rw [Int.natAbs_pow, Int.natAbs_natCast]; exact Nat.pow_pos (by omega)
      have := Nat.le_of_mul_le_mul_right le pe
      omega
  obtain ⟨m1, e1, h1, h2, h3⟩ := onGrid_parts hb hy
  obtain ⟨m2, e2, h4, h5, h6⟩ := onGrid_parts hb hz
  rcases Nat.le_total e1 e2 with h | h
  · exact go h1 h2 h3 h4 h hz hx
  · exact go h4 h5 h6 h1 h hy (by rw [hx, Int.add_comm])
theorem zero_on (hb : 2 ≤ b) : onGrid b f r 0 := onGrid_of (m := 0) (e := 0) hb (by simp) (by simpa using Nat.pow_pos (n := f) (show 0 < b by omega)) (Nat.zero_le _)
end
/-- a row's sum, step by step, and what is left -/
def goneL (b f r : Nat) : Int → List Int → List Int → Option (Int × List Int)
  | x, acc, [] => some (x, acc)
  | x, acc, y :: ys => if (nr b f (x + y) .near).natAbs ≤ gtop b f r then goneL b f r (nr b f (x + y) .near) (acc ++ [x + y - nr b f (x + y) .near]) ys else none
def goneD (b f r : Nat) : List Int → D
  | [] => .tup [.int 0, .tup []]
  | x :: ys => match goneL b f r x [] ys with
    | some (z, l) => .tup [.int z, .tup (l.map D.int)]
    | none => .non
def GI (b f r : Nat) (xs : List Int) : Prop := ∀ y ∈ xs, onGrid b f r y
theorem goneL_some {b f r : Nat} (hb : 2 ≤ b) (hf : 1 ≤ f) : ∀ (ys : List Int) (x : Int) (acc : List Int) (z : Int) (l : List Int), onGrid b f r x → GI b f r ys → GI b f r acc → goneL b f r x acc ys = some (z, l) →
    onGrid b f r z ∧ GI b f r l ∧ z + l.sum = x + acc.sum + ys.sum ∧ l.length = acc.length + ys.length
  | [], x, acc, z, l, hx, _, ha, h => by
    simp only [goneL] at h
    cases h
    exact ⟨hx, ha, by simp, by simp⟩
  | y :: ys, x, acc, z, l, hx, hy, ha, h => by
    simp only [goneL] at h
    split at h
    · rename_i hle
      have y0 := hy y (by simp)
      obtain ⟨h1, h2, h3, h4⟩ := goneL_some hb hf ys _ _ z l (nr_grid2 hb hf hle) (fun w hw => hy w (by simp [hw])) (fun w hw => by
        rcases List.mem_append.mp hw with q | q
        · exact ha w q
        · rw [List.mem_singleton.mp q]; exact rest_on hb hf hx y0 rfl) h
      refine ⟨h1, h2, ?_, ?_⟩
      · rw [h3, List.sum_append, List.sum_cons, List.sum_cons, List.sum_nil]
        omega
      · rw [h4, List.length_append, List.length_cons, List.length_cons, List.length_nil]
        omega
    · cases h
/-! ### what repr shows -/
theorem strOk_app {a b : Str} (h : PyData.strOk a = true) (k : PyData.strOk b = true) : PyData.strOk (a ++ b) = true := by
  unfold PyData.strOk at *
  show (a.cps ++ b.cps).all _ = true
  rw [Array.all_append, h, k]; rfl
theorem strOk_of (x : String) : PyData.strOk (Str.ofString x) = true := by
  have cv : ∀ c : Char, c.toNat < 0x110000 := fun c => by
    rcases c.valid with h | h
    · have : c.toNat < 0xd800 := h
      omega
    · exact h.2
  rw [Str.ofString_eq_toList]
  unfold PyData.strOk
  rw [List.all_toArray, List.all_map, List.all_eq_true]
  intro c _
  exact decide_eq_true (cv c)
theorem strOk_join : ∀ ts : List Str, (∀ t ∈ ts, PyData.strOk t = true) → PyData.strOk (Str.join ", " ts) = true
  | [], _ => strOk_of ""
  | [x], h => h x (by simp)
  | x :: y :: r, h => by
    show PyData.strOk (x ++ ", " ++ Str.join ", " (y :: r)) = true
    exact strOk_app (strOk_app (h x (by simp)) (strOk_of _)) (strOk_join (y :: r) fun t ht => h t (by simp [ht]))
theorem join_le : ∀ ts : List Str, (Str.join ", " ts).length ≤ piled ts
  | [] => by simp [piled]; rfl
  | x :: r => by
    have := join_length_add (x :: r) (by simp)
    omega
theorem Sh.non : Sh 0 1 .none := ⟨rfl, rfl, by rw [PyData.shown_none]; exact strOk_of _, by rw [PyData.shown_none]; decide, by decide⟩
theorem Sh.int {i : Int} (h : i.natAbs.log2 < 1920) : Sh 0 1 (.int i) := by
  have e := int_text_length_le (k := 1920) (by decide) h
  refine ⟨by unfold PyData.showable; exact decide_eq_true h, rfl, by rw [PyData.shown_int]; exact strOk_of _, ?_, by simp [PyData.depth]⟩
  rw [PyData.shown_int, ofString_length]
  omega
structure ShAll (n k : Nat) (qs : List PyData) : Prop where
  sw : PyData.showableAll qs = true
  nd : PyData.hasDictAll qs = false
  ok : ∀ t ∈ PyData.shownAll qs, PyData.strOk t = true
  len : piled (PyData.shownAll qs) ≤ 2000 * k
  dep : PyData.depthAll qs ≤ n
theorem ShAll.nil {n : Nat} : ShAll n 0 [] := ⟨by simp only [PyData.showableAll], by simp only [PyData.hasDictAll], by simp [PyData.shownAll], by simp [PyData.shownAll, piled], by simp [PyData.depthAll]⟩
theorem ShAll.cons {n m a c : Nat} {q : PyData} {qs : List PyData} (h : Sh m a q) (hm : m ≤ n) (t : ShAll n c qs) : ShAll n (a + 1 + c) (q :: qs) := by
  refine ⟨by simp only [PyData.showableAll, h.sw, t.sw, Bool.and_self], by simp only [PyData.hasDictAll, h.nd, t.nd, Bool.or_self], ?_, ?_, ?_⟩
  · rw [PyData.shownAll_cons]
    intro x hx
    rcases List.mem_cons.mp hx with e | e
    · rw [e]; exact h.ok
    · exact t.ok x e
  · rw [PyData.shownAll_cons, piled_cons]
    have := h.len
    have := t.len
    omega
  · simp only [PyData.depthAll]
    have := h.dep
    have := t.dep
    omega
theorem ShAll.tup {n k : Nat} {qs : List PyData} (h : ShAll n k qs) : Sh (n + 1) (k + 1) (.tuple qs) := by
  refine ⟨by unfold PyData.showable; exact h.sw, by unfold PyData.hasDict; exact h.nd, ?_, ?_, ?_⟩
  · rw [PyData.shown_tuple]
    exact strOk_app (strOk_app (strOk_of _) (strOk_join _ h.ok)) (strOk_of _)
  · rw [PyData.shown_tuple, strLen_append, strLen_append]
    have := join_le (PyData.shownAll qs)
    have := h.len
    have e1 : ((("(" : String) : Str)).length = 1 := rfl
    have e3 : (((if qs.length == 1 then ",)" else ")" : String) : Str)).length ≤ 2 := by split <;> decide
    omega
  · unfold PyData.depth
    have := h.dep
    omega
theorem ShAll.ints : ∀ {xs : List Int}, (∀ y ∈ xs, y.natAbs.log2 < 1920) → ShAll 0 (2 * xs.length) (xs.map PyData.int)
  | [], _ => .nil
  | x :: xs, h => by
    have := ShAll.cons (Sh.int (h x (by simp))) (Nat.le_refl 0) (ShAll.ints (xs := xs) fun y hy => h y (by simp [hy]))
    rw [show 2 * (x :: xs).length = 1 + 1 + 2 * xs.length by rw [List.length_cons]; omega]
    exact this
theorem Sh.ints {xs : List Int} (h : ∀ y ∈ xs, y.natAbs.log2 < 1920) : Sh 1 (2 * xs.length + 1) (.tuple (xs.map PyData.int)) := (ShAll.ints h).tup
theorem pyOf_ints {s : Sto} {xs : List Int} : pyOf s (.tup (xs.map D.int)) = some (.tuple (xs.map PyData.int)) := toPyL_int
theorem small_log {x : Int} (h : x.natAbs < 2 ^ 500) : x.natAbs.log2 < 1920 := by
  by_cases h0 : x.natAbs = 0
  · rw [h0]; decide
  · have := (Nat.log2_lt h0).mpr h
    omega
theorem wp_showI {i : Int} {s : Sto} {Q : D → Sto → Prop} (h : i.natAbs.log2 < 1920) (q : Q (.str (toString i)) s) : wp (if i.natAbs.log2 < 1920 then .ok (.str (toString i)) s else .no) Q := by
  rw [if_pos h]
  exact q
theorem strOk_int {i : Int} : PyData.strOk (Str.ofString (toString i)) = true := strOk_of _
/-- both sides are the same text -/
theorem eqD_sint {s : Sto} {i : Int} : eqD s (.str (toString i)) (.str (toString i)) = some true := eqD_same (strOk_of _)
theorem eqD_non2 {s : Sto} : eqD s (.str "None") (.str "None") = some true := eqD_same (strOk_of _)
/-- a question that nobody is to reckon out -/
@[irreducible] def Hold (p : Prop) : Prop := p
theorem Hold.on {p : Prop} (h : p) : Hold p := by unfold Hold; exact h
theorem Hold.out {p : Prop} (h : Hold p) : p := by unfold Hold at h; exact h
section
variable {g : G} {env : Slo} {s : Sto} {P : Po} {a : S} {b : Ss}
theorem wf_sq (M : Slo → Sto → Prop) (h1 : wf (evS g a env s) { P with nx := M }) (h2 : ∀ e s, M e s → Hold (wf (evSs g b e s) P)) : wf (evSs g (.cons a b) env s) P :=
  wf_seq M h1 fun e s h => (h2 e s h).out
theorem Hold.sq (M : Slo → Sto → Prop) (h1 : wf (evS g a env s) { P with nx := M }) (h2 : ∀ e s, M e s → Hold (wf (evSs g b e s) P)) : Hold (wf (evSs g (.cons a b) env s) P) := .on (wf_sq M h1 h2)
/-- a statement, and the slots behind it -/
theorem wf_seqE (e' : Slo) (M : Sto → Prop) (h1 : wf (evS g a env s) { P with nx := fun e s => e = e' ∧ M s }) (h2 : ∀ s, M s → Hold (wf (evSs g b e' s) P)) : wf (evSs g (.cons a b) env s) P :=
  wf_sq (fun e s => e = e' ∧ M s) h1 fun e s h => by rw [h.1]; exact h2 s h.2
theorem Hold.seqE (e' : Slo) (M : Sto → Prop) (h1 : wf (evS g a env s) { P with nx := fun e s => e = e' ∧ M s }) (h2 : ∀ s, M s → Hold (wf (evSs g b e' s) P)) : Hold (wf (evSs g (.cons a b) env s) P) := .on (wf_seqE e' M h1 h2)
end
section
variable {fuel n : Nat} {s : Sto} {Q : D → Sto → Prop} {q N : Nat}
theorem grid_drawn_ok (hp : PotAt s q N) (hN : N + 4 < 2 ^ 1000) (hf : 1000 < fuel) (h : ∀ b f r p s', GP b f r p → b ^ f ≤ 1000 → r ≤ 3 → Kp q s s' → PotAt s' q (N + 4) → Q (gt b f r p) s') :
    wp (call Z fuel (n + 3) F_law_grid_drawn [.ref q] s) Q := by
  have hl := hp.lt
  refine wp_call (r := d_law_grid_drawn) rfl rfl ?_
  simp only [d_law_grid_drawn, ↓wf_nil, ↓wf_cons, ↓wg_asg, ↓wf_par, ↓wf_par3, ↓wg_setF, ↓wg_setI, ↓wf_ex, ↓wf_ret, ↓wf_retN, ↓wf_pass, ↓wf_brk, ↓wf_cnt, ↓wg_ite, ↓wf_for, ↓wp_var, ↓wp_lit, ↓wp_glob, ↓wp_bin, ↓wp_dct, ↓wp_dix, ↓wp_cmpEq, ↓wp_cmpIn, ↓wp_nin, onB_b, ↓wp_cmpNe, ↓wp_neg, ↓wp_cmp, ↓wp_chain, ↓wp_not, ↓wp_and, ↓wp_or, ↓wp_ite, ↓wp_fld, ↓wp_tup, ↓wp_new, ↓wp_callE, ↓wp_meth, ↓wp_make, ↓wp_bi, ↓wp_fold, ↓wp_foldv, ↓wp_append, ↓wp_extend, ↓wp_ix, ↓wp_sl, ↓wp_slk, ↓wp_enil, ↓wp_econs, ↓wp_disp, ↓wp_lrange, ↓wp_lcomp, ↓wp_cnil, ↓wp_ccons, ↓wp_seq, ↓wp_fresh, ↓wp_irange, ↓wp_enum, ↓wp_bind, ↓wp_ok, ↓wp_if, ↓swB_bl, ↓swT_s, ↓onS_s, ↓onO_s, ↓onI_i, ↓onR_r, ↓brB_t, ↓brB_f, ↓brB_n, ↓brB_d, cls_gOf, dct_new, pairsD, keyOf, not_true_eq_false, not_false_eq_true, ixN_30, ixN_31, ixN_32, lst_new, eqD_int, eqD_non_int, fuel_gOf, atI_0, atI_1, atI_2, atI_3, atI_4, putD, List.set_set, List.contains_cons, List.contains_nil, beq_self_eq_true, Bool.or_true, Bool.true_or, Bool.or_false, Bool.false_or, Nat.reduceEqDiff, Nat.reduceLT, Nat.zero_lt_succ, T.put, setAll, wipeE, tru, binD, cmpD, biD, itemsOf, tupOk, fldP, walkP, bnd, isNon, swB_bl, swT_s, onS_s, onO_s, onI_i, onR_r, brB_t, brB_f, brB_n, brB_d, brB_and, brB_or, List.map_cons, List.map_nil, List.cons_append, List.nil_append, List.append_nil, List.replicate, List.getElem?_cons_zero, List.getElem?_cons_succ, List.set_cons_zero, List.set_cons_succ, List.length_cons, List.length_nil, Nat.reduceAdd, Nat.reduceSub, Nat.reduceLeDiff, List.lookup_cons, List.lookup_nil, true_and, and_true, Bool.not_true, Bool.not_false, if_true, if_false, reduceIte, forall_const, Bool.false_eq_true, false_implies, implies_true, true_implies, reduceCtorEq, Nat.reduceBEq, con_MOST_MORE, con_NEAR, con_MOST_REACH, con_MOST_PLACES, con_MOST_BASE, con_LEAST_BASE, con_MOST_FIGURES, con_ZERO, con_UP, con_DOWN, cls_Grid, kl0, A_own_step, A_own_bounds, A_own_tops, A_own_places, A_own_reach, A_own_figures, A_own_base, A_check, C_Grid]
  refine ⟨by decide, ?_⟩
  refine of_ok (hp.app _) (by omega) (by omega) lst_new (by simp) (by simp) fun d s1 hd k1 hp1 => ?_
  have kk : Kp q s s1 := (Kp.app .refl _).trans k1
  have hd2 : d = .int 2 ∨ d = .int 3 ∨ d = .int 5 ∨ d = .int 10 := by
    simp only [List.mem_cons, List.not_mem_nil, or_false] at hd
    rcases hd with rfl | rfl | rfl | rfl | rfl | rfl <;> simp
  have hl1 := hp1.lt
  -- the list of figures is one of those that stand in the dict
  have fin : ∀ (s2 : Sto) (k : Nat) (fs : List D) (b : Nat), (2 ≤ b ∧ b ≤ 10) → (∀ d ∈ fs, ∃ f : Nat, d = .int (f : Int) ∧ 1 ≤ f ∧ f ≤ 30 ∧ b ^ f ≤ 1000) → fs ≠ [] → fs.length ≤ 100 → Kp q s s2 → PotAt s2 q (N + 1) → k ≠ q → lstAt s2 k = some fs →
      ∀ Q' : D → Sto → Prop, (∀ (f : Nat) s3, 1 ≤ f → f ≤ 30 → b ^ f ≤ 1000 → Kp q s s3 → PotAt s3 q (N + 2) → Q' (.int (f : Int)) s3) → wp (call Z fuel (n + 2) F_law_of [.ref q, .ref k] s2) Q' :=
    fun s2 k fs b hb hfs h0 hl k2 hp2 nk hl2 Q' hq => of_ok hp2 (by omega) nk hl2 h0 (by omega) fun d s3 hd k3 hp3 => by
      obtain ⟨f, rfl, h1, h2, h3⟩ := hfs d hd
      exact hq f s3 h1 h2 h3 (k2.trans k3) hp3
  have last : ∀ (s3 : Sto) (b f : Nat), (2 ≤ b ∧ b ≤ 10) → 1 ≤ f → f ≤ 30 → b ^ f ≤ 1000 → Kp q s s3 → PotAt s3 q (N + 2) →
      ∀ Q' : D → Sto → Prop, (∀ (r : Nat) s4, r ≤ 3 → Kp q s s4 → PotAt s4 q (N + 3) → Q' (.int (r : Int)) s4) → wp (call Z fuel (n + 2) F_law_of [.ref q, .ref s3.length] (s3 ++ [.lst [.int 2, .int 1, .int 3, .int 0]])) Q' :=
    fun s3 b f hb h1 h2 h3 k3 hp3 Q' hq => of_ok (hp3.app _) (by omega) (by have := hp3.lt; omega) lst_new (by simp) (by simp) fun d s4 hd k4 hp4 => by
      have : ∃ r : Nat, d = .int (r : Int) ∧ r ≤ 3 := by
        simp only [List.mem_cons, List.not_mem_nil, or_false] at hd
        rcases hd with rfl | rfl | rfl | rfl
        · exact ⟨2, rfl, by decide⟩
        · exact ⟨1, rfl, by decide⟩
        · exact ⟨3, rfl, by decide⟩
        · exact ⟨0, rfl, by decide⟩
      obtain ⟨r, rfl, hr⟩ := this
      exact hq r s4 hr ((k3.app _).trans k4) hp4
  have very : ∀ (s4 : Sto), Kp q s s4 → PotAt s4 q (N + 3) →
      ∀ Q' : D → Sto → Prop, (∀ (p : Nat) s5, p ≤ 30 → Kp q s s5 → PotAt s5 q (N + 4) → Q' (.int (p : Int)) s5) → wp (call Z fuel (n + 2) F_law_of [.ref q, .ref s4.length] (s4 ++ [.lst [.int 0, .int 0, .int 1, .int 2]])) Q' :=
    fun s4 k4 hp4 Q' hq => of_ok (hp4.app _) (by omega) (by have := hp4.lt; omega) lst_new (by simp) (by simp) fun d s5 hd k5 hp5 => by
      have : ∃ r : Nat, d = .int (r : Int) ∧ r ≤ 30 := by
        simp only [List.mem_cons, List.not_mem_nil, or_false] at hd
        rcases hd with rfl | rfl | rfl | rfl
        · exact ⟨0, rfl, by decide⟩
        · exact ⟨0, rfl, by decide⟩
        · exact ⟨1, rfl, by decide⟩
        · exact ⟨2, rfl, by decide⟩
      obtain ⟨p, rfl, hp⟩ := this
      exact hq p s5 hp ((k4.app _).trans k5) hp5
  refine elimO hd2 (fun e => ?_) fun hd3 => elimO hd3 (fun e => ?_) fun hd4 => elimO hd4 (fun e => ?_) fun e => ?_
  · rw [e]
    simp only [↓wf_nil, ↓wf_cons, ↓wg_asg, ↓wf_par, ↓wf_par3, ↓wg_setF, ↓wg_setI, ↓wf_ex, ↓wf_ret, ↓wf_retN, ↓wf_pass, ↓wf_brk, ↓wf_cnt, ↓wg_ite, ↓wf_for, ↓wp_var, ↓wp_lit, ↓wp_glob, ↓wp_bin, ↓wp_dct, ↓wp_dix, ↓wp_cmpEq, ↓wp_cmpIn, ↓wp_nin, onB_b, ↓wp_cmpNe, ↓wp_neg, ↓wp_cmp, ↓wp_chain, ↓wp_not, ↓wp_and, ↓wp_or, ↓wp_ite, ↓wp_fld, ↓wp_tup, ↓wp_new, ↓wp_callE, ↓wp_meth, ↓wp_make, ↓wp_bi, ↓wp_fold, ↓wp_foldv, ↓wp_append, ↓wp_extend, ↓wp_ix, ↓wp_sl, ↓wp_slk, ↓wp_enil, ↓wp_econs, ↓wp_disp, ↓wp_lrange, ↓wp_lcomp, ↓wp_cnil, ↓wp_ccons, ↓wp_seq, ↓wp_fresh, ↓wp_irange, ↓wp_enum, ↓wp_bind, ↓wp_ok, ↓wp_if, ↓swB_bl, ↓swT_s, ↓onS_s, ↓onO_s, ↓onI_i, ↓onR_r, ↓brB_t, ↓brB_f, ↓brB_n, ↓brB_d, cls_gOf, dct_new, pairsD, keyOf, not_true_eq_false, not_false_eq_true, ixN_30, ixN_31, ixN_32, lst_new, eqD_int, eqD_non_int, fuel_gOf, atI_0, atI_1, atI_2, atI_3, atI_4, putD, List.set_set, List.contains_cons, List.contains_nil, beq_self_eq_true, Bool.or_true, Bool.true_or, Bool.or_false, Bool.false_or, Nat.reduceEqDiff, Nat.reduceLT, Nat.zero_lt_succ, T.put, setAll, wipeE, tru, binD, cmpD, biD, itemsOf, tupOk, fldP, walkP, bnd, isNon, swB_bl, swT_s, onS_s, onO_s, onI_i, onR_r, brB_t, brB_f, brB_n, brB_d, brB_and, brB_or, List.map_cons, List.map_nil, List.cons_append, List.nil_append, List.append_nil, List.replicate, List.getElem?_cons_zero, List.getElem?_cons_succ, List.set_cons_zero, List.set_cons_succ, List.length_cons, List.length_nil, Nat.reduceAdd, Nat.reduceSub, Nat.reduceLeDiff, List.lookup_cons, List.lookup_nil, true_and, and_true, Bool.not_true, Bool.not_false, if_true, if_false, reduceIte, forall_const, Bool.false_eq_true, false_implies, implies_true, true_implies, reduceCtorEq, Nat.reduceBEq, con_MOST_MORE, con_NEAR, con_MOST_REACH, con_MOST_PLACES, con_MOST_BASE, con_LEAST_BASE, con_MOST_FIGURES, con_ZERO, con_UP, con_DOWN, cls_Grid, kl0, A_own_step, A_own_bounds, A_own_tops, A_own_places, A_own_reach, A_own_figures, A_own_base, A_check, C_Grid]
    refine ⟨by decide, by decide, by decide, by decide, onO_of rfl ?_⟩
    simp only [↓wf_nil, ↓wf_cons, ↓wg_asg, ↓wf_par, ↓wf_par3, ↓wg_setF, ↓wg_setI, ↓wf_ex, ↓wf_ret, ↓wf_retN, ↓wf_pass, ↓wf_brk, ↓wf_cnt, ↓wg_ite, ↓wf_for, ↓wp_var, ↓wp_lit, ↓wp_glob, ↓wp_bin, ↓wp_dct, ↓wp_dix, ↓wp_cmpEq, ↓wp_cmpIn, ↓wp_nin, onB_b, ↓wp_cmpNe, ↓wp_neg, ↓wp_cmp, ↓wp_chain, ↓wp_not, ↓wp_and, ↓wp_or, ↓wp_ite, ↓wp_fld, ↓wp_tup, ↓wp_new, ↓wp_callE, ↓wp_meth, ↓wp_make, ↓wp_bi, ↓wp_fold, ↓wp_foldv, ↓wp_append, ↓wp_extend, ↓wp_ix, ↓wp_sl, ↓wp_slk, ↓wp_enil, ↓wp_econs, ↓wp_disp, ↓wp_lrange, ↓wp_lcomp, ↓wp_cnil, ↓wp_ccons, ↓wp_seq, ↓wp_fresh, ↓wp_irange, ↓wp_enum, ↓wp_bind, ↓wp_ok, ↓wp_if, ↓swB_bl, ↓swT_s, ↓onS_s, ↓onO_s, ↓onI_i, ↓onR_r, ↓brB_t, ↓brB_f, ↓brB_n, ↓brB_d, cls_gOf, dct_new, pairsD, keyOf, not_true_eq_false, not_false_eq_true, ixN_30, ixN_31, ixN_32, lst_new, eqD_int, eqD_non_int, fuel_gOf, atI_0, atI_1, atI_2, atI_3, atI_4, putD, List.set_set, List.contains_cons, List.contains_nil, beq_self_eq_true, Bool.or_true, Bool.true_or, Bool.or_false, Bool.false_or, Nat.reduceEqDiff, Nat.reduceLT, Nat.zero_lt_succ, T.put, setAll, wipeE, tru, binD, cmpD, biD, itemsOf, tupOk, fldP, walkP, bnd, isNon, swB_bl, swT_s, onS_s, onO_s, onI_i, onR_r, brB_t, brB_f, brB_n, brB_d, brB_and, brB_or, List.map_cons, List.map_nil, List.cons_append, List.nil_append, List.append_nil, List.replicate, List.getElem?_cons_zero, List.getElem?_cons_succ, List.set_cons_zero, List.set_cons_succ, List.length_cons, List.length_nil, Nat.reduceAdd, Nat.reduceSub, Nat.reduceLeDiff, List.lookup_cons, List.lookup_nil, true_and, and_true, Bool.not_true, Bool.not_false, if_true, if_false, reduceIte, forall_const, Bool.false_eq_true, false_implies, implies_true, true_implies, reduceCtorEq, Nat.reduceBEq, con_MOST_MORE, con_NEAR, con_MOST_REACH, con_MOST_PLACES, con_MOST_BASE, con_LEAST_BASE, con_MOST_FIGURES, con_ZERO, con_UP, con_DOWN, cls_Grid, kl0, A_own_step, A_own_bounds, A_own_tops, A_own_places, A_own_reach, A_own_figures, A_own_base, A_check, C_Grid]
    refine fin _ _ [.int 3, .int 2, .int 4, .int 1] 2 ⟨by decide, by decide⟩ ?_ (by simp) (by simp) (((((kk.app _).app _).app _).app _).app _) (((((hp1.app _).app _).app _).app _).app _) (by first | omega | (simp only [List.length_append]; omega)) ((Gr.trans (Gr.trans (Gr.trans (Gr.app _) (Gr.app _)) (Gr.app _)) (Gr.app _)).lst lst_new) _ fun f s3 h1 h2 h3 k3 hp3 => ?_
    · intro d hd
      simp only [List.mem_cons, List.not_mem_nil, or_false] at hd
      rcases hd with rfl | rfl | rfl | rfl
      · exact ⟨3, rfl, by decide, by decide, by decide⟩
      · exact ⟨2, rfl, by decide, by decide, by decide⟩
      · exact ⟨4, rfl, by decide, by decide, by decide⟩
      · exact ⟨1, rfl, by decide, by decide, by decide⟩
    simp only [↓wf_nil, ↓wf_cons, ↓wg_asg, ↓wf_par, ↓wf_par3, ↓wg_setF, ↓wg_setI, ↓wf_ex, ↓wf_ret, ↓wf_retN, ↓wf_pass, ↓wf_brk, ↓wf_cnt, ↓wg_ite, ↓wf_for, ↓wp_var, ↓wp_lit, ↓wp_glob, ↓wp_bin, ↓wp_dct, ↓wp_dix, ↓wp_cmpEq, ↓wp_cmpIn, ↓wp_nin, onB_b, ↓wp_cmpNe, ↓wp_neg, ↓wp_cmp, ↓wp_chain, ↓wp_not, ↓wp_and, ↓wp_or, ↓wp_ite, ↓wp_fld, ↓wp_tup, ↓wp_new, ↓wp_callE, ↓wp_meth, ↓wp_make, ↓wp_bi, ↓wp_fold, ↓wp_foldv, ↓wp_append, ↓wp_extend, ↓wp_ix, ↓wp_sl, ↓wp_slk, ↓wp_enil, ↓wp_econs, ↓wp_disp, ↓wp_lrange, ↓wp_lcomp, ↓wp_cnil, ↓wp_ccons, ↓wp_seq, ↓wp_fresh, ↓wp_irange, ↓wp_enum, ↓wp_bind, ↓wp_ok, ↓wp_if, ↓swB_bl, ↓swT_s, ↓onS_s, ↓onO_s, ↓onI_i, ↓onR_r, ↓brB_t, ↓brB_f, ↓brB_n, ↓brB_d, cls_gOf, dct_new, pairsD, keyOf, not_true_eq_false, not_false_eq_true, ixN_30, ixN_31, ixN_32, lst_new, eqD_int, eqD_non_int, fuel_gOf, atI_0, atI_1, atI_2, atI_3, atI_4, putD, List.set_set, List.contains_cons, List.contains_nil, beq_self_eq_true, Bool.or_true, Bool.true_or, Bool.or_false, Bool.false_or, Nat.reduceEqDiff, Nat.reduceLT, Nat.zero_lt_succ, T.put, setAll, wipeE, tru, binD, cmpD, biD, itemsOf, tupOk, fldP, walkP, bnd, isNon, swB_bl, swT_s, onS_s, onO_s, onI_i, onR_r, brB_t, brB_f, brB_n, brB_d, brB_and, brB_or, List.map_cons, List.map_nil, List.cons_append, List.nil_append, List.append_nil, List.replicate, List.getElem?_cons_zero, List.getElem?_cons_succ, List.set_cons_zero, List.set_cons_succ, List.length_cons, List.length_nil, Nat.reduceAdd, Nat.reduceSub, Nat.reduceLeDiff, List.lookup_cons, List.lookup_nil, true_and, and_true, Bool.not_true, Bool.not_false, if_true, if_false, reduceIte, forall_const, Bool.false_eq_true, false_implies, implies_true, true_implies, reduceCtorEq, Nat.reduceBEq, con_MOST_MORE, con_NEAR, con_MOST_REACH, con_MOST_PLACES, con_MOST_BASE, con_LEAST_BASE, con_MOST_FIGURES, con_ZERO, con_UP, con_DOWN, cls_Grid, kl0, A_own_step, A_own_bounds, A_own_tops, A_own_places, A_own_reach, A_own_figures, A_own_base, A_check, C_Grid]
    refine ⟨by decide, ?_⟩
    refine last s3 2 f ⟨by decide, by decide⟩ h1 h2 h3 k3 hp3 _ fun r s4 hr k4 hp4 => ?_
    simp only [↓wf_nil, ↓wf_cons, ↓wg_asg, ↓wf_par, ↓wf_par3, ↓wg_setF, ↓wg_setI, ↓wf_ex, ↓wf_ret, ↓wf_retN, ↓wf_pass, ↓wf_brk, ↓wf_cnt, ↓wg_ite, ↓wf_for, ↓wp_var, ↓wp_lit, ↓wp_glob, ↓wp_bin, ↓wp_dct, ↓wp_dix, ↓wp_cmpEq, ↓wp_cmpIn, ↓wp_nin, onB_b, ↓wp_cmpNe, ↓wp_neg, ↓wp_cmp, ↓wp_chain, ↓wp_not, ↓wp_and, ↓wp_or, ↓wp_ite, ↓wp_fld, ↓wp_tup, ↓wp_new, ↓wp_callE, ↓wp_meth, ↓wp_make, ↓wp_bi, ↓wp_fold, ↓wp_foldv, ↓wp_append, ↓wp_extend, ↓wp_ix, ↓wp_sl, ↓wp_slk, ↓wp_enil, ↓wp_econs, ↓wp_disp, ↓wp_lrange, ↓wp_lcomp, ↓wp_cnil, ↓wp_ccons, ↓wp_seq, ↓wp_fresh, ↓wp_irange, ↓wp_enum, ↓wp_bind, ↓wp_ok, ↓wp_if, ↓swB_bl, ↓swT_s, ↓onS_s, ↓onO_s, ↓onI_i, ↓onR_r, ↓brB_t, ↓brB_f, ↓brB_n, ↓brB_d, cls_gOf, dct_new, pairsD, keyOf, not_true_eq_false, not_false_eq_true, ixN_30, ixN_31, ixN_32, lst_new, eqD_int, eqD_non_int, fuel_gOf, atI_0, atI_1, atI_2, atI_3, atI_4, putD, List.set_set, List.contains_cons, List.contains_nil, beq_self_eq_true, Bool.or_true, Bool.true_or, Bool.or_false, Bool.false_or, Nat.reduceEqDiff, Nat.reduceLT, Nat.zero_lt_succ, T.put, setAll, wipeE, tru, binD, cmpD, biD, itemsOf, tupOk, fldP, walkP, bnd, isNon, swB_bl, swT_s, onS_s, onO_s, onI_i, onR_r, brB_t, brB_f, brB_n, brB_d, brB_and, brB_or, List.map_cons, List.map_nil, List.cons_append, List.nil_append, List.append_nil, List.replicate, List.getElem?_cons_zero, List.getElem?_cons_succ, List.set_cons_zero, List.set_cons_succ, List.length_cons, List.length_nil, Nat.reduceAdd, Nat.reduceSub, Nat.reduceLeDiff, List.lookup_cons, List.lookup_nil, true_and, and_true, Bool.not_true, Bool.not_false, if_true, if_false, reduceIte, forall_const, Bool.false_eq_true, false_implies, implies_true, true_implies, reduceCtorEq, Nat.reduceBEq, con_MOST_MORE, con_NEAR, con_MOST_REACH, con_MOST_PLACES, con_MOST_BASE, con_LEAST_BASE, con_MOST_FIGURES, con_ZERO, con_UP, con_DOWN, cls_Grid, kl0, A_own_step, A_own_bounds, A_own_tops, A_own_places, A_own_reach, A_own_figures, A_own_base, A_check, C_Grid]
    refine ⟨by decide, ?_⟩
    refine very s4 k4 hp4 _ fun p s5 hp k5 hp5 => ?_
    simp only [↓wf_nil, ↓wf_cons, ↓wg_asg, ↓wf_par, ↓wf_par3, ↓wg_setF, ↓wg_setI, ↓wf_ex, ↓wf_ret, ↓wf_retN, ↓wf_pass, ↓wf_brk, ↓wf_cnt, ↓wg_ite, ↓wf_for, ↓wp_var, ↓wp_lit, ↓wp_glob, ↓wp_bin, ↓wp_dct, ↓wp_dix, ↓wp_cmpEq, ↓wp_cmpIn, ↓wp_nin, onB_b, ↓wp_cmpNe, ↓wp_neg, ↓wp_cmp, ↓wp_chain, ↓wp_not, ↓wp_and, ↓wp_or, ↓wp_ite, ↓wp_fld, ↓wp_tup, ↓wp_new, ↓wp_callE, ↓wp_meth, ↓wp_make, ↓wp_bi, ↓wp_fold, ↓wp_foldv, ↓wp_append, ↓wp_extend, ↓wp_ix, ↓wp_sl, ↓wp_slk, ↓wp_enil, ↓wp_econs, ↓wp_disp, ↓wp_lrange, ↓wp_lcomp, ↓wp_cnil, ↓wp_ccons, ↓wp_seq, ↓wp_fresh, ↓wp_irange, ↓wp_enum, ↓wp_bind, ↓wp_ok, ↓wp_if, ↓swB_bl, ↓swT_s, ↓onS_s, ↓onO_s, ↓onI_i, ↓onR_r, ↓brB_t, ↓brB_f, ↓brB_n, ↓brB_d, cls_gOf, dct_new, pairsD, keyOf, not_true_eq_false, not_false_eq_true, ixN_30, ixN_31, ixN_32, lst_new, eqD_int, eqD_non_int, fuel_gOf, atI_0, atI_1, atI_2, atI_3, atI_4, putD, List.set_set, List.contains_cons, List.contains_nil, beq_self_eq_true, Bool.or_true, Bool.true_or, Bool.or_false, Bool.false_or, Nat.reduceEqDiff, Nat.reduceLT, Nat.zero_lt_succ, T.put, setAll, wipeE, tru, binD, cmpD, biD, itemsOf, tupOk, fldP, walkP, bnd, isNon, swB_bl, swT_s, onS_s, onO_s, onI_i, onR_r, brB_t, brB_f, brB_n, brB_d, brB_and, brB_or, List.map_cons, List.map_nil, List.cons_append, List.nil_append, List.append_nil, List.replicate, List.getElem?_cons_zero, List.getElem?_cons_succ, List.set_cons_zero, List.set_cons_succ, List.length_cons, List.length_nil, Nat.reduceAdd, Nat.reduceSub, Nat.reduceLeDiff, List.lookup_cons, List.lookup_nil, true_and, and_true, Bool.not_true, Bool.not_false, if_true, if_false, reduceIte, forall_const, Bool.false_eq_true, false_implies, implies_true, true_implies, reduceCtorEq, Nat.reduceBEq, con_MOST_MORE, con_NEAR, con_MOST_REACH, con_MOST_PLACES, con_MOST_BASE, con_LEAST_BASE, con_MOST_FIGURES, con_ZERO, con_UP, con_DOWN, cls_Grid, kl0, A_own_step, A_own_bounds, A_own_tops, A_own_places, A_own_reach, A_own_figures, A_own_base, A_check, C_Grid]
    exact ⟨by decide, h 2 f r p s5 ⟨by decide, by decide, h1, h2, by omega, hp⟩ h3 hr k5 hp5⟩
  · rw [e]
    simp only [↓wf_nil, ↓wf_cons, ↓wg_asg, ↓wf_par, ↓wf_par3, ↓wg_setF, ↓wg_setI, ↓wf_ex, ↓wf_ret, ↓wf_retN, ↓wf_pass, ↓wf_brk, ↓wf_cnt, ↓wg_ite, ↓wf_for, ↓wp_var, ↓wp_lit, ↓wp_glob, ↓wp_bin, ↓wp_dct, ↓wp_dix, ↓wp_cmpEq, ↓wp_cmpIn, ↓wp_nin, onB_b, ↓wp_cmpNe, ↓wp_neg, ↓wp_cmp, ↓wp_chain, ↓wp_not, ↓wp_and, ↓wp_or, ↓wp_ite, ↓wp_fld, ↓wp_tup, ↓wp_new, ↓wp_callE, ↓wp_meth, ↓wp_make, ↓wp_bi, ↓wp_fold, ↓wp_foldv, ↓wp_append, ↓wp_extend, ↓wp_ix, ↓wp_sl, ↓wp_slk, ↓wp_enil, ↓wp_econs, ↓wp_disp, ↓wp_lrange, ↓wp_lcomp, ↓wp_cnil, ↓wp_ccons, ↓wp_seq, ↓wp_fresh, ↓wp_irange, ↓wp_enum, ↓wp_bind, ↓wp_ok, ↓wp_if, ↓swB_bl, ↓swT_s, ↓onS_s, ↓onO_s, ↓onI_i, ↓onR_r, ↓brB_t, ↓brB_f, ↓brB_n, ↓brB_d, cls_gOf, dct_new, pairsD, keyOf, not_true_eq_false, not_false_eq_true, ixN_30, ixN_31, ixN_32, lst_new, eqD_int, eqD_non_int, fuel_gOf, atI_0, atI_1, atI_2, atI_3, atI_4, putD, List.set_set, List.contains_cons, List.contains_nil, beq_self_eq_true, Bool.or_true, Bool.true_or, Bool.or_false, Bool.false_or, Nat.reduceEqDiff, Nat.reduceLT, Nat.zero_lt_succ, T.put, setAll, wipeE, tru, binD, cmpD, biD, itemsOf, tupOk, fldP, walkP, bnd, isNon, swB_bl, swT_s, onS_s, onO_s, onI_i, onR_r, brB_t, brB_f, brB_n, brB_d, brB_and, brB_or, List.map_cons, List.map_nil, List.cons_append, List.nil_append, List.append_nil, List.replicate, List.getElem?_cons_zero, List.getElem?_cons_succ, List.set_cons_zero, List.set_cons_succ, List.length_cons, List.length_nil, Nat.reduceAdd, Nat.reduceSub, Nat.reduceLeDiff, List.lookup_cons, List.lookup_nil, true_and, and_true, Bool.not_true, Bool.not_false, if_true, if_false, reduceIte, forall_const, Bool.false_eq_true, false_implies, implies_true, true_implies, reduceCtorEq, Nat.reduceBEq, con_MOST_MORE, con_NEAR, con_MOST_REACH, con_MOST_PLACES, con_MOST_BASE, con_LEAST_BASE, con_MOST_FIGURES, con_ZERO, con_UP, con_DOWN, cls_Grid, kl0, A_own_step, A_own_bounds, A_own_tops, A_own_places, A_own_reach, A_own_figures, A_own_base, A_check, C_Grid]
    refine ⟨by decide, by decide, by decide, by decide, onO_of rfl ?_⟩
    simp only [↓wf_nil, ↓wf_cons, ↓wg_asg, ↓wf_par, ↓wf_par3, ↓wg_setF, ↓wg_setI, ↓wf_ex, ↓wf_ret, ↓wf_retN, ↓wf_pass, ↓wf_brk, ↓wf_cnt, ↓wg_ite, ↓wf_for, ↓wp_var, ↓wp_lit, ↓wp_glob, ↓wp_bin, ↓wp_dct, ↓wp_dix, ↓wp_cmpEq, ↓wp_cmpIn, ↓wp_nin, onB_b, ↓wp_cmpNe, ↓wp_neg, ↓wp_cmp, ↓wp_chain, ↓wp_not, ↓wp_and, ↓wp_or, ↓wp_ite, ↓wp_fld, ↓wp_tup, ↓wp_new, ↓wp_callE, ↓wp_meth, ↓wp_make, ↓wp_bi, ↓wp_fold, ↓wp_foldv, ↓wp_append, ↓wp_extend, ↓wp_ix, ↓wp_sl, ↓wp_slk, ↓wp_enil, ↓wp_econs, ↓wp_disp, ↓wp_lrange, ↓wp_lcomp, ↓wp_cnil, ↓wp_ccons, ↓wp_seq, ↓wp_fresh, ↓wp_irange, ↓wp_enum, ↓wp_bind, ↓wp_ok, ↓wp_if, ↓swB_bl, ↓swT_s, ↓onS_s, ↓onO_s, ↓onI_i, ↓onR_r, ↓brB_t, ↓brB_f, ↓brB_n, ↓brB_d, cls_gOf, dct_new, pairsD, keyOf, not_true_eq_false, not_false_eq_true, ixN_30, ixN_31, ixN_32, lst_new, eqD_int, eqD_non_int, fuel_gOf, atI_0, atI_1, atI_2, atI_3, atI_4, putD, List.set_set, List.contains_cons, List.contains_nil, beq_self_eq_true, Bool.or_true, Bool.true_or, Bool.or_false, Bool.false_or, Nat.reduceEqDiff, Nat.reduceLT, Nat.zero_lt_succ, T.put, setAll, wipeE, tru, binD, cmpD, biD, itemsOf, tupOk, fldP, walkP, bnd, isNon, swB_bl, swT_s, onS_s, onO_s, onI_i, onR_r, brB_t, brB_f, brB_n, brB_d, brB_and, brB_or, List.map_cons, List.map_nil, List.cons_append, List.nil_append, List.append_nil, List.replicate, List.getElem?_cons_zero, List.getElem?_cons_succ, List.set_cons_zero, List.set_cons_succ, List.length_cons, List.length_nil, Nat.reduceAdd, Nat.reduceSub, Nat.reduceLeDiff, List.lookup_cons, List.lookup_nil, true_and, and_true, Bool.not_true, Bool.not_false, if_true, if_false, reduceIte, forall_const, Bool.false_eq_true, false_implies, implies_true, true_implies, reduceCtorEq, Nat.reduceBEq, con_MOST_MORE, con_NEAR, con_MOST_REACH, con_MOST_PLACES, con_MOST_BASE, con_LEAST_BASE, con_MOST_FIGURES, con_ZERO, con_UP, con_DOWN, cls_Grid, kl0, A_own_step, A_own_bounds, A_own_tops, A_own_places, A_own_reach, A_own_figures, A_own_base, A_check, C_Grid]
    refine fin _ _ [.int 2, .int 1, .int 3] 3 ⟨by decide, by decide⟩ ?_ (by simp) (by simp) (((((kk.app _).app _).app _).app _).app _) (((((hp1.app _).app _).app _).app _).app _) (by first | omega | (simp only [List.length_append]; omega)) ((Gr.trans (Gr.trans (Gr.app _) (Gr.app _)) (Gr.app _)).lst lst_new) _ fun f s3 h1 h2 h3 k3 hp3 => ?_
    · intro d hd
      simp only [List.mem_cons, List.not_mem_nil, or_false] at hd
      rcases hd with rfl | rfl | rfl
      · exact ⟨2, rfl, by decide, by decide, by decide⟩
      · exact ⟨1, rfl, by decide, by decide, by decide⟩
      · exact ⟨3, rfl, by decide, by decide, by decide⟩
    simp only [↓wf_nil, ↓wf_cons, ↓wg_asg, ↓wf_par, ↓wf_par3, ↓wg_setF, ↓wg_setI, ↓wf_ex, ↓wf_ret, ↓wf_retN, ↓wf_pass, ↓wf_brk, ↓wf_cnt, ↓wg_ite, ↓wf_for, ↓wp_var, ↓wp_lit, ↓wp_glob, ↓wp_bin, ↓wp_dct, ↓wp_dix, ↓wp_cmpEq, ↓wp_cmpIn, ↓wp_nin, onB_b, ↓wp_cmpNe, ↓wp_neg, ↓wp_cmp, ↓wp_chain, ↓wp_not, ↓wp_and, ↓wp_or, ↓wp_ite, ↓wp_fld, ↓wp_tup, ↓wp_new, ↓wp_callE, ↓wp_meth, ↓wp_make, ↓wp_bi, ↓wp_fold, ↓wp_foldv, ↓wp_append, ↓wp_extend, ↓wp_ix, ↓wp_sl, ↓wp_slk, ↓wp_enil, ↓wp_econs, ↓wp_disp, ↓wp_lrange, ↓wp_lcomp, ↓wp_cnil, ↓wp_ccons, ↓wp_seq, ↓wp_fresh, ↓wp_irange, ↓wp_enum, ↓wp_bind, ↓wp_ok, ↓wp_if, ↓swB_bl, ↓swT_s, ↓onS_s, ↓onO_s, ↓onI_i, ↓onR_r, ↓brB_t, ↓brB_f, ↓brB_n, ↓brB_d, cls_gOf, dct_new, pairsD, keyOf, not_true_eq_false, not_false_eq_true, ixN_30, ixN_31, ixN_32, lst_new, eqD_int, eqD_non_int, fuel_gOf, atI_0, atI_1, atI_2, atI_3, atI_4, putD, List.set_set, List.contains_cons, List.contains_nil, beq_self_eq_true, Bool.or_true, Bool.true_or, Bool.or_false, Bool.false_or, Nat.reduceEqDiff, Nat.reduceLT, Nat.zero_lt_succ, T.put, setAll, wipeE, tru, binD, cmpD, biD, itemsOf, tupOk, fldP, walkP, bnd, isNon, swB_bl, swT_s, onS_s, onO_s, onI_i, onR_r, brB_t, brB_f, brB_n, brB_d, brB_and, brB_or, List.map_cons, List.map_nil, List.cons_append, List.nil_append, List.append_nil, List.replicate, List.getElem?_cons_zero, List.getElem?_cons_succ, List.set_cons_zero, List.set_cons_succ, List.length_cons, List.length_nil, Nat.reduceAdd, Nat.reduceSub, Nat.reduceLeDiff, List.lookup_cons, List.lookup_nil, true_and, and_true, Bool.not_true, Bool.not_false, if_true, if_false, reduceIte, forall_const, Bool.false_eq_true, false_implies, implies_true, true_implies, reduceCtorEq, Nat.reduceBEq, con_MOST_MORE, con_NEAR, con_MOST_REACH, con_MOST_PLACES, con_MOST_BASE, con_LEAST_BASE, con_MOST_FIGURES, con_ZERO, con_UP, con_DOWN, cls_Grid, kl0, A_own_step, A_own_bounds, A_own_tops, A_own_places, A_own_reach, A_own_figures, A_own_base, A_check, C_Grid]
    refine ⟨by decide, ?_⟩
    refine last s3 3 f ⟨by decide, by decide⟩ h1 h2 h3 k3 hp3 _ fun r s4 hr k4 hp4 => ?_
    simp only [↓wf_nil, ↓wf_cons, ↓wg_asg, ↓wf_par, ↓wf_par3, ↓wg_setF, ↓wg_setI, ↓wf_ex, ↓wf_ret, ↓wf_retN, ↓wf_pass, ↓wf_brk, ↓wf_cnt, ↓wg_ite, ↓wf_for, ↓wp_var, ↓wp_lit, ↓wp_glob, ↓wp_bin, ↓wp_dct, ↓wp_dix, ↓wp_cmpEq, ↓wp_cmpIn, ↓wp_nin, onB_b, ↓wp_cmpNe, ↓wp_neg, ↓wp_cmp, ↓wp_chain, ↓wp_not, ↓wp_and, ↓wp_or, ↓wp_ite, ↓wp_fld, ↓wp_tup, ↓wp_new, ↓wp_callE, ↓wp_meth, ↓wp_make, ↓wp_bi, ↓wp_fold, ↓wp_foldv, ↓wp_append, ↓wp_extend, ↓wp_ix, ↓wp_sl, ↓wp_slk, ↓wp_enil, ↓wp_econs, ↓wp_disp, ↓wp_lrange, ↓wp_lcomp, ↓wp_cnil, ↓wp_ccons, ↓wp_seq, ↓wp_fresh, ↓wp_irange, ↓wp_enum, ↓wp_bind, ↓wp_ok, ↓wp_if, ↓swB_bl, ↓swT_s, ↓onS_s, ↓onO_s, ↓onI_i, ↓onR_r, ↓brB_t, ↓brB_f, ↓brB_n, ↓brB_d, cls_gOf, dct_new, pairsD, keyOf, not_true_eq_false, not_false_eq_true, ixN_30, ixN_31, ixN_32, lst_new, eqD_int, eqD_non_int, fuel_gOf, atI_0, atI_1, atI_2, atI_3, atI_4, putD, List.set_set, List.contains_cons, List.contains_nil, beq_self_eq_true, Bool.or_true, Bool.true_or, Bool.or_false, Bool.false_or, Nat.reduceEqDiff, Nat.reduceLT, Nat.zero_lt_succ, T.put, setAll, wipeE, tru, binD, cmpD, biD, itemsOf, tupOk, fldP, walkP, bnd, isNon, swB_bl, swT_s, onS_s, onO_s, onI_i, onR_r, brB_t, brB_f, brB_n, brB_d, brB_and, brB_or, List.map_cons, List.map_nil, List.cons_append, List.nil_append, List.append_nil, List.replicate, List.getElem?_cons_zero, List.getElem?_cons_succ, List.set_cons_zero, List.set_cons_succ, List.length_cons, List.length_nil, Nat.reduceAdd, Nat.reduceSub, Nat.reduceLeDiff, List.lookup_cons, List.lookup_nil, true_and, and_true, Bool.not_true, Bool.not_false, if_true, if_false, reduceIte, forall_const, Bool.false_eq_true, false_implies, implies_true, true_implies, reduceCtorEq, Nat.reduceBEq, con_MOST_MORE, con_NEAR, con_MOST_REACH, con_MOST_PLACES, con_MOST_BASE, con_LEAST_BASE, con_MOST_FIGURES, con_ZERO, con_UP, con_DOWN, cls_Grid, kl0, A_own_step, A_own_bounds, A_own_tops, A_own_places, A_own_reach, A_own_figures, A_own_base, A_check, C_Grid]
    refine ⟨by decide, ?_⟩
    refine very s4 k4 hp4 _ fun p s5 hp k5 hp5 => ?_
    simp only [↓wf_nil, ↓wf_cons, ↓wg_asg, ↓wf_par, ↓wf_par3, ↓wg_setF, ↓wg_setI, ↓wf_ex, ↓wf_ret, ↓wf_retN, ↓wf_pass, ↓wf_brk, ↓wf_cnt, ↓wg_ite, ↓wf_for, ↓wp_var, ↓wp_lit, ↓wp_glob, ↓wp_bin, ↓wp_dct, ↓wp_dix, ↓wp_cmpEq, ↓wp_cmpIn, ↓wp_nin, onB_b, ↓wp_cmpNe, ↓wp_neg, ↓wp_cmp, ↓wp_chain, ↓wp_not, ↓wp_and, ↓wp_or, ↓wp_ite, ↓wp_fld, ↓wp_tup, ↓wp_new, ↓wp_callE, ↓wp_meth, ↓wp_make, ↓wp_bi, ↓wp_fold, ↓wp_foldv, ↓wp_append, ↓wp_extend, ↓wp_ix, ↓wp_sl, ↓wp_slk, ↓wp_enil, ↓wp_econs, ↓wp_disp, ↓wp_lrange, ↓wp_lcomp, ↓wp_cnil, ↓wp_ccons, ↓wp_seq, ↓wp_fresh, ↓wp_irange, ↓wp_enum, ↓wp_bind, ↓wp_ok, ↓wp_if, ↓swB_bl, ↓swT_s, ↓onS_s, ↓onO_s, ↓onI_i, ↓onR_r, ↓brB_t, ↓brB_f, ↓brB_n, ↓brB_d, cls_gOf, dct_new, pairsD, keyOf, not_true_eq_false, not_false_eq_true, ixN_30, ixN_31, ixN_32, lst_new, eqD_int, eqD_non_int, fuel_gOf, atI_0, atI_1, atI_2, atI_3, atI_4, putD, List.set_set, List.contains_cons, List.contains_nil, beq_self_eq_true, Bool.or_true, Bool.true_or, Bool.or_false, Bool.false_or, Nat.reduceEqDiff, Nat.reduceLT, Nat.zero_lt_succ, T.put, setAll, wipeE, tru, binD, cmpD, biD, itemsOf, tupOk, fldP, walkP, bnd, isNon, swB_bl, swT_s, onS_s, onO_s, onI_i, onR_r, brB_t, brB_f, brB_n, brB_d, brB_and, brB_or, List.map_cons, List.map_nil, List.cons_append, List.nil_append, List.append_nil, List.replicate, List.getElem?_cons_zero, List.getElem?_cons_succ, List.set_cons_zero, List.set_cons_succ, List.length_cons, List.length_nil, Nat.reduceAdd, Nat.reduceSub, Nat.reduceLeDiff, List.lookup_cons, List.lookup_nil, true_and, and_true, Bool.not_true, Bool.not_false, if_true, if_false, reduceIte, forall_const, Bool.false_eq_true, false_implies, implies_true, true_implies, reduceCtorEq, Nat.reduceBEq, con_MOST_MORE, con_NEAR, con_MOST_REACH, con_MOST_PLACES, con_MOST_BASE, con_LEAST_BASE, con_MOST_FIGURES, con_ZERO, con_UP, con_DOWN, cls_Grid, kl0, A_own_step, A_own_bounds, A_own_tops, A_own_places, A_own_reach, A_own_figures, A_own_base, A_check, C_Grid]
    exact ⟨by decide, h 3 f r p s5 ⟨by decide, by decide, h1, h2, by omega, hp⟩ h3 hr k5 hp5⟩
  · rw [e]
    simp only [↓wf_nil, ↓wf_cons, ↓wg_asg, ↓wf_par, ↓wf_par3, ↓wg_setF, ↓wg_setI, ↓wf_ex, ↓wf_ret, ↓wf_retN, ↓wf_pass, ↓wf_brk, ↓wf_cnt, ↓wg_ite, ↓wf_for, ↓wp_var, ↓wp_lit, ↓wp_glob, ↓wp_bin, ↓wp_dct, ↓wp_dix, ↓wp_cmpEq, ↓wp_cmpIn, ↓wp_nin, onB_b, ↓wp_cmpNe, ↓wp_neg, ↓wp_cmp, ↓wp_chain, ↓wp_not, ↓wp_and, ↓wp_or, ↓wp_ite, ↓wp_fld, ↓wp_tup, ↓wp_new, ↓wp_callE, ↓wp_meth, ↓wp_make, ↓wp_bi, ↓wp_fold, ↓wp_foldv, ↓wp_append, ↓wp_extend, ↓wp_ix, ↓wp_sl, ↓wp_slk, ↓wp_enil, ↓wp_econs, ↓wp_disp, ↓wp_lrange, ↓wp_lcomp, ↓wp_cnil, ↓wp_ccons, ↓wp_seq, ↓wp_fresh, ↓wp_irange, ↓wp_enum, ↓wp_bind, ↓wp_ok, ↓wp_if, ↓swB_bl, ↓swT_s, ↓onS_s, ↓onO_s, ↓onI_i, ↓onR_r, ↓brB_t, ↓brB_f, ↓brB_n, ↓brB_d, cls_gOf, dct_new, pairsD, keyOf, not_true_eq_false, not_false_eq_true, ixN_30, ixN_31, ixN_32, lst_new, eqD_int, eqD_non_int, fuel_gOf, atI_0, atI_1, atI_2, atI_3, atI_4, putD, List.set_set, List.contains_cons, List.contains_nil, beq_self_eq_true, Bool.or_true, Bool.true_or, Bool.or_false, Bool.false_or, Nat.reduceEqDiff, Nat.reduceLT, Nat.zero_lt_succ, T.put, setAll, wipeE, tru, binD, cmpD, biD, itemsOf, tupOk, fldP, walkP, bnd, isNon, swB_bl, swT_s, onS_s, onO_s, onI_i, onR_r, brB_t, brB_f, brB_n, brB_d, brB_and, brB_or, List.map_cons, List.map_nil, List.cons_append, List.nil_append, List.append_nil, List.replicate, List.getElem?_cons_zero, List.getElem?_cons_succ, List.set_cons_zero, List.set_cons_succ, List.length_cons, List.length_nil, Nat.reduceAdd, Nat.reduceSub, Nat.reduceLeDiff, List.lookup_cons, List.lookup_nil, true_and, and_true, Bool.not_true, Bool.not_false, if_true, if_false, reduceIte, forall_const, Bool.false_eq_true, false_implies, implies_true, true_implies, reduceCtorEq, Nat.reduceBEq, con_MOST_MORE, con_NEAR, con_MOST_REACH, con_MOST_PLACES, con_MOST_BASE, con_LEAST_BASE, con_MOST_FIGURES, con_ZERO, con_UP, con_DOWN, cls_Grid, kl0, A_own_step, A_own_bounds, A_own_tops, A_own_places, A_own_reach, A_own_figures, A_own_base, A_check, C_Grid]
    refine ⟨by decide, by decide, by decide, by decide, onO_of rfl ?_⟩
    simp only [↓wf_nil, ↓wf_cons, ↓wg_asg, ↓wf_par, ↓wf_par3, ↓wg_setF, ↓wg_setI, ↓wf_ex, ↓wf_ret, ↓wf_retN, ↓wf_pass, ↓wf_brk, ↓wf_cnt, ↓wg_ite, ↓wf_for, ↓wp_var, ↓wp_lit, ↓wp_glob, ↓wp_bin, ↓wp_dct, ↓wp_dix, ↓wp_cmpEq, ↓wp_cmpIn, ↓wp_nin, onB_b, ↓wp_cmpNe, ↓wp_neg, ↓wp_cmp, ↓wp_chain, ↓wp_not, ↓wp_and, ↓wp_or, ↓wp_ite, ↓wp_fld, ↓wp_tup, ↓wp_new, ↓wp_callE, ↓wp_meth, ↓wp_make, ↓wp_bi, ↓wp_fold, ↓wp_foldv, ↓wp_append, ↓wp_extend, ↓wp_ix, ↓wp_sl, ↓wp_slk, ↓wp_enil, ↓wp_econs, ↓wp_disp, ↓wp_lrange, ↓wp_lcomp, ↓wp_cnil, ↓wp_ccons, ↓wp_seq, ↓wp_fresh, ↓wp_irange, ↓wp_enum, ↓wp_bind, ↓wp_ok, ↓wp_if, ↓swB_bl, ↓swT_s, ↓onS_s, ↓onO_s, ↓onI_i, ↓onR_r, ↓brB_t, ↓brB_f, ↓brB_n, ↓brB_d, cls_gOf, dct_new, pairsD, keyOf, not_true_eq_false, not_false_eq_true, ixN_30, ixN_31, ixN_32, lst_new, eqD_int, eqD_non_int, fuel_gOf, atI_0, atI_1, atI_2, atI_3, atI_4, putD, List.set_set, List.contains_cons, List.contains_nil, beq_self_eq_true, Bool.or_true, Bool.true_or, Bool.or_false, Bool.false_or, Nat.reduceEqDiff, Nat.reduceLT, Nat.zero_lt_succ, T.put, setAll, wipeE, tru, binD, cmpD, biD, itemsOf, tupOk, fldP, walkP, bnd, isNon, swB_bl, swT_s, onS_s, onO_s, onI_i, onR_r, brB_t, brB_f, brB_n, brB_d, brB_and, brB_or, List.map_cons, List.map_nil, List.cons_append, List.nil_append, List.append_nil, List.replicate, List.getElem?_cons_zero, List.getElem?_cons_succ, List.set_cons_zero, List.set_cons_succ, List.length_cons, List.length_nil, Nat.reduceAdd, Nat.reduceSub, Nat.reduceLeDiff, List.lookup_cons, List.lookup_nil, true_and, and_true, Bool.not_true, Bool.not_false, if_true, if_false, reduceIte, forall_const, Bool.false_eq_true, false_implies, implies_true, true_implies, reduceCtorEq, Nat.reduceBEq, con_MOST_MORE, con_NEAR, con_MOST_REACH, con_MOST_PLACES, con_MOST_BASE, con_LEAST_BASE, con_MOST_FIGURES, con_ZERO, con_UP, con_DOWN, cls_Grid, kl0, A_own_step, A_own_bounds, A_own_tops, A_own_places, A_own_reach, A_own_figures, A_own_base, A_check, C_Grid]
    refine fin _ _ [.int 1, .int 2] 5 ⟨by decide, by decide⟩ ?_ (by simp) (by simp) (((((kk.app _).app _).app _).app _).app _) (((((hp1.app _).app _).app _).app _).app _) (by first | omega | (simp only [List.length_append]; omega)) ((Gr.trans (Gr.app _) (Gr.app _)).lst lst_new) _ fun f s3 h1 h2 h3 k3 hp3 => ?_
    · intro d hd
      simp only [List.mem_cons, List.not_mem_nil, or_false] at hd
      rcases hd with rfl | rfl
      · exact ⟨1, rfl, by decide, by decide, by decide⟩
      · exact ⟨2, rfl, by decide, by decide, by decide⟩
    simp only [↓wf_nil, ↓wf_cons, ↓wg_asg, ↓wf_par, ↓wf_par3, ↓wg_setF, ↓wg_setI, ↓wf_ex, ↓wf_ret, ↓wf_retN, ↓wf_pass, ↓wf_brk, ↓wf_cnt, ↓wg_ite, ↓wf_for, ↓wp_var, ↓wp_lit, ↓wp_glob, ↓wp_bin, ↓wp_dct, ↓wp_dix, ↓wp_cmpEq, ↓wp_cmpIn, ↓wp_nin, onB_b, ↓wp_cmpNe, ↓wp_neg, ↓wp_cmp, ↓wp_chain, ↓wp_not, ↓wp_and, ↓wp_or, ↓wp_ite, ↓wp_fld, ↓wp_tup, ↓wp_new, ↓wp_callE, ↓wp_meth, ↓wp_make, ↓wp_bi, ↓wp_fold, ↓wp_foldv, ↓wp_append, ↓wp_extend, ↓wp_ix, ↓wp_sl, ↓wp_slk, ↓wp_enil, ↓wp_econs, ↓wp_disp, ↓wp_lrange, ↓wp_lcomp, ↓wp_cnil, ↓wp_ccons, ↓wp_seq, ↓wp_fresh, ↓wp_irange, ↓wp_enum, ↓wp_bind, ↓wp_ok, ↓wp_if, ↓swB_bl, ↓swT_s, ↓onS_s, ↓onO_s, ↓onI_i, ↓onR_r, ↓brB_t, ↓brB_f, ↓brB_n, ↓brB_d, cls_gOf, dct_new, pairsD, keyOf, not_true_eq_false, not_false_eq_true, ixN_30, ixN_31, ixN_32, lst_new, eqD_int, eqD_non_int, fuel_gOf, atI_0, atI_1, atI_2, atI_3, atI_4, putD, List.set_set, List.contains_cons, List.contains_nil, beq_self_eq_true, Bool.or_true, Bool.true_or, Bool.or_false, Bool.false_or, Nat.reduceEqDiff, Nat.reduceLT, Nat.zero_lt_succ, T.put, setAll, wipeE, tru, binD, cmpD, biD, itemsOf, tupOk, fldP, walkP, bnd, isNon, swB_bl, swT_s, onS_s, onO_s, onI_i, onR_r, brB_t, brB_f, brB_n, brB_d, brB_and, brB_or, List.map_cons, List.map_nil, List.cons_append, List.nil_append, List.append_nil, List.replicate, List.getElem?_cons_zero, List.getElem?_cons_succ, List.set_cons_zero, List.set_cons_succ, List.length_cons, List.length_nil, Nat.reduceAdd, Nat.reduceSub, Nat.reduceLeDiff, List.lookup_cons, List.lookup_nil, true_and, and_true, Bool.not_true, Bool.not_false, if_true, if_false, reduceIte, forall_const, Bool.false_eq_true, false_implies, implies_true, true_implies, reduceCtorEq, Nat.reduceBEq, con_MOST_MORE, con_NEAR, con_MOST_REACH, con_MOST_PLACES, con_MOST_BASE, con_LEAST_BASE, con_MOST_FIGURES, con_ZERO, con_UP, con_DOWN, cls_Grid, kl0, A_own_step, A_own_bounds, A_own_tops, A_own_places, A_own_reach, A_own_figures, A_own_base, A_check, C_Grid]
    refine ⟨by decide, ?_⟩
    refine last s3 5 f ⟨by decide, by decide⟩ h1 h2 h3 k3 hp3 _ fun r s4 hr k4 hp4 => ?_
    simp only [↓wf_nil, ↓wf_cons, ↓wg_asg, ↓wf_par, ↓wf_par3, ↓wg_setF, ↓wg_setI, ↓wf_ex, ↓wf_ret, ↓wf_retN, ↓wf_pass, ↓wf_brk, ↓wf_cnt, ↓wg_ite, ↓wf_for, ↓wp_var, ↓wp_lit, ↓wp_glob, ↓wp_bin, ↓wp_dct, ↓wp_dix, ↓wp_cmpEq, ↓wp_cmpIn, ↓wp_nin, onB_b, ↓wp_cmpNe, ↓wp_neg, ↓wp_cmp, ↓wp_chain, ↓wp_not, ↓wp_and, ↓wp_or, ↓wp_ite, ↓wp_fld, ↓wp_tup, ↓wp_new, ↓wp_callE, ↓wp_meth, ↓wp_make, ↓wp_bi, ↓wp_fold, ↓wp_foldv, ↓wp_append, ↓wp_extend, ↓wp_ix, ↓wp_sl, ↓wp_slk, ↓wp_enil, ↓wp_econs, ↓wp_disp, ↓wp_lrange, ↓wp_lcomp, ↓wp_cnil, ↓wp_ccons, ↓wp_seq, ↓wp_fresh, ↓wp_irange, ↓wp_enum, ↓wp_bind, ↓wp_ok, ↓wp_if, ↓swB_bl, ↓swT_s, ↓onS_s, ↓onO_s, ↓onI_i, ↓onR_r, ↓brB_t, ↓brB_f, ↓brB_n, ↓brB_d, cls_gOf, dct_new, pairsD, keyOf, not_true_eq_false, not_false_eq_true, ixN_30, ixN_31, ixN_32, lst_new, eqD_int, eqD_non_int, fuel_gOf, atI_0, atI_1, atI_2, atI_3, atI_4, putD, List.set_set, List.contains_cons, List.contains_nil, beq_self_eq_true, Bool.or_true, Bool.true_or, Bool.or_false, Bool.false_or, Nat.reduceEqDiff, Nat.reduceLT, Nat.zero_lt_succ, T.put, setAll, wipeE, tru, binD, cmpD, biD, itemsOf, tupOk, fldP, walkP, bnd, isNon, swB_bl, swT_s, onS_s, onO_s, onI_i, onR_r, brB_t, brB_f, brB_n, brB_d, brB_and, brB_or, List.map_cons, List.map_nil, List.cons_append, List.nil_append, List.append_nil, List.replicate, List.getElem?_cons_zero, List.getElem?_cons_succ, List.set_cons_zero, List.set_cons_succ, List.length_cons, List.length_nil, Nat.reduceAdd, Nat.reduceSub, Nat.reduceLeDiff, List.lookup_cons, List.lookup_nil, true_and, and_true, Bool.not_true, Bool.not_false, if_true, if_false, reduceIte, forall_const, Bool.false_eq_true, false_implies, implies_true, true_implies, reduceCtorEq, Nat.reduceBEq, con_MOST_MORE, con_NEAR, con_MOST_REACH, con_MOST_PLACES, con_MOST_BASE, con_LEAST_BASE, con_MOST_FIGURES, con_ZERO, con_UP, con_DOWN, cls_Grid, kl0, A_own_step, A_own_bounds, A_own_tops, A_own_places, A_own_reach, A_own_figures, A_own_base, A_check, C_Grid]
    refine ⟨by decide, ?_⟩
    refine very s4 k4 hp4 _ fun p s5 hp k5 hp5 => ?_
    simp only [↓wf_nil, ↓wf_cons, ↓wg_asg, ↓wf_par, ↓wf_par3, ↓wg_setF, ↓wg_setI, ↓wf_ex, ↓wf_ret, ↓wf_retN, ↓wf_pass, ↓wf_brk, ↓wf_cnt, ↓wg_ite, ↓wf_for, ↓wp_var, ↓wp_lit, ↓wp_glob, ↓wp_bin, ↓wp_dct, ↓wp_dix, ↓wp_cmpEq, ↓wp_cmpIn, ↓wp_nin, onB_b, ↓wp_cmpNe, ↓wp_neg, ↓wp_cmp, ↓wp_chain, ↓wp_not, ↓wp_and, ↓wp_or, ↓wp_ite, ↓wp_fld, ↓wp_tup, ↓wp_new, ↓wp_callE, ↓wp_meth, ↓wp_make, ↓wp_bi, ↓wp_fold, ↓wp_foldv, ↓wp_append, ↓wp_extend, ↓wp_ix, ↓wp_sl, ↓wp_slk, ↓wp_enil, ↓wp_econs, ↓wp_disp, ↓wp_lrange, ↓wp_lcomp, ↓wp_cnil, ↓wp_ccons, ↓wp_seq, ↓wp_fresh, ↓wp_irange, ↓wp_enum, ↓wp_bind, ↓wp_ok, ↓wp_if, ↓swB_bl, ↓swT_s, ↓onS_s, ↓onO_s, ↓onI_i, ↓onR_r, ↓brB_t, ↓brB_f, ↓brB_n, ↓brB_d, cls_gOf, dct_new, pairsD, keyOf, not_true_eq_false, not_false_eq_true, ixN_30, ixN_31, ixN_32, lst_new, eqD_int, eqD_non_int, fuel_gOf, atI_0, atI_1, atI_2, atI_3, atI_4, putD, List.set_set, List.contains_cons, List.contains_nil, beq_self_eq_true, Bool.or_true, Bool.true_or, Bool.or_false, Bool.false_or, Nat.reduceEqDiff, Nat.reduceLT, Nat.zero_lt_succ, T.put, setAll, wipeE, tru, binD, cmpD, biD, itemsOf, tupOk, fldP, walkP, bnd, isNon, swB_bl, swT_s, onS_s, onO_s, onI_i, onR_r, brB_t, brB_f, brB_n, brB_d, brB_and, brB_or, List.map_cons, List.map_nil, List.cons_append, List.nil_append, List.append_nil, List.replicate, List.getElem?_cons_zero, List.getElem?_cons_succ, List.set_cons_zero, List.set_cons_succ, List.length_cons, List.length_nil, Nat.reduceAdd, Nat.reduceSub, Nat.reduceLeDiff, List.lookup_cons, List.lookup_nil, true_and, and_true, Bool.not_true, Bool.not_false, if_true, if_false, reduceIte, forall_const, Bool.false_eq_true, false_implies, implies_true, true_implies, reduceCtorEq, Nat.reduceBEq, con_MOST_MORE, con_NEAR, con_MOST_REACH, con_MOST_PLACES, con_MOST_BASE, con_LEAST_BASE, con_MOST_FIGURES, con_ZERO, con_UP, con_DOWN, cls_Grid, kl0, A_own_step, A_own_bounds, A_own_tops, A_own_places, A_own_reach, A_own_figures, A_own_base, A_check, C_Grid]
    exact ⟨by decide, h 5 f r p s5 ⟨by decide, by decide, h1, h2, by omega, hp⟩ h3 hr k5 hp5⟩
  · rw [e]
    simp only [↓wf_nil, ↓wf_cons, ↓wg_asg, ↓wf_par, ↓wf_par3, ↓wg_setF, ↓wg_setI, ↓wf_ex, ↓wf_ret, ↓wf_retN, ↓wf_pass, ↓wf_brk, ↓wf_cnt, ↓wg_ite, ↓wf_for, ↓wp_var, ↓wp_lit, ↓wp_glob, ↓wp_bin, ↓wp_dct, ↓wp_dix, ↓wp_cmpEq, ↓wp_cmpIn, ↓wp_nin, onB_b, ↓wp_cmpNe, ↓wp_neg, ↓wp_cmp, ↓wp_chain, ↓wp_not, ↓wp_and, ↓wp_or, ↓wp_ite, ↓wp_fld, ↓wp_tup, ↓wp_new, ↓wp_callE, ↓wp_meth, ↓wp_make, ↓wp_bi, ↓wp_fold, ↓wp_foldv, ↓wp_append, ↓wp_extend, ↓wp_ix, ↓wp_sl, ↓wp_slk, ↓wp_enil, ↓wp_econs, ↓wp_disp, ↓wp_lrange, ↓wp_lcomp, ↓wp_cnil, ↓wp_ccons, ↓wp_seq, ↓wp_fresh, ↓wp_irange, ↓wp_enum, ↓wp_bind, ↓wp_ok, ↓wp_if, ↓swB_bl, ↓swT_s, ↓onS_s, ↓onO_s, ↓onI_i, ↓onR_r, ↓brB_t, ↓brB_f, ↓brB_n, ↓brB_d, cls_gOf, dct_new, pairsD, keyOf, not_true_eq_false, not_false_eq_true, ixN_30, ixN_31, ixN_32, lst_new, eqD_int, eqD_non_int, fuel_gOf, atI_0, atI_1, atI_2, atI_3, atI_4, putD, List.set_set, List.contains_cons, List.contains_nil, beq_self_eq_true, Bool.or_true, Bool.true_or, Bool.or_false, Bool.false_or, Nat.reduceEqDiff, Nat.reduceLT, Nat.zero_lt_succ, T.put, setAll, wipeE, tru, binD, cmpD, biD, itemsOf, tupOk, fldP, walkP, bnd, isNon, swB_bl, swT_s, onS_s, onO_s, onI_i, onR_r, brB_t, brB_f, brB_n, brB_d, brB_and, brB_or, List.map_cons, List.map_nil, List.cons_append, List.nil_append, List.append_nil, List.replicate, List.getElem?_cons_zero, List.getElem?_cons_succ, List.set_cons_zero, List.set_cons_succ, List.length_cons, List.length_nil, Nat.reduceAdd, Nat.reduceSub, Nat.reduceLeDiff, List.lookup_cons, List.lookup_nil, true_and, and_true, Bool.not_true, Bool.not_false, if_true, if_false, reduceIte, forall_const, Bool.false_eq_true, false_implies, implies_true, true_implies, reduceCtorEq, Nat.reduceBEq, con_MOST_MORE, con_NEAR, con_MOST_REACH, con_MOST_PLACES, con_MOST_BASE, con_LEAST_BASE, con_MOST_FIGURES, con_ZERO, con_UP, con_DOWN, cls_Grid, kl0, A_own_step, A_own_bounds, A_own_tops, A_own_places, A_own_reach, A_own_figures, A_own_base, A_check, C_Grid]
    refine ⟨by decide, by decide, by decide, by decide, onO_of rfl ?_⟩
    simp only [↓wf_nil, ↓wf_cons, ↓wg_asg, ↓wf_par, ↓wf_par3, ↓wg_setF, ↓wg_setI, ↓wf_ex, ↓wf_ret, ↓wf_retN, ↓wf_pass, ↓wf_brk, ↓wf_cnt, ↓wg_ite, ↓wf_for, ↓wp_var, ↓wp_lit, ↓wp_glob, ↓wp_bin, ↓wp_dct, ↓wp_dix, ↓wp_cmpEq, ↓wp_cmpIn, ↓wp_nin, onB_b, ↓wp_cmpNe, ↓wp_neg, ↓wp_cmp, ↓wp_chain, ↓wp_not, ↓wp_and, ↓wp_or, ↓wp_ite, ↓wp_fld, ↓wp_tup, ↓wp_new, ↓wp_callE, ↓wp_meth, ↓wp_make, ↓wp_bi, ↓wp_fold, ↓wp_foldv, ↓wp_append, ↓wp_extend, ↓wp_ix, ↓wp_sl, ↓wp_slk, ↓wp_enil, ↓wp_econs, ↓wp_disp, ↓wp_lrange, ↓wp_lcomp, ↓wp_cnil, ↓wp_ccons, ↓wp_seq, ↓wp_fresh, ↓wp_irange, ↓wp_enum, ↓wp_bind, ↓wp_ok, ↓wp_if, ↓swB_bl, ↓swT_s, ↓onS_s, ↓onO_s, ↓onI_i, ↓onR_r, ↓brB_t, ↓brB_f, ↓brB_n, ↓brB_d, cls_gOf, dct_new, pairsD, keyOf, not_true_eq_false, not_false_eq_true, ixN_30, ixN_31, ixN_32, lst_new, eqD_int, eqD_non_int, fuel_gOf, atI_0, atI_1, atI_2, atI_3, atI_4, putD, List.set_set, List.contains_cons, List.contains_nil, beq_self_eq_true, Bool.or_true, Bool.true_or, Bool.or_false, Bool.false_or, Nat.reduceEqDiff, Nat.reduceLT, Nat.zero_lt_succ, T.put, setAll, wipeE, tru, binD, cmpD, biD, itemsOf, tupOk, fldP, walkP, bnd, isNon, swB_bl, swT_s, onS_s, onO_s, onI_i, onR_r, brB_t, brB_f, brB_n, brB_d, brB_and, brB_or, List.map_cons, List.map_nil, List.cons_append, List.nil_append, List.append_nil, List.replicate, List.getElem?_cons_zero, List.getElem?_cons_succ, List.set_cons_zero, List.set_cons_succ, List.length_cons, List.length_nil, Nat.reduceAdd, Nat.reduceSub, Nat.reduceLeDiff, List.lookup_cons, List.lookup_nil, true_and, and_true, Bool.not_true, Bool.not_false, if_true, if_false, reduceIte, forall_const, Bool.false_eq_true, false_implies, implies_true, true_implies, reduceCtorEq, Nat.reduceBEq, con_MOST_MORE, con_NEAR, con_MOST_REACH, con_MOST_PLACES, con_MOST_BASE, con_LEAST_BASE, con_MOST_FIGURES, con_ZERO, con_UP, con_DOWN, cls_Grid, kl0, A_own_step, A_own_bounds, A_own_tops, A_own_places, A_own_reach, A_own_figures, A_own_base, A_check, C_Grid]
    refine fin _ _ [.int 1, .int 2] 10 ⟨by decide, by decide⟩ ?_ (by simp) (by simp) (((((kk.app _).app _).app _).app _).app _) (((((hp1.app _).app _).app _).app _).app _) (by first | omega | (simp only [List.length_append]; omega)) ((Gr.app _).lst lst_new) _ fun f s3 h1 h2 h3 k3 hp3 => ?_
    · intro d hd
      simp only [List.mem_cons, List.not_mem_nil, or_false] at hd
      rcases hd with rfl | rfl
      · exact ⟨1, rfl, by decide, by decide, by decide⟩
      · exact ⟨2, rfl, by decide, by decide, by decide⟩
    simp only [↓wf_nil, ↓wf_cons, ↓wg_asg, ↓wf_par, ↓wf_par3, ↓wg_setF, ↓wg_setI, ↓wf_ex, ↓wf_ret, ↓wf_retN, ↓wf_pass, ↓wf_brk, ↓wf_cnt, ↓wg_ite, ↓wf_for, ↓wp_var, ↓wp_lit, ↓wp_glob, ↓wp_bin, ↓wp_dct, ↓wp_dix, ↓wp_cmpEq, ↓wp_cmpIn, ↓wp_nin, onB_b, ↓wp_cmpNe, ↓wp_neg, ↓wp_cmp, ↓wp_chain, ↓wp_not, ↓wp_and, ↓wp_or, ↓wp_ite, ↓wp_fld, ↓wp_tup, ↓wp_new, ↓wp_callE, ↓wp_meth, ↓wp_make, ↓wp_bi, ↓wp_fold, ↓wp_foldv, ↓wp_append, ↓wp_extend, ↓wp_ix, ↓wp_sl, ↓wp_slk, ↓wp_enil, ↓wp_econs, ↓wp_disp, ↓wp_lrange, ↓wp_lcomp, ↓wp_cnil, ↓wp_ccons, ↓wp_seq, ↓wp_fresh, ↓wp_irange, ↓wp_enum, ↓wp_bind, ↓wp_ok, ↓wp_if, ↓swB_bl, ↓swT_s, ↓onS_s, ↓onO_s, ↓onI_i, ↓onR_r, ↓brB_t, ↓brB_f, ↓brB_n, ↓brB_d, cls_gOf, dct_new, pairsD, keyOf, not_true_eq_false, not_false_eq_true, ixN_30, ixN_31, ixN_32, lst_new, eqD_int, eqD_non_int, fuel_gOf, atI_0, atI_1, atI_2, atI_3, atI_4, putD, List.set_set, List.contains_cons, List.contains_nil, beq_self_eq_true, Bool.or_true, Bool.true_or, Bool.or_false, Bool.false_or, Nat.reduceEqDiff, Nat.reduceLT, Nat.zero_lt_succ, T.put, setAll, wipeE, tru, binD, cmpD, biD, itemsOf, tupOk, fldP, walkP, bnd, isNon, swB_bl, swT_s, onS_s, onO_s, onI_i, onR_r, brB_t, brB_f, brB_n, brB_d, brB_and, brB_or, List.map_cons, List.map_nil, List.cons_append, List.nil_append, List.append_nil, List.replicate, List.getElem?_cons_zero, List.getElem?_cons_succ, List.set_cons_zero, List.set_cons_succ, List.length_cons, List.length_nil, Nat.reduceAdd, Nat.reduceSub, Nat.reduceLeDiff, List.lookup_cons, List.lookup_nil, true_and, and_true, Bool.not_true, Bool.not_false, if_true, if_false, reduceIte, forall_const, Bool.false_eq_true, false_implies, implies_true, true_implies, reduceCtorEq, Nat.reduceBEq, con_MOST_MORE, con_NEAR, con_MOST_REACH, con_MOST_PLACES, con_MOST_BASE, con_LEAST_BASE, con_MOST_FIGURES, con_ZERO, con_UP, con_DOWN, cls_Grid, kl0, A_own_step, A_own_bounds, A_own_tops, A_own_places, A_own_reach, A_own_figures, A_own_base, A_check, C_Grid]
    refine ⟨by decide, ?_⟩
    refine last s3 10 f ⟨by decide, by decide⟩ h1 h2 h3 k3 hp3 _ fun r s4 hr k4 hp4 => ?_
    simp only [↓wf_nil, ↓wf_cons, ↓wg_asg, ↓wf_par, ↓wf_par3, ↓wg_setF, ↓wg_setI, ↓wf_ex, ↓wf_ret, ↓wf_retN, ↓wf_pass, ↓wf_brk, ↓wf_cnt, ↓wg_ite, ↓wf_for, ↓wp_var, ↓wp_lit, ↓wp_glob, ↓wp_bin, ↓wp_dct, ↓wp_dix, ↓wp_cmpEq, ↓wp_cmpIn, ↓wp_nin, onB_b, ↓wp_cmpNe, ↓wp_neg, ↓wp_cmp, ↓wp_chain, ↓wp_not, ↓wp_and, ↓wp_or, ↓wp_ite, ↓wp_fld, ↓wp_tup, ↓wp_new, ↓wp_callE, ↓wp_meth, ↓wp_make, ↓wp_bi, ↓wp_fold, ↓wp_foldv, ↓wp_append, ↓wp_extend, ↓wp_ix, ↓wp_sl, ↓wp_slk, ↓wp_enil, ↓wp_econs, ↓wp_disp, ↓wp_lrange, ↓wp_lcomp, ↓wp_cnil, ↓wp_ccons, ↓wp_seq, ↓wp_fresh, ↓wp_irange, ↓wp_enum, ↓wp_bind, ↓wp_ok, ↓wp_if, ↓swB_bl, ↓swT_s, ↓onS_s, ↓onO_s, ↓onI_i, ↓onR_r, ↓brB_t, ↓brB_f, ↓brB_n, ↓brB_d, cls_gOf, dct_new, pairsD, keyOf, not_true_eq_false, not_false_eq_true, ixN_30, ixN_31, ixN_32, lst_new, eqD_int, eqD_non_int, fuel_gOf, atI_0, atI_1, atI_2, atI_3, atI_4, putD, List.set_set, List.contains_cons, List.contains_nil, beq_self_eq_true, Bool.or_true, Bool.true_or, Bool.or_false, Bool.false_or, Nat.reduceEqDiff, Nat.reduceLT, Nat.zero_lt_succ, T.put, setAll, wipeE, tru, binD, cmpD, biD, itemsOf, tupOk, fldP, walkP, bnd, isNon, swB_bl, swT_s, onS_s, onO_s, onI_i, onR_r, brB_t, brB_f, brB_n, brB_d, brB_and, brB_or, List.map_cons, List.map_nil, List.cons_append, List.nil_append, List.append_nil, List.replicate, List.getElem?_cons_zero, List.getElem?_cons_succ, List.set_cons_zero, List.set_cons_succ, List.length_cons, List.length_nil, Nat.reduceAdd, Nat.reduceSub, Nat.reduceLeDiff, List.lookup_cons, List.lookup_nil, true_and, and_true, Bool.not_true, Bool.not_false, if_true, if_false, reduceIte, forall_const, Bool.false_eq_true, false_implies, implies_true, true_implies, reduceCtorEq, Nat.reduceBEq, con_MOST_MORE, con_NEAR, con_MOST_REACH, con_MOST_PLACES, con_MOST_BASE, con_LEAST_BASE, con_MOST_FIGURES, con_ZERO, con_UP, con_DOWN, cls_Grid, kl0, A_own_step, A_own_bounds, A_own_tops, A_own_places, A_own_reach, A_own_figures, A_own_base, A_check, C_Grid]
    refine ⟨by decide, ?_⟩
    refine very s4 k4 hp4 _ fun p s5 hp k5 hp5 => ?_
    simp only [↓wf_nil, ↓wf_cons, ↓wg_asg, ↓wf_par, ↓wf_par3, ↓wg_setF, ↓wg_setI, ↓wf_ex, ↓wf_ret, ↓wf_retN, ↓wf_pass, ↓wf_brk, ↓wf_cnt, ↓wg_ite, ↓wf_for, ↓wp_var, ↓wp_lit, ↓wp_glob, ↓wp_bin, ↓wp_dct, ↓wp_dix, ↓wp_cmpEq, ↓wp_cmpIn, ↓wp_nin, onB_b, ↓wp_cmpNe, ↓wp_neg, ↓wp_cmp, ↓wp_chain, ↓wp_not, ↓wp_and, ↓wp_or, ↓wp_ite, ↓wp_fld, ↓wp_tup, ↓wp_new, ↓wp_callE, ↓wp_meth, ↓wp_make, ↓wp_bi, ↓wp_fold, ↓wp_foldv, ↓wp_append, ↓wp_extend, ↓wp_ix, ↓wp_sl, ↓wp_slk, ↓wp_enil, ↓wp_econs, ↓wp_disp, ↓wp_lrange, ↓wp_lcomp, ↓wp_cnil, ↓wp_ccons, ↓wp_seq, ↓wp_fresh, ↓wp_irange, ↓wp_enum, ↓wp_bind, ↓wp_ok, ↓wp_if, ↓swB_bl, ↓swT_s, ↓onS_s, ↓onO_s, ↓onI_i, ↓onR_r, ↓brB_t, ↓brB_f, ↓brB_n, ↓brB_d, cls_gOf, dct_new, pairsD, keyOf, not_true_eq_false, not_false_eq_true, ixN_30, ixN_31, ixN_32, lst_new, eqD_int, eqD_non_int, fuel_gOf, atI_0, atI_1, atI_2, atI_3, atI_4, putD, List.set_set, List.contains_cons, List.contains_nil, beq_self_eq_true, Bool.or_true, Bool.true_or, Bool.or_false, Bool.false_or, Nat.reduceEqDiff, Nat.reduceLT, Nat.zero_lt_succ, T.put, setAll, wipeE, tru, binD, cmpD, biD, itemsOf, tupOk, fldP, walkP, bnd, isNon, swB_bl, swT_s, onS_s, onO_s, onI_i, onR_r, brB_t, brB_f, brB_n, brB_d, brB_and, brB_or, List.map_cons, List.map_nil, List.cons_append, List.nil_append, List.append_nil, List.replicate, List.getElem?_cons_zero, List.getElem?_cons_succ, List.set_cons_zero, List.set_cons_succ, List.length_cons, List.length_nil, Nat.reduceAdd, Nat.reduceSub, Nat.reduceLeDiff, List.lookup_cons, List.lookup_nil, true_and, and_true, Bool.not_true, Bool.not_false, if_true, if_false, reduceIte, forall_const, Bool.false_eq_true, false_implies, implies_true, true_implies, reduceCtorEq, Nat.reduceBEq, con_MOST_MORE, con_NEAR, con_MOST_REACH, con_MOST_PLACES, con_MOST_BASE, con_LEAST_BASE, con_MOST_FIGURES, con_ZERO, con_UP, con_DOWN, cls_Grid, kl0, A_own_step, A_own_bounds, A_own_tops, A_own_places, A_own_reach, A_own_figures, A_own_base, A_check, C_Grid]
    exact ⟨by decide, h 10 f r p s5 ⟨by decide, by decide, h1, h2, by omega, hp⟩ h3 hr k5 hp5⟩
end
theorem eqD_rn {s : Sto} {k k2 : Nat} {xs : List Int} (h : lstAt s k = some (xs.map D.int)) (h2 : lstAt s k2 = some []) : eqD s (.ref k) (.ref k2) = some (decide (xs = [])) := by
  have py : ∀ {j : Nat} {zs : List Int}, lstAt s j = some (zs.map D.int) → pyOf s (.ref j) = some (.list (zs.map PyData.int)) := fun {j zs} e => by
    simp only [pyOf, e, toPyL_ints]
  have sh : ∀ zs : List Int, SeqAt.shaped (.list (zs.map PyData.int)) = true := fun zs => by
    obtain ⟨h1, h2⟩ := canLay_ints zs
    unfold SeqAt.shaped
    rw [Bool.and_eq_true]
    exact ⟨h1, decide_eq_true (show PyData.depthAll (zs.map PyData.int) + 1 ≤ 64 by omega)⟩
  unfold eqD
  rw [py h, py (zs := []) h2]
  simp only
  rw [if_pos ⟨sh xs, sh []⟩]
  exact congrArg some (eqv_ints xs [])
theorem cut1 {d : D} {ds : List D} : cutD (d :: ds) (some 1) none = ds := by
  unfold cutD
  rw [show ((1 : Int)) = ((1 : Nat) : Int) from rfl, HT.sIx_nat, HT.sIx_none, List.length_cons, Nat.min_eq_left (by omega)]
  rw [List.drop_succ_cons, List.drop_zero, List.take_of_length_le (by omega)]
theorem cutH {α : Type} (xs : List α) (m : Nat) : cutD xs none (some (m : Int)) = xs.take m := by
  unfold cutD
  rw [HT.sIx_nat, HT.sIx_none, List.drop_zero, Nat.sub_zero]
  rcases Nat.le_total m xs.length with h | h
  · rw [Nat.min_eq_left h]
  · rw [Nat.min_eq_right h, List.take_of_length_le (Nat.le_refl _), List.take_of_length_le h]
section
variable {fuel n : Nat} {s : Sto} {Q : D → Sto → Prop} {b f r p q N : Nat}
end
theorem eqD_nn {s : Sto} : eqD s (.tup []) (.tup []) = some true := eqD_nil (xs := [])
theorem eqD_cn {s : Sto} {x : Int} {ys : List Int} : eqD s (.tup (.int x :: ys.map D.int)) (.tup []) = some false := by
  have := eqD_nil (s := s) (xs := x :: ys)
  rw [decide_eq_false (by simp)] at this
  exact this
section
variable {fuel n : Nat} {s : Sto} {Q : D → Sto → Prop} {b f r p q N k : Nat}
end
/-- a value that repr shows -/
structure Rp (d : D) : Prop where
  ex : ∃ x, PyData.strOk x = true ∧ ∀ (s : Sto) (Q : D → Sto → Prop), Q (.str x) s → wp (biD .repr [d] s) Q
theorem Rp.non : Rp .non := ⟨_, strOk_of "None", fun s Q h => h⟩
theorem Rp.int {i : Int} (h : i.natAbs.log2 < 1920) : Rp (.int i) := ⟨_, strOk_of (toString i), fun s Q q => by
  show wp (if i.natAbs.log2 < 1920 then .ok (.str (toString i)) s else .no) Q
  rw [if_pos h]
  exact q⟩
theorem Rp.tup {ds : List D} {q : PyData} {n k : Nat} (e : toPy (.tup ds) = some q) (hs : Sh n k q) (hn : n ≤ 60) (hk : k ≤ 8000) : Rp (.tup ds) := ⟨_, hs.ok, fun s Q h => wp_show (show pyOf s (.tup ds) = some q from e) hs hn hk h⟩
theorem Rp.ints {xs : List Int} (h : ∀ y ∈ xs, y.natAbs.log2 < 1920) (hl : xs.length ≤ 3000) : Rp (.tup (xs.map D.int)) := Rp.tup toPyL_int (Sh.ints h) (by decide) (by omega)
/-- a whole number and a row of such -/
theorem Rp.pair {z : Int} {xs : List Int} (hz : z.natAbs.log2 < 1920) (h : ∀ y ∈ xs, y.natAbs.log2 < 1920) (hl : xs.length ≤ 3000) : Rp (.tup [.int z, .tup (xs.map D.int)]) := by
  have e : toPy (.tup [.int z, .tup (xs.map D.int)]) = some (.tuple [.int z, .tuple (xs.map PyData.int)]) := by
    simp only [toPy, toPyL, toPyL_ints]
  exact Rp.tup e (ShAll.tup (ShAll.cons (Sh.int hz) (Nat.zero_le 1) (ShAll.cons (Sh.ints h) (Nat.le_refl 1) .nil))) (by decide) (by omega)
theorem parts_small {b f r p : Nat} (gp : GP b f r p) {x : Int} (hx : x.natAbs ≤ gtop b f r) : ∀ y ∈ parts b f x, y.natAbs.log2 < 1920 := fun y hy => by
  have h1 := (parts_grid gp.b2 gp.f1 x hx y hy).1
  have l4 := gtop_lt gp
  have l5 : (2 : Nat) ^ 400 < 2 ^ 500 := by decide +kernel
  exact small_log (by omega)
theorem on_log {b f r p : Nat} (gp : GP b f r p) {x : Int} (h : onGrid b f r x) : x.natAbs.log2 < 1920 := by
  have h1 := h.1
  have l4 := gtop_lt gp
  have l5 : (2 : Nat) ^ 400 < 2 ^ 500 := by decide +kernel
  exact small_log (by omega)
theorem sum_small {b f r p : Nat} (gp : GP b f r p) : ∀ {xs : List Int}, GI b f r xs → xs.sum.natAbs ≤ xs.length * 2 ^ 400
  | [], _ => by simp
  | x :: xs, h => by
    have h1 := sum_small gp (xs := xs) fun y hy => h y (by simp [hy])
    have h2 := (h x (by simp)).1
    have l4 := gtop_lt gp
    rw [List.sum_cons, List.length_cons, Nat.add_mul]
    omega
theorem sum_log {b f r p : Nat} (gp : GP b f r p) {xs : List Int} (h : GI b f r xs) (hl : xs.length ≤ 100) : xs.sum.natAbs.log2 < 1920 := by
  have h1 := sum_small gp h
  have l5 : 100 * (2 : Nat) ^ 400 < 2 ^ 500 := by decide +kernel
  have h2 : xs.length * 2 ^ 400 ≤ 100 * 2 ^ 400 := Nat.mul_le_mul_right _ hl
  exact small_log (by omega)
theorem goneD_cases {b f r p : Nat} (gp : GP b f r p) {xs : List Int} (h : GI b f r xs) : goneD b f r xs = .non ∨ ∃ (zl : Int × List Int), goneD b f r xs = .tup [.int zl.1, .tup (zl.2.map D.int)] ∧ GI b f r (zl.1 :: zl.2) ∧ (zl.1 :: zl.2).sum = xs.sum ∧ (zl.1 :: zl.2).length = max 1 xs.length := by
  cases xs with
  | nil => exact .inr ⟨(0, []), rfl, by intro y hy; simp at hy; rw [hy]; exact zero_on gp.b2, by simp, by simp⟩
  | cons x ys =>
    cases e : goneL b f r x [] ys with
    | none => left; simp only [goneD, e]
    | some zl =>
      right
      obtain ⟨h1, h2, h3, h4⟩ := goneL_some gp.b2 gp.f1 ys x [] zl.1 zl.2 (h x (by simp)) (fun y hy => h y (by simp [hy])) (by intro y hy; simp at hy) e
      refine ⟨zl, by simp only [goneD, e], fun y hy => ?_, ?_, ?_⟩
      · rcases List.mem_cons.mp hy with w | w
        · rw [w]; exact h1
        · exact h2 y w
      · rw [List.sum_cons, List.sum_cons]
        simp at h3
        omega
      · simp at h4
        rw [List.length_cons, List.length_cons, h4]
        omega
theorem Rp.gone {b f r p : Nat} (gp : GP b f r p) {xs : List Int} (h : GI b f r xs) (hl : xs.length ≤ 100) : Rp (goneD b f r xs) := by
  rcases goneD_cases gp h with e | ⟨zl, e, h1, h2, h3⟩
  · rw [e]; exact .non
  · rw [e]
    rw [List.length_cons] at h3
    exact Rp.pair (on_log gp (h1 _ (by simp))) (fun y hy => on_log gp (h1 y (by simp [hy]))) (by omega)
def ownD (b f r : Nat) (x : Int) : D := if x.natAbs ≤ gtop b f r then .tup ((parts b f x).map D.int) else .non
theorem Rp.own {b f r p : Nat} (gp : GP b f r p) {x : Int} : Rp (ownD b f r x) := by
  unfold ownD
  have l4 := gtop_lt gp
  split
  · rename_i h
    exact Rp.ints (parts_small gp h) (by have := parts_len gp.b2 gp.f1 x 400 (by omega); omega)
  · exact .non
theorem cutD_all {zs : List Int} (h : zs.length ≤ 100) : cutD (zs.map D.int) none (some 100) = zs.map D.int := by
  rw [show ((100 : Int)) = ((100 : Nat) : Int) from rfl, cutH, List.take_of_length_le (by rw [List.length_map]; exact h)]
section
variable {fuel n : Nat} {s : Sto} {Q : D → Sto → Prop} {b f r p q N k : Nat}
end
/-- a sum, and what is left -/
def splD (b f r : Nat) (x : Int) : D := if (nr b f x .near).natAbs ≤ gtop b f r then .tup [.int (nr b f x .near), .int (x - nr b f x .near)] else .non
section
variable {fuel n : Nat} {s : Sto} {Q : D → Sto → Prop} {b f r p q N k : Nat}
theorem split_sum_ok {y z : Int} (hg : IsGrid s k b f r p) (hf : 1000 < fuel) (hy : onGrid b f r y) (hz : onGrid b f r z) (h : Q (splD b f r (y + z)) s) : wp (call Z fuel (n + 4) F_split_sum [.ref k, .int y, .int z] s) Q := by
  obtain ⟨k1, k2, i1, i2, i3⟩ := hg.ex
  have gp := hg.gp
  have l4 := gtop_lt gp
  have l5 : (2 : Nat) ^ 400 + 2 ^ 400 < 2 ^ 500 := by decide +kernel
  have l8 : 1 < (2 : Nat) ^ 500 := by decide +kernel
  have hy1 := hy.1
  have hz1 := hz.1
  refine wp_call (r := d_split_sum) rfl rfl ?_
  simp only [d_split_sum, ↓wf_nil, ↓wf_cons, ↓wg_asg, ↓wf_par, ↓wf_par3, ↓wg_setF, ↓wg_setI, ↓wf_ex, ↓wf_ret, ↓wf_retN, ↓wf_pass, ↓wf_brk, ↓wf_cnt, ↓wg_ite, ↓wf_for, ↓wp_var, ↓wp_lit, ↓wp_glob, ↓wp_bin, ↓wp_dct, ↓wp_dix, ↓wp_cmpEq, ↓wp_cmpIn, ↓wp_nin, onB_b, ↓wp_cmpNe, ↓wp_neg, ↓wp_cmp, ↓wp_chain, ↓wp_not, ↓wp_and, ↓wp_or, ↓wp_ite, ↓wp_fld, ↓wp_tup, ↓wp_new, ↓wp_callE, ↓wp_meth, ↓wp_make, ↓wp_bi, ↓wp_fold, ↓wp_foldv, ↓wp_append, ↓wp_extend, ↓wp_ix, ↓wp_sl, ↓wp_slk, ↓wp_enil, ↓wp_econs, ↓wp_disp, ↓wp_lrange, ↓wp_lcomp, ↓wp_cnil, ↓wp_ccons, ↓wp_seq, ↓wp_fresh, ↓wp_irange, ↓wp_enum, ↓wp_bind, ↓wp_ok, ↓wp_if, ↓swB_bl, ↓swT_s, ↓onS_s, ↓onO_s, ↓onI_i, ↓onR_r, ↓brB_t, ↓brB_f, ↓brB_n, ↓brB_d, cls_gOf, dct_new, pairsD, keyOf, not_true_eq_false, not_false_eq_true, ixN_30, ixN_31, ixN_32, lst_new, eqD_int, eqD_non_int, fuel_gOf, atI_0, atI_1, atI_2, atI_3, atI_4, putD, List.set_set, List.contains_cons, List.contains_nil, beq_self_eq_true, Bool.or_true, Bool.true_or, Bool.or_false, Bool.false_or, Nat.reduceEqDiff, Nat.reduceLT, Nat.zero_lt_succ, T.put, setAll, wipeE, tru, binD, cmpD, biD, itemsOf, tupOk, fldP, walkP, bnd, isNon, swB_bl, swT_s, onS_s, onO_s, onI_i, onR_r, brB_t, brB_f, brB_n, brB_d, brB_and, brB_or, List.map_cons, List.map_nil, List.cons_append, List.nil_append, List.append_nil, List.replicate, List.getElem?_cons_zero, List.getElem?_cons_succ, List.set_cons_zero, List.set_cons_succ, List.length_cons, List.length_nil, Nat.reduceAdd, Nat.reduceSub, Nat.reduceLeDiff, List.lookup_cons, List.lookup_nil, true_and, and_true, Bool.not_true, Bool.not_false, if_true, if_false, reduceIte, forall_const, Bool.false_eq_true, false_implies, implies_true, true_implies, reduceCtorEq, Nat.reduceBEq, con_MOST_MORE, con_NEAR, con_MOST_REACH, con_MOST_PLACES, con_MOST_BASE, con_LEAST_BASE, con_MOST_FIGURES, con_ZERO, con_UP, con_DOWN, cls_Grid, kl0, A_own_step, A_own_bounds, A_own_tops, A_own_places, A_own_reach, A_own_figures, A_own_base, A_check, C_Grid, ins_of i1, gridF]
  refine Grid_check_ok hg hf hy ?_
  simp only [↓wf_nil, ↓wf_cons, ↓wg_asg, ↓wf_par, ↓wf_par3, ↓wg_setF, ↓wg_setI, ↓wf_ex, ↓wf_ret, ↓wf_retN, ↓wf_pass, ↓wf_brk, ↓wf_cnt, ↓wg_ite, ↓wf_for, ↓wp_var, ↓wp_lit, ↓wp_glob, ↓wp_bin, ↓wp_dct, ↓wp_dix, ↓wp_cmpEq, ↓wp_cmpIn, ↓wp_nin, onB_b, ↓wp_cmpNe, ↓wp_neg, ↓wp_cmp, ↓wp_chain, ↓wp_not, ↓wp_and, ↓wp_or, ↓wp_ite, ↓wp_fld, ↓wp_tup, ↓wp_new, ↓wp_callE, ↓wp_meth, ↓wp_make, ↓wp_bi, ↓wp_fold, ↓wp_foldv, ↓wp_append, ↓wp_extend, ↓wp_ix, ↓wp_sl, ↓wp_slk, ↓wp_enil, ↓wp_econs, ↓wp_disp, ↓wp_lrange, ↓wp_lcomp, ↓wp_cnil, ↓wp_ccons, ↓wp_seq, ↓wp_fresh, ↓wp_irange, ↓wp_enum, ↓wp_bind, ↓wp_ok, ↓wp_if, ↓swB_bl, ↓swT_s, ↓onS_s, ↓onO_s, ↓onI_i, ↓onR_r, ↓brB_t, ↓brB_f, ↓brB_n, ↓brB_d, cls_gOf, dct_new, pairsD, keyOf, not_true_eq_false, not_false_eq_true, ixN_30, ixN_31, ixN_32, lst_new, eqD_int, eqD_non_int, fuel_gOf, atI_0, atI_1, atI_2, atI_3, atI_4, putD, List.set_set, List.contains_cons, List.contains_nil, beq_self_eq_true, Bool.or_true, Bool.true_or, Bool.or_false, Bool.false_or, Nat.reduceEqDiff, Nat.reduceLT, Nat.zero_lt_succ, T.put, setAll, wipeE, tru, binD, cmpD, biD, itemsOf, tupOk, fldP, walkP, bnd, isNon, swB_bl, swT_s, onS_s, onO_s, onI_i, onR_r, brB_t, brB_f, brB_n, brB_d, brB_and, brB_or, List.map_cons, List.map_nil, List.cons_append, List.nil_append, List.append_nil, List.replicate, List.getElem?_cons_zero, List.getElem?_cons_succ, List.set_cons_zero, List.set_cons_succ, List.length_cons, List.length_nil, Nat.reduceAdd, Nat.reduceSub, Nat.reduceLeDiff, List.lookup_cons, List.lookup_nil, true_and, and_true, Bool.not_true, Bool.not_false, if_true, if_false, reduceIte, forall_const, Bool.false_eq_true, false_implies, implies_true, true_implies, reduceCtorEq, Nat.reduceBEq, con_MOST_MORE, con_NEAR, con_MOST_REACH, con_MOST_PLACES, con_MOST_BASE, con_LEAST_BASE, con_MOST_FIGURES, con_ZERO, con_UP, con_DOWN, cls_Grid, kl0, A_own_step, A_own_bounds, A_own_tops, A_own_places, A_own_reach, A_own_figures, A_own_base, A_check, C_Grid, ins_of i1, gridF]
  refine Grid_check_ok hg hf hz ?_
  simp only [↓wf_nil, ↓wf_cons, ↓wg_asg, ↓wf_par, ↓wf_par3, ↓wg_setF, ↓wg_setI, ↓wf_ex, ↓wf_ret, ↓wf_retN, ↓wf_pass, ↓wf_brk, ↓wf_cnt, ↓wg_ite, ↓wf_for, ↓wp_var, ↓wp_lit, ↓wp_glob, ↓wp_bin, ↓wp_dct, ↓wp_dix, ↓wp_cmpEq, ↓wp_cmpIn, ↓wp_nin, onB_b, ↓wp_cmpNe, ↓wp_neg, ↓wp_cmp, ↓wp_chain, ↓wp_not, ↓wp_and, ↓wp_or, ↓wp_ite, ↓wp_fld, ↓wp_tup, ↓wp_new, ↓wp_callE, ↓wp_meth, ↓wp_make, ↓wp_bi, ↓wp_fold, ↓wp_foldv, ↓wp_append, ↓wp_extend, ↓wp_ix, ↓wp_sl, ↓wp_slk, ↓wp_enil, ↓wp_econs, ↓wp_disp, ↓wp_lrange, ↓wp_lcomp, ↓wp_cnil, ↓wp_ccons, ↓wp_seq, ↓wp_fresh, ↓wp_irange, ↓wp_enum, ↓wp_bind, ↓wp_ok, ↓wp_if, ↓swB_bl, ↓swT_s, ↓onS_s, ↓onO_s, ↓onI_i, ↓onR_r, ↓brB_t, ↓brB_f, ↓brB_n, ↓brB_d, cls_gOf, dct_new, pairsD, keyOf, not_true_eq_false, not_false_eq_true, ixN_30, ixN_31, ixN_32, lst_new, eqD_int, eqD_non_int, fuel_gOf, atI_0, atI_1, atI_2, atI_3, atI_4, putD, List.set_set, List.contains_cons, List.contains_nil, beq_self_eq_true, Bool.or_true, Bool.true_or, Bool.or_false, Bool.false_or, Nat.reduceEqDiff, Nat.reduceLT, Nat.zero_lt_succ, T.put, setAll, wipeE, tru, binD, cmpD, biD, itemsOf, tupOk, fldP, walkP, bnd, isNon, swB_bl, swT_s, onS_s, onO_s, onI_i, onR_r, brB_t, brB_f, brB_n, brB_d, brB_and, brB_or, List.map_cons, List.map_nil, List.cons_append, List.nil_append, List.append_nil, List.replicate, List.getElem?_cons_zero, List.getElem?_cons_succ, List.set_cons_zero, List.set_cons_succ, List.length_cons, List.length_nil, Nat.reduceAdd, Nat.reduceSub, Nat.reduceLeDiff, List.lookup_cons, List.lookup_nil, true_and, and_true, Bool.not_true, Bool.not_false, if_true, if_false, reduceIte, forall_const, Bool.false_eq_true, false_implies, implies_true, true_implies, reduceCtorEq, Nat.reduceBEq, con_MOST_MORE, con_NEAR, con_MOST_REACH, con_MOST_PLACES, con_MOST_BASE, con_LEAST_BASE, con_MOST_FIGURES, con_ZERO, con_UP, con_DOWN, cls_Grid, kl0, A_own_step, A_own_bounds, A_own_tops, A_own_places, A_own_reach, A_own_figures, A_own_base, A_check, C_Grid]
  refine rounded_to_ok (way := .near) (m := 0) (bo := 1) hg (by omega) (by omega) (by omega) l8 hf ?_
  have er : rndD b f r 0 (y + z) 1 .near = if (nr b f (y + z) .near).natAbs ≤ gtop b f r then .int (nr b f (y + z) .near) else .non := by
    unfold rndD
    rw [rnum_nr, Nat.add_zero]
  rw [er]
  unfold splD at h
  refine elimO (Nat.lt_or_ge (gtop b f r) (nr b f (y + z) .near).natAbs) (fun c => ?_) fun c => ?_
  · rw [if_neg (by omega)] at h ⊢
    simp only [↓wf_nil, ↓wf_cons, ↓wg_asg, ↓wf_par, ↓wf_par3, ↓wg_setF, ↓wg_setI, ↓wf_ex, ↓wf_ret, ↓wf_retN, ↓wf_pass, ↓wf_brk, ↓wf_cnt, ↓wg_ite, ↓wf_for, ↓wp_var, ↓wp_lit, ↓wp_glob, ↓wp_bin, ↓wp_dct, ↓wp_dix, ↓wp_cmpEq, ↓wp_cmpIn, ↓wp_nin, onB_b, ↓wp_cmpNe, ↓wp_neg, ↓wp_cmp, ↓wp_chain, ↓wp_not, ↓wp_and, ↓wp_or, ↓wp_ite, ↓wp_fld, ↓wp_tup, ↓wp_new, ↓wp_callE, ↓wp_meth, ↓wp_make, ↓wp_bi, ↓wp_fold, ↓wp_foldv, ↓wp_append, ↓wp_extend, ↓wp_ix, ↓wp_sl, ↓wp_slk, ↓wp_enil, ↓wp_econs, ↓wp_disp, ↓wp_lrange, ↓wp_lcomp, ↓wp_cnil, ↓wp_ccons, ↓wp_seq, ↓wp_fresh, ↓wp_irange, ↓wp_enum, ↓wp_bind, ↓wp_ok, ↓wp_if, ↓swB_bl, ↓swT_s, ↓onS_s, ↓onO_s, ↓onI_i, ↓onR_r, ↓brB_t, ↓brB_f, ↓brB_n, ↓brB_d, cls_gOf, dct_new, pairsD, keyOf, not_true_eq_false, not_false_eq_true, ixN_30, ixN_31, ixN_32, lst_new, eqD_int, eqD_non_int, fuel_gOf, atI_0, atI_1, atI_2, atI_3, atI_4, putD, List.set_set, List.contains_cons, List.contains_nil, beq_self_eq_true, Bool.or_true, Bool.true_or, Bool.or_false, Bool.false_or, Nat.reduceEqDiff, Nat.reduceLT, Nat.zero_lt_succ, T.put, setAll, wipeE, tru, binD, cmpD, biD, itemsOf, tupOk, fldP, walkP, bnd, isNon, swB_bl, swT_s, onS_s, onO_s, onI_i, onR_r, brB_t, brB_f, brB_n, brB_d, brB_and, brB_or, List.map_cons, List.map_nil, List.cons_append, List.nil_append, List.append_nil, List.replicate, List.getElem?_cons_zero, List.getElem?_cons_succ, List.set_cons_zero, List.set_cons_succ, List.length_cons, List.length_nil, Nat.reduceAdd, Nat.reduceSub, Nat.reduceLeDiff, List.lookup_cons, List.lookup_nil, true_and, and_true, Bool.not_true, Bool.not_false, if_true, if_false, reduceIte, forall_const, Bool.false_eq_true, false_implies, implies_true, true_implies, reduceCtorEq, Nat.reduceBEq, con_MOST_MORE, con_NEAR, con_MOST_REACH, con_MOST_PLACES, con_MOST_BASE, con_LEAST_BASE, con_MOST_FIGURES, con_ZERO, con_UP, con_DOWN, cls_Grid, kl0, A_own_step, A_own_bounds, A_own_tops, A_own_places, A_own_reach, A_own_figures, A_own_base, A_check, C_Grid]
    exact h
  · rw [if_pos c] at h ⊢
    simp only [↓wf_nil, ↓wf_cons, ↓wg_asg, ↓wf_par, ↓wf_par3, ↓wg_setF, ↓wg_setI, ↓wf_ex, ↓wf_ret, ↓wf_retN, ↓wf_pass, ↓wf_brk, ↓wf_cnt, ↓wg_ite, ↓wf_for, ↓wp_var, ↓wp_lit, ↓wp_glob, ↓wp_bin, ↓wp_dct, ↓wp_dix, ↓wp_cmpEq, ↓wp_cmpIn, ↓wp_nin, onB_b, ↓wp_cmpNe, ↓wp_neg, ↓wp_cmp, ↓wp_chain, ↓wp_not, ↓wp_and, ↓wp_or, ↓wp_ite, ↓wp_fld, ↓wp_tup, ↓wp_new, ↓wp_callE, ↓wp_meth, ↓wp_make, ↓wp_bi, ↓wp_fold, ↓wp_foldv, ↓wp_append, ↓wp_extend, ↓wp_ix, ↓wp_sl, ↓wp_slk, ↓wp_enil, ↓wp_econs, ↓wp_disp, ↓wp_lrange, ↓wp_lcomp, ↓wp_cnil, ↓wp_ccons, ↓wp_seq, ↓wp_fresh, ↓wp_irange, ↓wp_enum, ↓wp_bind, ↓wp_ok, ↓wp_if, ↓swB_bl, ↓swT_s, ↓onS_s, ↓onO_s, ↓onI_i, ↓onR_r, ↓brB_t, ↓brB_f, ↓brB_n, ↓brB_d, cls_gOf, dct_new, pairsD, keyOf, not_true_eq_false, not_false_eq_true, ixN_30, ixN_31, ixN_32, lst_new, eqD_int, eqD_non_int, fuel_gOf, atI_0, atI_1, atI_2, atI_3, atI_4, putD, List.set_set, List.contains_cons, List.contains_nil, beq_self_eq_true, Bool.or_true, Bool.true_or, Bool.or_false, Bool.false_or, Nat.reduceEqDiff, Nat.reduceLT, Nat.zero_lt_succ, T.put, setAll, wipeE, tru, binD, cmpD, biD, itemsOf, tupOk, fldP, walkP, bnd, isNon, swB_bl, swT_s, onS_s, onO_s, onI_i, onR_r, brB_t, brB_f, brB_n, brB_d, brB_and, brB_or, List.map_cons, List.map_nil, List.cons_append, List.nil_append, List.append_nil, List.replicate, List.getElem?_cons_zero, List.getElem?_cons_succ, List.set_cons_zero, List.set_cons_succ, List.length_cons, List.length_nil, Nat.reduceAdd, Nat.reduceSub, Nat.reduceLeDiff, List.lookup_cons, List.lookup_nil, true_and, and_true, Bool.not_true, Bool.not_false, if_true, if_false, reduceIte, forall_const, Bool.false_eq_true, false_implies, implies_true, true_implies, reduceCtorEq, Nat.reduceBEq, con_MOST_MORE, con_NEAR, con_MOST_REACH, con_MOST_PLACES, con_MOST_BASE, con_LEAST_BASE, con_MOST_FIGURES, con_ZERO, con_UP, con_DOWN, cls_Grid, kl0, A_own_step, A_own_bounds, A_own_tops, A_own_places, A_own_reach, A_own_figures, A_own_base, A_check, C_Grid]
    exact ⟨by decide, h⟩
theorem is_pair_right_ok {y z : Int} (hg : IsGrid s k b f r p) (hf : 1000 < fuel) (hy : onGrid b f r y) (hz : onGrid b f r z) (h : ∀ s', Gr s s' → Q (.bl true) s') :
    wp (call Z fuel (n + 5) F_law_is_pair_right [.ref k, gt b f r p, .int y, .int z] s) Q := by
  have gp := hg.gp
  have hb := And.intro gp.b2 gp.b10
  have f1 := gp.f1
  have f30 := gp.f30
  have r60 := gp.r60
  have l4 := gtop_lt gp
  have l5 : (2 : Nat) ^ 400 + 2 ^ 400 < 2 ^ 500 := by decide +kernel
  have l8 : 1 < (2 : Nat) ^ 500 := by decide +kernel
  have hy1 := hy.1
  have hz1 := hz.1
  obtain ⟨x, hx⟩ : ∃ x, x = y + z := ⟨_, rfl⟩
  have hx2 : x.natAbs < 2 ^ 500 := by omega
  have er : rndD b f r 0 x 1 .near = if (nr b f x .near).natAbs ≤ gtop b f r then .int (nr b f x .near) else .non := by
    unfold rndD
    rw [rnum_nr, Nat.add_zero]
  have on : onGrid b f r (x - nr b f x .near) := rest_on hb.1 f1 hy hz hx
  have le1 : (x - nr b f x .near).natAbs ≤ y.natAbs := rest_le hb.1 f1 hz hx
  have le2 : (x - nr b f x .near).natAbs ≤ z.natAbs := rest_le hb.1 f1 hy (by omega)
  have ng : nr b f (-x) .near = - nr b f x .near := nr_neg hb.1
  refine wp_call (r := d_law_is_pair_right) rfl rfl ?_
  refine wf_seqE [some (.ref k), some (gt b f r p), some (.int y), some (.int z), some (splD b f r x), some (rndD b f r 0 x 1 .near), none, none] (Gr s) ?_ ?_
  · simp only [d_law_is_pair_right, ↓wf_nil, ↓wf_cons, ↓wg_asg, ↓wf_par, ↓wf_par3, ↓wg_setF, ↓wg_setI, ↓wf_ex, ↓wf_ret, ↓wf_retN, ↓wf_pass, ↓wf_brk, ↓wf_cnt, ↓wg_ite, ↓wf_for, ↓wp_var, ↓wp_lit, ↓wp_glob, ↓wp_bin, ↓wp_dct, ↓wp_dix, ↓wp_cmpEq, ↓wp_cmpIn, ↓wp_nin, onB_b, ↓wp_cmpNe, ↓wp_neg, ↓wp_cmp, ↓wp_chain, ↓wp_not, ↓wp_and, ↓wp_or, ↓wp_ite, ↓wp_fld, ↓wp_tup, ↓wp_new, ↓wp_callE, ↓wp_meth, ↓wp_make, ↓wp_bi, ↓wp_fold, ↓wp_foldv, ↓wp_append, ↓wp_extend, ↓wp_ix, ↓wp_sl, ↓wp_slk, ↓wp_enil, ↓wp_econs, ↓wp_disp, ↓wp_lrange, ↓wp_lcomp, ↓wp_cnil, ↓wp_ccons, ↓wp_seq, ↓wp_fresh, ↓wp_irange, ↓wp_enum, ↓wp_bind, ↓wp_ok, ↓wp_if, ↓swB_bl, ↓swT_s, ↓onS_s, ↓onO_s, ↓onI_i, ↓onR_r, ↓brB_t, ↓brB_f, ↓brB_n, ↓brB_d, cls_gOf, dct_new, pairsD, keyOf, not_true_eq_false, not_false_eq_true, ixN_30, ixN_31, ixN_32, lst_new, eqD_int, eqD_non_int, fuel_gOf, atI_0, atI_1, atI_2, atI_3, atI_4, putD, List.set_set, List.contains_cons, List.contains_nil, beq_self_eq_true, Bool.or_true, Bool.true_or, Bool.or_false, Bool.false_or, Nat.reduceEqDiff, Nat.reduceLT, Nat.zero_lt_succ, T.put, setAll, wipeE, tru, binD, cmpD, biD, itemsOf, tupOk, fldP, walkP, bnd, isNon, swB_bl, swT_s, onS_s, onO_s, onI_i, onR_r, brB_t, brB_f, brB_n, brB_d, brB_and, brB_or, List.map_cons, List.map_nil, List.cons_append, List.nil_append, List.append_nil, List.replicate, List.getElem?_cons_zero, List.getElem?_cons_succ, List.set_cons_zero, List.set_cons_succ, List.length_cons, List.length_nil, Nat.reduceAdd, Nat.reduceSub, Nat.reduceLeDiff, List.lookup_cons, List.lookup_nil, true_and, and_true, Bool.not_true, Bool.not_false, if_true, if_false, reduceIte, forall_const, Bool.false_eq_true, false_implies, implies_true, true_implies, reduceCtorEq, Nat.reduceBEq, con_MOST_MORE, con_NEAR, con_MOST_REACH, con_MOST_PLACES, con_MOST_BASE, con_LEAST_BASE, con_MOST_FIGURES, con_ZERO, con_UP, con_DOWN, cls_Grid, kl0, A_own_step, A_own_bounds, A_own_tops, A_own_places, A_own_reach, A_own_figures, A_own_base, A_check, C_Grid]
    refine split_sum_ok hg hf hy hz ?_
    simp only [↓wf_nil, ↓wf_cons, ↓wg_asg, ↓wf_par, ↓wf_par3, ↓wg_setF, ↓wg_setI, ↓wf_ex, ↓wf_ret, ↓wf_retN, ↓wf_pass, ↓wf_brk, ↓wf_cnt, ↓wg_ite, ↓wf_for, ↓wp_var, ↓wp_lit, ↓wp_glob, ↓wp_bin, ↓wp_dct, ↓wp_dix, ↓wp_cmpEq, ↓wp_cmpIn, ↓wp_nin, onB_b, ↓wp_cmpNe, ↓wp_neg, ↓wp_cmp, ↓wp_chain, ↓wp_not, ↓wp_and, ↓wp_or, ↓wp_ite, ↓wp_fld, ↓wp_tup, ↓wp_new, ↓wp_callE, ↓wp_meth, ↓wp_make, ↓wp_bi, ↓wp_fold, ↓wp_foldv, ↓wp_append, ↓wp_extend, ↓wp_ix, ↓wp_sl, ↓wp_slk, ↓wp_enil, ↓wp_econs, ↓wp_disp, ↓wp_lrange, ↓wp_lcomp, ↓wp_cnil, ↓wp_ccons, ↓wp_seq, ↓wp_fresh, ↓wp_irange, ↓wp_enum, ↓wp_bind, ↓wp_ok, ↓wp_if, ↓swB_bl, ↓swT_s, ↓onS_s, ↓onO_s, ↓onI_i, ↓onR_r, ↓brB_t, ↓brB_f, ↓brB_n, ↓brB_d, cls_gOf, dct_new, pairsD, keyOf, not_true_eq_false, not_false_eq_true, ixN_30, ixN_31, ixN_32, lst_new, eqD_int, eqD_non_int, fuel_gOf, atI_0, atI_1, atI_2, atI_3, atI_4, putD, List.set_set, List.contains_cons, List.contains_nil, beq_self_eq_true, Bool.or_true, Bool.true_or, Bool.or_false, Bool.false_or, Nat.reduceEqDiff, Nat.reduceLT, Nat.zero_lt_succ, T.put, setAll, wipeE, tru, binD, cmpD, biD, itemsOf, tupOk, fldP, walkP, bnd, isNon, swB_bl, swT_s, onS_s, onO_s, onI_i, onR_r, brB_t, brB_f, brB_n, brB_d, brB_and, brB_or, List.map_cons, List.map_nil, List.cons_append, List.nil_append, List.append_nil, List.replicate, List.getElem?_cons_zero, List.getElem?_cons_succ, List.set_cons_zero, List.set_cons_succ, List.length_cons, List.length_nil, Nat.reduceAdd, Nat.reduceSub, Nat.reduceLeDiff, List.lookup_cons, List.lookup_nil, true_and, and_true, Bool.not_true, Bool.not_false, if_true, if_false, reduceIte, forall_const, Bool.false_eq_true, false_implies, implies_true, true_implies, reduceCtorEq, Nat.reduceBEq, con_MOST_MORE, con_NEAR, con_MOST_REACH, con_MOST_PLACES, con_MOST_BASE, con_LEAST_BASE, con_MOST_FIGURES, con_ZERO, con_UP, con_DOWN, cls_Grid, kl0, A_own_step, A_own_bounds, A_own_tops, A_own_places, A_own_reach, A_own_figures, A_own_base, A_check, C_Grid]
    rw [← hx]
    refine grounded_ok (way := .near) (m := 0) (bo := 1) (by decide) hb (by omega) r60 (by omega) hx2 l8 hf ?_
    exact ⟨rfl, .refl⟩
  intro s1 g1
  have eyx : z + y = x := by omega
  have enx : -y + -z = -x := by omega
  rw [er]
  refine elimO (Nat.lt_or_ge (gtop b f r) (nr b f x .near).natAbs) (fun c => ?_) fun c => ?_
  · have e1 : splD b f r x = .non := by unfold splD; rw [if_neg (by omega)]
    have e2 : splD b f r (-x) = .non := by unfold splD; rw [ng, Int.natAbs_neg, if_neg (by omega)]
    rw [if_neg (by omega), e1]
    refine .on ?_
    simp only [↓wf_nil, ↓wf_cons, ↓wg_asg, ↓wf_par, ↓wf_par3, ↓wg_setF, ↓wg_setI, ↓wf_ex, ↓wf_ret, ↓wf_retN, ↓wf_pass, ↓wf_brk, ↓wf_cnt, ↓wg_ite, ↓wf_for, ↓wp_var, ↓wp_lit, ↓wp_glob, ↓wp_bin, ↓wp_dct, ↓wp_dix, ↓wp_cmpEq, ↓wp_cmpIn, ↓wp_nin, onB_b, ↓wp_cmpNe, ↓wp_neg, ↓wp_cmp, ↓wp_chain, ↓wp_not, ↓wp_and, ↓wp_or, ↓wp_ite, ↓wp_fld, ↓wp_tup, ↓wp_new, ↓wp_callE, ↓wp_meth, ↓wp_make, ↓wp_bi, ↓wp_fold, ↓wp_foldv, ↓wp_append, ↓wp_extend, ↓wp_ix, ↓wp_sl, ↓wp_slk, ↓wp_enil, ↓wp_econs, ↓wp_disp, ↓wp_lrange, ↓wp_lcomp, ↓wp_cnil, ↓wp_ccons, ↓wp_seq, ↓wp_fresh, ↓wp_irange, ↓wp_enum, ↓wp_bind, ↓wp_ok, ↓wp_if, ↓swB_bl, ↓swT_s, ↓onS_s, ↓onO_s, ↓onI_i, ↓onR_r, ↓brB_t, ↓brB_f, ↓brB_n, ↓brB_d, cls_gOf, dct_new, pairsD, keyOf, not_true_eq_false, not_false_eq_true, ixN_30, ixN_31, ixN_32, lst_new, eqD_int, eqD_non_int, fuel_gOf, atI_0, atI_1, atI_2, atI_3, atI_4, putD, List.set_set, List.contains_cons, List.contains_nil, beq_self_eq_true, Bool.or_true, Bool.true_or, Bool.or_false, Bool.false_or, Nat.reduceEqDiff, Nat.reduceLT, Nat.zero_lt_succ, T.put, setAll, wipeE, tru, binD, cmpD, biD, itemsOf, tupOk, fldP, walkP, bnd, isNon, swB_bl, swT_s, onS_s, onO_s, onI_i, onR_r, brB_t, brB_f, brB_n, brB_d, brB_and, brB_or, List.map_cons, List.map_nil, List.cons_append, List.nil_append, List.append_nil, List.replicate, List.getElem?_cons_zero, List.getElem?_cons_succ, List.set_cons_zero, List.set_cons_succ, List.length_cons, List.length_nil, Nat.reduceAdd, Nat.reduceSub, Nat.reduceLeDiff, List.lookup_cons, List.lookup_nil, true_and, and_true, Bool.not_true, Bool.not_false, if_true, if_false, reduceIte, forall_const, Bool.false_eq_true, false_implies, implies_true, true_implies, reduceCtorEq, Nat.reduceBEq, con_MOST_MORE, con_NEAR, con_MOST_REACH, con_MOST_PLACES, con_MOST_BASE, con_LEAST_BASE, con_MOST_FIGURES, con_ZERO, con_UP, con_DOWN, cls_Grid, kl0, A_own_step, A_own_bounds, A_own_tops, A_own_places, A_own_reach, A_own_figures, A_own_base, A_check, C_Grid]
    refine split_sum_ok (hg.gr g1) hf hz hy ?_
    rw [eyx, e1]
    simp only [↓wf_nil, ↓wf_cons, ↓wg_asg, ↓wf_par, ↓wf_par3, ↓wg_setF, ↓wg_setI, ↓wf_ex, ↓wf_ret, ↓wf_retN, ↓wf_pass, ↓wf_brk, ↓wf_cnt, ↓wg_ite, ↓wf_for, ↓wp_var, ↓wp_lit, ↓wp_glob, ↓wp_bin, ↓wp_dct, ↓wp_dix, ↓wp_cmpEq, ↓wp_cmpIn, ↓wp_nin, onB_b, ↓wp_cmpNe, ↓wp_neg, ↓wp_cmp, ↓wp_chain, ↓wp_not, ↓wp_and, ↓wp_or, ↓wp_ite, ↓wp_fld, ↓wp_tup, ↓wp_new, ↓wp_callE, ↓wp_meth, ↓wp_make, ↓wp_bi, ↓wp_fold, ↓wp_foldv, ↓wp_append, ↓wp_extend, ↓wp_ix, ↓wp_sl, ↓wp_slk, ↓wp_enil, ↓wp_econs, ↓wp_disp, ↓wp_lrange, ↓wp_lcomp, ↓wp_cnil, ↓wp_ccons, ↓wp_seq, ↓wp_fresh, ↓wp_irange, ↓wp_enum, ↓wp_bind, ↓wp_ok, ↓wp_if, ↓swB_bl, ↓swT_s, ↓onS_s, ↓onO_s, ↓onI_i, ↓onR_r, ↓brB_t, ↓brB_f, ↓brB_n, ↓brB_d, cls_gOf, dct_new, pairsD, keyOf, not_true_eq_false, not_false_eq_true, ixN_30, ixN_31, ixN_32, lst_new, eqD_int, eqD_non_int, fuel_gOf, atI_0, atI_1, atI_2, atI_3, atI_4, putD, List.set_set, List.contains_cons, List.contains_nil, beq_self_eq_true, Bool.or_true, Bool.true_or, Bool.or_false, Bool.false_or, Nat.reduceEqDiff, Nat.reduceLT, Nat.zero_lt_succ, T.put, setAll, wipeE, tru, binD, cmpD, biD, itemsOf, tupOk, fldP, walkP, bnd, isNon, swB_bl, swT_s, onS_s, onO_s, onI_i, onR_r, brB_t, brB_f, brB_n, brB_d, brB_and, brB_or, List.map_cons, List.map_nil, List.cons_append, List.nil_append, List.append_nil, List.replicate, List.getElem?_cons_zero, List.getElem?_cons_succ, List.set_cons_zero, List.set_cons_succ, List.length_cons, List.length_nil, Nat.reduceAdd, Nat.reduceSub, Nat.reduceLeDiff, List.lookup_cons, List.lookup_nil, true_and, and_true, Bool.not_true, Bool.not_false, if_true, if_false, reduceIte, forall_const, Bool.false_eq_true, false_implies, implies_true, true_implies, reduceCtorEq, Nat.reduceBEq, con_MOST_MORE, con_NEAR, con_MOST_REACH, con_MOST_PLACES, con_MOST_BASE, con_LEAST_BASE, con_MOST_FIGURES, con_ZERO, con_UP, con_DOWN, cls_Grid, kl0, A_own_step, A_own_bounds, A_own_tops, A_own_places, A_own_reach, A_own_figures, A_own_base, A_check, C_Grid]
    refine split_sum_ok (hg.gr g1) hf (onGrid_neg hy) (onGrid_neg hz) ?_
    rw [enx, e2]
    simp only [↓wf_nil, ↓wf_cons, ↓wg_asg, ↓wf_par, ↓wf_par3, ↓wg_setF, ↓wg_setI, ↓wf_ex, ↓wf_ret, ↓wf_retN, ↓wf_pass, ↓wf_brk, ↓wf_cnt, ↓wg_ite, ↓wf_for, ↓wp_var, ↓wp_lit, ↓wp_glob, ↓wp_bin, ↓wp_dct, ↓wp_dix, ↓wp_cmpEq, ↓wp_cmpIn, ↓wp_nin, onB_b, ↓wp_cmpNe, ↓wp_neg, ↓wp_cmp, ↓wp_chain, ↓wp_not, ↓wp_and, ↓wp_or, ↓wp_ite, ↓wp_fld, ↓wp_tup, ↓wp_new, ↓wp_callE, ↓wp_meth, ↓wp_make, ↓wp_bi, ↓wp_fold, ↓wp_foldv, ↓wp_append, ↓wp_extend, ↓wp_ix, ↓wp_sl, ↓wp_slk, ↓wp_enil, ↓wp_econs, ↓wp_disp, ↓wp_lrange, ↓wp_lcomp, ↓wp_cnil, ↓wp_ccons, ↓wp_seq, ↓wp_fresh, ↓wp_irange, ↓wp_enum, ↓wp_bind, ↓wp_ok, ↓wp_if, ↓swB_bl, ↓swT_s, ↓onS_s, ↓onO_s, ↓onI_i, ↓onR_r, ↓brB_t, ↓brB_f, ↓brB_n, ↓brB_d, cls_gOf, dct_new, pairsD, keyOf, not_true_eq_false, not_false_eq_true, ixN_30, ixN_31, ixN_32, lst_new, eqD_int, eqD_non_int, fuel_gOf, atI_0, atI_1, atI_2, atI_3, atI_4, putD, List.set_set, List.contains_cons, List.contains_nil, beq_self_eq_true, Bool.or_true, Bool.true_or, Bool.or_false, Bool.false_or, Nat.reduceEqDiff, Nat.reduceLT, Nat.zero_lt_succ, T.put, setAll, wipeE, tru, binD, cmpD, biD, itemsOf, tupOk, fldP, walkP, bnd, isNon, swB_bl, swT_s, onS_s, onO_s, onI_i, onR_r, brB_t, brB_f, brB_n, brB_d, brB_and, brB_or, List.map_cons, List.map_nil, List.cons_append, List.nil_append, List.append_nil, List.replicate, List.getElem?_cons_zero, List.getElem?_cons_succ, List.set_cons_zero, List.set_cons_succ, List.length_cons, List.length_nil, Nat.reduceAdd, Nat.reduceSub, Nat.reduceLeDiff, List.lookup_cons, List.lookup_nil, true_and, and_true, Bool.not_true, Bool.not_false, if_true, if_false, reduceIte, forall_const, Bool.false_eq_true, false_implies, implies_true, true_implies, reduceCtorEq, Nat.reduceBEq, con_MOST_MORE, con_NEAR, con_MOST_REACH, con_MOST_PLACES, con_MOST_BASE, con_LEAST_BASE, con_MOST_FIGURES, con_ZERO, con_UP, con_DOWN, cls_Grid, kl0, A_own_step, A_own_bounds, A_own_tops, A_own_places, A_own_reach, A_own_figures, A_own_base, A_check, C_Grid]
    exact h _ g1
  have e1 : splD b f r x = .tup [.int (nr b f x .near), .int (x - nr b f x .near)] := by unfold splD; rw [if_pos c]
  have e2 : splD b f r (-x) = .tup [.int (-nr b f x .near), .int (-(x - nr b f x .near))] := by
    unfold splD
    rw [ng, Int.natAbs_neg, if_pos c]
    congr 3
    congr 1
    omega
  have onr := nr_grid2 (x := x) (way := .near) hb.1 f1 c
  rw [if_pos c, e1]
  generalize nr b f x .near = u at *
  generalize hv : x - u = v at *
  have rp : Rp (.tup [.int u, .int v]) := Rp.ints (xs := [u, v]) (by
    intro w hw
    simp only [List.mem_cons, List.not_mem_nil, or_false] at hw
    rcases hw with rfl | rfl
    · exact on_log gp onr
    · exact on_log gp on) (by simp)
  obtain ⟨tU, okU, rU⟩ := rp.ex
  have rp2 : Rp (.tup [.tup [.int u, .int v], .tup [.int (-u), .int (-v)]]) := by
    have s1 : Sh 1 5 (.tuple [.int u, .int v]) := Sh.ints (xs := [u, v]) (by
      intro w hw
      simp only [List.mem_cons, List.not_mem_nil, or_false] at hw
      rcases hw with rfl | rfl
      · exact on_log gp onr
      · exact on_log gp on)
    have s2 : Sh 1 5 (.tuple [.int (-u), .int (-v)]) := Sh.ints (xs := [-u, -v]) (by
      intro w hw
      simp only [List.mem_cons, List.not_mem_nil, or_false] at hw
      rcases hw with rfl | rfl
      · exact on_log gp (onGrid_neg onr)
      · exact on_log gp (onGrid_neg on))
    exact Rp.tup rfl (ShAll.tup (ShAll.cons s1 (Nat.le_refl 1) (ShAll.cons s2 (Nat.le_refl 1) .nil))) (by decide) (by omega)
  obtain ⟨tP, okP, rP⟩ := rp2.ex
  refine Hold.seqE [some (.ref k), some (gt b f r p), some (.int y), some (.int z), some (.tup [.int u, .int v]), some (.int u), none, none] (Gr s) ?_ ?_
  · simp only [↓wf_nil, ↓wf_cons, ↓wg_asg, ↓wf_par, ↓wf_par3, ↓wg_setF, ↓wg_setI, ↓wf_ex, ↓wf_ret, ↓wf_retN, ↓wf_pass, ↓wf_brk, ↓wf_cnt, ↓wg_ite, ↓wf_for, ↓wp_var, ↓wp_lit, ↓wp_glob, ↓wp_bin, ↓wp_dct, ↓wp_dix, ↓wp_cmpEq, ↓wp_cmpIn, ↓wp_nin, onB_b, ↓wp_cmpNe, ↓wp_neg, ↓wp_cmp, ↓wp_chain, ↓wp_not, ↓wp_and, ↓wp_or, ↓wp_ite, ↓wp_fld, ↓wp_tup, ↓wp_new, ↓wp_callE, ↓wp_meth, ↓wp_make, ↓wp_bi, ↓wp_fold, ↓wp_foldv, ↓wp_append, ↓wp_extend, ↓wp_ix, ↓wp_sl, ↓wp_slk, ↓wp_enil, ↓wp_econs, ↓wp_disp, ↓wp_lrange, ↓wp_lcomp, ↓wp_cnil, ↓wp_ccons, ↓wp_seq, ↓wp_fresh, ↓wp_irange, ↓wp_enum, ↓wp_bind, ↓wp_ok, ↓wp_if, ↓swB_bl, ↓swT_s, ↓onS_s, ↓onO_s, ↓onI_i, ↓onR_r, ↓brB_t, ↓brB_f, ↓brB_n, ↓brB_d, cls_gOf, dct_new, pairsD, keyOf, not_true_eq_false, not_false_eq_true, ixN_30, ixN_31, ixN_32, lst_new, eqD_int, eqD_non_int, fuel_gOf, atI_0, atI_1, atI_2, atI_3, atI_4, putD, List.set_set, List.contains_cons, List.contains_nil, beq_self_eq_true, Bool.or_true, Bool.true_or, Bool.or_false, Bool.false_or, Nat.reduceEqDiff, Nat.reduceLT, Nat.zero_lt_succ, T.put, setAll, wipeE, tru, binD, cmpD, biD, itemsOf, tupOk, fldP, walkP, bnd, isNon, swB_bl, swT_s, onS_s, onO_s, onI_i, onR_r, brB_t, brB_f, brB_n, brB_d, brB_and, brB_or, List.map_cons, List.map_nil, List.cons_append, List.nil_append, List.append_nil, List.replicate, List.getElem?_cons_zero, List.getElem?_cons_succ, List.set_cons_zero, List.set_cons_succ, List.length_cons, List.length_nil, Nat.reduceAdd, Nat.reduceSub, Nat.reduceLeDiff, List.lookup_cons, List.lookup_nil, true_and, and_true, Bool.not_true, Bool.not_false, if_true, if_false, reduceIte, forall_const, Bool.false_eq_true, false_implies, implies_true, true_implies, reduceCtorEq, Nat.reduceBEq, con_MOST_MORE, con_NEAR, con_MOST_REACH, con_MOST_PLACES, con_MOST_BASE, con_LEAST_BASE, con_MOST_FIGURES, con_ZERO, con_UP, con_DOWN, cls_Grid, kl0, A_own_step, A_own_bounds, A_own_tops, A_own_places, A_own_reach, A_own_figures, A_own_base, A_check, C_Grid]
    exact g1
  intro s2 g2
  refine Hold.seqE [some (.ref k), some (gt b f r p), some (.int y), some (.int z), some (.tup [.int u, .int v]), some (.int u), none, none] (Gr s) ?_ ?_
  · simp only [↓wf_nil, ↓wf_cons, ↓wg_asg, ↓wf_par, ↓wf_par3, ↓wg_setF, ↓wg_setI, ↓wf_ex, ↓wf_ret, ↓wf_retN, ↓wf_pass, ↓wf_brk, ↓wf_cnt, ↓wg_ite, ↓wf_for, ↓wp_var, ↓wp_lit, ↓wp_glob, ↓wp_bin, ↓wp_dct, ↓wp_dix, ↓wp_cmpEq, ↓wp_cmpIn, ↓wp_nin, onB_b, ↓wp_cmpNe, ↓wp_neg, ↓wp_cmp, ↓wp_chain, ↓wp_not, ↓wp_and, ↓wp_or, ↓wp_ite, ↓wp_fld, ↓wp_tup, ↓wp_new, ↓wp_callE, ↓wp_meth, ↓wp_make, ↓wp_bi, ↓wp_fold, ↓wp_foldv, ↓wp_append, ↓wp_extend, ↓wp_ix, ↓wp_sl, ↓wp_slk, ↓wp_enil, ↓wp_econs, ↓wp_disp, ↓wp_lrange, ↓wp_lcomp, ↓wp_cnil, ↓wp_ccons, ↓wp_seq, ↓wp_fresh, ↓wp_irange, ↓wp_enum, ↓wp_bind, ↓wp_ok, ↓wp_if, ↓swB_bl, ↓swT_s, ↓onS_s, ↓onO_s, ↓onI_i, ↓onR_r, ↓brB_t, ↓brB_f, ↓brB_n, ↓brB_d, cls_gOf, dct_new, pairsD, keyOf, not_true_eq_false, not_false_eq_true, ixN_30, ixN_31, ixN_32, lst_new, eqD_int, eqD_non_int, fuel_gOf, atI_0, atI_1, atI_2, atI_3, atI_4, putD, List.set_set, List.contains_cons, List.contains_nil, beq_self_eq_true, Bool.or_true, Bool.true_or, Bool.or_false, Bool.false_or, Nat.reduceEqDiff, Nat.reduceLT, Nat.zero_lt_succ, T.put, setAll, wipeE, tru, binD, cmpD, biD, itemsOf, tupOk, fldP, walkP, bnd, isNon, swB_bl, swT_s, onS_s, onO_s, onI_i, onR_r, brB_t, brB_f, brB_n, brB_d, brB_and, brB_or, List.map_cons, List.map_nil, List.cons_append, List.nil_append, List.append_nil, List.replicate, List.getElem?_cons_zero, List.getElem?_cons_succ, List.set_cons_zero, List.set_cons_succ, List.length_cons, List.length_nil, Nat.reduceAdd, Nat.reduceSub, Nat.reduceLeDiff, List.lookup_cons, List.lookup_nil, true_and, and_true, Bool.not_true, Bool.not_false, if_true, if_false, reduceIte, forall_const, Bool.false_eq_true, false_implies, implies_true, true_implies, reduceCtorEq, Nat.reduceBEq, con_MOST_MORE, con_NEAR, con_MOST_REACH, con_MOST_PLACES, con_MOST_BASE, con_LEAST_BASE, con_MOST_FIGURES, con_ZERO, con_UP, con_DOWN, cls_Grid, kl0, A_own_step, A_own_bounds, A_own_tops, A_own_places, A_own_reach, A_own_figures, A_own_base, A_check, C_Grid]
    refine rU _ _ ?_
    simp only [↓wf_nil, ↓wf_cons, ↓wg_asg, ↓wf_par, ↓wf_par3, ↓wg_setF, ↓wg_setI, ↓wf_ex, ↓wf_ret, ↓wf_retN, ↓wf_pass, ↓wf_brk, ↓wf_cnt, ↓wg_ite, ↓wf_for, ↓wp_var, ↓wp_lit, ↓wp_glob, ↓wp_bin, ↓wp_dct, ↓wp_dix, ↓wp_cmpEq, ↓wp_cmpIn, ↓wp_nin, onB_b, ↓wp_cmpNe, ↓wp_neg, ↓wp_cmp, ↓wp_chain, ↓wp_not, ↓wp_and, ↓wp_or, ↓wp_ite, ↓wp_fld, ↓wp_tup, ↓wp_new, ↓wp_callE, ↓wp_meth, ↓wp_make, ↓wp_bi, ↓wp_fold, ↓wp_foldv, ↓wp_append, ↓wp_extend, ↓wp_ix, ↓wp_sl, ↓wp_slk, ↓wp_enil, ↓wp_econs, ↓wp_disp, ↓wp_lrange, ↓wp_lcomp, ↓wp_cnil, ↓wp_ccons, ↓wp_seq, ↓wp_fresh, ↓wp_irange, ↓wp_enum, ↓wp_bind, ↓wp_ok, ↓wp_if, ↓swB_bl, ↓swT_s, ↓onS_s, ↓onO_s, ↓onI_i, ↓onR_r, ↓brB_t, ↓brB_f, ↓brB_n, ↓brB_d, cls_gOf, dct_new, pairsD, keyOf, not_true_eq_false, not_false_eq_true, ixN_30, ixN_31, ixN_32, lst_new, eqD_int, eqD_non_int, fuel_gOf, atI_0, atI_1, atI_2, atI_3, atI_4, putD, List.set_set, List.contains_cons, List.contains_nil, beq_self_eq_true, Bool.or_true, Bool.true_or, Bool.or_false, Bool.false_or, Nat.reduceEqDiff, Nat.reduceLT, Nat.zero_lt_succ, T.put, setAll, wipeE, tru, binD, cmpD, biD, itemsOf, tupOk, fldP, walkP, bnd, isNon, swB_bl, swT_s, onS_s, onO_s, onI_i, onR_r, brB_t, brB_f, brB_n, brB_d, brB_and, brB_or, List.map_cons, List.map_nil, List.cons_append, List.nil_append, List.append_nil, List.replicate, List.getElem?_cons_zero, List.getElem?_cons_succ, List.set_cons_zero, List.set_cons_succ, List.length_cons, List.length_nil, Nat.reduceAdd, Nat.reduceSub, Nat.reduceLeDiff, List.lookup_cons, List.lookup_nil, true_and, and_true, Bool.not_true, Bool.not_false, if_true, if_false, reduceIte, forall_const, Bool.false_eq_true, false_implies, implies_true, true_implies, reduceCtorEq, Nat.reduceBEq, con_MOST_MORE, con_NEAR, con_MOST_REACH, con_MOST_PLACES, con_MOST_BASE, con_LEAST_BASE, con_MOST_FIGURES, con_ZERO, con_UP, con_DOWN, cls_Grid, kl0, A_own_step, A_own_bounds, A_own_tops, A_own_places, A_own_reach, A_own_figures, A_own_base, A_check, C_Grid]
    rw [← hx, hv]
    refine ⟨by decide, ?_⟩
    refine rU _ _ ?_
    simp only [↓wf_nil, ↓wf_cons, ↓wg_asg, ↓wf_par, ↓wf_par3, ↓wg_setF, ↓wg_setI, ↓wf_ex, ↓wf_ret, ↓wf_retN, ↓wf_pass, ↓wf_brk, ↓wf_cnt, ↓wg_ite, ↓wf_for, ↓wp_var, ↓wp_lit, ↓wp_glob, ↓wp_bin, ↓wp_dct, ↓wp_dix, ↓wp_cmpEq, ↓wp_cmpIn, ↓wp_nin, onB_b, ↓wp_cmpNe, ↓wp_neg, ↓wp_cmp, ↓wp_chain, ↓wp_not, ↓wp_and, ↓wp_or, ↓wp_ite, ↓wp_fld, ↓wp_tup, ↓wp_new, ↓wp_callE, ↓wp_meth, ↓wp_make, ↓wp_bi, ↓wp_fold, ↓wp_foldv, ↓wp_append, ↓wp_extend, ↓wp_ix, ↓wp_sl, ↓wp_slk, ↓wp_enil, ↓wp_econs, ↓wp_disp, ↓wp_lrange, ↓wp_lcomp, ↓wp_cnil, ↓wp_ccons, ↓wp_seq, ↓wp_fresh, ↓wp_irange, ↓wp_enum, ↓wp_bind, ↓wp_ok, ↓wp_if, ↓swB_bl, ↓swT_s, ↓onS_s, ↓onO_s, ↓onI_i, ↓onR_r, ↓brB_t, ↓brB_f, ↓brB_n, ↓brB_d, cls_gOf, dct_new, pairsD, keyOf, not_true_eq_false, not_false_eq_true, ixN_30, ixN_31, ixN_32, lst_new, eqD_int, eqD_non_int, fuel_gOf, atI_0, atI_1, atI_2, atI_3, atI_4, putD, List.set_set, List.contains_cons, List.contains_nil, beq_self_eq_true, Bool.or_true, Bool.true_or, Bool.or_false, Bool.false_or, Nat.reduceEqDiff, Nat.reduceLT, Nat.zero_lt_succ, T.put, setAll, wipeE, tru, binD, cmpD, biD, itemsOf, tupOk, fldP, walkP, bnd, isNon, swB_bl, swT_s, onS_s, onO_s, onI_i, onR_r, brB_t, brB_f, brB_n, brB_d, brB_and, brB_or, List.map_cons, List.map_nil, List.cons_append, List.nil_append, List.append_nil, List.replicate, List.getElem?_cons_zero, List.getElem?_cons_succ, List.set_cons_zero, List.set_cons_succ, List.length_cons, List.length_nil, Nat.reduceAdd, Nat.reduceSub, Nat.reduceLeDiff, List.lookup_cons, List.lookup_nil, true_and, and_true, Bool.not_true, Bool.not_false, if_true, if_false, reduceIte, forall_const, Bool.false_eq_true, false_implies, implies_true, true_implies, reduceCtorEq, Nat.reduceBEq, con_MOST_MORE, con_NEAR, con_MOST_REACH, con_MOST_PLACES, con_MOST_BASE, con_LEAST_BASE, con_MOST_FIGURES, con_ZERO, con_UP, con_DOWN, cls_Grid, kl0, A_own_step, A_own_bounds, A_own_tops, A_own_places, A_own_reach, A_own_figures, A_own_base, A_check, C_Grid, eqD_same okU]
    refine ghas_ok (x := v) hb (by omega) r60 (by have := on.1; omega) hf ?_
    rw [decide_eq_true on]
    simp only [↓wf_nil, ↓wf_cons, ↓wg_asg, ↓wf_par, ↓wf_par3, ↓wg_setF, ↓wg_setI, ↓wf_ex, ↓wf_ret, ↓wf_retN, ↓wf_pass, ↓wf_brk, ↓wf_cnt, ↓wg_ite, ↓wf_for, ↓wp_var, ↓wp_lit, ↓wp_glob, ↓wp_bin, ↓wp_dct, ↓wp_dix, ↓wp_cmpEq, ↓wp_cmpIn, ↓wp_nin, onB_b, ↓wp_cmpNe, ↓wp_neg, ↓wp_cmp, ↓wp_chain, ↓wp_not, ↓wp_and, ↓wp_or, ↓wp_ite, ↓wp_fld, ↓wp_tup, ↓wp_new, ↓wp_callE, ↓wp_meth, ↓wp_make, ↓wp_bi, ↓wp_fold, ↓wp_foldv, ↓wp_append, ↓wp_extend, ↓wp_ix, ↓wp_sl, ↓wp_slk, ↓wp_enil, ↓wp_econs, ↓wp_disp, ↓wp_lrange, ↓wp_lcomp, ↓wp_cnil, ↓wp_ccons, ↓wp_seq, ↓wp_fresh, ↓wp_irange, ↓wp_enum, ↓wp_bind, ↓wp_ok, ↓wp_if, ↓swB_bl, ↓swT_s, ↓onS_s, ↓onO_s, ↓onI_i, ↓onR_r, ↓brB_t, ↓brB_f, ↓brB_n, ↓brB_d, cls_gOf, dct_new, pairsD, keyOf, not_true_eq_false, not_false_eq_true, ixN_30, ixN_31, ixN_32, lst_new, eqD_int, eqD_non_int, fuel_gOf, atI_0, atI_1, atI_2, atI_3, atI_4, putD, List.set_set, List.contains_cons, List.contains_nil, beq_self_eq_true, Bool.or_true, Bool.true_or, Bool.or_false, Bool.false_or, Nat.reduceEqDiff, Nat.reduceLT, Nat.zero_lt_succ, T.put, setAll, wipeE, tru, binD, cmpD, biD, itemsOf, tupOk, fldP, walkP, bnd, isNon, swB_bl, swT_s, onS_s, onO_s, onI_i, onR_r, brB_t, brB_f, brB_n, brB_d, brB_and, brB_or, List.map_cons, List.map_nil, List.cons_append, List.nil_append, List.append_nil, List.replicate, List.getElem?_cons_zero, List.getElem?_cons_succ, List.set_cons_zero, List.set_cons_succ, List.length_cons, List.length_nil, Nat.reduceAdd, Nat.reduceSub, Nat.reduceLeDiff, List.lookup_cons, List.lookup_nil, true_and, and_true, Bool.not_true, Bool.not_false, if_true, if_false, reduceIte, forall_const, Bool.false_eq_true, false_implies, implies_true, true_implies, reduceCtorEq, Nat.reduceBEq, con_MOST_MORE, con_NEAR, con_MOST_REACH, con_MOST_PLACES, con_MOST_BASE, con_LEAST_BASE, con_MOST_FIGURES, con_ZERO, con_UP, con_DOWN, cls_Grid, kl0, A_own_step, A_own_bounds, A_own_tops, A_own_places, A_own_reach, A_own_figures, A_own_base, A_check, C_Grid]
    exact g2
  intro s3 g3
  refine Hold.seqE [some (.ref k), some (gt b f r p), some (.int y), some (.int z), some (.tup [.int u, .int v]), some (.int u), none, none] (Gr s) ?_ ?_
  · obtain ⟨k1, k2, i1, i2, i3⟩ := (hg.gr g3).ex
    simp only [↓wf_nil, ↓wf_cons, ↓wg_asg, ↓wf_par, ↓wf_par3, ↓wg_setF, ↓wg_setI, ↓wf_ex, ↓wf_ret, ↓wf_retN, ↓wf_pass, ↓wf_brk, ↓wf_cnt, ↓wg_ite, ↓wf_for, ↓wp_var, ↓wp_lit, ↓wp_glob, ↓wp_bin, ↓wp_dct, ↓wp_dix, ↓wp_cmpEq, ↓wp_cmpIn, ↓wp_nin, onB_b, ↓wp_cmpNe, ↓wp_neg, ↓wp_cmp, ↓wp_chain, ↓wp_not, ↓wp_and, ↓wp_or, ↓wp_ite, ↓wp_fld, ↓wp_tup, ↓wp_new, ↓wp_callE, ↓wp_meth, ↓wp_make, ↓wp_bi, ↓wp_fold, ↓wp_foldv, ↓wp_append, ↓wp_extend, ↓wp_ix, ↓wp_sl, ↓wp_slk, ↓wp_enil, ↓wp_econs, ↓wp_disp, ↓wp_lrange, ↓wp_lcomp, ↓wp_cnil, ↓wp_ccons, ↓wp_seq, ↓wp_fresh, ↓wp_irange, ↓wp_enum, ↓wp_bind, ↓wp_ok, ↓wp_if, ↓swB_bl, ↓swT_s, ↓onS_s, ↓onO_s, ↓onI_i, ↓onR_r, ↓brB_t, ↓brB_f, ↓brB_n, ↓brB_d, cls_gOf, dct_new, pairsD, keyOf, not_true_eq_false, not_false_eq_true, ixN_30, ixN_31, ixN_32, lst_new, eqD_int, eqD_non_int, fuel_gOf, atI_0, atI_1, atI_2, atI_3, atI_4, putD, List.set_set, List.contains_cons, List.contains_nil, beq_self_eq_true, Bool.or_true, Bool.true_or, Bool.or_false, Bool.false_or, Nat.reduceEqDiff, Nat.reduceLT, Nat.zero_lt_succ, T.put, setAll, wipeE, tru, binD, cmpD, biD, itemsOf, tupOk, fldP, walkP, bnd, isNon, swB_bl, swT_s, onS_s, onO_s, onI_i, onR_r, brB_t, brB_f, brB_n, brB_d, brB_and, brB_or, List.map_cons, List.map_nil, List.cons_append, List.nil_append, List.append_nil, List.replicate, List.getElem?_cons_zero, List.getElem?_cons_succ, List.set_cons_zero, List.set_cons_succ, List.length_cons, List.length_nil, Nat.reduceAdd, Nat.reduceSub, Nat.reduceLeDiff, List.lookup_cons, List.lookup_nil, true_and, and_true, Bool.not_true, Bool.not_false, if_true, if_false, reduceIte, forall_const, Bool.false_eq_true, false_implies, implies_true, true_implies, reduceCtorEq, Nat.reduceBEq, con_MOST_MORE, con_NEAR, con_MOST_REACH, con_MOST_PLACES, con_MOST_BASE, con_LEAST_BASE, con_MOST_FIGURES, con_ZERO, con_UP, con_DOWN, cls_Grid, kl0, A_own_step, A_own_bounds, A_own_tops, A_own_places, A_own_reach, A_own_figures, A_own_base, A_check, C_Grid, abs_int]
    have hmin : ¬ (if (z.natAbs : Int) < (y.natAbs : Int) then (z.natAbs : Int) else (y.natAbs : Int)) < (v.natAbs : Int) := by split <;> omega
    refine ⟨fun a => absurd a hmin, fun _ => ?_⟩
    refine wp_inIns (ins_of i1) rfl rfl ?_
    refine Grid_contains_ok (hg.gr g3) hf ?_
    rw [decide_eq_true on]
    simp only [↓wf_nil, ↓wf_cons, ↓wg_asg, ↓wf_par, ↓wf_par3, ↓wg_setF, ↓wg_setI, ↓wf_ex, ↓wf_ret, ↓wf_retN, ↓wf_pass, ↓wf_brk, ↓wf_cnt, ↓wg_ite, ↓wf_for, ↓wp_var, ↓wp_lit, ↓wp_glob, ↓wp_bin, ↓wp_dct, ↓wp_dix, ↓wp_cmpEq, ↓wp_cmpIn, ↓wp_nin, onB_b, ↓wp_cmpNe, ↓wp_neg, ↓wp_cmp, ↓wp_chain, ↓wp_not, ↓wp_and, ↓wp_or, ↓wp_ite, ↓wp_fld, ↓wp_tup, ↓wp_new, ↓wp_callE, ↓wp_meth, ↓wp_make, ↓wp_bi, ↓wp_fold, ↓wp_foldv, ↓wp_append, ↓wp_extend, ↓wp_ix, ↓wp_sl, ↓wp_slk, ↓wp_enil, ↓wp_econs, ↓wp_disp, ↓wp_lrange, ↓wp_lcomp, ↓wp_cnil, ↓wp_ccons, ↓wp_seq, ↓wp_fresh, ↓wp_irange, ↓wp_enum, ↓wp_bind, ↓wp_ok, ↓wp_if, ↓swB_bl, ↓swT_s, ↓onS_s, ↓onO_s, ↓onI_i, ↓onR_r, ↓brB_t, ↓brB_f, ↓brB_n, ↓brB_d, cls_gOf, dct_new, pairsD, keyOf, not_true_eq_false, not_false_eq_true, ixN_30, ixN_31, ixN_32, lst_new, eqD_int, eqD_non_int, fuel_gOf, atI_0, atI_1, atI_2, atI_3, atI_4, putD, List.set_set, List.contains_cons, List.contains_nil, beq_self_eq_true, Bool.or_true, Bool.true_or, Bool.or_false, Bool.false_or, Nat.reduceEqDiff, Nat.reduceLT, Nat.zero_lt_succ, T.put, setAll, wipeE, tru, binD, cmpD, biD, itemsOf, tupOk, fldP, walkP, bnd, isNon, swB_bl, swT_s, onS_s, onO_s, onI_i, onR_r, brB_t, brB_f, brB_n, brB_d, brB_and, brB_or, List.map_cons, List.map_nil, List.cons_append, List.nil_append, List.append_nil, List.replicate, List.getElem?_cons_zero, List.getElem?_cons_succ, List.set_cons_zero, List.set_cons_succ, List.length_cons, List.length_nil, Nat.reduceAdd, Nat.reduceSub, Nat.reduceLeDiff, List.lookup_cons, List.lookup_nil, true_and, and_true, Bool.not_true, Bool.not_false, if_true, if_false, reduceIte, forall_const, Bool.false_eq_true, false_implies, implies_true, true_implies, reduceCtorEq, Nat.reduceBEq, con_MOST_MORE, con_NEAR, con_MOST_REACH, con_MOST_PLACES, con_MOST_BASE, con_LEAST_BASE, con_MOST_FIGURES, con_ZERO, con_UP, con_DOWN, cls_Grid, kl0, A_own_step, A_own_bounds, A_own_tops, A_own_places, A_own_reach, A_own_figures, A_own_base, A_check, C_Grid]
    exact g3
  intro s4 g4
  refine Hold.seqE [some (.ref k), some (gt b f r p), some (.int y), some (.int z), some (.tup [.int u, .int v]), some (.int u), some (.tup [.int u, .int v]), some (.tup [.int (-u), .int (-v)])] (Gr s) ?_ ?_
  · simp only [↓wf_nil, ↓wf_cons, ↓wg_asg, ↓wf_par, ↓wf_par3, ↓wg_setF, ↓wg_setI, ↓wf_ex, ↓wf_ret, ↓wf_retN, ↓wf_pass, ↓wf_brk, ↓wf_cnt, ↓wg_ite, ↓wf_for, ↓wp_var, ↓wp_lit, ↓wp_glob, ↓wp_bin, ↓wp_dct, ↓wp_dix, ↓wp_cmpEq, ↓wp_cmpIn, ↓wp_nin, onB_b, ↓wp_cmpNe, ↓wp_neg, ↓wp_cmp, ↓wp_chain, ↓wp_not, ↓wp_and, ↓wp_or, ↓wp_ite, ↓wp_fld, ↓wp_tup, ↓wp_new, ↓wp_callE, ↓wp_meth, ↓wp_make, ↓wp_bi, ↓wp_fold, ↓wp_foldv, ↓wp_append, ↓wp_extend, ↓wp_ix, ↓wp_sl, ↓wp_slk, ↓wp_enil, ↓wp_econs, ↓wp_disp, ↓wp_lrange, ↓wp_lcomp, ↓wp_cnil, ↓wp_ccons, ↓wp_seq, ↓wp_fresh, ↓wp_irange, ↓wp_enum, ↓wp_bind, ↓wp_ok, ↓wp_if, ↓swB_bl, ↓swT_s, ↓onS_s, ↓onO_s, ↓onI_i, ↓onR_r, ↓brB_t, ↓brB_f, ↓brB_n, ↓brB_d, cls_gOf, dct_new, pairsD, keyOf, not_true_eq_false, not_false_eq_true, ixN_30, ixN_31, ixN_32, lst_new, eqD_int, eqD_non_int, fuel_gOf, atI_0, atI_1, atI_2, atI_3, atI_4, putD, List.set_set, List.contains_cons, List.contains_nil, beq_self_eq_true, Bool.or_true, Bool.true_or, Bool.or_false, Bool.false_or, Nat.reduceEqDiff, Nat.reduceLT, Nat.zero_lt_succ, T.put, setAll, wipeE, tru, binD, cmpD, biD, itemsOf, tupOk, fldP, walkP, bnd, isNon, swB_bl, swT_s, onS_s, onO_s, onI_i, onR_r, brB_t, brB_f, brB_n, brB_d, brB_and, brB_or, List.map_cons, List.map_nil, List.cons_append, List.nil_append, List.append_nil, List.replicate, List.getElem?_cons_zero, List.getElem?_cons_succ, List.set_cons_zero, List.set_cons_succ, List.length_cons, List.length_nil, Nat.reduceAdd, Nat.reduceSub, Nat.reduceLeDiff, List.lookup_cons, List.lookup_nil, true_and, and_true, Bool.not_true, Bool.not_false, if_true, if_false, reduceIte, forall_const, Bool.false_eq_true, false_implies, implies_true, true_implies, reduceCtorEq, Nat.reduceBEq, con_MOST_MORE, con_NEAR, con_MOST_REACH, con_MOST_PLACES, con_MOST_BASE, con_LEAST_BASE, con_MOST_FIGURES, con_ZERO, con_UP, con_DOWN, cls_Grid, kl0, A_own_step, A_own_bounds, A_own_tops, A_own_places, A_own_reach, A_own_figures, A_own_base, A_check, C_Grid]
    refine split_sum_ok (hg.gr g4) hf hz hy ?_
    rw [eyx, e1]
    simp only [↓wf_nil, ↓wf_cons, ↓wg_asg, ↓wf_par, ↓wf_par3, ↓wg_setF, ↓wg_setI, ↓wf_ex, ↓wf_ret, ↓wf_retN, ↓wf_pass, ↓wf_brk, ↓wf_cnt, ↓wg_ite, ↓wf_for, ↓wp_var, ↓wp_lit, ↓wp_glob, ↓wp_bin, ↓wp_dct, ↓wp_dix, ↓wp_cmpEq, ↓wp_cmpIn, ↓wp_nin, onB_b, ↓wp_cmpNe, ↓wp_neg, ↓wp_cmp, ↓wp_chain, ↓wp_not, ↓wp_and, ↓wp_or, ↓wp_ite, ↓wp_fld, ↓wp_tup, ↓wp_new, ↓wp_callE, ↓wp_meth, ↓wp_make, ↓wp_bi, ↓wp_fold, ↓wp_foldv, ↓wp_append, ↓wp_extend, ↓wp_ix, ↓wp_sl, ↓wp_slk, ↓wp_enil, ↓wp_econs, ↓wp_disp, ↓wp_lrange, ↓wp_lcomp, ↓wp_cnil, ↓wp_ccons, ↓wp_seq, ↓wp_fresh, ↓wp_irange, ↓wp_enum, ↓wp_bind, ↓wp_ok, ↓wp_if, ↓swB_bl, ↓swT_s, ↓onS_s, ↓onO_s, ↓onI_i, ↓onR_r, ↓brB_t, ↓brB_f, ↓brB_n, ↓brB_d, cls_gOf, dct_new, pairsD, keyOf, not_true_eq_false, not_false_eq_true, ixN_30, ixN_31, ixN_32, lst_new, eqD_int, eqD_non_int, fuel_gOf, atI_0, atI_1, atI_2, atI_3, atI_4, putD, List.set_set, List.contains_cons, List.contains_nil, beq_self_eq_true, Bool.or_true, Bool.true_or, Bool.or_false, Bool.false_or, Nat.reduceEqDiff, Nat.reduceLT, Nat.zero_lt_succ, T.put, setAll, wipeE, tru, binD, cmpD, biD, itemsOf, tupOk, fldP, walkP, bnd, isNon, swB_bl, swT_s, onS_s, onO_s, onI_i, onR_r, brB_t, brB_f, brB_n, brB_d, brB_and, brB_or, List.map_cons, List.map_nil, List.cons_append, List.nil_append, List.append_nil, List.replicate, List.getElem?_cons_zero, List.getElem?_cons_succ, List.set_cons_zero, List.set_cons_succ, List.length_cons, List.length_nil, Nat.reduceAdd, Nat.reduceSub, Nat.reduceLeDiff, List.lookup_cons, List.lookup_nil, true_and, and_true, Bool.not_true, Bool.not_false, if_true, if_false, reduceIte, forall_const, Bool.false_eq_true, false_implies, implies_true, true_implies, reduceCtorEq, Nat.reduceBEq, con_MOST_MORE, con_NEAR, con_MOST_REACH, con_MOST_PLACES, con_MOST_BASE, con_LEAST_BASE, con_MOST_FIGURES, con_ZERO, con_UP, con_DOWN, cls_Grid, kl0, A_own_step, A_own_bounds, A_own_tops, A_own_places, A_own_reach, A_own_figures, A_own_base, A_check, C_Grid]
    refine split_sum_ok (hg.gr g4) hf (onGrid_neg hy) (onGrid_neg hz) ?_
    rw [enx, e2]
    simp only [↓wf_nil, ↓wf_cons, ↓wg_asg, ↓wf_par, ↓wf_par3, ↓wg_setF, ↓wg_setI, ↓wf_ex, ↓wf_ret, ↓wf_retN, ↓wf_pass, ↓wf_brk, ↓wf_cnt, ↓wg_ite, ↓wf_for, ↓wp_var, ↓wp_lit, ↓wp_glob, ↓wp_bin, ↓wp_dct, ↓wp_dix, ↓wp_cmpEq, ↓wp_cmpIn, ↓wp_nin, onB_b, ↓wp_cmpNe, ↓wp_neg, ↓wp_cmp, ↓wp_chain, ↓wp_not, ↓wp_and, ↓wp_or, ↓wp_ite, ↓wp_fld, ↓wp_tup, ↓wp_new, ↓wp_callE, ↓wp_meth, ↓wp_make, ↓wp_bi, ↓wp_fold, ↓wp_foldv, ↓wp_append, ↓wp_extend, ↓wp_ix, ↓wp_sl, ↓wp_slk, ↓wp_enil, ↓wp_econs, ↓wp_disp, ↓wp_lrange, ↓wp_lcomp, ↓wp_cnil, ↓wp_ccons, ↓wp_seq, ↓wp_fresh, ↓wp_irange, ↓wp_enum, ↓wp_bind, ↓wp_ok, ↓wp_if, ↓swB_bl, ↓swT_s, ↓onS_s, ↓onO_s, ↓onI_i, ↓onR_r, ↓brB_t, ↓brB_f, ↓brB_n, ↓brB_d, cls_gOf, dct_new, pairsD, keyOf, not_true_eq_false, not_false_eq_true, ixN_30, ixN_31, ixN_32, lst_new, eqD_int, eqD_non_int, fuel_gOf, atI_0, atI_1, atI_2, atI_3, atI_4, putD, List.set_set, List.contains_cons, List.contains_nil, beq_self_eq_true, Bool.or_true, Bool.true_or, Bool.or_false, Bool.false_or, Nat.reduceEqDiff, Nat.reduceLT, Nat.zero_lt_succ, T.put, setAll, wipeE, tru, binD, cmpD, biD, itemsOf, tupOk, fldP, walkP, bnd, isNon, swB_bl, swT_s, onS_s, onO_s, onI_i, onR_r, brB_t, brB_f, brB_n, brB_d, brB_and, brB_or, List.map_cons, List.map_nil, List.cons_append, List.nil_append, List.append_nil, List.replicate, List.getElem?_cons_zero, List.getElem?_cons_succ, List.set_cons_zero, List.set_cons_succ, List.length_cons, List.length_nil, Nat.reduceAdd, Nat.reduceSub, Nat.reduceLeDiff, List.lookup_cons, List.lookup_nil, true_and, and_true, Bool.not_true, Bool.not_false, if_true, if_false, reduceIte, forall_const, Bool.false_eq_true, false_implies, implies_true, true_implies, reduceCtorEq, Nat.reduceBEq, con_MOST_MORE, con_NEAR, con_MOST_REACH, con_MOST_PLACES, con_MOST_BASE, con_LEAST_BASE, con_MOST_FIGURES, con_ZERO, con_UP, con_DOWN, cls_Grid, kl0, A_own_step, A_own_bounds, A_own_tops, A_own_places, A_own_reach, A_own_figures, A_own_base, A_check, C_Grid]
    exact g4
  intro s5 g5
  refine .on ?_
  simp only [↓wf_nil, ↓wf_cons, ↓wg_asg, ↓wf_par, ↓wf_par3, ↓wg_setF, ↓wg_setI, ↓wf_ex, ↓wf_ret, ↓wf_retN, ↓wf_pass, ↓wf_brk, ↓wf_cnt, ↓wg_ite, ↓wf_for, ↓wp_var, ↓wp_lit, ↓wp_glob, ↓wp_bin, ↓wp_dct, ↓wp_dix, ↓wp_cmpEq, ↓wp_cmpIn, ↓wp_nin, onB_b, ↓wp_cmpNe, ↓wp_neg, ↓wp_cmp, ↓wp_chain, ↓wp_not, ↓wp_and, ↓wp_or, ↓wp_ite, ↓wp_fld, ↓wp_tup, ↓wp_new, ↓wp_callE, ↓wp_meth, ↓wp_make, ↓wp_bi, ↓wp_fold, ↓wp_foldv, ↓wp_append, ↓wp_extend, ↓wp_ix, ↓wp_sl, ↓wp_slk, ↓wp_enil, ↓wp_econs, ↓wp_disp, ↓wp_lrange, ↓wp_lcomp, ↓wp_cnil, ↓wp_ccons, ↓wp_seq, ↓wp_fresh, ↓wp_irange, ↓wp_enum, ↓wp_bind, ↓wp_ok, ↓wp_if, ↓swB_bl, ↓swT_s, ↓onS_s, ↓onO_s, ↓onI_i, ↓onR_r, ↓brB_t, ↓brB_f, ↓brB_n, ↓brB_d, cls_gOf, dct_new, pairsD, keyOf, not_true_eq_false, not_false_eq_true, ixN_30, ixN_31, ixN_32, lst_new, eqD_int, eqD_non_int, fuel_gOf, atI_0, atI_1, atI_2, atI_3, atI_4, putD, List.set_set, List.contains_cons, List.contains_nil, beq_self_eq_true, Bool.or_true, Bool.true_or, Bool.or_false, Bool.false_or, Nat.reduceEqDiff, Nat.reduceLT, Nat.zero_lt_succ, T.put, setAll, wipeE, tru, binD, cmpD, biD, itemsOf, tupOk, fldP, walkP, bnd, isNon, swB_bl, swT_s, onS_s, onO_s, onI_i, onR_r, brB_t, brB_f, brB_n, brB_d, brB_and, brB_or, List.map_cons, List.map_nil, List.cons_append, List.nil_append, List.append_nil, List.replicate, List.getElem?_cons_zero, List.getElem?_cons_succ, List.set_cons_zero, List.set_cons_succ, List.length_cons, List.length_nil, Nat.reduceAdd, Nat.reduceSub, Nat.reduceLeDiff, List.lookup_cons, List.lookup_nil, true_and, and_true, Bool.not_true, Bool.not_false, if_true, if_false, reduceIte, forall_const, Bool.false_eq_true, false_implies, implies_true, true_implies, reduceCtorEq, Nat.reduceBEq, con_MOST_MORE, con_NEAR, con_MOST_REACH, con_MOST_PLACES, con_MOST_BASE, con_LEAST_BASE, con_MOST_FIGURES, con_ZERO, con_UP, con_DOWN, cls_Grid, kl0, A_own_step, A_own_bounds, A_own_tops, A_own_places, A_own_reach, A_own_figures, A_own_base, A_check, C_Grid]
  refine ⟨by decide, ?_⟩
  refine rP _ _ ?_
  simp only [↓wf_nil, ↓wf_cons, ↓wg_asg, ↓wf_par, ↓wf_par3, ↓wg_setF, ↓wg_setI, ↓wf_ex, ↓wf_ret, ↓wf_retN, ↓wf_pass, ↓wf_brk, ↓wf_cnt, ↓wg_ite, ↓wf_for, ↓wp_var, ↓wp_lit, ↓wp_glob, ↓wp_bin, ↓wp_dct, ↓wp_dix, ↓wp_cmpEq, ↓wp_cmpIn, ↓wp_nin, onB_b, ↓wp_cmpNe, ↓wp_neg, ↓wp_cmp, ↓wp_chain, ↓wp_not, ↓wp_and, ↓wp_or, ↓wp_ite, ↓wp_fld, ↓wp_tup, ↓wp_new, ↓wp_callE, ↓wp_meth, ↓wp_make, ↓wp_bi, ↓wp_fold, ↓wp_foldv, ↓wp_append, ↓wp_extend, ↓wp_ix, ↓wp_sl, ↓wp_slk, ↓wp_enil, ↓wp_econs, ↓wp_disp, ↓wp_lrange, ↓wp_lcomp, ↓wp_cnil, ↓wp_ccons, ↓wp_seq, ↓wp_fresh, ↓wp_irange, ↓wp_enum, ↓wp_bind, ↓wp_ok, ↓wp_if, ↓swB_bl, ↓swT_s, ↓onS_s, ↓onO_s, ↓onI_i, ↓onR_r, ↓brB_t, ↓brB_f, ↓brB_n, ↓brB_d, cls_gOf, dct_new, pairsD, keyOf, not_true_eq_false, not_false_eq_true, ixN_30, ixN_31, ixN_32, lst_new, eqD_int, eqD_non_int, fuel_gOf, atI_0, atI_1, atI_2, atI_3, atI_4, putD, List.set_set, List.contains_cons, List.contains_nil, beq_self_eq_true, Bool.or_true, Bool.true_or, Bool.or_false, Bool.false_or, Nat.reduceEqDiff, Nat.reduceLT, Nat.zero_lt_succ, T.put, setAll, wipeE, tru, binD, cmpD, biD, itemsOf, tupOk, fldP, walkP, bnd, isNon, swB_bl, swT_s, onS_s, onO_s, onI_i, onR_r, brB_t, brB_f, brB_n, brB_d, brB_and, brB_or, List.map_cons, List.map_nil, List.cons_append, List.nil_append, List.append_nil, List.replicate, List.getElem?_cons_zero, List.getElem?_cons_succ, List.set_cons_zero, List.set_cons_succ, List.length_cons, List.length_nil, Nat.reduceAdd, Nat.reduceSub, Nat.reduceLeDiff, List.lookup_cons, List.lookup_nil, true_and, and_true, Bool.not_true, Bool.not_false, if_true, if_false, reduceIte, forall_const, Bool.false_eq_true, false_implies, implies_true, true_implies, reduceCtorEq, Nat.reduceBEq, con_MOST_MORE, con_NEAR, con_MOST_REACH, con_MOST_PLACES, con_MOST_BASE, con_LEAST_BASE, con_MOST_FIGURES, con_ZERO, con_UP, con_DOWN, cls_Grid, kl0, A_own_step, A_own_bounds, A_own_tops, A_own_places, A_own_reach, A_own_figures, A_own_base, A_check, C_Grid]
  refine ⟨by decide, by decide, ?_⟩
  refine rP _ _ ?_
  simp only [↓wf_nil, ↓wf_cons, ↓wg_asg, ↓wf_par, ↓wf_par3, ↓wg_setF, ↓wg_setI, ↓wf_ex, ↓wf_ret, ↓wf_retN, ↓wf_pass, ↓wf_brk, ↓wf_cnt, ↓wg_ite, ↓wf_for, ↓wp_var, ↓wp_lit, ↓wp_glob, ↓wp_bin, ↓wp_dct, ↓wp_dix, ↓wp_cmpEq, ↓wp_cmpIn, ↓wp_nin, onB_b, ↓wp_cmpNe, ↓wp_neg, ↓wp_cmp, ↓wp_chain, ↓wp_not, ↓wp_and, ↓wp_or, ↓wp_ite, ↓wp_fld, ↓wp_tup, ↓wp_new, ↓wp_callE, ↓wp_meth, ↓wp_make, ↓wp_bi, ↓wp_fold, ↓wp_foldv, ↓wp_append, ↓wp_extend, ↓wp_ix, ↓wp_sl, ↓wp_slk, ↓wp_enil, ↓wp_econs, ↓wp_disp, ↓wp_lrange, ↓wp_lcomp, ↓wp_cnil, ↓wp_ccons, ↓wp_seq, ↓wp_fresh, ↓wp_irange, ↓wp_enum, ↓wp_bind, ↓wp_ok, ↓wp_if, ↓swB_bl, ↓swT_s, ↓onS_s, ↓onO_s, ↓onI_i, ↓onR_r, ↓brB_t, ↓brB_f, ↓brB_n, ↓brB_d, cls_gOf, dct_new, pairsD, keyOf, not_true_eq_false, not_false_eq_true, ixN_30, ixN_31, ixN_32, lst_new, eqD_int, eqD_non_int, fuel_gOf, atI_0, atI_1, atI_2, atI_3, atI_4, putD, List.set_set, List.contains_cons, List.contains_nil, beq_self_eq_true, Bool.or_true, Bool.true_or, Bool.or_false, Bool.false_or, Nat.reduceEqDiff, Nat.reduceLT, Nat.zero_lt_succ, T.put, setAll, wipeE, tru, binD, cmpD, biD, itemsOf, tupOk, fldP, walkP, bnd, isNon, swB_bl, swT_s, onS_s, onO_s, onI_i, onR_r, brB_t, brB_f, brB_n, brB_d, brB_and, brB_or, List.map_cons, List.map_nil, List.cons_append, List.nil_append, List.append_nil, List.replicate, List.getElem?_cons_zero, List.getElem?_cons_succ, List.set_cons_zero, List.set_cons_succ, List.length_cons, List.length_nil, Nat.reduceAdd, Nat.reduceSub, Nat.reduceLeDiff, List.lookup_cons, List.lookup_nil, true_and, and_true, Bool.not_true, Bool.not_false, if_true, if_false, reduceIte, forall_const, Bool.false_eq_true, false_implies, implies_true, true_implies, reduceCtorEq, Nat.reduceBEq, con_MOST_MORE, con_NEAR, con_MOST_REACH, con_MOST_PLACES, con_MOST_BASE, con_LEAST_BASE, con_MOST_FIGURES, con_ZERO, con_UP, con_DOWN, cls_Grid, kl0, A_own_step, A_own_bounds, A_own_tops, A_own_places, A_own_reach, A_own_figures, A_own_base, A_check, C_Grid, eqD_same okP]
  exact h _ g5
end
theorem mem_step {α : Type} {xs : List α} {l h : Option Int} {c : Int} {d : α} (m : d ∈ stepL xs l h c) : d ∈ xs := by
  unfold stepL at m
  obtain ⟨i, _, e⟩ := List.mem_filterMap.mp m
  exact List.mem_of_getElem? e
theorem slkD_ref {s : Sto} {k : Nat} {ds : List D} {l h : Option Int} {c : Int} (e : lstAt s k = some ds) (c0 : c ≠ 0) : slkD (.ref k) l h c s = newL (stepL ds l h c) s := by
  unfold slkD
  rw [if_neg c0]
  simp only [e]
theorem lst_ne {s : Sto} {k k2 : Nat} {c : Cell} {ds : List D} (h : lstAt s k = some ds) (n : k2 ≠ k) : lstAt (s.set k2 c) k = some ds := lst_of (by rw [List.getElem?_set_ne n]; exact of_lst h)
theorem mem_cutD {α : Type} {xs : List α} {l h : Option Int} {d : α} (m : d ∈ cutD xs l h) : d ∈ xs := List.mem_of_mem_drop (List.mem_of_mem_take m)
theorem cut_len {α : Type} {xs : List α} {l h : Option Int} : (cutD xs l h).length ≤ xs.length := by unfold cutD; rw [List.length_take, List.length_drop]; omega
/-- pairs of numbers of the grid -/
def PL (b f r : Nat) (ds : List D) : Prop := ∀ d ∈ ds, ∃ x : Int × Int, d = .tup [.int x.1, .int x.2] ∧ onGrid b f r x.1 ∧ onGrid b f r x.2
def negD : D → D
  | .int i => .int (-i)
  | d => d
section
variable {fuel n : Nat} {s : Sto} {Q : D → Sto → Prop} {b f r p q N : Nat}
theorem int_in {ds : List D} {d : D} (hd : d ∈ ds) {m : Nat} (h : ds.all (fun d => match d with | .int i => decide (0 ≤ i ∧ i ≤ (m : Int)) | _ => false) = true) : ∃ j : Nat, d = .int (j : Int) ∧ j ≤ m := by
  have := List.all_eq_true.mp h d hd
  cases d with
  | int i => exact ⟨i.toNat, by congr 1; have := of_decide_eq_true this; omega, by have := of_decide_eq_true this; omega⟩
  | _ => cases this
theorem right_ok (hp : PotAt s q N) (hN : N < 2 ^ 900) (hf : 3000000 < fuel) (h : ∀ s', Kp q s s' → Q (.bl true) s') :
    wp (call Z fuel (n + 6) F_law_right [.ref q] s) Q := by
  have hN2 : N + 2000 < 2 ^ 1000 := by
    have : (2 : Nat) ^ 900 + 2000 < 2 ^ 1000 := by decide +kernel
    omega
  have sz : 10000000 ≤ sizeLine := by decide
  have hl := hp.lt
  refine wp_call (r := d_law_right) rfl rfl ?_
  -- the grid, the made one, the ladder
  refine wf_sq (M := fun e s' => ∃ b f r p : Nat, e = [some (.ref q), some (gt b f r p), none, none, none, none, none, none, none, none, none, none] ∧ GP b f r p ∧ b ^ f ≤ 1000 ∧ Kp q s s' ∧ PotAt s' q (N + 4)) ?_ ?_
  · simp only [d_law_right, ↓wf_nil, ↓wf_cons, ↓wg_asg, ↓wf_par, ↓wf_par3, ↓wg_setF, ↓wg_setI, ↓wf_ex, ↓wf_ret, ↓wf_retN, ↓wf_pass, ↓wf_brk, ↓wf_cnt, ↓wg_ite, ↓wf_for, ↓wp_var, ↓wp_lit, ↓wp_glob, ↓wp_bin, ↓wp_dct, ↓wp_dix, ↓wp_cmpEq, ↓wp_cmpIn, ↓wp_nin, onB_b, ↓wp_cmpNe, ↓wp_neg, ↓wp_cmp, ↓wp_chain, ↓wp_not, ↓wp_and, ↓wp_or, ↓wp_ite, ↓wp_fld, ↓wp_tup, ↓wp_new, ↓wp_callE, ↓wp_meth, ↓wp_make, ↓wp_bi, ↓wp_fold, ↓wp_foldv, ↓wp_append, ↓wp_extend, ↓wp_ix, ↓wp_sl, ↓wp_slk, ↓wp_enil, ↓wp_econs, ↓wp_disp, ↓wp_lrange, ↓wp_lcomp, ↓wp_cnil, ↓wp_ccons, ↓wp_seq, ↓wp_fresh, ↓wp_irange, ↓wp_enum, ↓wp_bind, ↓wp_ok, ↓wp_if, ↓swB_bl, ↓swT_s, ↓onS_s, ↓onO_s, ↓onI_i, ↓onR_r, ↓brB_t, ↓brB_f, ↓brB_n, ↓brB_d, cls_gOf, dct_new, pairsD, keyOf, not_true_eq_false, not_false_eq_true, ixN_30, ixN_31, ixN_32, lst_new, eqD_int, eqD_non_int, fuel_gOf, atI_0, atI_1, atI_2, atI_3, atI_4, putD, List.set_set, List.contains_cons, List.contains_nil, beq_self_eq_true, Bool.or_true, Bool.true_or, Bool.or_false, Bool.false_or, Nat.reduceEqDiff, Nat.reduceLT, Nat.zero_lt_succ, T.put, setAll, wipeE, tru, binD, cmpD, biD, itemsOf, tupOk, fldP, walkP, bnd, isNon, swB_bl, swT_s, onS_s, onO_s, onI_i, onR_r, brB_t, brB_f, brB_n, brB_d, brB_and, brB_or, List.map_cons, List.map_nil, List.cons_append, List.nil_append, List.append_nil, List.replicate, List.getElem?_cons_zero, List.getElem?_cons_succ, List.set_cons_zero, List.set_cons_succ, List.length_cons, List.length_nil, Nat.reduceAdd, Nat.reduceSub, Nat.reduceLeDiff, List.lookup_cons, List.lookup_nil, true_and, and_true, Bool.not_true, Bool.not_false, if_true, if_false, reduceIte, forall_const, Bool.false_eq_true, false_implies, implies_true, true_implies, reduceCtorEq, Nat.reduceBEq, con_MOST_MORE, con_NEAR, con_MOST_REACH, con_MOST_PLACES, con_MOST_BASE, con_LEAST_BASE, con_MOST_FIGURES, con_ZERO, con_UP, con_DOWN, cls_Grid, kl0, A_own_step, A_own_bounds, A_own_tops, A_own_places, A_own_reach, A_own_figures, A_own_base, A_check, C_Grid]
    refine grid_drawn_ok hp (by omega) (by omega) fun b2 f2 r2 p2 s2 gp2 hbf _ k2 hp2 => ?_
    exact ⟨b2, f2, r2, p2, rfl, gp2, hbf, k2, hp2⟩
  rintro e1 s1 ⟨b, f, r, p, rfl, gp, hbf, k1, hp1⟩
  have hq1 := hp1.lt
  refine Hold.sq (M := fun e s' => ∃ (km kl : Nat) (ds : List D), e = [some (.ref q), some (gt b f r p), none, none, none, none, none, some (.ref km), none, some (.ref kl), none, none] ∧ IsGrid s' km b f r p ∧ lstAt s' kl = some ds ∧ GL b f r ds ∧ ds.length ≤ 100000 ∧ ds ≠ [] ∧ kl ≠ q ∧ Gr s1 s') ?_ ?_
  · simp only [↓wf_nil, ↓wf_cons, ↓wg_asg, ↓wf_par, ↓wf_par3, ↓wg_setF, ↓wg_setI, ↓wf_ex, ↓wf_ret, ↓wf_retN, ↓wf_pass, ↓wf_brk, ↓wf_cnt, ↓wg_ite, ↓wf_for, ↓wp_var, ↓wp_lit, ↓wp_glob, ↓wp_bin, ↓wp_dct, ↓wp_dix, ↓wp_cmpEq, ↓wp_cmpIn, ↓wp_nin, onB_b, ↓wp_cmpNe, ↓wp_neg, ↓wp_cmp, ↓wp_chain, ↓wp_not, ↓wp_and, ↓wp_or, ↓wp_ite, ↓wp_fld, ↓wp_tup, ↓wp_new, ↓wp_callE, ↓wp_meth, ↓wp_make, ↓wp_bi, ↓wp_fold, ↓wp_foldv, ↓wp_append, ↓wp_extend, ↓wp_ix, ↓wp_sl, ↓wp_slk, ↓wp_enil, ↓wp_econs, ↓wp_disp, ↓wp_lrange, ↓wp_lcomp, ↓wp_cnil, ↓wp_ccons, ↓wp_seq, ↓wp_fresh, ↓wp_irange, ↓wp_enum, ↓wp_bind, ↓wp_ok, ↓wp_if, ↓swB_bl, ↓swT_s, ↓onS_s, ↓onO_s, ↓onI_i, ↓onR_r, ↓brB_t, ↓brB_f, ↓brB_n, ↓brB_d, cls_gOf, dct_new, pairsD, keyOf, not_true_eq_false, not_false_eq_true, ixN_30, ixN_31, ixN_32, lst_new, eqD_int, eqD_non_int, fuel_gOf, atI_0, atI_1, atI_2, atI_3, atI_4, putD, List.set_set, List.contains_cons, List.contains_nil, beq_self_eq_true, Bool.or_true, Bool.true_or, Bool.or_false, Bool.false_or, Nat.reduceEqDiff, Nat.reduceLT, Nat.zero_lt_succ, T.put, setAll, wipeE, tru, binD, cmpD, biD, itemsOf, tupOk, fldP, walkP, bnd, isNon, swB_bl, swT_s, onS_s, onO_s, onI_i, onR_r, brB_t, brB_f, brB_n, brB_d, brB_and, brB_or, List.map_cons, List.map_nil, List.cons_append, List.nil_append, List.append_nil, List.replicate, List.getElem?_cons_zero, List.getElem?_cons_succ, List.set_cons_zero, List.set_cons_succ, List.length_cons, List.length_nil, Nat.reduceAdd, Nat.reduceSub, Nat.reduceLeDiff, List.lookup_cons, List.lookup_nil, true_and, and_true, Bool.not_true, Bool.not_false, if_true, if_false, reduceIte, forall_const, Bool.false_eq_true, false_implies, implies_true, true_implies, reduceCtorEq, Nat.reduceBEq, con_MOST_MORE, con_NEAR, con_MOST_REACH, con_MOST_PLACES, con_MOST_BASE, con_LEAST_BASE, con_MOST_FIGURES, con_ZERO, con_UP, con_DOWN, cls_Grid, kl0, A_own_step, A_own_bounds, A_own_tops, A_own_places, A_own_reach, A_own_figures, A_own_base, A_check, C_Grid, gt]
    refine Grid_make_ok gp (by omega) fun s2 g2 ig2 => ?_
    simp only [↓wf_nil, ↓wf_cons, ↓wg_asg, ↓wf_par, ↓wf_par3, ↓wg_setF, ↓wg_setI, ↓wf_ex, ↓wf_ret, ↓wf_retN, ↓wf_pass, ↓wf_brk, ↓wf_cnt, ↓wg_ite, ↓wf_for, ↓wp_var, ↓wp_lit, ↓wp_glob, ↓wp_bin, ↓wp_dct, ↓wp_dix, ↓wp_cmpEq, ↓wp_cmpIn, ↓wp_nin, onB_b, ↓wp_cmpNe, ↓wp_neg, ↓wp_cmp, ↓wp_chain, ↓wp_not, ↓wp_and, ↓wp_or, ↓wp_ite, ↓wp_fld, ↓wp_tup, ↓wp_new, ↓wp_callE, ↓wp_meth, ↓wp_make, ↓wp_bi, ↓wp_fold, ↓wp_foldv, ↓wp_append, ↓wp_extend, ↓wp_ix, ↓wp_sl, ↓wp_slk, ↓wp_enil, ↓wp_econs, ↓wp_disp, ↓wp_lrange, ↓wp_lcomp, ↓wp_cnil, ↓wp_ccons, ↓wp_seq, ↓wp_fresh, ↓wp_irange, ↓wp_enum, ↓wp_bind, ↓wp_ok, ↓wp_if, ↓swB_bl, ↓swT_s, ↓onS_s, ↓onO_s, ↓onI_i, ↓onR_r, ↓brB_t, ↓brB_f, ↓brB_n, ↓brB_d, cls_gOf, dct_new, pairsD, keyOf, not_true_eq_false, not_false_eq_true, ixN_30, ixN_31, ixN_32, lst_new, eqD_int, eqD_non_int, fuel_gOf, atI_0, atI_1, atI_2, atI_3, atI_4, putD, List.set_set, List.contains_cons, List.contains_nil, beq_self_eq_true, Bool.or_true, Bool.true_or, Bool.or_false, Bool.false_or, Nat.reduceEqDiff, Nat.reduceLT, Nat.zero_lt_succ, T.put, setAll, wipeE, tru, binD, cmpD, biD, itemsOf, tupOk, fldP, walkP, bnd, isNon, swB_bl, swT_s, onS_s, onO_s, onI_i, onR_r, brB_t, brB_f, brB_n, brB_d, brB_and, brB_or, List.map_cons, List.map_nil, List.cons_append, List.nil_append, List.append_nil, List.replicate, List.getElem?_cons_zero, List.getElem?_cons_succ, List.set_cons_zero, List.set_cons_succ, List.length_cons, List.length_nil, Nat.reduceAdd, Nat.reduceSub, Nat.reduceLeDiff, List.lookup_cons, List.lookup_nil, true_and, and_true, Bool.not_true, Bool.not_false, if_true, if_false, reduceIte, forall_const, Bool.false_eq_true, false_implies, implies_true, true_implies, reduceCtorEq, Nat.reduceBEq, con_MOST_MORE, con_NEAR, con_MOST_REACH, con_MOST_PLACES, con_MOST_BASE, con_LEAST_BASE, con_MOST_FIGURES, con_ZERO, con_UP, con_DOWN, cls_Grid, kl0, A_own_step, A_own_bounds, A_own_tops, A_own_places, A_own_reach, A_own_figures, A_own_base, A_check, C_Grid]
    refine ladder_ok2 gp hbf (by omega) fun k ds s3 g3 hk hl3 hg hlen hne => ?_
    have := g2.len
    simp only [↓wf_nil, ↓wf_cons, ↓wg_asg, ↓wf_par, ↓wf_par3, ↓wg_setF, ↓wg_setI, ↓wf_ex, ↓wf_ret, ↓wf_retN, ↓wf_pass, ↓wf_brk, ↓wf_cnt, ↓wg_ite, ↓wf_for, ↓wp_var, ↓wp_lit, ↓wp_glob, ↓wp_bin, ↓wp_dct, ↓wp_dix, ↓wp_cmpEq, ↓wp_cmpIn, ↓wp_nin, onB_b, ↓wp_cmpNe, ↓wp_neg, ↓wp_cmp, ↓wp_chain, ↓wp_not, ↓wp_and, ↓wp_or, ↓wp_ite, ↓wp_fld, ↓wp_tup, ↓wp_new, ↓wp_callE, ↓wp_meth, ↓wp_make, ↓wp_bi, ↓wp_fold, ↓wp_foldv, ↓wp_append, ↓wp_extend, ↓wp_ix, ↓wp_sl, ↓wp_slk, ↓wp_enil, ↓wp_econs, ↓wp_disp, ↓wp_lrange, ↓wp_lcomp, ↓wp_cnil, ↓wp_ccons, ↓wp_seq, ↓wp_fresh, ↓wp_irange, ↓wp_enum, ↓wp_bind, ↓wp_ok, ↓wp_if, ↓swB_bl, ↓swT_s, ↓onS_s, ↓onO_s, ↓onI_i, ↓onR_r, ↓brB_t, ↓brB_f, ↓brB_n, ↓brB_d, cls_gOf, dct_new, pairsD, keyOf, not_true_eq_false, not_false_eq_true, ixN_30, ixN_31, ixN_32, lst_new, eqD_int, eqD_non_int, fuel_gOf, atI_0, atI_1, atI_2, atI_3, atI_4, putD, List.set_set, List.contains_cons, List.contains_nil, beq_self_eq_true, Bool.or_true, Bool.true_or, Bool.or_false, Bool.false_or, Nat.reduceEqDiff, Nat.reduceLT, Nat.zero_lt_succ, T.put, setAll, wipeE, tru, binD, cmpD, biD, itemsOf, tupOk, fldP, walkP, bnd, isNon, swB_bl, swT_s, onS_s, onO_s, onI_i, onR_r, brB_t, brB_f, brB_n, brB_d, brB_and, brB_or, List.map_cons, List.map_nil, List.cons_append, List.nil_append, List.append_nil, List.replicate, List.getElem?_cons_zero, List.getElem?_cons_succ, List.set_cons_zero, List.set_cons_succ, List.length_cons, List.length_nil, Nat.reduceAdd, Nat.reduceSub, Nat.reduceLeDiff, List.lookup_cons, List.lookup_nil, true_and, and_true, Bool.not_true, Bool.not_false, if_true, if_false, reduceIte, forall_const, Bool.false_eq_true, false_implies, implies_true, true_implies, reduceCtorEq, Nat.reduceBEq, con_MOST_MORE, con_NEAR, con_MOST_REACH, con_MOST_PLACES, con_MOST_BASE, con_LEAST_BASE, con_MOST_FIGURES, con_ZERO, con_UP, con_DOWN, cls_Grid, kl0, A_own_step, A_own_bounds, A_own_tops, A_own_places, A_own_reach, A_own_figures, A_own_base, A_check, C_Grid]
    exact ⟨by decide, _, k, ds, rfl, ig2.gr g3, hl3, hg, hlen, hne, by omega, g2.trans g3⟩
  rintro e2 s2 ⟨km, kl, ds, rfl, ig2, hl2, hg, hlen, hne, nkl, g2⟩
  have k2 := k1.gr g2
  have hp2 := hp1.gr g2
  have hq2 := hp2.lt
  -- every number, turned about, too
  refine Hold.sq (M := fun e s' => ∃ (ke : Nat) (es : List D), e = [some (.ref q), some (gt b f r p), some (.ref ke), none, none, none, none, some (.ref km), none, some (.ref kl), none, none] ∧ lstAt s' ke = some es ∧ GL b f r es ∧ es.length ≤ 200000 ∧ es ≠ [] ∧ ke ≠ q ∧ Gr s2 s') ?_ ?_
  · simp only [↓wf_nil, ↓wf_cons, ↓wg_asg, ↓wf_par, ↓wf_par3, ↓wg_setF, ↓wg_setI, ↓wf_ex, ↓wf_ret, ↓wf_retN, ↓wf_pass, ↓wf_brk, ↓wf_cnt, ↓wg_ite, ↓wf_for, ↓wp_var, ↓wp_lit, ↓wp_glob, ↓wp_bin, ↓wp_dct, ↓wp_dix, ↓wp_cmpEq, ↓wp_cmpIn, ↓wp_nin, onB_b, ↓wp_cmpNe, ↓wp_neg, ↓wp_cmp, ↓wp_chain, ↓wp_not, ↓wp_and, ↓wp_or, ↓wp_ite, ↓wp_fld, ↓wp_tup, ↓wp_new, ↓wp_callE, ↓wp_meth, ↓wp_make, ↓wp_bi, ↓wp_fold, ↓wp_foldv, ↓wp_append, ↓wp_extend, ↓wp_ix, ↓wp_sl, ↓wp_slk, ↓wp_enil, ↓wp_econs, ↓wp_disp, ↓wp_lrange, ↓wp_lcomp, ↓wp_cnil, ↓wp_ccons, ↓wp_seq, ↓wp_fresh, ↓wp_irange, ↓wp_enum, ↓wp_bind, ↓wp_ok, ↓wp_if, ↓swB_bl, ↓swT_s, ↓onS_s, ↓onO_s, ↓onI_i, ↓onR_r, ↓brB_t, ↓brB_f, ↓brB_n, ↓brB_d, cls_gOf, dct_new, pairsD, keyOf, not_true_eq_false, not_false_eq_true, ixN_30, ixN_31, ixN_32, lst_new, eqD_int, eqD_non_int, fuel_gOf, atI_0, atI_1, atI_2, atI_3, atI_4, putD, List.set_set, List.contains_cons, List.contains_nil, beq_self_eq_true, Bool.or_true, Bool.true_or, Bool.or_false, Bool.false_or, Nat.reduceEqDiff, Nat.reduceLT, Nat.zero_lt_succ, T.put, setAll, wipeE, tru, binD, cmpD, biD, itemsOf, tupOk, fldP, walkP, bnd, isNon, swB_bl, swT_s, onS_s, onO_s, onI_i, onR_r, brB_t, brB_f, brB_n, brB_d, brB_and, brB_or, List.map_cons, List.map_nil, List.cons_append, List.nil_append, List.append_nil, List.replicate, List.getElem?_cons_zero, List.getElem?_cons_succ, List.set_cons_zero, List.set_cons_succ, List.length_cons, List.length_nil, Nat.reduceAdd, Nat.reduceSub, Nat.reduceLeDiff, List.lookup_cons, List.lookup_nil, true_and, and_true, Bool.not_true, Bool.not_false, if_true, if_false, reduceIte, forall_const, Bool.false_eq_true, false_implies, implies_true, true_implies, reduceCtorEq, Nat.reduceBEq, con_MOST_MORE, con_NEAR, con_MOST_REACH, con_MOST_PLACES, con_MOST_BASE, con_LEAST_BASE, con_MOST_FIGURES, con_ZERO, con_UP, con_DOWN, cls_Grid, kl0, A_own_step, A_own_bounds, A_own_tops, A_own_places, A_own_reach, A_own_figures, A_own_base, A_check, C_Grid]
    rw [slkD_ref hl2 (by decide)]
    simp only [↓wf_nil, ↓wf_cons, ↓wg_asg, ↓wf_par, ↓wf_par3, ↓wg_setF, ↓wg_setI, ↓wf_ex, ↓wf_ret, ↓wf_retN, ↓wf_pass, ↓wf_brk, ↓wf_cnt, ↓wg_ite, ↓wf_for, ↓wp_var, ↓wp_lit, ↓wp_glob, ↓wp_bin, ↓wp_dct, ↓wp_dix, ↓wp_cmpEq, ↓wp_cmpIn, ↓wp_nin, onB_b, ↓wp_cmpNe, ↓wp_neg, ↓wp_cmp, ↓wp_chain, ↓wp_not, ↓wp_and, ↓wp_or, ↓wp_ite, ↓wp_fld, ↓wp_tup, ↓wp_new, ↓wp_callE, ↓wp_meth, ↓wp_make, ↓wp_bi, ↓wp_fold, ↓wp_foldv, ↓wp_append, ↓wp_extend, ↓wp_ix, ↓wp_sl, ↓wp_slk, ↓wp_enil, ↓wp_econs, ↓wp_disp, ↓wp_lrange, ↓wp_lcomp, ↓wp_cnil, ↓wp_ccons, ↓wp_seq, ↓wp_fresh, ↓wp_irange, ↓wp_enum, ↓wp_bind, ↓wp_ok, ↓wp_if, ↓swB_bl, ↓swT_s, ↓onS_s, ↓onO_s, ↓onI_i, ↓onR_r, ↓brB_t, ↓brB_f, ↓brB_n, ↓brB_d, cls_gOf, dct_new, pairsD, keyOf, not_true_eq_false, not_false_eq_true, ixN_30, ixN_31, ixN_32, lst_new, eqD_int, eqD_non_int, fuel_gOf, atI_0, atI_1, atI_2, atI_3, atI_4, putD, List.set_set, List.contains_cons, List.contains_nil, beq_self_eq_true, Bool.or_true, Bool.true_or, Bool.or_false, Bool.false_or, Nat.reduceEqDiff, Nat.reduceLT, Nat.zero_lt_succ, T.put, setAll, wipeE, tru, binD, cmpD, biD, itemsOf, tupOk, fldP, walkP, bnd, isNon, swB_bl, swT_s, onS_s, onO_s, onI_i, onR_r, brB_t, brB_f, brB_n, brB_d, brB_and, brB_or, List.map_cons, List.map_nil, List.cons_append, List.nil_append, List.append_nil, List.replicate, List.getElem?_cons_zero, List.getElem?_cons_succ, List.set_cons_zero, List.set_cons_succ, List.length_cons, List.length_nil, Nat.reduceAdd, Nat.reduceSub, Nat.reduceLeDiff, List.lookup_cons, List.lookup_nil, true_and, and_true, Bool.not_true, Bool.not_false, if_true, if_false, reduceIte, forall_const, Bool.false_eq_true, false_implies, implies_true, true_implies, reduceCtorEq, Nat.reduceBEq, con_MOST_MORE, con_NEAR, con_MOST_REACH, con_MOST_PLACES, con_MOST_BASE, con_LEAST_BASE, con_MOST_FIGURES, con_ZERO, con_UP, con_DOWN, cls_Grid, kl0, A_own_step, A_own_bounds, A_own_tops, A_own_places, A_own_reach, A_own_figures, A_own_base, A_check, C_Grid, newL, lst_new]
    have hms := step_len ds none (some 0) (-1)
    refine wp_mapL (f := negD) lst_new (by omega) (by omega) ?_ ?_
    · intro d hd s' gr
      refine elim1 (hg d (mem_step hd)) fun x hx => ?_
      rw [hx.1]
      refine ⟨_, rfl, ?_⟩
      simp only [↓wf_nil, ↓wf_cons, ↓wg_asg, ↓wf_par, ↓wf_par3, ↓wg_setF, ↓wg_setI, ↓wf_ex, ↓wf_ret, ↓wf_retN, ↓wf_pass, ↓wf_brk, ↓wf_cnt, ↓wg_ite, ↓wf_for, ↓wp_var, ↓wp_lit, ↓wp_glob, ↓wp_bin, ↓wp_dct, ↓wp_dix, ↓wp_cmpEq, ↓wp_cmpIn, ↓wp_nin, onB_b, ↓wp_cmpNe, ↓wp_neg, ↓wp_cmp, ↓wp_chain, ↓wp_not, ↓wp_and, ↓wp_or, ↓wp_ite, ↓wp_fld, ↓wp_tup, ↓wp_new, ↓wp_callE, ↓wp_meth, ↓wp_make, ↓wp_bi, ↓wp_fold, ↓wp_foldv, ↓wp_append, ↓wp_extend, ↓wp_ix, ↓wp_sl, ↓wp_slk, ↓wp_enil, ↓wp_econs, ↓wp_disp, ↓wp_lrange, ↓wp_lcomp, ↓wp_cnil, ↓wp_ccons, ↓wp_seq, ↓wp_fresh, ↓wp_irange, ↓wp_enum, ↓wp_bind, ↓wp_ok, ↓wp_if, ↓swB_bl, ↓swT_s, ↓onS_s, ↓onO_s, ↓onI_i, ↓onR_r, ↓brB_t, ↓brB_f, ↓brB_n, ↓brB_d, cls_gOf, dct_new, pairsD, keyOf, not_true_eq_false, not_false_eq_true, ixN_30, ixN_31, ixN_32, lst_new, eqD_int, eqD_non_int, fuel_gOf, atI_0, atI_1, atI_2, atI_3, atI_4, putD, List.set_set, List.contains_cons, List.contains_nil, beq_self_eq_true, Bool.or_true, Bool.true_or, Bool.or_false, Bool.false_or, Nat.reduceEqDiff, Nat.reduceLT, Nat.zero_lt_succ, T.put, setAll, wipeE, tru, binD, cmpD, biD, itemsOf, tupOk, fldP, walkP, bnd, isNon, swB_bl, swT_s, onS_s, onO_s, onI_i, onR_r, brB_t, brB_f, brB_n, brB_d, brB_and, brB_or, List.map_cons, List.map_nil, List.cons_append, List.nil_append, List.append_nil, List.replicate, List.getElem?_cons_zero, List.getElem?_cons_succ, List.set_cons_zero, List.set_cons_succ, List.length_cons, List.length_nil, Nat.reduceAdd, Nat.reduceSub, Nat.reduceLeDiff, List.lookup_cons, List.lookup_nil, true_and, and_true, Bool.not_true, Bool.not_false, if_true, if_false, reduceIte, forall_const, Bool.false_eq_true, false_implies, implies_true, true_implies, reduceCtorEq, Nat.reduceBEq, con_MOST_MORE, con_NEAR, con_MOST_REACH, con_MOST_PLACES, con_MOST_BASE, con_LEAST_BASE, con_MOST_FIGURES, con_ZERO, con_UP, con_DOWN, cls_Grid, kl0, A_own_step, A_own_bounds, A_own_tops, A_own_places, A_own_reach, A_own_figures, A_own_base, A_check, C_Grid]
      exact ⟨rfl, .refl⟩
    · intro s' gr
      have gr' : Gr s2 s' := (Gr.app _).trans gr
      have hl2' := gr'.lst hl2
      have hq' := gr'.len
      simp only [↓wf_nil, ↓wf_cons, ↓wg_asg, ↓wf_par, ↓wf_par3, ↓wg_setF, ↓wg_setI, ↓wf_ex, ↓wf_ret, ↓wf_retN, ↓wf_pass, ↓wf_brk, ↓wf_cnt, ↓wg_ite, ↓wf_for, ↓wp_var, ↓wp_lit, ↓wp_glob, ↓wp_bin, ↓wp_dct, ↓wp_dix, ↓wp_cmpEq, ↓wp_cmpIn, ↓wp_nin, onB_b, ↓wp_cmpNe, ↓wp_neg, ↓wp_cmp, ↓wp_chain, ↓wp_not, ↓wp_and, ↓wp_or, ↓wp_ite, ↓wp_fld, ↓wp_tup, ↓wp_new, ↓wp_callE, ↓wp_meth, ↓wp_make, ↓wp_bi, ↓wp_fold, ↓wp_foldv, ↓wp_append, ↓wp_extend, ↓wp_ix, ↓wp_sl, ↓wp_slk, ↓wp_enil, ↓wp_econs, ↓wp_disp, ↓wp_lrange, ↓wp_lcomp, ↓wp_cnil, ↓wp_ccons, ↓wp_seq, ↓wp_fresh, ↓wp_irange, ↓wp_enum, ↓wp_bind, ↓wp_ok, ↓wp_if, ↓swB_bl, ↓swT_s, ↓onS_s, ↓onO_s, ↓onI_i, ↓onR_r, ↓brB_t, ↓brB_f, ↓brB_n, ↓brB_d, cls_gOf, dct_new, pairsD, keyOf, not_true_eq_false, not_false_eq_true, ixN_30, ixN_31, ixN_32, lst_new, eqD_int, eqD_non_int, fuel_gOf, atI_0, atI_1, atI_2, atI_3, atI_4, putD, List.set_set, List.contains_cons, List.contains_nil, beq_self_eq_true, Bool.or_true, Bool.true_or, Bool.or_false, Bool.false_or, Nat.reduceEqDiff, Nat.reduceLT, Nat.zero_lt_succ, T.put, setAll, wipeE, tru, binD, cmpD, biD, itemsOf, tupOk, fldP, walkP, bnd, isNon, swB_bl, swT_s, onS_s, onO_s, onI_i, onR_r, brB_t, brB_f, brB_n, brB_d, brB_and, brB_or, List.map_cons, List.map_nil, List.cons_append, List.nil_append, List.append_nil, List.replicate, List.getElem?_cons_zero, List.getElem?_cons_succ, List.set_cons_zero, List.set_cons_succ, List.length_cons, List.length_nil, Nat.reduceAdd, Nat.reduceSub, Nat.reduceLeDiff, List.lookup_cons, List.lookup_nil, true_and, and_true, Bool.not_true, Bool.not_false, if_true, if_false, reduceIte, forall_const, Bool.false_eq_true, false_implies, implies_true, true_implies, reduceCtorEq, Nat.reduceBEq, con_MOST_MORE, con_NEAR, con_MOST_REACH, con_MOST_PLACES, con_MOST_BASE, con_LEAST_BASE, con_MOST_FIGURES, con_ZERO, con_UP, con_DOWN, cls_Grid, kl0, A_own_step, A_own_bounds, A_own_tops, A_own_places, A_own_reach, A_own_figures, A_own_base, A_check, C_Grid, (Gr.app _).lst hl2', List.length_map]
      refine ⟨by omega, _, _, rfl, lst_new, ?_, by rw [List.length_append, List.length_map]; omega, by simp [hne], by rw [List.length_append]; omega, (gr'.trans (.app _)).trans (.app _)⟩
      intro d hd
      rcases List.mem_append.mp hd with w | w
      · obtain ⟨d0, h0, e0⟩ := List.mem_map.mp w
        obtain ⟨x, hx1, hx2⟩ := hg d0 (mem_step h0)
        exact ⟨-x, by rw [← e0, hx1]; rfl, onGrid_neg hx2⟩
      · exact hg d w
  rintro e3 s3 ⟨ke, es, rfl, hl3, hge, helen, hene, nke, g3⟩
  have k3 := k2.gr g3
  have hp3 := hp2.gr g3
  have hq3 := hp3.lt
  have ig3 := ig2.gr g3
  have hkl3 := g3.lst hl2
  have hke3 : ke < s3.length := (List.getElem?_eq_some_iff.mp (of_lst hl3)).1
  have hkl3l : kl < s3.length := (List.getElem?_eq_some_iff.mp (of_lst hkl3)).1
  clear hl2 ig2
  -- pairs
  refine Hold.sq (M := fun e s' => ∃ (kp : Nat) (ps : List D), e = [some (.ref q), some (gt b f r p), some (.ref ke), some (.ref kp), none, none, none, some (.ref km), none, some (.ref kl), none, none] ∧ lstAt s' kp = some ps ∧ PL b f r ps ∧ ps.length ≤ 120 ∧ s3.length ≤ kp ∧ Kp q s3 s' ∧ PotAt s' q (N + 244)) ?_ ?_
  · simp only [↓wf_nil, ↓wf_cons, ↓wg_asg, ↓wf_par, ↓wf_par3, ↓wg_setF, ↓wg_setI, ↓wf_ex, ↓wf_ret, ↓wf_retN, ↓wf_pass, ↓wf_brk, ↓wf_cnt, ↓wg_ite, ↓wf_for, ↓wp_var, ↓wp_lit, ↓wp_glob, ↓wp_bin, ↓wp_dct, ↓wp_dix, ↓wp_cmpEq, ↓wp_cmpIn, ↓wp_nin, onB_b, ↓wp_cmpNe, ↓wp_neg, ↓wp_cmp, ↓wp_chain, ↓wp_not, ↓wp_and, ↓wp_or, ↓wp_ite, ↓wp_fld, ↓wp_tup, ↓wp_new, ↓wp_callE, ↓wp_meth, ↓wp_make, ↓wp_bi, ↓wp_fold, ↓wp_foldv, ↓wp_append, ↓wp_extend, ↓wp_ix, ↓wp_sl, ↓wp_slk, ↓wp_enil, ↓wp_econs, ↓wp_disp, ↓wp_lrange, ↓wp_lcomp, ↓wp_cnil, ↓wp_ccons, ↓wp_seq, ↓wp_fresh, ↓wp_irange, ↓wp_enum, ↓wp_bind, ↓wp_ok, ↓wp_if, ↓swB_bl, ↓swT_s, ↓onS_s, ↓onO_s, ↓onI_i, ↓onR_r, ↓brB_t, ↓brB_f, ↓brB_n, ↓brB_d, cls_gOf, dct_new, pairsD, keyOf, not_true_eq_false, not_false_eq_true, ixN_30, ixN_31, ixN_32, lst_new, eqD_int, eqD_non_int, fuel_gOf, atI_0, atI_1, atI_2, atI_3, atI_4, putD, List.set_set, List.contains_cons, List.contains_nil, beq_self_eq_true, Bool.or_true, Bool.true_or, Bool.or_false, Bool.false_or, Nat.reduceEqDiff, Nat.reduceLT, Nat.zero_lt_succ, T.put, setAll, wipeE, tru, binD, cmpD, biD, itemsOf, tupOk, fldP, walkP, bnd, isNon, swB_bl, swT_s, onS_s, onO_s, onI_i, onR_r, brB_t, brB_f, brB_n, brB_d, brB_and, brB_or, List.map_cons, List.map_nil, List.cons_append, List.nil_append, List.append_nil, List.replicate, List.getElem?_cons_zero, List.getElem?_cons_succ, List.set_cons_zero, List.set_cons_succ, List.length_cons, List.length_nil, Nat.reduceAdd, Nat.reduceSub, Nat.reduceLeDiff, List.lookup_cons, List.lookup_nil, true_and, and_true, Bool.not_true, Bool.not_false, if_true, if_false, reduceIte, forall_const, Bool.false_eq_true, false_implies, implies_true, true_implies, reduceCtorEq, Nat.reduceBEq, con_MOST_MORE, con_NEAR, con_MOST_REACH, con_MOST_PLACES, con_MOST_BASE, con_LEAST_BASE, con_MOST_FIGURES, con_ZERO, con_UP, con_DOWN, cls_Grid, kl0, A_own_step, A_own_bounds, A_own_tops, A_own_places, A_own_reach, A_own_figures, A_own_base, A_check, C_Grid]
    rw [show rangeD [.int 120] = some (rangeI 0 120) from rangeD1 (m := 120) (by decide)]
    simp only [↓wf_nil, ↓wf_cons, ↓wg_asg, ↓wf_par, ↓wf_par3, ↓wg_setF, ↓wg_setI, ↓wf_ex, ↓wf_ret, ↓wf_retN, ↓wf_pass, ↓wf_brk, ↓wf_cnt, ↓wg_ite, ↓wf_for, ↓wp_var, ↓wp_lit, ↓wp_glob, ↓wp_bin, ↓wp_dct, ↓wp_dix, ↓wp_cmpEq, ↓wp_cmpIn, ↓wp_nin, onB_b, ↓wp_cmpNe, ↓wp_neg, ↓wp_cmp, ↓wp_chain, ↓wp_not, ↓wp_and, ↓wp_or, ↓wp_ite, ↓wp_fld, ↓wp_tup, ↓wp_new, ↓wp_callE, ↓wp_meth, ↓wp_make, ↓wp_bi, ↓wp_fold, ↓wp_foldv, ↓wp_append, ↓wp_extend, ↓wp_ix, ↓wp_sl, ↓wp_slk, ↓wp_enil, ↓wp_econs, ↓wp_disp, ↓wp_lrange, ↓wp_lcomp, ↓wp_cnil, ↓wp_ccons, ↓wp_seq, ↓wp_fresh, ↓wp_irange, ↓wp_enum, ↓wp_bind, ↓wp_ok, ↓wp_if, ↓swB_bl, ↓swT_s, ↓onS_s, ↓onO_s, ↓onI_i, ↓onR_r, ↓brB_t, ↓brB_f, ↓brB_n, ↓brB_d, cls_gOf, dct_new, pairsD, keyOf, not_true_eq_false, not_false_eq_true, ixN_30, ixN_31, ixN_32, lst_new, eqD_int, eqD_non_int, fuel_gOf, atI_0, atI_1, atI_2, atI_3, atI_4, putD, List.set_set, List.contains_cons, List.contains_nil, beq_self_eq_true, Bool.or_true, Bool.true_or, Bool.or_false, Bool.false_or, Nat.reduceEqDiff, Nat.reduceLT, Nat.zero_lt_succ, T.put, setAll, wipeE, tru, binD, cmpD, biD, itemsOf, tupOk, fldP, walkP, bnd, isNon, swB_bl, swT_s, onS_s, onO_s, onI_i, onR_r, brB_t, brB_f, brB_n, brB_d, brB_and, brB_or, List.map_cons, List.map_nil, List.cons_append, List.nil_append, List.append_nil, List.replicate, List.getElem?_cons_zero, List.getElem?_cons_succ, List.set_cons_zero, List.set_cons_succ, List.length_cons, List.length_nil, Nat.reduceAdd, Nat.reduceSub, Nat.reduceLeDiff, List.lookup_cons, List.lookup_nil, true_and, and_true, Bool.not_true, Bool.not_false, if_true, if_false, reduceIte, forall_const, Bool.false_eq_true, false_implies, implies_true, true_implies, reduceCtorEq, Nat.reduceBEq, con_MOST_MORE, con_NEAR, con_MOST_REACH, con_MOST_PLACES, con_MOST_BASE, con_LEAST_BASE, con_MOST_FIGURES, con_ZERO, con_UP, con_DOWN, cls_Grid, kl0, A_own_step, A_own_bounds, A_own_tops, A_own_places, A_own_reach, A_own_figures, A_own_base, A_check, C_Grid]
    refine wp_comp (I := fun i acc s' => PL b f r acc ∧ acc.length = i ∧ Kp q s3 s' ∧ PotAt s' q (N + 4 + 2 * i)) (by rw [rangeI_len]; omega) ⟨by intro d hd; simp at hd, rfl, .refl, hp3⟩ (fun _ _ _ _ => rfl) (by rw [rangeI_len]; omega) (fun i acc s' w => by rw [w.2.1]; exact Nat.le_refl _) ?_ ?_
    · rintro i d acc s' hd ⟨hpl, hal, k4, hp4⟩
      have hi := (rangeI_at hd).2
      refine ⟨_, rfl, ?_⟩
      simp only [↓wf_nil, ↓wf_cons, ↓wg_asg, ↓wf_par, ↓wf_par3, ↓wg_setF, ↓wg_setI, ↓wf_ex, ↓wf_ret, ↓wf_retN, ↓wf_pass, ↓wf_brk, ↓wf_cnt, ↓wg_ite, ↓wf_for, ↓wp_var, ↓wp_lit, ↓wp_glob, ↓wp_bin, ↓wp_dct, ↓wp_dix, ↓wp_cmpEq, ↓wp_cmpIn, ↓wp_nin, onB_b, ↓wp_cmpNe, ↓wp_neg, ↓wp_cmp, ↓wp_chain, ↓wp_not, ↓wp_and, ↓wp_or, ↓wp_ite, ↓wp_fld, ↓wp_tup, ↓wp_new, ↓wp_callE, ↓wp_meth, ↓wp_make, ↓wp_bi, ↓wp_fold, ↓wp_foldv, ↓wp_append, ↓wp_extend, ↓wp_ix, ↓wp_sl, ↓wp_slk, ↓wp_enil, ↓wp_econs, ↓wp_disp, ↓wp_lrange, ↓wp_lcomp, ↓wp_cnil, ↓wp_ccons, ↓wp_seq, ↓wp_fresh, ↓wp_irange, ↓wp_enum, ↓wp_bind, ↓wp_ok, ↓wp_if, ↓swB_bl, ↓swT_s, ↓onS_s, ↓onO_s, ↓onI_i, ↓onR_r, ↓brB_t, ↓brB_f, ↓brB_n, ↓brB_d, cls_gOf, dct_new, pairsD, keyOf, not_true_eq_false, not_false_eq_true, ixN_30, ixN_31, ixN_32, lst_new, eqD_int, eqD_non_int, fuel_gOf, atI_0, atI_1, atI_2, atI_3, atI_4, putD, List.set_set, List.contains_cons, List.contains_nil, beq_self_eq_true, Bool.or_true, Bool.true_or, Bool.or_false, Bool.false_or, Nat.reduceEqDiff, Nat.reduceLT, Nat.zero_lt_succ, T.put, setAll, wipeE, tru, binD, cmpD, biD, itemsOf, tupOk, fldP, walkP, bnd, isNon, swB_bl, swT_s, onS_s, onO_s, onI_i, onR_r, brB_t, brB_f, brB_n, brB_d, brB_and, brB_or, List.map_cons, List.map_nil, List.cons_append, List.nil_append, List.append_nil, List.replicate, List.getElem?_cons_zero, List.getElem?_cons_succ, List.set_cons_zero, List.set_cons_succ, List.length_cons, List.length_nil, Nat.reduceAdd, Nat.reduceSub, Nat.reduceLeDiff, List.lookup_cons, List.lookup_nil, true_and, and_true, Bool.not_true, Bool.not_false, if_true, if_false, reduceIte, forall_const, Bool.false_eq_true, false_implies, implies_true, true_implies, reduceCtorEq, Nat.reduceBEq, con_MOST_MORE, con_NEAR, con_MOST_REACH, con_MOST_PLACES, con_MOST_BASE, con_LEAST_BASE, con_MOST_FIGURES, con_ZERO, con_UP, con_DOWN, cls_Grid, kl0, A_own_step, A_own_bounds, A_own_tops, A_own_places, A_own_reach, A_own_figures, A_own_base, A_check, C_Grid]
      refine of_ok hp4 (by omega) nke (k4.lst nke hl3) hene (by omega) fun d1 s5 hd1 k5 hp5 => ?_
      refine elim1 (hge d1 hd1) fun x hx => ?_
      rw [hx.1]
      simp only [↓wf_nil, ↓wf_cons, ↓wg_asg, ↓wf_par, ↓wf_par3, ↓wg_setF, ↓wg_setI, ↓wf_ex, ↓wf_ret, ↓wf_retN, ↓wf_pass, ↓wf_brk, ↓wf_cnt, ↓wg_ite, ↓wf_for, ↓wp_var, ↓wp_lit, ↓wp_glob, ↓wp_bin, ↓wp_dct, ↓wp_dix, ↓wp_cmpEq, ↓wp_cmpIn, ↓wp_nin, onB_b, ↓wp_cmpNe, ↓wp_neg, ↓wp_cmp, ↓wp_chain, ↓wp_not, ↓wp_and, ↓wp_or, ↓wp_ite, ↓wp_fld, ↓wp_tup, ↓wp_new, ↓wp_callE, ↓wp_meth, ↓wp_make, ↓wp_bi, ↓wp_fold, ↓wp_foldv, ↓wp_append, ↓wp_extend, ↓wp_ix, ↓wp_sl, ↓wp_slk, ↓wp_enil, ↓wp_econs, ↓wp_disp, ↓wp_lrange, ↓wp_lcomp, ↓wp_cnil, ↓wp_ccons, ↓wp_seq, ↓wp_fresh, ↓wp_irange, ↓wp_enum, ↓wp_bind, ↓wp_ok, ↓wp_if, ↓swB_bl, ↓swT_s, ↓onS_s, ↓onO_s, ↓onI_i, ↓onR_r, ↓brB_t, ↓brB_f, ↓brB_n, ↓brB_d, cls_gOf, dct_new, pairsD, keyOf, not_true_eq_false, not_false_eq_true, ixN_30, ixN_31, ixN_32, lst_new, eqD_int, eqD_non_int, fuel_gOf, atI_0, atI_1, atI_2, atI_3, atI_4, putD, List.set_set, List.contains_cons, List.contains_nil, beq_self_eq_true, Bool.or_true, Bool.true_or, Bool.or_false, Bool.false_or, Nat.reduceEqDiff, Nat.reduceLT, Nat.zero_lt_succ, T.put, setAll, wipeE, tru, binD, cmpD, biD, itemsOf, tupOk, fldP, walkP, bnd, isNon, swB_bl, swT_s, onS_s, onO_s, onI_i, onR_r, brB_t, brB_f, brB_n, brB_d, brB_and, brB_or, List.map_cons, List.map_nil, List.cons_append, List.nil_append, List.append_nil, List.replicate, List.getElem?_cons_zero, List.getElem?_cons_succ, List.set_cons_zero, List.set_cons_succ, List.length_cons, List.length_nil, Nat.reduceAdd, Nat.reduceSub, Nat.reduceLeDiff, List.lookup_cons, List.lookup_nil, true_and, and_true, Bool.not_true, Bool.not_false, if_true, if_false, reduceIte, forall_const, Bool.false_eq_true, false_implies, implies_true, true_implies, reduceCtorEq, Nat.reduceBEq, con_MOST_MORE, con_NEAR, con_MOST_REACH, con_MOST_PLACES, con_MOST_BASE, con_LEAST_BASE, con_MOST_FIGURES, con_ZERO, con_UP, con_DOWN, cls_Grid, kl0, A_own_step, A_own_bounds, A_own_tops, A_own_places, A_own_reach, A_own_figures, A_own_base, A_check, C_Grid]
      refine of_ok hp5 (by omega) nke ((k4.trans k5).lst nke hl3) hene (by omega) fun d2 s6 hd2 k6 hp6 => ?_
      refine elim1 (hge d2 hd2) fun y hy => ?_
      rw [hy.1]
      simp only [↓wf_nil, ↓wf_cons, ↓wg_asg, ↓wf_par, ↓wf_par3, ↓wg_setF, ↓wg_setI, ↓wf_ex, ↓wf_ret, ↓wf_retN, ↓wf_pass, ↓wf_brk, ↓wf_cnt, ↓wg_ite, ↓wf_for, ↓wp_var, ↓wp_lit, ↓wp_glob, ↓wp_bin, ↓wp_dct, ↓wp_dix, ↓wp_cmpEq, ↓wp_cmpIn, ↓wp_nin, onB_b, ↓wp_cmpNe, ↓wp_neg, ↓wp_cmp, ↓wp_chain, ↓wp_not, ↓wp_and, ↓wp_or, ↓wp_ite, ↓wp_fld, ↓wp_tup, ↓wp_new, ↓wp_callE, ↓wp_meth, ↓wp_make, ↓wp_bi, ↓wp_fold, ↓wp_foldv, ↓wp_append, ↓wp_extend, ↓wp_ix, ↓wp_sl, ↓wp_slk, ↓wp_enil, ↓wp_econs, ↓wp_disp, ↓wp_lrange, ↓wp_lcomp, ↓wp_cnil, ↓wp_ccons, ↓wp_seq, ↓wp_fresh, ↓wp_irange, ↓wp_enum, ↓wp_bind, ↓wp_ok, ↓wp_if, ↓swB_bl, ↓swT_s, ↓onS_s, ↓onO_s, ↓onI_i, ↓onR_r, ↓brB_t, ↓brB_f, ↓brB_n, ↓brB_d, cls_gOf, dct_new, pairsD, keyOf, not_true_eq_false, not_false_eq_true, ixN_30, ixN_31, ixN_32, lst_new, eqD_int, eqD_non_int, fuel_gOf, atI_0, atI_1, atI_2, atI_3, atI_4, putD, List.set_set, List.contains_cons, List.contains_nil, beq_self_eq_true, Bool.or_true, Bool.true_or, Bool.or_false, Bool.false_or, Nat.reduceEqDiff, Nat.reduceLT, Nat.zero_lt_succ, T.put, setAll, wipeE, tru, binD, cmpD, biD, itemsOf, tupOk, fldP, walkP, bnd, isNon, swB_bl, swT_s, onS_s, onO_s, onI_i, onR_r, brB_t, brB_f, brB_n, brB_d, brB_and, brB_or, List.map_cons, List.map_nil, List.cons_append, List.nil_append, List.append_nil, List.replicate, List.getElem?_cons_zero, List.getElem?_cons_succ, List.set_cons_zero, List.set_cons_succ, List.length_cons, List.length_nil, Nat.reduceAdd, Nat.reduceSub, Nat.reduceLeDiff, List.lookup_cons, List.lookup_nil, true_and, and_true, Bool.not_true, Bool.not_false, if_true, if_false, reduceIte, forall_const, Bool.false_eq_true, false_implies, implies_true, true_implies, reduceCtorEq, Nat.reduceBEq, con_MOST_MORE, con_NEAR, con_MOST_REACH, con_MOST_PLACES, con_MOST_BASE, con_LEAST_BASE, con_MOST_FIGURES, con_ZERO, con_UP, con_DOWN, cls_Grid, kl0, A_own_step, A_own_bounds, A_own_tops, A_own_places, A_own_reach, A_own_figures, A_own_base, A_check, C_Grid]
      refine ⟨by decide, ?_, by rw [List.length_append, hal]; rfl, (k4.trans k5).trans k6, hp6.mono (by omega) (by omega)⟩
      intro d hd
      rcases List.mem_append.mp hd with w | w
      · exact hpl d w
      · rw [List.mem_singleton.mp w]; exact ⟨(x, y), rfl, hx.2, hy.2⟩
    · rintro acc s4 ⟨hpl, hal, k4, hp4⟩
      rw [rangeI_len] at hal hp4
      have := k4.1
      simp only [↓wf_nil, ↓wf_cons, ↓wg_asg, ↓wf_par, ↓wf_par3, ↓wg_setF, ↓wg_setI, ↓wf_ex, ↓wf_ret, ↓wf_retN, ↓wf_pass, ↓wf_brk, ↓wf_cnt, ↓wg_ite, ↓wf_for, ↓wp_var, ↓wp_lit, ↓wp_glob, ↓wp_bin, ↓wp_dct, ↓wp_dix, ↓wp_cmpEq, ↓wp_cmpIn, ↓wp_nin, onB_b, ↓wp_cmpNe, ↓wp_neg, ↓wp_cmp, ↓wp_chain, ↓wp_not, ↓wp_and, ↓wp_or, ↓wp_ite, ↓wp_fld, ↓wp_tup, ↓wp_new, ↓wp_callE, ↓wp_meth, ↓wp_make, ↓wp_bi, ↓wp_fold, ↓wp_foldv, ↓wp_append, ↓wp_extend, ↓wp_ix, ↓wp_sl, ↓wp_slk, ↓wp_enil, ↓wp_econs, ↓wp_disp, ↓wp_lrange, ↓wp_lcomp, ↓wp_cnil, ↓wp_ccons, ↓wp_seq, ↓wp_fresh, ↓wp_irange, ↓wp_enum, ↓wp_bind, ↓wp_ok, ↓wp_if, ↓swB_bl, ↓swT_s, ↓onS_s, ↓onO_s, ↓onI_i, ↓onR_r, ↓brB_t, ↓brB_f, ↓brB_n, ↓brB_d, cls_gOf, dct_new, pairsD, keyOf, not_true_eq_false, not_false_eq_true, ixN_30, ixN_31, ixN_32, lst_new, eqD_int, eqD_non_int, fuel_gOf, atI_0, atI_1, atI_2, atI_3, atI_4, putD, List.set_set, List.contains_cons, List.contains_nil, beq_self_eq_true, Bool.or_true, Bool.true_or, Bool.or_false, Bool.false_or, Nat.reduceEqDiff, Nat.reduceLT, Nat.zero_lt_succ, T.put, setAll, wipeE, tru, binD, cmpD, biD, itemsOf, tupOk, fldP, walkP, bnd, isNon, swB_bl, swT_s, onS_s, onO_s, onI_i, onR_r, brB_t, brB_f, brB_n, brB_d, brB_and, brB_or, List.map_cons, List.map_nil, List.cons_append, List.nil_append, List.append_nil, List.replicate, List.getElem?_cons_zero, List.getElem?_cons_succ, List.set_cons_zero, List.set_cons_succ, List.length_cons, List.length_nil, Nat.reduceAdd, Nat.reduceSub, Nat.reduceLeDiff, List.lookup_cons, List.lookup_nil, true_and, and_true, Bool.not_true, Bool.not_false, if_true, if_false, reduceIte, forall_const, Bool.false_eq_true, false_implies, implies_true, true_implies, reduceCtorEq, Nat.reduceBEq, con_MOST_MORE, con_NEAR, con_MOST_REACH, con_MOST_PLACES, con_MOST_BASE, con_LEAST_BASE, con_MOST_FIGURES, con_ZERO, con_UP, con_DOWN, cls_Grid, kl0, A_own_step, A_own_bounds, A_own_tops, A_own_places, A_own_reach, A_own_figures, A_own_base, A_check, C_Grid]
      exact ⟨_, acc, rfl, lst_new, hpl, by omega, this, k4.app _, (hp4.app _).mono (by omega) (by omega)⟩
  rintro e4 s4 ⟨kp, ps, rfl, hl4, hpl, hpsl, hkp, k4, hp4⟩
  have hkp4 : kp < s4.length := (List.getElem?_eq_some_iff.mp (of_lst hl4)).1
  -- some
  refine Hold.sq (M := fun e s' => ∃ (ks : Nat) (ss : List D), e = [some (.ref q), some (gt b f r p), some (.ref ke), some (.ref kp), some (.ref ks), none, none, some (.ref km), none, some (.ref kl), none, none] ∧ lstAt s' ks = some ss ∧ GL b f r ss ∧ ss.length ≤ 14 ∧ s4.length ≤ ks ∧ Gr s4 s') ?_ ?_
  · simp only [↓wf_nil, ↓wf_cons, ↓wg_asg, ↓wf_par, ↓wf_par3, ↓wg_setF, ↓wg_setI, ↓wf_ex, ↓wf_ret, ↓wf_retN, ↓wf_pass, ↓wf_brk, ↓wf_cnt, ↓wg_ite, ↓wf_for, ↓wp_var, ↓wp_lit, ↓wp_glob, ↓wp_bin, ↓wp_dct, ↓wp_dix, ↓wp_cmpEq, ↓wp_cmpIn, ↓wp_nin, onB_b, ↓wp_cmpNe, ↓wp_neg, ↓wp_cmp, ↓wp_chain, ↓wp_not, ↓wp_and, ↓wp_or, ↓wp_ite, ↓wp_fld, ↓wp_tup, ↓wp_new, ↓wp_callE, ↓wp_meth, ↓wp_make, ↓wp_bi, ↓wp_fold, ↓wp_foldv, ↓wp_append, ↓wp_extend, ↓wp_ix, ↓wp_sl, ↓wp_slk, ↓wp_enil, ↓wp_econs, ↓wp_disp, ↓wp_lrange, ↓wp_lcomp, ↓wp_cnil, ↓wp_ccons, ↓wp_seq, ↓wp_fresh, ↓wp_irange, ↓wp_enum, ↓wp_bind, ↓wp_ok, ↓wp_if, ↓swB_bl, ↓swT_s, ↓onS_s, ↓onO_s, ↓onI_i, ↓onR_r, ↓brB_t, ↓brB_f, ↓brB_n, ↓brB_d, cls_gOf, dct_new, pairsD, keyOf, not_true_eq_false, not_false_eq_true, ixN_30, ixN_31, ixN_32, lst_new, eqD_int, eqD_non_int, fuel_gOf, atI_0, atI_1, atI_2, atI_3, atI_4, putD, List.set_set, List.contains_cons, List.contains_nil, beq_self_eq_true, Bool.or_true, Bool.true_or, Bool.or_false, Bool.false_or, Nat.reduceEqDiff, Nat.reduceLT, Nat.zero_lt_succ, T.put, setAll, wipeE, tru, binD, cmpD, biD, itemsOf, tupOk, fldP, walkP, bnd, isNon, swB_bl, swT_s, onS_s, onO_s, onI_i, onR_r, brB_t, brB_f, brB_n, brB_d, brB_and, brB_or, List.map_cons, List.map_nil, List.cons_append, List.nil_append, List.append_nil, List.replicate, List.getElem?_cons_zero, List.getElem?_cons_succ, List.set_cons_zero, List.set_cons_succ, List.length_cons, List.length_nil, Nat.reduceAdd, Nat.reduceSub, Nat.reduceLeDiff, List.lookup_cons, List.lookup_nil, true_and, and_true, Bool.not_true, Bool.not_false, if_true, if_false, reduceIte, forall_const, Bool.false_eq_true, false_implies, implies_true, true_implies, reduceCtorEq, Nat.reduceBEq, con_MOST_MORE, con_NEAR, con_MOST_REACH, con_MOST_PLACES, con_MOST_BASE, con_LEAST_BASE, con_MOST_FIGURES, con_ZERO, con_UP, con_DOWN, cls_Grid, kl0, A_own_step, A_own_bounds, A_own_tops, A_own_places, A_own_reach, A_own_figures, A_own_base, A_check, C_Grid, slD, k4.lst nkl hkl3, newL]
    refine ⟨_, _, rfl, lst_new, fun d hd => hg d (mem_cutD hd), ?_, Nat.le_refl _, .app _⟩
    unfold cutD
    rw [List.length_take, List.length_drop]
    show min (HT.sIx ds.length ds.length none - HT.sIx ds.length 0 (some (-14))) (ds.length - HT.sIx ds.length 0 (some (-14))) ≤ 14
    rw [HT.sIx_none]
    have : HT.sIx ds.length 0 (some (-14)) = ((-14 : Int) + (ds.length : Int)).toNat := by unfold HT.sIx; exact if_pos (by decide)
    rw [this]
    omega
  rintro e5 s5 ⟨ks, ss, rfl, hl5, hgs, hssl, hks, g5⟩
  -- more pairs
  refine Hold.sq (M := fun e s' => ∃ (ps : List D) (o5 : Option D), e = [some (.ref q), some (gt b f r p), some (.ref ke), some (.ref kp), some (.ref ks), o5, none, some (.ref km), none, some (.ref kl), none, none] ∧ lstAt s' kp = some ps ∧ PL b f r ps ∧ ps.length ≤ 2810000 ∧ Kp q s3 s' ∧ PotAt s' q (N + 244)) ?_ ?_
  · simp only [↓wf_nil, ↓wf_cons, ↓wg_asg, ↓wf_par, ↓wf_par3, ↓wg_setF, ↓wg_setI, ↓wf_ex, ↓wf_ret, ↓wf_retN, ↓wf_pass, ↓wf_brk, ↓wf_cnt, ↓wg_ite, ↓wf_for, ↓wp_var, ↓wp_lit, ↓wp_glob, ↓wp_bin, ↓wp_dct, ↓wp_dix, ↓wp_cmpEq, ↓wp_cmpIn, ↓wp_nin, onB_b, ↓wp_cmpNe, ↓wp_neg, ↓wp_cmp, ↓wp_chain, ↓wp_not, ↓wp_and, ↓wp_or, ↓wp_ite, ↓wp_fld, ↓wp_tup, ↓wp_new, ↓wp_callE, ↓wp_meth, ↓wp_make, ↓wp_bi, ↓wp_fold, ↓wp_foldv, ↓wp_append, ↓wp_extend, ↓wp_ix, ↓wp_sl, ↓wp_slk, ↓wp_enil, ↓wp_econs, ↓wp_disp, ↓wp_lrange, ↓wp_lcomp, ↓wp_cnil, ↓wp_ccons, ↓wp_seq, ↓wp_fresh, ↓wp_irange, ↓wp_enum, ↓wp_bind, ↓wp_ok, ↓wp_if, ↓swB_bl, ↓swT_s, ↓onS_s, ↓onO_s, ↓onI_i, ↓onR_r, ↓brB_t, ↓brB_f, ↓brB_n, ↓brB_d, cls_gOf, dct_new, pairsD, keyOf, not_true_eq_false, not_false_eq_true, ixN_30, ixN_31, ixN_32, lst_new, eqD_int, eqD_non_int, fuel_gOf, atI_0, atI_1, atI_2, atI_3, atI_4, putD, List.set_set, List.contains_cons, List.contains_nil, beq_self_eq_true, Bool.or_true, Bool.true_or, Bool.or_false, Bool.false_or, Nat.reduceEqDiff, Nat.reduceLT, Nat.zero_lt_succ, T.put, setAll, wipeE, tru, binD, cmpD, biD, itemsOf, tupOk, fldP, walkP, bnd, isNon, swB_bl, swT_s, onS_s, onO_s, onI_i, onR_r, brB_t, brB_f, brB_n, brB_d, brB_and, brB_or, List.map_cons, List.map_nil, List.cons_append, List.nil_append, List.append_nil, List.replicate, List.getElem?_cons_zero, List.getElem?_cons_succ, List.set_cons_zero, List.set_cons_succ, List.length_cons, List.length_nil, Nat.reduceAdd, Nat.reduceSub, Nat.reduceLeDiff, List.lookup_cons, List.lookup_nil, true_and, and_true, Bool.not_true, Bool.not_false, if_true, if_false, reduceIte, forall_const, Bool.false_eq_true, false_implies, implies_true, true_implies, reduceCtorEq, Nat.reduceBEq, con_MOST_MORE, con_NEAR, con_MOST_REACH, con_MOST_PLACES, con_MOST_BASE, con_LEAST_BASE, con_MOST_FIGURES, con_ZERO, con_UP, con_DOWN, cls_Grid, kl0, A_own_step, A_own_bounds, A_own_tops, A_own_places, A_own_reach, A_own_figures, A_own_base, A_check, C_Grid, hl5]
    refine wf_lst (ds := ss) (I := fun i e s' => ∃ (ps : List D) (o5 : Option D), e = [some (.ref q), some (gt b f r p), some (.ref ke), some (.ref kp), some (.ref ks), o5, none, some (.ref km), none, some (.ref kl), none, none] ∧ lstAt s' kp = some ps ∧ PL b f r ps ∧ ps.length ≤ 120 + i * 200000 ∧ lstAt s' ks = some ss ∧ Kp q s3 s' ∧ PotAt s' q (N + 244)) (by omega) ⟨ps, none, rfl, g5.lst hl4, hpl, by omega, hl5, k4.gr g5, hp4.gr g5⟩ (fun i e s' ⟨_, _, _, _, _, _, w, _⟩ => w) ?_ ?_
    · intro i d e s6 hd hI
      have hi := (List.getElem?_eq_some_iff.mp hd).1
      obtain ⟨ps6, o5, he, hl6, hpl6, hpsl6, hks6, k6, hp6⟩ := hI
      rw [he]
      refine elim1 (hgs d (List.mem_of_getElem? hd)) fun x hx => ?_
      rw [hx.1]
      refine ⟨_, rfl, ?_⟩
      have hke6 := k6.lst nke hl3
      have hc : (if (es.length : Int) / 9 > 1 then (es.length : Int) / 9 else 1) ≠ 0 := by split <;> omega
      simp only [↓wf_nil, ↓wf_cons, ↓wg_asg, ↓wf_par, ↓wf_par3, ↓wg_setF, ↓wg_setI, ↓wf_ex, ↓wf_ret, ↓wf_retN, ↓wf_pass, ↓wf_brk, ↓wf_cnt, ↓wg_ite, ↓wf_for, ↓wp_var, ↓wp_lit, ↓wp_glob, ↓wp_bin, ↓wp_dct, ↓wp_dix, ↓wp_cmpEq, ↓wp_cmpIn, ↓wp_nin, onB_b, ↓wp_cmpNe, ↓wp_neg, ↓wp_cmp, ↓wp_chain, ↓wp_not, ↓wp_and, ↓wp_or, ↓wp_ite, ↓wp_fld, ↓wp_tup, ↓wp_new, ↓wp_callE, ↓wp_meth, ↓wp_make, ↓wp_bi, ↓wp_fold, ↓wp_foldv, ↓wp_append, ↓wp_extend, ↓wp_ix, ↓wp_sl, ↓wp_slk, ↓wp_enil, ↓wp_econs, ↓wp_disp, ↓wp_lrange, ↓wp_lcomp, ↓wp_cnil, ↓wp_ccons, ↓wp_seq, ↓wp_fresh, ↓wp_irange, ↓wp_enum, ↓wp_bind, ↓wp_ok, ↓wp_if, ↓swB_bl, ↓swT_s, ↓onS_s, ↓onO_s, ↓onI_i, ↓onR_r, ↓brB_t, ↓brB_f, ↓brB_n, ↓brB_d, cls_gOf, dct_new, pairsD, keyOf, not_true_eq_false, not_false_eq_true, ixN_30, ixN_31, ixN_32, lst_new, eqD_int, eqD_non_int, fuel_gOf, atI_0, atI_1, atI_2, atI_3, atI_4, putD, List.set_set, List.contains_cons, List.contains_nil, beq_self_eq_true, Bool.or_true, Bool.true_or, Bool.or_false, Bool.false_or, Nat.reduceEqDiff, Nat.reduceLT, Nat.zero_lt_succ, T.put, setAll, wipeE, tru, binD, cmpD, biD, itemsOf, tupOk, fldP, walkP, bnd, isNon, swB_bl, swT_s, onS_s, onO_s, onI_i, onR_r, brB_t, brB_f, brB_n, brB_d, brB_and, brB_or, List.map_cons, List.map_nil, List.cons_append, List.nil_append, List.append_nil, List.replicate, List.getElem?_cons_zero, List.getElem?_cons_succ, List.set_cons_zero, List.set_cons_succ, List.length_cons, List.length_nil, Nat.reduceAdd, Nat.reduceSub, Nat.reduceLeDiff, List.lookup_cons, List.lookup_nil, true_and, and_true, Bool.not_true, Bool.not_false, if_true, if_false, reduceIte, forall_const, Bool.false_eq_true, false_implies, implies_true, true_implies, reduceCtorEq, Nat.reduceBEq, con_MOST_MORE, con_NEAR, con_MOST_REACH, con_MOST_PLACES, con_MOST_BASE, con_LEAST_BASE, con_MOST_FIGURES, con_ZERO, con_UP, con_DOWN, cls_Grid, kl0, A_own_step, A_own_bounds, A_own_tops, A_own_places, A_own_reach, A_own_figures, A_own_base, A_check, C_Grid, hl6, hke6, foldD]
      refine ⟨by decide, ?_⟩
      rw [slkD_ref hke6 hc]
      generalize (if (es.length : Int) / 9 > 1 then (es.length : Int) / 9 else 1) = c at hc
      simp only [↓wf_nil, ↓wf_cons, ↓wg_asg, ↓wf_par, ↓wf_par3, ↓wg_setF, ↓wg_setI, ↓wf_ex, ↓wf_ret, ↓wf_retN, ↓wf_pass, ↓wf_brk, ↓wf_cnt, ↓wg_ite, ↓wf_for, ↓wp_var, ↓wp_lit, ↓wp_glob, ↓wp_bin, ↓wp_dct, ↓wp_dix, ↓wp_cmpEq, ↓wp_cmpIn, ↓wp_nin, onB_b, ↓wp_cmpNe, ↓wp_neg, ↓wp_cmp, ↓wp_chain, ↓wp_not, ↓wp_and, ↓wp_or, ↓wp_ite, ↓wp_fld, ↓wp_tup, ↓wp_new, ↓wp_callE, ↓wp_meth, ↓wp_make, ↓wp_bi, ↓wp_fold, ↓wp_foldv, ↓wp_append, ↓wp_extend, ↓wp_ix, ↓wp_sl, ↓wp_slk, ↓wp_enil, ↓wp_econs, ↓wp_disp, ↓wp_lrange, ↓wp_lcomp, ↓wp_cnil, ↓wp_ccons, ↓wp_seq, ↓wp_fresh, ↓wp_irange, ↓wp_enum, ↓wp_bind, ↓wp_ok, ↓wp_if, ↓swB_bl, ↓swT_s, ↓onS_s, ↓onO_s, ↓onI_i, ↓onR_r, ↓brB_t, ↓brB_f, ↓brB_n, ↓brB_d, cls_gOf, dct_new, pairsD, keyOf, not_true_eq_false, not_false_eq_true, ixN_30, ixN_31, ixN_32, lst_new, eqD_int, eqD_non_int, fuel_gOf, atI_0, atI_1, atI_2, atI_3, atI_4, putD, List.set_set, List.contains_cons, List.contains_nil, beq_self_eq_true, Bool.or_true, Bool.true_or, Bool.or_false, Bool.false_or, Nat.reduceEqDiff, Nat.reduceLT, Nat.zero_lt_succ, T.put, setAll, wipeE, tru, binD, cmpD, biD, itemsOf, tupOk, fldP, walkP, bnd, isNon, swB_bl, swT_s, onS_s, onO_s, onI_i, onR_r, brB_t, brB_f, brB_n, brB_d, brB_and, brB_or, List.map_cons, List.map_nil, List.cons_append, List.nil_append, List.append_nil, List.replicate, List.getElem?_cons_zero, List.getElem?_cons_succ, List.set_cons_zero, List.set_cons_succ, List.length_cons, List.length_nil, Nat.reduceAdd, Nat.reduceSub, Nat.reduceLeDiff, List.lookup_cons, List.lookup_nil, true_and, and_true, Bool.not_true, Bool.not_false, if_true, if_false, reduceIte, forall_const, Bool.false_eq_true, false_implies, implies_true, true_implies, reduceCtorEq, Nat.reduceBEq, con_MOST_MORE, con_NEAR, con_MOST_REACH, con_MOST_PLACES, con_MOST_BASE, con_LEAST_BASE, con_MOST_FIGURES, con_ZERO, con_UP, con_DOWN, cls_Grid, kl0, A_own_step, A_own_bounds, A_own_tops, A_own_places, A_own_reach, A_own_figures, A_own_base, A_check, C_Grid, newL, lst_new]
      have hms := step_len es none none c
      refine wp_mapL (f := fun d => .tup [.int x, d]) lst_new (by omega) (by omega) ?_ ?_
      · intro d hd s' gr
        refine ⟨_, rfl, ?_⟩
        simp only [↓wf_nil, ↓wf_cons, ↓wg_asg, ↓wf_par, ↓wf_par3, ↓wg_setF, ↓wg_setI, ↓wf_ex, ↓wf_ret, ↓wf_retN, ↓wf_pass, ↓wf_brk, ↓wf_cnt, ↓wg_ite, ↓wf_for, ↓wp_var, ↓wp_lit, ↓wp_glob, ↓wp_bin, ↓wp_dct, ↓wp_dix, ↓wp_cmpEq, ↓wp_cmpIn, ↓wp_nin, onB_b, ↓wp_cmpNe, ↓wp_neg, ↓wp_cmp, ↓wp_chain, ↓wp_not, ↓wp_and, ↓wp_or, ↓wp_ite, ↓wp_fld, ↓wp_tup, ↓wp_new, ↓wp_callE, ↓wp_meth, ↓wp_make, ↓wp_bi, ↓wp_fold, ↓wp_foldv, ↓wp_append, ↓wp_extend, ↓wp_ix, ↓wp_sl, ↓wp_slk, ↓wp_enil, ↓wp_econs, ↓wp_disp, ↓wp_lrange, ↓wp_lcomp, ↓wp_cnil, ↓wp_ccons, ↓wp_seq, ↓wp_fresh, ↓wp_irange, ↓wp_enum, ↓wp_bind, ↓wp_ok, ↓wp_if, ↓swB_bl, ↓swT_s, ↓onS_s, ↓onO_s, ↓onI_i, ↓onR_r, ↓brB_t, ↓brB_f, ↓brB_n, ↓brB_d, cls_gOf, dct_new, pairsD, keyOf, not_true_eq_false, not_false_eq_true, ixN_30, ixN_31, ixN_32, lst_new, eqD_int, eqD_non_int, fuel_gOf, atI_0, atI_1, atI_2, atI_3, atI_4, putD, List.set_set, List.contains_cons, List.contains_nil, beq_self_eq_true, Bool.or_true, Bool.true_or, Bool.or_false, Bool.false_or, Nat.reduceEqDiff, Nat.reduceLT, Nat.zero_lt_succ, T.put, setAll, wipeE, tru, binD, cmpD, biD, itemsOf, tupOk, fldP, walkP, bnd, isNon, swB_bl, swT_s, onS_s, onO_s, onI_i, onR_r, brB_t, brB_f, brB_n, brB_d, brB_and, brB_or, List.map_cons, List.map_nil, List.cons_append, List.nil_append, List.append_nil, List.replicate, List.getElem?_cons_zero, List.getElem?_cons_succ, List.set_cons_zero, List.set_cons_succ, List.length_cons, List.length_nil, Nat.reduceAdd, Nat.reduceSub, Nat.reduceLeDiff, List.lookup_cons, List.lookup_nil, true_and, and_true, Bool.not_true, Bool.not_false, if_true, if_false, reduceIte, forall_const, Bool.false_eq_true, false_implies, implies_true, true_implies, reduceCtorEq, Nat.reduceBEq, con_MOST_MORE, con_NEAR, con_MOST_REACH, con_MOST_PLACES, con_MOST_BASE, con_LEAST_BASE, con_MOST_FIGURES, con_ZERO, con_UP, con_DOWN, cls_Grid, kl0, A_own_step, A_own_bounds, A_own_tops, A_own_places, A_own_reach, A_own_figures, A_own_base, A_check, C_Grid]
        exact ⟨by decide, .refl⟩
      · intro s7 g7
        have g7' : Gr s6 s7 := (Gr.app _).trans g7
        have hl7 := g7'.lst hl6
        have hlt7 := (List.getElem?_eq_some_iff.mp (of_lst hl7)).1
        simp only [↓wf_nil, ↓wf_cons, ↓wg_asg, ↓wf_par, ↓wf_par3, ↓wg_setF, ↓wg_setI, ↓wf_ex, ↓wf_ret, ↓wf_retN, ↓wf_pass, ↓wf_brk, ↓wf_cnt, ↓wg_ite, ↓wf_for, ↓wp_var, ↓wp_lit, ↓wp_glob, ↓wp_bin, ↓wp_dct, ↓wp_dix, ↓wp_cmpEq, ↓wp_cmpIn, ↓wp_nin, onB_b, ↓wp_cmpNe, ↓wp_neg, ↓wp_cmp, ↓wp_chain, ↓wp_not, ↓wp_and, ↓wp_or, ↓wp_ite, ↓wp_fld, ↓wp_tup, ↓wp_new, ↓wp_callE, ↓wp_meth, ↓wp_make, ↓wp_bi, ↓wp_fold, ↓wp_foldv, ↓wp_append, ↓wp_extend, ↓wp_ix, ↓wp_sl, ↓wp_slk, ↓wp_enil, ↓wp_econs, ↓wp_disp, ↓wp_lrange, ↓wp_lcomp, ↓wp_cnil, ↓wp_ccons, ↓wp_seq, ↓wp_fresh, ↓wp_irange, ↓wp_enum, ↓wp_bind, ↓wp_ok, ↓wp_if, ↓swB_bl, ↓swT_s, ↓onS_s, ↓onO_s, ↓onI_i, ↓onR_r, ↓brB_t, ↓brB_f, ↓brB_n, ↓brB_d, cls_gOf, dct_new, pairsD, keyOf, not_true_eq_false, not_false_eq_true, ixN_30, ixN_31, ixN_32, lst_new, eqD_int, eqD_non_int, fuel_gOf, atI_0, atI_1, atI_2, atI_3, atI_4, putD, List.set_set, List.contains_cons, List.contains_nil, beq_self_eq_true, Bool.or_true, Bool.true_or, Bool.or_false, Bool.false_or, Nat.reduceEqDiff, Nat.reduceLT, Nat.zero_lt_succ, T.put, setAll, wipeE, tru, binD, cmpD, biD, itemsOf, tupOk, fldP, walkP, bnd, isNon, swB_bl, swT_s, onS_s, onO_s, onI_i, onR_r, brB_t, brB_f, brB_n, brB_d, brB_and, brB_or, List.map_cons, List.map_nil, List.cons_append, List.nil_append, List.append_nil, List.replicate, List.getElem?_cons_zero, List.getElem?_cons_succ, List.set_cons_zero, List.set_cons_succ, List.length_cons, List.length_nil, Nat.reduceAdd, Nat.reduceSub, Nat.reduceLeDiff, List.lookup_cons, List.lookup_nil, true_and, and_true, Bool.not_true, Bool.not_false, if_true, if_false, reduceIte, forall_const, Bool.false_eq_true, false_implies, implies_true, true_implies, reduceCtorEq, Nat.reduceBEq, con_MOST_MORE, con_NEAR, con_MOST_REACH, con_MOST_PLACES, con_MOST_BASE, con_LEAST_BASE, con_MOST_FIGURES, con_ZERO, con_UP, con_DOWN, cls_Grid, kl0, A_own_step, A_own_bounds, A_own_tops, A_own_places, A_own_reach, A_own_figures, A_own_base, A_check, C_Grid, (Gr.app _).lst hl7, List.length_map]
        refine ⟨by omega, _, _, rfl, lst_set (of_lst ((Gr.app _).lst hl7)), ?_, by rw [List.length_append, List.length_map]; omega, lst_ne ((Gr.app _).lst (g7'.lst hks6)) (by omega), Kp.setN ((k6.gr g7').app _) hkp, PotAt.set ((hp6.gr g7').app _) (by omega)⟩
        intro d hd
        rcases List.mem_append.mp hd with w | w
        · exact hpl6 d w
        · obtain ⟨d0, h0, e0⟩ := List.mem_map.mp w
          obtain ⟨y, hy1, hy2⟩ := hge d0 (mem_step h0)
          exact ⟨(x, y), by rw [← e0, hy1], hx.2, hy2⟩
    · rintro e s6 ⟨ps6, o5, rfl, hl6, hpl6, hpsl6, hks6, k6, hp6⟩
      exact ⟨ps6, o5, rfl, hl6, hpl6, by omega, k6, hp6⟩
  rintro e6 s6 ⟨ps6, o5, rfl, hl6, hpl6, hpsl6, k6, hp6⟩
  have ig6 := ig3.pot hp3 k6
  refine Hold.seqE [some (.ref q), some (gt b f r p), some (.ref ke), some (.ref kp), some (.ref ks), o5, none, some (.ref km), none, some (.ref kl), none, none] (Gr s6) ?_ ?_
  · simp only [↓wf_nil, ↓wf_cons, ↓wg_asg, ↓wf_par, ↓wf_par3, ↓wg_setF, ↓wg_setI, ↓wf_ex, ↓wf_ret, ↓wf_retN, ↓wf_pass, ↓wf_brk, ↓wf_cnt, ↓wg_ite, ↓wf_for, ↓wp_var, ↓wp_lit, ↓wp_glob, ↓wp_bin, ↓wp_dct, ↓wp_dix, ↓wp_cmpEq, ↓wp_cmpIn, ↓wp_nin, onB_b, ↓wp_cmpNe, ↓wp_neg, ↓wp_cmp, ↓wp_chain, ↓wp_not, ↓wp_and, ↓wp_or, ↓wp_ite, ↓wp_fld, ↓wp_tup, ↓wp_new, ↓wp_callE, ↓wp_meth, ↓wp_make, ↓wp_bi, ↓wp_fold, ↓wp_foldv, ↓wp_append, ↓wp_extend, ↓wp_ix, ↓wp_sl, ↓wp_slk, ↓wp_enil, ↓wp_econs, ↓wp_disp, ↓wp_lrange, ↓wp_lcomp, ↓wp_cnil, ↓wp_ccons, ↓wp_seq, ↓wp_fresh, ↓wp_irange, ↓wp_enum, ↓wp_bind, ↓wp_ok, ↓wp_if, ↓swB_bl, ↓swT_s, ↓onS_s, ↓onO_s, ↓onI_i, ↓onR_r, ↓brB_t, ↓brB_f, ↓brB_n, ↓brB_d, cls_gOf, dct_new, pairsD, keyOf, not_true_eq_false, not_false_eq_true, ixN_30, ixN_31, ixN_32, lst_new, eqD_int, eqD_non_int, fuel_gOf, atI_0, atI_1, atI_2, atI_3, atI_4, putD, List.set_set, List.contains_cons, List.contains_nil, beq_self_eq_true, Bool.or_true, Bool.true_or, Bool.or_false, Bool.false_or, Nat.reduceEqDiff, Nat.reduceLT, Nat.zero_lt_succ, T.put, setAll, wipeE, tru, binD, cmpD, biD, itemsOf, tupOk, fldP, walkP, bnd, isNon, swB_bl, swT_s, onS_s, onO_s, onI_i, onR_r, brB_t, brB_f, brB_n, brB_d, brB_and, brB_or, List.map_cons, List.map_nil, List.cons_append, List.nil_append, List.append_nil, List.replicate, List.getElem?_cons_zero, List.getElem?_cons_succ, List.set_cons_zero, List.set_cons_succ, List.length_cons, List.length_nil, Nat.reduceAdd, Nat.reduceSub, Nat.reduceLeDiff, List.lookup_cons, List.lookup_nil, true_and, and_true, Bool.not_true, Bool.not_false, if_true, if_false, reduceIte, forall_const, Bool.false_eq_true, false_implies, implies_true, true_implies, reduceCtorEq, Nat.reduceBEq, con_MOST_MORE, con_NEAR, con_MOST_REACH, con_MOST_PLACES, con_MOST_BASE, con_LEAST_BASE, con_MOST_FIGURES, con_ZERO, con_UP, con_DOWN, cls_Grid, kl0, A_own_step, A_own_bounds, A_own_tops, A_own_places, A_own_reach, A_own_figures, A_own_base, A_check, C_Grid, hl6]
    refine wp_allT (ds := ps6) (fun i s' g' => by simp only [It.at, g'.lst hl6]) (by omega) (by omega) ?_ ?_
    · intro d hd s' g'
      refine elim1 (hpl6 d hd) fun x hx => ?_
      rw [hx.1]
      refine ⟨_, rfl, ?_⟩
      simp only [↓wf_nil, ↓wf_cons, ↓wg_asg, ↓wf_par, ↓wf_par3, ↓wg_setF, ↓wg_setI, ↓wf_ex, ↓wf_ret, ↓wf_retN, ↓wf_pass, ↓wf_brk, ↓wf_cnt, ↓wg_ite, ↓wf_for, ↓wp_var, ↓wp_lit, ↓wp_glob, ↓wp_bin, ↓wp_dct, ↓wp_dix, ↓wp_cmpEq, ↓wp_cmpIn, ↓wp_nin, onB_b, ↓wp_cmpNe, ↓wp_neg, ↓wp_cmp, ↓wp_chain, ↓wp_not, ↓wp_and, ↓wp_or, ↓wp_ite, ↓wp_fld, ↓wp_tup, ↓wp_new, ↓wp_callE, ↓wp_meth, ↓wp_make, ↓wp_bi, ↓wp_fold, ↓wp_foldv, ↓wp_append, ↓wp_extend, ↓wp_ix, ↓wp_sl, ↓wp_slk, ↓wp_enil, ↓wp_econs, ↓wp_disp, ↓wp_lrange, ↓wp_lcomp, ↓wp_cnil, ↓wp_ccons, ↓wp_seq, ↓wp_fresh, ↓wp_irange, ↓wp_enum, ↓wp_bind, ↓wp_ok, ↓wp_if, ↓swB_bl, ↓swT_s, ↓onS_s, ↓onO_s, ↓onI_i, ↓onR_r, ↓brB_t, ↓brB_f, ↓brB_n, ↓brB_d, cls_gOf, dct_new, pairsD, keyOf, not_true_eq_false, not_false_eq_true, ixN_30, ixN_31, ixN_32, lst_new, eqD_int, eqD_non_int, fuel_gOf, atI_0, atI_1, atI_2, atI_3, atI_4, putD, List.set_set, List.contains_cons, List.contains_nil, beq_self_eq_true, Bool.or_true, Bool.true_or, Bool.or_false, Bool.false_or, Nat.reduceEqDiff, Nat.reduceLT, Nat.zero_lt_succ, T.put, setAll, wipeE, tru, binD, cmpD, biD, itemsOf, tupOk, fldP, walkP, bnd, isNon, swB_bl, swT_s, onS_s, onO_s, onI_i, onR_r, brB_t, brB_f, brB_n, brB_d, brB_and, brB_or, List.map_cons, List.map_nil, List.cons_append, List.nil_append, List.append_nil, List.replicate, List.getElem?_cons_zero, List.getElem?_cons_succ, List.set_cons_zero, List.set_cons_succ, List.length_cons, List.length_nil, Nat.reduceAdd, Nat.reduceSub, Nat.reduceLeDiff, List.lookup_cons, List.lookup_nil, true_and, and_true, Bool.not_true, Bool.not_false, if_true, if_false, reduceIte, forall_const, Bool.false_eq_true, false_implies, implies_true, true_implies, reduceCtorEq, Nat.reduceBEq, con_MOST_MORE, con_NEAR, con_MOST_REACH, con_MOST_PLACES, con_MOST_BASE, con_LEAST_BASE, con_MOST_FIGURES, con_ZERO, con_UP, con_DOWN, cls_Grid, kl0, A_own_step, A_own_bounds, A_own_tops, A_own_places, A_own_reach, A_own_figures, A_own_base, A_check, C_Grid]
      refine ⟨.refl, ?_⟩
      exact is_pair_right_ok (ig6.gr g') (by omega) hx.2.1 hx.2.2 fun s7 g7 => ⟨rfl, g7⟩
    · intro m s' g'
      have e1 : (List.replicate m true).all id = true := by simp
      simp only [↓wf_nil, ↓wf_cons, ↓wg_asg, ↓wf_par, ↓wf_par3, ↓wg_setF, ↓wg_setI, ↓wf_ex, ↓wf_ret, ↓wf_retN, ↓wf_pass, ↓wf_brk, ↓wf_cnt, ↓wg_ite, ↓wf_for, ↓wp_var, ↓wp_lit, ↓wp_glob, ↓wp_bin, ↓wp_dct, ↓wp_dix, ↓wp_cmpEq, ↓wp_cmpIn, ↓wp_nin, onB_b, ↓wp_cmpNe, ↓wp_neg, ↓wp_cmp, ↓wp_chain, ↓wp_not, ↓wp_and, ↓wp_or, ↓wp_ite, ↓wp_fld, ↓wp_tup, ↓wp_new, ↓wp_callE, ↓wp_meth, ↓wp_make, ↓wp_bi, ↓wp_fold, ↓wp_foldv, ↓wp_append, ↓wp_extend, ↓wp_ix, ↓wp_sl, ↓wp_slk, ↓wp_enil, ↓wp_econs, ↓wp_disp, ↓wp_lrange, ↓wp_lcomp, ↓wp_cnil, ↓wp_ccons, ↓wp_seq, ↓wp_fresh, ↓wp_irange, ↓wp_enum, ↓wp_bind, ↓wp_ok, ↓wp_if, ↓swB_bl, ↓swT_s, ↓onS_s, ↓onO_s, ↓onI_i, ↓onR_r, ↓brB_t, ↓brB_f, ↓brB_n, ↓brB_d, cls_gOf, dct_new, pairsD, keyOf, not_true_eq_false, not_false_eq_true, ixN_30, ixN_31, ixN_32, lst_new, eqD_int, eqD_non_int, fuel_gOf, atI_0, atI_1, atI_2, atI_3, atI_4, putD, List.set_set, List.contains_cons, List.contains_nil, beq_self_eq_true, Bool.or_true, Bool.true_or, Bool.or_false, Bool.false_or, Nat.reduceEqDiff, Nat.reduceLT, Nat.zero_lt_succ, T.put, setAll, wipeE, tru, binD, cmpD, biD, itemsOf, tupOk, fldP, walkP, bnd, isNon, swB_bl, swT_s, onS_s, onO_s, onI_i, onR_r, brB_t, brB_f, brB_n, brB_d, brB_and, brB_or, List.map_cons, List.map_nil, List.cons_append, List.nil_append, List.append_nil, List.replicate, List.getElem?_cons_zero, List.getElem?_cons_succ, List.set_cons_zero, List.set_cons_succ, List.length_cons, List.length_nil, Nat.reduceAdd, Nat.reduceSub, Nat.reduceLeDiff, List.lookup_cons, List.lookup_nil, true_and, and_true, Bool.not_true, Bool.not_false, if_true, if_false, reduceIte, forall_const, Bool.false_eq_true, false_implies, implies_true, true_implies, reduceCtorEq, Nat.reduceBEq, con_MOST_MORE, con_NEAR, con_MOST_REACH, con_MOST_PLACES, con_MOST_BASE, con_LEAST_BASE, con_MOST_FIGURES, con_ZERO, con_UP, con_DOWN, cls_Grid, kl0, A_own_step, A_own_bounds, A_own_tops, A_own_places, A_own_reach, A_own_figures, A_own_base, A_check, C_Grid, foldD, all_rep, e1]
      exact g'
  intro s7 g7
  have hp7 := hp6.gr g7
  have k7 := k3.trans (k6.gr g7)
  clear ig6 hpl6 hl6 g7 hp6 k6 hgs hl5 g5 hl4 hpl k4 hp4 ig3 hge hl3 hg
  -- a great grid
  refine Hold.sq (M := fun e s' => ∃ b2 f2 r2 p2 : Nat, e = [some (.ref q), some (gt b f r p), some (.ref ke), some (.ref kp), some (.ref ks), o5, some (gt b2 f2 r2 p2), some (.ref km), none, some (.ref kl), none, none] ∧ GP b2 f2 r2 p2 ∧ Kp q s s' ∧ PotAt s' q (N + 247)) ?_ ?_
  · simp only [↓wf_nil, ↓wf_cons, ↓wg_asg, ↓wf_par, ↓wf_par3, ↓wg_setF, ↓wg_setI, ↓wf_ex, ↓wf_ret, ↓wf_retN, ↓wf_pass, ↓wf_brk, ↓wf_cnt, ↓wg_ite, ↓wf_for, ↓wp_var, ↓wp_lit, ↓wp_glob, ↓wp_bin, ↓wp_dct, ↓wp_dix, ↓wp_cmpEq, ↓wp_cmpIn, ↓wp_nin, onB_b, ↓wp_cmpNe, ↓wp_neg, ↓wp_cmp, ↓wp_chain, ↓wp_not, ↓wp_and, ↓wp_or, ↓wp_ite, ↓wp_fld, ↓wp_tup, ↓wp_new, ↓wp_callE, ↓wp_meth, ↓wp_make, ↓wp_bi, ↓wp_fold, ↓wp_foldv, ↓wp_append, ↓wp_extend, ↓wp_ix, ↓wp_sl, ↓wp_slk, ↓wp_enil, ↓wp_econs, ↓wp_disp, ↓wp_lrange, ↓wp_lcomp, ↓wp_cnil, ↓wp_ccons, ↓wp_seq, ↓wp_fresh, ↓wp_irange, ↓wp_enum, ↓wp_bind, ↓wp_ok, ↓wp_if, ↓swB_bl, ↓swT_s, ↓onS_s, ↓onO_s, ↓onI_i, ↓onR_r, ↓brB_t, ↓brB_f, ↓brB_n, ↓brB_d, cls_gOf, dct_new, pairsD, keyOf, not_true_eq_false, not_false_eq_true, ixN_30, ixN_31, ixN_32, lst_new, eqD_int, eqD_non_int, fuel_gOf, atI_0, atI_1, atI_2, atI_3, atI_4, putD, List.set_set, List.contains_cons, List.contains_nil, beq_self_eq_true, Bool.or_true, Bool.true_or, Bool.or_false, Bool.false_or, Nat.reduceEqDiff, Nat.reduceLT, Nat.zero_lt_succ, T.put, setAll, wipeE, tru, binD, cmpD, biD, itemsOf, tupOk, fldP, walkP, bnd, isNon, swB_bl, swT_s, onS_s, onO_s, onI_i, onR_r, brB_t, brB_f, brB_n, brB_d, brB_and, brB_or, List.map_cons, List.map_nil, List.cons_append, List.nil_append, List.append_nil, List.replicate, List.getElem?_cons_zero, List.getElem?_cons_succ, List.set_cons_zero, List.set_cons_succ, List.length_cons, List.length_nil, Nat.reduceAdd, Nat.reduceSub, Nat.reduceLeDiff, List.lookup_cons, List.lookup_nil, true_and, and_true, Bool.not_true, Bool.not_false, if_true, if_false, reduceIte, forall_const, Bool.false_eq_true, false_implies, implies_true, true_implies, reduceCtorEq, Nat.reduceBEq, con_MOST_MORE, con_NEAR, con_MOST_REACH, con_MOST_PLACES, con_MOST_BASE, con_LEAST_BASE, con_MOST_FIGURES, con_ZERO, con_UP, con_DOWN, cls_Grid, kl0, A_own_step, A_own_bounds, A_own_tops, A_own_places, A_own_reach, A_own_figures, A_own_base, A_check, C_Grid]
    refine take_ok (u := 9) hp7 (by omega) (by omega) (by omega) fun t s8 ht k8 hp8 => ?_
    have hl8 := hp8.lt
    simp only [↓wf_nil, ↓wf_cons, ↓wg_asg, ↓wf_par, ↓wf_par3, ↓wg_setF, ↓wg_setI, ↓wf_ex, ↓wf_ret, ↓wf_retN, ↓wf_pass, ↓wf_brk, ↓wf_cnt, ↓wg_ite, ↓wf_for, ↓wp_var, ↓wp_lit, ↓wp_glob, ↓wp_bin, ↓wp_dct, ↓wp_dix, ↓wp_cmpEq, ↓wp_cmpIn, ↓wp_nin, onB_b, ↓wp_cmpNe, ↓wp_neg, ↓wp_cmp, ↓wp_chain, ↓wp_not, ↓wp_and, ↓wp_or, ↓wp_ite, ↓wp_fld, ↓wp_tup, ↓wp_new, ↓wp_callE, ↓wp_meth, ↓wp_make, ↓wp_bi, ↓wp_fold, ↓wp_foldv, ↓wp_append, ↓wp_extend, ↓wp_ix, ↓wp_sl, ↓wp_slk, ↓wp_enil, ↓wp_econs, ↓wp_disp, ↓wp_lrange, ↓wp_lcomp, ↓wp_cnil, ↓wp_ccons, ↓wp_seq, ↓wp_fresh, ↓wp_irange, ↓wp_enum, ↓wp_bind, ↓wp_ok, ↓wp_if, ↓swB_bl, ↓swT_s, ↓onS_s, ↓onO_s, ↓onI_i, ↓onR_r, ↓brB_t, ↓brB_f, ↓brB_n, ↓brB_d, cls_gOf, dct_new, pairsD, keyOf, not_true_eq_false, not_false_eq_true, ixN_30, ixN_31, ixN_32, lst_new, eqD_int, eqD_non_int, fuel_gOf, atI_0, atI_1, atI_2, atI_3, atI_4, putD, List.set_set, List.contains_cons, List.contains_nil, beq_self_eq_true, Bool.or_true, Bool.true_or, Bool.or_false, Bool.false_or, Nat.reduceEqDiff, Nat.reduceLT, Nat.zero_lt_succ, T.put, setAll, wipeE, tru, binD, cmpD, biD, itemsOf, tupOk, fldP, walkP, bnd, isNon, swB_bl, swT_s, onS_s, onO_s, onI_i, onR_r, brB_t, brB_f, brB_n, brB_d, brB_and, brB_or, List.map_cons, List.map_nil, List.cons_append, List.nil_append, List.append_nil, List.replicate, List.getElem?_cons_zero, List.getElem?_cons_succ, List.set_cons_zero, List.set_cons_succ, List.length_cons, List.length_nil, Nat.reduceAdd, Nat.reduceSub, Nat.reduceLeDiff, List.lookup_cons, List.lookup_nil, true_and, and_true, Bool.not_true, Bool.not_false, if_true, if_false, reduceIte, forall_const, Bool.false_eq_true, false_implies, implies_true, true_implies, reduceCtorEq, Nat.reduceBEq, con_MOST_MORE, con_NEAR, con_MOST_REACH, con_MOST_PLACES, con_MOST_BASE, con_LEAST_BASE, con_MOST_FIGURES, con_ZERO, con_UP, con_DOWN, cls_Grid, kl0, A_own_step, A_own_bounds, A_own_tops, A_own_places, A_own_reach, A_own_figures, A_own_base, A_check, C_Grid]
    refine ⟨by decide, ?_⟩
    refine of_ok (hp8.app _) (by omega) (by omega) lst_new (by simp) (by simp) fun d s9 hd k9 hp9 => ?_
    have hl9 := hp9.lt
    have hf3 : ∃ f2 : Nat, d = .int (f2 : Int) ∧ 1 ≤ f2 ∧ f2 ≤ 30 := by
      simp only [List.mem_cons, List.not_mem_nil, or_false] at hd
      rcases hd with rfl | rfl | rfl | rfl
      · exact ⟨1, rfl, by decide, by decide⟩
      · exact ⟨7, rfl, by decide, by decide⟩
      · exact ⟨29, rfl, by decide, by decide⟩
      · exact ⟨30, rfl, by decide, by decide⟩
    refine elim1 hf3 fun f2 hf2 => ?_
    rw [hf2.1]
    simp only [↓wf_nil, ↓wf_cons, ↓wg_asg, ↓wf_par, ↓wf_par3, ↓wg_setF, ↓wg_setI, ↓wf_ex, ↓wf_ret, ↓wf_retN, ↓wf_pass, ↓wf_brk, ↓wf_cnt, ↓wg_ite, ↓wf_for, ↓wp_var, ↓wp_lit, ↓wp_glob, ↓wp_bin, ↓wp_dct, ↓wp_dix, ↓wp_cmpEq, ↓wp_cmpIn, ↓wp_nin, onB_b, ↓wp_cmpNe, ↓wp_neg, ↓wp_cmp, ↓wp_chain, ↓wp_not, ↓wp_and, ↓wp_or, ↓wp_ite, ↓wp_fld, ↓wp_tup, ↓wp_new, ↓wp_callE, ↓wp_meth, ↓wp_make, ↓wp_bi, ↓wp_fold, ↓wp_foldv, ↓wp_append, ↓wp_extend, ↓wp_ix, ↓wp_sl, ↓wp_slk, ↓wp_enil, ↓wp_econs, ↓wp_disp, ↓wp_lrange, ↓wp_lcomp, ↓wp_cnil, ↓wp_ccons, ↓wp_seq, ↓wp_fresh, ↓wp_irange, ↓wp_enum, ↓wp_bind, ↓wp_ok, ↓wp_if, ↓swB_bl, ↓swT_s, ↓onS_s, ↓onO_s, ↓onI_i, ↓onR_r, ↓brB_t, ↓brB_f, ↓brB_n, ↓brB_d, cls_gOf, dct_new, pairsD, keyOf, not_true_eq_false, not_false_eq_true, ixN_30, ixN_31, ixN_32, lst_new, eqD_int, eqD_non_int, fuel_gOf, atI_0, atI_1, atI_2, atI_3, atI_4, putD, List.set_set, List.contains_cons, List.contains_nil, beq_self_eq_true, Bool.or_true, Bool.true_or, Bool.or_false, Bool.false_or, Nat.reduceEqDiff, Nat.reduceLT, Nat.zero_lt_succ, T.put, setAll, wipeE, tru, binD, cmpD, biD, itemsOf, tupOk, fldP, walkP, bnd, isNon, swB_bl, swT_s, onS_s, onO_s, onI_i, onR_r, brB_t, brB_f, brB_n, brB_d, brB_and, brB_or, List.map_cons, List.map_nil, List.cons_append, List.nil_append, List.append_nil, List.replicate, List.getElem?_cons_zero, List.getElem?_cons_succ, List.set_cons_zero, List.set_cons_succ, List.length_cons, List.length_nil, Nat.reduceAdd, Nat.reduceSub, Nat.reduceLeDiff, List.lookup_cons, List.lookup_nil, true_and, and_true, Bool.not_true, Bool.not_false, if_true, if_false, reduceIte, forall_const, Bool.false_eq_true, false_implies, implies_true, true_implies, reduceCtorEq, Nat.reduceBEq, con_MOST_MORE, con_NEAR, con_MOST_REACH, con_MOST_PLACES, con_MOST_BASE, con_LEAST_BASE, con_MOST_FIGURES, con_ZERO, con_UP, con_DOWN, cls_Grid, kl0, A_own_step, A_own_bounds, A_own_tops, A_own_places, A_own_reach, A_own_figures, A_own_base, A_check, C_Grid]
    refine ⟨by decide, ?_⟩
    refine of_ok (hp9.app _) (by omega) (by omega) lst_new (by simp) (by simp) fun d s10 hd k10 hp10 => ?_
    refine elim1 (int_in hd (m := 60) (by decide)) fun r2 hr2 => ?_
    rw [hr2.1]
    simp only [↓wf_nil, ↓wf_cons, ↓wg_asg, ↓wf_par, ↓wf_par3, ↓wg_setF, ↓wg_setI, ↓wf_ex, ↓wf_ret, ↓wf_retN, ↓wf_pass, ↓wf_brk, ↓wf_cnt, ↓wg_ite, ↓wf_for, ↓wp_var, ↓wp_lit, ↓wp_glob, ↓wp_bin, ↓wp_dct, ↓wp_dix, ↓wp_cmpEq, ↓wp_cmpIn, ↓wp_nin, onB_b, ↓wp_cmpNe, ↓wp_neg, ↓wp_cmp, ↓wp_chain, ↓wp_not, ↓wp_and, ↓wp_or, ↓wp_ite, ↓wp_fld, ↓wp_tup, ↓wp_new, ↓wp_callE, ↓wp_meth, ↓wp_make, ↓wp_bi, ↓wp_fold, ↓wp_foldv, ↓wp_append, ↓wp_extend, ↓wp_ix, ↓wp_sl, ↓wp_slk, ↓wp_enil, ↓wp_econs, ↓wp_disp, ↓wp_lrange, ↓wp_lcomp, ↓wp_cnil, ↓wp_ccons, ↓wp_seq, ↓wp_fresh, ↓wp_irange, ↓wp_enum, ↓wp_bind, ↓wp_ok, ↓wp_if, ↓swB_bl, ↓swT_s, ↓onS_s, ↓onO_s, ↓onI_i, ↓onR_r, ↓brB_t, ↓brB_f, ↓brB_n, ↓brB_d, cls_gOf, dct_new, pairsD, keyOf, not_true_eq_false, not_false_eq_true, ixN_30, ixN_31, ixN_32, lst_new, eqD_int, eqD_non_int, fuel_gOf, atI_0, atI_1, atI_2, atI_3, atI_4, putD, List.set_set, List.contains_cons, List.contains_nil, beq_self_eq_true, Bool.or_true, Bool.true_or, Bool.or_false, Bool.false_or, Nat.reduceEqDiff, Nat.reduceLT, Nat.zero_lt_succ, T.put, setAll, wipeE, tru, binD, cmpD, biD, itemsOf, tupOk, fldP, walkP, bnd, isNon, swB_bl, swT_s, onS_s, onO_s, onI_i, onR_r, brB_t, brB_f, brB_n, brB_d, brB_and, brB_or, List.map_cons, List.map_nil, List.cons_append, List.nil_append, List.append_nil, List.replicate, List.getElem?_cons_zero, List.getElem?_cons_succ, List.set_cons_zero, List.set_cons_succ, List.length_cons, List.length_nil, Nat.reduceAdd, Nat.reduceSub, Nat.reduceLeDiff, List.lookup_cons, List.lookup_nil, true_and, and_true, Bool.not_true, Bool.not_false, if_true, if_false, reduceIte, forall_const, Bool.false_eq_true, false_implies, implies_true, true_implies, reduceCtorEq, Nat.reduceBEq, con_MOST_MORE, con_NEAR, con_MOST_REACH, con_MOST_PLACES, con_MOST_BASE, con_LEAST_BASE, con_MOST_FIGURES, con_ZERO, con_UP, con_DOWN, cls_Grid, kl0, A_own_step, A_own_bounds, A_own_tops, A_own_places, A_own_reach, A_own_figures, A_own_base, A_check, C_Grid]
    refine ⟨by decide, 2 + t, f2, r2, 0, ?_, ⟨by omega, by omega, hf2.2.1, hf2.2.2, hr2.2, by omega⟩, ((k7.trans k8).trans ((Kp.app .refl _).trans k9)).trans ((Kp.app .refl _).trans k10), hp10.mono (by omega) (by omega)⟩
    rw [show (2 : Int) + (t : Int) = ((2 + t : Nat) : Int) by omega]
    rfl
  rintro e8 s8 ⟨b2, f2, r2, p2, rfl, gp2, k8, hp8⟩
  refine Hold.sq (M := fun e s' => ∃ km2 : Nat, e = [some (.ref q), some (gt b f r p), some (.ref ke), some (.ref kp), some (.ref ks), o5, some (gt b2 f2 r2 p2), some (.ref km2), none, some (.ref kl), none, none] ∧ IsGrid s' km2 b2 f2 r2 p2 ∧ Gr s8 s') ?_ ?_
  · simp only [↓wf_nil, ↓wf_cons, ↓wg_asg, ↓wf_par, ↓wf_par3, ↓wg_setF, ↓wg_setI, ↓wf_ex, ↓wf_ret, ↓wf_retN, ↓wf_pass, ↓wf_brk, ↓wf_cnt, ↓wg_ite, ↓wf_for, ↓wp_var, ↓wp_lit, ↓wp_glob, ↓wp_bin, ↓wp_dct, ↓wp_dix, ↓wp_cmpEq, ↓wp_cmpIn, ↓wp_nin, onB_b, ↓wp_cmpNe, ↓wp_neg, ↓wp_cmp, ↓wp_chain, ↓wp_not, ↓wp_and, ↓wp_or, ↓wp_ite, ↓wp_fld, ↓wp_tup, ↓wp_new, ↓wp_callE, ↓wp_meth, ↓wp_make, ↓wp_bi, ↓wp_fold, ↓wp_foldv, ↓wp_append, ↓wp_extend, ↓wp_ix, ↓wp_sl, ↓wp_slk, ↓wp_enil, ↓wp_econs, ↓wp_disp, ↓wp_lrange, ↓wp_lcomp, ↓wp_cnil, ↓wp_ccons, ↓wp_seq, ↓wp_fresh, ↓wp_irange, ↓wp_enum, ↓wp_bind, ↓wp_ok, ↓wp_if, ↓swB_bl, ↓swT_s, ↓onS_s, ↓onO_s, ↓onI_i, ↓onR_r, ↓brB_t, ↓brB_f, ↓brB_n, ↓brB_d, cls_gOf, dct_new, pairsD, keyOf, not_true_eq_false, not_false_eq_true, ixN_30, ixN_31, ixN_32, lst_new, eqD_int, eqD_non_int, fuel_gOf, atI_0, atI_1, atI_2, atI_3, atI_4, putD, List.set_set, List.contains_cons, List.contains_nil, beq_self_eq_true, Bool.or_true, Bool.true_or, Bool.or_false, Bool.false_or, Nat.reduceEqDiff, Nat.reduceLT, Nat.zero_lt_succ, T.put, setAll, wipeE, tru, binD, cmpD, biD, itemsOf, tupOk, fldP, walkP, bnd, isNon, swB_bl, swT_s, onS_s, onO_s, onI_i, onR_r, brB_t, brB_f, brB_n, brB_d, brB_and, brB_or, List.map_cons, List.map_nil, List.cons_append, List.nil_append, List.append_nil, List.replicate, List.getElem?_cons_zero, List.getElem?_cons_succ, List.set_cons_zero, List.set_cons_succ, List.length_cons, List.length_nil, Nat.reduceAdd, Nat.reduceSub, Nat.reduceLeDiff, List.lookup_cons, List.lookup_nil, true_and, and_true, Bool.not_true, Bool.not_false, if_true, if_false, reduceIte, forall_const, Bool.false_eq_true, false_implies, implies_true, true_implies, reduceCtorEq, Nat.reduceBEq, con_MOST_MORE, con_NEAR, con_MOST_REACH, con_MOST_PLACES, con_MOST_BASE, con_LEAST_BASE, con_MOST_FIGURES, con_ZERO, con_UP, con_DOWN, cls_Grid, kl0, A_own_step, A_own_bounds, A_own_tops, A_own_places, A_own_reach, A_own_figures, A_own_base, A_check, C_Grid, gt]
    refine Grid_make_ok gp2 (by omega) fun s9 g9 ig9 => ?_
    exact ⟨_, rfl, ig9, g9⟩
  rintro e9 s9 ⟨km2, rfl, ig9, g9⟩
  have hp9 := hp8.gr g9
  have k9 := k8.gr g9
  refine Hold.sq (M := fun e s' => Kp q s s') ?_ ?_
  · simp only [↓wf_nil, ↓wf_cons, ↓wg_asg, ↓wf_par, ↓wf_par3, ↓wg_setF, ↓wg_setI, ↓wf_ex, ↓wf_ret, ↓wf_retN, ↓wf_pass, ↓wf_brk, ↓wf_cnt, ↓wg_ite, ↓wf_for, ↓wp_var, ↓wp_lit, ↓wp_glob, ↓wp_bin, ↓wp_dct, ↓wp_dix, ↓wp_cmpEq, ↓wp_cmpIn, ↓wp_nin, onB_b, ↓wp_cmpNe, ↓wp_neg, ↓wp_cmp, ↓wp_chain, ↓wp_not, ↓wp_and, ↓wp_or, ↓wp_ite, ↓wp_fld, ↓wp_tup, ↓wp_new, ↓wp_callE, ↓wp_meth, ↓wp_make, ↓wp_bi, ↓wp_fold, ↓wp_foldv, ↓wp_append, ↓wp_extend, ↓wp_ix, ↓wp_sl, ↓wp_slk, ↓wp_enil, ↓wp_econs, ↓wp_disp, ↓wp_lrange, ↓wp_lcomp, ↓wp_cnil, ↓wp_ccons, ↓wp_seq, ↓wp_fresh, ↓wp_irange, ↓wp_enum, ↓wp_bind, ↓wp_ok, ↓wp_if, ↓swB_bl, ↓swT_s, ↓onS_s, ↓onO_s, ↓onI_i, ↓onR_r, ↓brB_t, ↓brB_f, ↓brB_n, ↓brB_d, cls_gOf, dct_new, pairsD, keyOf, not_true_eq_false, not_false_eq_true, ixN_30, ixN_31, ixN_32, lst_new, eqD_int, eqD_non_int, fuel_gOf, atI_0, atI_1, atI_2, atI_3, atI_4, putD, List.set_set, List.contains_cons, List.contains_nil, beq_self_eq_true, Bool.or_true, Bool.true_or, Bool.or_false, Bool.false_or, Nat.reduceEqDiff, Nat.reduceLT, Nat.zero_lt_succ, T.put, setAll, wipeE, tru, binD, cmpD, biD, itemsOf, tupOk, fldP, walkP, bnd, isNon, swB_bl, swT_s, onS_s, onO_s, onI_i, onR_r, brB_t, brB_f, brB_n, brB_d, brB_and, brB_or, List.map_cons, List.map_nil, List.cons_append, List.nil_append, List.append_nil, List.replicate, List.getElem?_cons_zero, List.getElem?_cons_succ, List.set_cons_zero, List.set_cons_succ, List.length_cons, List.length_nil, Nat.reduceAdd, Nat.reduceSub, Nat.reduceLeDiff, List.lookup_cons, List.lookup_nil, true_and, and_true, Bool.not_true, Bool.not_false, if_true, if_false, reduceIte, forall_const, Bool.false_eq_true, false_implies, implies_true, true_implies, reduceCtorEq, Nat.reduceBEq, con_MOST_MORE, con_NEAR, con_MOST_REACH, con_MOST_PLACES, con_MOST_BASE, con_LEAST_BASE, con_MOST_FIGURES, con_ZERO, con_UP, con_DOWN, cls_Grid, kl0, A_own_step, A_own_bounds, A_own_tops, A_own_places, A_own_reach, A_own_figures, A_own_base, A_check, C_Grid]
    rw [show rangeD [.int 12] = some (rangeI 0 12) from rangeD1 (m := 12) (by decide)]
    simp only [↓wf_nil, ↓wf_cons, ↓wg_asg, ↓wf_par, ↓wf_par3, ↓wg_setF, ↓wg_setI, ↓wf_ex, ↓wf_ret, ↓wf_retN, ↓wf_pass, ↓wf_brk, ↓wf_cnt, ↓wg_ite, ↓wf_for, ↓wp_var, ↓wp_lit, ↓wp_glob, ↓wp_bin, ↓wp_dct, ↓wp_dix, ↓wp_cmpEq, ↓wp_cmpIn, ↓wp_nin, onB_b, ↓wp_cmpNe, ↓wp_neg, ↓wp_cmp, ↓wp_chain, ↓wp_not, ↓wp_and, ↓wp_or, ↓wp_ite, ↓wp_fld, ↓wp_tup, ↓wp_new, ↓wp_callE, ↓wp_meth, ↓wp_make, ↓wp_bi, ↓wp_fold, ↓wp_foldv, ↓wp_append, ↓wp_extend, ↓wp_ix, ↓wp_sl, ↓wp_slk, ↓wp_enil, ↓wp_econs, ↓wp_disp, ↓wp_lrange, ↓wp_lcomp, ↓wp_cnil, ↓wp_ccons, ↓wp_seq, ↓wp_fresh, ↓wp_irange, ↓wp_enum, ↓wp_bind, ↓wp_ok, ↓wp_if, ↓swB_bl, ↓swT_s, ↓onS_s, ↓onO_s, ↓onI_i, ↓onR_r, ↓brB_t, ↓brB_f, ↓brB_n, ↓brB_d, cls_gOf, dct_new, pairsD, keyOf, not_true_eq_false, not_false_eq_true, ixN_30, ixN_31, ixN_32, lst_new, eqD_int, eqD_non_int, fuel_gOf, atI_0, atI_1, atI_2, atI_3, atI_4, putD, List.set_set, List.contains_cons, List.contains_nil, beq_self_eq_true, Bool.or_true, Bool.true_or, Bool.or_false, Bool.false_or, Nat.reduceEqDiff, Nat.reduceLT, Nat.zero_lt_succ, T.put, setAll, wipeE, tru, binD, cmpD, biD, itemsOf, tupOk, fldP, walkP, bnd, isNon, swB_bl, swT_s, onS_s, onO_s, onI_i, onR_r, brB_t, brB_f, brB_n, brB_d, brB_and, brB_or, List.map_cons, List.map_nil, List.cons_append, List.nil_append, List.append_nil, List.replicate, List.getElem?_cons_zero, List.getElem?_cons_succ, List.set_cons_zero, List.set_cons_succ, List.length_cons, List.length_nil, Nat.reduceAdd, Nat.reduceSub, Nat.reduceLeDiff, List.lookup_cons, List.lookup_nil, true_and, and_true, Bool.not_true, Bool.not_false, if_true, if_false, reduceIte, forall_const, Bool.false_eq_true, false_implies, implies_true, true_implies, reduceCtorEq, Nat.reduceBEq, con_MOST_MORE, con_NEAR, con_MOST_REACH, con_MOST_PLACES, con_MOST_BASE, con_LEAST_BASE, con_MOST_FIGURES, con_ZERO, con_UP, con_DOWN, cls_Grid, kl0, A_own_step, A_own_bounds, A_own_tops, A_own_places, A_own_reach, A_own_figures, A_own_base, A_check, C_Grid]
    refine wf_fix (I := fun i e s' => (∃ o5 o8 o10 : Option D, e = [some (.ref q), some (gt b f r p), some (.ref ke), some (.ref kp), some (.ref ks), o5, some (gt b2 f2 r2 p2), some (.ref km2), o8, some (.ref kl), o10, none]) ∧ Kp q s9 s' ∧ PotAt s' q (N + 247 + i * 8)) (by rw [rangeI_len]; omega) ⟨⟨_, _, _, rfl⟩, .refl, hp9⟩ ?_ ?_
    · intro i d e s10 hd hI
      have hi := (rangeI_at hd).2
      obtain ⟨⟨o5, o8, o10, he⟩, k10, hp10⟩ := hI
      rw [he]
      refine ⟨_, rfl, ?_⟩
      simp only [↓wf_nil, ↓wf_cons, ↓wg_asg, ↓wf_par, ↓wf_par3, ↓wg_setF, ↓wg_setI, ↓wf_ex, ↓wf_ret, ↓wf_retN, ↓wf_pass, ↓wf_brk, ↓wf_cnt, ↓wg_ite, ↓wf_for, ↓wp_var, ↓wp_lit, ↓wp_glob, ↓wp_bin, ↓wp_dct, ↓wp_dix, ↓wp_cmpEq, ↓wp_cmpIn, ↓wp_nin, onB_b, ↓wp_cmpNe, ↓wp_neg, ↓wp_cmp, ↓wp_chain, ↓wp_not, ↓wp_and, ↓wp_or, ↓wp_ite, ↓wp_fld, ↓wp_tup, ↓wp_new, ↓wp_callE, ↓wp_meth, ↓wp_make, ↓wp_bi, ↓wp_fold, ↓wp_foldv, ↓wp_append, ↓wp_extend, ↓wp_ix, ↓wp_sl, ↓wp_slk, ↓wp_enil, ↓wp_econs, ↓wp_disp, ↓wp_lrange, ↓wp_lcomp, ↓wp_cnil, ↓wp_ccons, ↓wp_seq, ↓wp_fresh, ↓wp_irange, ↓wp_enum, ↓wp_bind, ↓wp_ok, ↓wp_if, ↓swB_bl, ↓swT_s, ↓onS_s, ↓onO_s, ↓onI_i, ↓onR_r, ↓brB_t, ↓brB_f, ↓brB_n, ↓brB_d, cls_gOf, dct_new, pairsD, keyOf, not_true_eq_false, not_false_eq_true, ixN_30, ixN_31, ixN_32, lst_new, eqD_int, eqD_non_int, fuel_gOf, atI_0, atI_1, atI_2, atI_3, atI_4, putD, List.set_set, List.contains_cons, List.contains_nil, beq_self_eq_true, Bool.or_true, Bool.true_or, Bool.or_false, Bool.false_or, Nat.reduceEqDiff, Nat.reduceLT, Nat.zero_lt_succ, T.put, setAll, wipeE, tru, binD, cmpD, biD, itemsOf, tupOk, fldP, walkP, bnd, isNon, swB_bl, swT_s, onS_s, onO_s, onI_i, onR_r, brB_t, brB_f, brB_n, brB_d, brB_and, brB_or, List.map_cons, List.map_nil, List.cons_append, List.nil_append, List.append_nil, List.replicate, List.getElem?_cons_zero, List.getElem?_cons_succ, List.set_cons_zero, List.set_cons_succ, List.length_cons, List.length_nil, Nat.reduceAdd, Nat.reduceSub, Nat.reduceLeDiff, List.lookup_cons, List.lookup_nil, true_and, and_true, Bool.not_true, Bool.not_false, if_true, if_false, reduceIte, forall_const, Bool.false_eq_true, false_implies, implies_true, true_implies, reduceCtorEq, Nat.reduceBEq, con_MOST_MORE, con_NEAR, con_MOST_REACH, con_MOST_PLACES, con_MOST_BASE, con_LEAST_BASE, con_MOST_FIGURES, con_ZERO, con_UP, con_DOWN, cls_Grid, kl0, A_own_step, A_own_bounds, A_own_tops, A_own_places, A_own_reach, A_own_figures, A_own_base, A_check, C_Grid]
      refine a_number_ok gp2 hp10 (by omega) (by omega) fun x s11 hx k11 hp11 => ?_
      simp only [↓wf_nil, ↓wf_cons, ↓wg_asg, ↓wf_par, ↓wf_par3, ↓wg_setF, ↓wg_setI, ↓wf_ex, ↓wf_ret, ↓wf_retN, ↓wf_pass, ↓wf_brk, ↓wf_cnt, ↓wg_ite, ↓wf_for, ↓wp_var, ↓wp_lit, ↓wp_glob, ↓wp_bin, ↓wp_dct, ↓wp_dix, ↓wp_cmpEq, ↓wp_cmpIn, ↓wp_nin, onB_b, ↓wp_cmpNe, ↓wp_neg, ↓wp_cmp, ↓wp_chain, ↓wp_not, ↓wp_and, ↓wp_or, ↓wp_ite, ↓wp_fld, ↓wp_tup, ↓wp_new, ↓wp_callE, ↓wp_meth, ↓wp_make, ↓wp_bi, ↓wp_fold, ↓wp_foldv, ↓wp_append, ↓wp_extend, ↓wp_ix, ↓wp_sl, ↓wp_slk, ↓wp_enil, ↓wp_econs, ↓wp_disp, ↓wp_lrange, ↓wp_lcomp, ↓wp_cnil, ↓wp_ccons, ↓wp_seq, ↓wp_fresh, ↓wp_irange, ↓wp_enum, ↓wp_bind, ↓wp_ok, ↓wp_if, ↓swB_bl, ↓swT_s, ↓onS_s, ↓onO_s, ↓onI_i, ↓onR_r, ↓brB_t, ↓brB_f, ↓brB_n, ↓brB_d, cls_gOf, dct_new, pairsD, keyOf, not_true_eq_false, not_false_eq_true, ixN_30, ixN_31, ixN_32, lst_new, eqD_int, eqD_non_int, fuel_gOf, atI_0, atI_1, atI_2, atI_3, atI_4, putD, List.set_set, List.contains_cons, List.contains_nil, beq_self_eq_true, Bool.or_true, Bool.true_or, Bool.or_false, Bool.false_or, Nat.reduceEqDiff, Nat.reduceLT, Nat.zero_lt_succ, T.put, setAll, wipeE, tru, binD, cmpD, biD, itemsOf, tupOk, fldP, walkP, bnd, isNon, swB_bl, swT_s, onS_s, onO_s, onI_i, onR_r, brB_t, brB_f, brB_n, brB_d, brB_and, brB_or, List.map_cons, List.map_nil, List.cons_append, List.nil_append, List.append_nil, List.replicate, List.getElem?_cons_zero, List.getElem?_cons_succ, List.set_cons_zero, List.set_cons_succ, List.length_cons, List.length_nil, Nat.reduceAdd, Nat.reduceSub, Nat.reduceLeDiff, List.lookup_cons, List.lookup_nil, true_and, and_true, Bool.not_true, Bool.not_false, if_true, if_false, reduceIte, forall_const, Bool.false_eq_true, false_implies, implies_true, true_implies, reduceCtorEq, Nat.reduceBEq, con_MOST_MORE, con_NEAR, con_MOST_REACH, con_MOST_PLACES, con_MOST_BASE, con_LEAST_BASE, con_MOST_FIGURES, con_ZERO, con_UP, con_DOWN, cls_Grid, kl0, A_own_step, A_own_bounds, A_own_tops, A_own_places, A_own_reach, A_own_figures, A_own_base, A_check, C_Grid]
      refine a_number_ok gp2 hp11 (by omega) (by omega) fun y s12 hy k12 hp12 => ?_
      have k12' := (k10.trans k11).trans k12
      have ig12 := ig9.pot hp9 k12'
      simp only [↓wf_nil, ↓wf_cons, ↓wg_asg, ↓wf_par, ↓wf_par3, ↓wg_setF, ↓wg_setI, ↓wf_ex, ↓wf_ret, ↓wf_retN, ↓wf_pass, ↓wf_brk, ↓wf_cnt, ↓wg_ite, ↓wf_for, ↓wp_var, ↓wp_lit, ↓wp_glob, ↓wp_bin, ↓wp_dct, ↓wp_dix, ↓wp_cmpEq, ↓wp_cmpIn, ↓wp_nin, onB_b, ↓wp_cmpNe, ↓wp_neg, ↓wp_cmp, ↓wp_chain, ↓wp_not, ↓wp_and, ↓wp_or, ↓wp_ite, ↓wp_fld, ↓wp_tup, ↓wp_new, ↓wp_callE, ↓wp_meth, ↓wp_make, ↓wp_bi, ↓wp_fold, ↓wp_foldv, ↓wp_append, ↓wp_extend, ↓wp_ix, ↓wp_sl, ↓wp_slk, ↓wp_enil, ↓wp_econs, ↓wp_disp, ↓wp_lrange, ↓wp_lcomp, ↓wp_cnil, ↓wp_ccons, ↓wp_seq, ↓wp_fresh, ↓wp_irange, ↓wp_enum, ↓wp_bind, ↓wp_ok, ↓wp_if, ↓swB_bl, ↓swT_s, ↓onS_s, ↓onO_s, ↓onI_i, ↓onR_r, ↓brB_t, ↓brB_f, ↓brB_n, ↓brB_d, cls_gOf, dct_new, pairsD, keyOf, not_true_eq_false, not_false_eq_true, ixN_30, ixN_31, ixN_32, lst_new, eqD_int, eqD_non_int, fuel_gOf, atI_0, atI_1, atI_2, atI_3, atI_4, putD, List.set_set, List.contains_cons, List.contains_nil, beq_self_eq_true, Bool.or_true, Bool.true_or, Bool.or_false, Bool.false_or, Nat.reduceEqDiff, Nat.reduceLT, Nat.zero_lt_succ, T.put, setAll, wipeE, tru, binD, cmpD, biD, itemsOf, tupOk, fldP, walkP, bnd, isNon, swB_bl, swT_s, onS_s, onO_s, onI_i, onR_r, brB_t, brB_f, brB_n, brB_d, brB_and, brB_or, List.map_cons, List.map_nil, List.cons_append, List.nil_append, List.append_nil, List.replicate, List.getElem?_cons_zero, List.getElem?_cons_succ, List.set_cons_zero, List.set_cons_succ, List.length_cons, List.length_nil, Nat.reduceAdd, Nat.reduceSub, Nat.reduceLeDiff, List.lookup_cons, List.lookup_nil, true_and, and_true, Bool.not_true, Bool.not_false, if_true, if_false, reduceIte, forall_const, Bool.false_eq_true, false_implies, implies_true, true_implies, reduceCtorEq, Nat.reduceBEq, con_MOST_MORE, con_NEAR, con_MOST_REACH, con_MOST_PLACES, con_MOST_BASE, con_LEAST_BASE, con_MOST_FIGURES, con_ZERO, con_UP, con_DOWN, cls_Grid, kl0, A_own_step, A_own_bounds, A_own_tops, A_own_places, A_own_reach, A_own_figures, A_own_base, A_check, C_Grid]
      refine ⟨by decide, ?_⟩
      refine is_pair_right_ok ig12 (by omega) hx hy fun s13 g13 => ?_
      simp only [↓wf_nil, ↓wf_cons, ↓wg_asg, ↓wf_par, ↓wf_par3, ↓wg_setF, ↓wg_setI, ↓wf_ex, ↓wf_ret, ↓wf_retN, ↓wf_pass, ↓wf_brk, ↓wf_cnt, ↓wg_ite, ↓wf_for, ↓wp_var, ↓wp_lit, ↓wp_glob, ↓wp_bin, ↓wp_dct, ↓wp_dix, ↓wp_cmpEq, ↓wp_cmpIn, ↓wp_nin, onB_b, ↓wp_cmpNe, ↓wp_neg, ↓wp_cmp, ↓wp_chain, ↓wp_not, ↓wp_and, ↓wp_or, ↓wp_ite, ↓wp_fld, ↓wp_tup, ↓wp_new, ↓wp_callE, ↓wp_meth, ↓wp_make, ↓wp_bi, ↓wp_fold, ↓wp_foldv, ↓wp_append, ↓wp_extend, ↓wp_ix, ↓wp_sl, ↓wp_slk, ↓wp_enil, ↓wp_econs, ↓wp_disp, ↓wp_lrange, ↓wp_lcomp, ↓wp_cnil, ↓wp_ccons, ↓wp_seq, ↓wp_fresh, ↓wp_irange, ↓wp_enum, ↓wp_bind, ↓wp_ok, ↓wp_if, ↓swB_bl, ↓swT_s, ↓onS_s, ↓onO_s, ↓onI_i, ↓onR_r, ↓brB_t, ↓brB_f, ↓brB_n, ↓brB_d, cls_gOf, dct_new, pairsD, keyOf, not_true_eq_false, not_false_eq_true, ixN_30, ixN_31, ixN_32, lst_new, eqD_int, eqD_non_int, fuel_gOf, atI_0, atI_1, atI_2, atI_3, atI_4, putD, List.set_set, List.contains_cons, List.contains_nil, beq_self_eq_true, Bool.or_true, Bool.true_or, Bool.or_false, Bool.false_or, Nat.reduceEqDiff, Nat.reduceLT, Nat.zero_lt_succ, T.put, setAll, wipeE, tru, binD, cmpD, biD, itemsOf, tupOk, fldP, walkP, bnd, isNon, swB_bl, swT_s, onS_s, onO_s, onI_i, onR_r, brB_t, brB_f, brB_n, brB_d, brB_and, brB_or, List.map_cons, List.map_nil, List.cons_append, List.nil_append, List.append_nil, List.replicate, List.getElem?_cons_zero, List.getElem?_cons_succ, List.set_cons_zero, List.set_cons_succ, List.length_cons, List.length_nil, Nat.reduceAdd, Nat.reduceSub, Nat.reduceLeDiff, List.lookup_cons, List.lookup_nil, true_and, and_true, Bool.not_true, Bool.not_false, if_true, if_false, reduceIte, forall_const, Bool.false_eq_true, false_implies, implies_true, true_implies, reduceCtorEq, Nat.reduceBEq, con_MOST_MORE, con_NEAR, con_MOST_REACH, con_MOST_PLACES, con_MOST_BASE, con_LEAST_BASE, con_MOST_FIGURES, con_ZERO, con_UP, con_DOWN, cls_Grid, kl0, A_own_step, A_own_bounds, A_own_tops, A_own_places, A_own_reach, A_own_figures, A_own_base, A_check, C_Grid]
      refine is_pair_right_ok (ig12.gr g13) (by omega) hx (onGrid_neg hx) fun s14 g14 => ?_
      simp only [↓wf_nil, ↓wf_cons, ↓wg_asg, ↓wf_par, ↓wf_par3, ↓wg_setF, ↓wg_setI, ↓wf_ex, ↓wf_ret, ↓wf_retN, ↓wf_pass, ↓wf_brk, ↓wf_cnt, ↓wg_ite, ↓wf_for, ↓wp_var, ↓wp_lit, ↓wp_glob, ↓wp_bin, ↓wp_dct, ↓wp_dix, ↓wp_cmpEq, ↓wp_cmpIn, ↓wp_nin, onB_b, ↓wp_cmpNe, ↓wp_neg, ↓wp_cmp, ↓wp_chain, ↓wp_not, ↓wp_and, ↓wp_or, ↓wp_ite, ↓wp_fld, ↓wp_tup, ↓wp_new, ↓wp_callE, ↓wp_meth, ↓wp_make, ↓wp_bi, ↓wp_fold, ↓wp_foldv, ↓wp_append, ↓wp_extend, ↓wp_ix, ↓wp_sl, ↓wp_slk, ↓wp_enil, ↓wp_econs, ↓wp_disp, ↓wp_lrange, ↓wp_lcomp, ↓wp_cnil, ↓wp_ccons, ↓wp_seq, ↓wp_fresh, ↓wp_irange, ↓wp_enum, ↓wp_bind, ↓wp_ok, ↓wp_if, ↓swB_bl, ↓swT_s, ↓onS_s, ↓onO_s, ↓onI_i, ↓onR_r, ↓brB_t, ↓brB_f, ↓brB_n, ↓brB_d, cls_gOf, dct_new, pairsD, keyOf, not_true_eq_false, not_false_eq_true, ixN_30, ixN_31, ixN_32, lst_new, eqD_int, eqD_non_int, fuel_gOf, atI_0, atI_1, atI_2, atI_3, atI_4, putD, List.set_set, List.contains_cons, List.contains_nil, beq_self_eq_true, Bool.or_true, Bool.true_or, Bool.or_false, Bool.false_or, Nat.reduceEqDiff, Nat.reduceLT, Nat.zero_lt_succ, T.put, setAll, wipeE, tru, binD, cmpD, biD, itemsOf, tupOk, fldP, walkP, bnd, isNon, swB_bl, swT_s, onS_s, onO_s, onI_i, onR_r, brB_t, brB_f, brB_n, brB_d, brB_and, brB_or, List.map_cons, List.map_nil, List.cons_append, List.nil_append, List.append_nil, List.replicate, List.getElem?_cons_zero, List.getElem?_cons_succ, List.set_cons_zero, List.set_cons_succ, List.length_cons, List.length_nil, Nat.reduceAdd, Nat.reduceSub, Nat.reduceLeDiff, List.lookup_cons, List.lookup_nil, true_and, and_true, Bool.not_true, Bool.not_false, if_true, if_false, reduceIte, forall_const, Bool.false_eq_true, false_implies, implies_true, true_implies, reduceCtorEq, Nat.reduceBEq, con_MOST_MORE, con_NEAR, con_MOST_REACH, con_MOST_PLACES, con_MOST_BASE, con_LEAST_BASE, con_MOST_FIGURES, con_ZERO, con_UP, con_DOWN, cls_Grid, kl0, A_own_step, A_own_bounds, A_own_tops, A_own_places, A_own_reach, A_own_figures, A_own_base, A_check, C_Grid]
      exact ⟨⟨_, _, _, rfl⟩, k12'.gr (g13.trans g14), (hp12.gr (g13.trans g14)).mono (by omega) (by omega)⟩
    · rintro e s10 ⟨_, k10, _⟩
      exact k9.trans k10
  intro e10 s10 k10
  refine .on ?_
  simp only [↓wf_nil, ↓wf_cons, ↓wg_asg, ↓wf_par, ↓wf_par3, ↓wg_setF, ↓wg_setI, ↓wf_ex, ↓wf_ret, ↓wf_retN, ↓wf_pass, ↓wf_brk, ↓wf_cnt, ↓wg_ite, ↓wf_for, ↓wp_var, ↓wp_lit, ↓wp_glob, ↓wp_bin, ↓wp_dct, ↓wp_dix, ↓wp_cmpEq, ↓wp_cmpIn, ↓wp_nin, onB_b, ↓wp_cmpNe, ↓wp_neg, ↓wp_cmp, ↓wp_chain, ↓wp_not, ↓wp_and, ↓wp_or, ↓wp_ite, ↓wp_fld, ↓wp_tup, ↓wp_new, ↓wp_callE, ↓wp_meth, ↓wp_make, ↓wp_bi, ↓wp_fold, ↓wp_foldv, ↓wp_append, ↓wp_extend, ↓wp_ix, ↓wp_sl, ↓wp_slk, ↓wp_enil, ↓wp_econs, ↓wp_disp, ↓wp_lrange, ↓wp_lcomp, ↓wp_cnil, ↓wp_ccons, ↓wp_seq, ↓wp_fresh, ↓wp_irange, ↓wp_enum, ↓wp_bind, ↓wp_ok, ↓wp_if, ↓swB_bl, ↓swT_s, ↓onS_s, ↓onO_s, ↓onI_i, ↓onR_r, ↓brB_t, ↓brB_f, ↓brB_n, ↓brB_d, cls_gOf, dct_new, pairsD, keyOf, not_true_eq_false, not_false_eq_true, ixN_30, ixN_31, ixN_32, lst_new, eqD_int, eqD_non_int, fuel_gOf, atI_0, atI_1, atI_2, atI_3, atI_4, putD, List.set_set, List.contains_cons, List.contains_nil, beq_self_eq_true, Bool.or_true, Bool.true_or, Bool.or_false, Bool.false_or, Nat.reduceEqDiff, Nat.reduceLT, Nat.zero_lt_succ, T.put, setAll, wipeE, tru, binD, cmpD, biD, itemsOf, tupOk, fldP, walkP, bnd, isNon, swB_bl, swT_s, onS_s, onO_s, onI_i, onR_r, brB_t, brB_f, brB_n, brB_d, brB_and, brB_or, List.map_cons, List.map_nil, List.cons_append, List.nil_append, List.append_nil, List.replicate, List.getElem?_cons_zero, List.getElem?_cons_succ, List.set_cons_zero, List.set_cons_succ, List.length_cons, List.length_nil, Nat.reduceAdd, Nat.reduceSub, Nat.reduceLeDiff, List.lookup_cons, List.lookup_nil, true_and, and_true, Bool.not_true, Bool.not_false, if_true, if_false, reduceIte, forall_const, Bool.false_eq_true, false_implies, implies_true, true_implies, reduceCtorEq, Nat.reduceBEq, con_MOST_MORE, con_NEAR, con_MOST_REACH, con_MOST_PLACES, con_MOST_BASE, con_LEAST_BASE, con_MOST_FIGURES, con_ZERO, con_UP, con_DOWN, cls_Grid, kl0, A_own_step, A_own_bounds, A_own_tops, A_own_places, A_own_reach, A_own_figures, A_own_base, A_check, C_Grid]
  exact h s10 k10
end
theorem answers : Answers Z 4000000 14 0 63 := by
  intro ns hn
  have goal : wp (call Z 4000000 14 0 [.rol (ns.map D.int)] []) fun d _ => d = .bl true := by
    refine wp_call (r := d_law) (n := 13) rfl rfl ?_
    simp only [d_law, ↓wf_nil, ↓wf_cons, ↓wg_asg, ↓wf_par, ↓wf_par3, ↓wg_setF, ↓wg_setI, ↓wf_ex, ↓wf_ret, ↓wf_retN, ↓wf_pass, ↓wf_brk, ↓wf_cnt, ↓wg_ite, ↓wf_for, ↓wp_var, ↓wp_lit, ↓wp_glob, ↓wp_bin, ↓wp_dct, ↓wp_dix, ↓wp_cmpEq, ↓wp_cmpIn, ↓wp_nin, onB_b, ↓wp_cmpNe, ↓wp_neg, ↓wp_cmp, ↓wp_chain, ↓wp_not, ↓wp_and, ↓wp_or, ↓wp_ite, ↓wp_fld, ↓wp_tup, ↓wp_new, ↓wp_callE, ↓wp_meth, ↓wp_make, ↓wp_bi, ↓wp_fold, ↓wp_foldv, ↓wp_append, ↓wp_extend, ↓wp_ix, ↓wp_sl, ↓wp_slk, ↓wp_enil, ↓wp_econs, ↓wp_disp, ↓wp_lrange, ↓wp_lcomp, ↓wp_cnil, ↓wp_ccons, ↓wp_seq, ↓wp_fresh, ↓wp_irange, ↓wp_enum, ↓wp_bind, ↓wp_ok, ↓wp_if, ↓swB_bl, ↓swT_s, ↓onS_s, ↓onO_s, ↓onI_i, ↓onR_r, ↓brB_t, ↓brB_f, ↓brB_n, ↓brB_d, cls_gOf, dct_new, pairsD, keyOf, not_true_eq_false, not_false_eq_true, ixN_30, ixN_31, ixN_32, lst_new, eqD_int, eqD_non_int, fuel_gOf, atI_0, atI_1, atI_2, atI_3, atI_4, putD, List.set_set, List.contains_cons, List.contains_nil, beq_self_eq_true, Bool.or_true, Bool.true_or, Bool.or_false, Bool.false_or, Nat.reduceEqDiff, Nat.reduceLT, Nat.zero_lt_succ, T.put, setAll, wipeE, tru, binD, cmpD, biD, itemsOf, tupOk, fldP, walkP, bnd, isNon, swB_bl, swT_s, onS_s, onO_s, onI_i, onR_r, brB_t, brB_f, brB_n, brB_d, brB_and, brB_or, List.map_cons, List.map_nil, List.cons_append, List.nil_append, List.append_nil, List.replicate, List.getElem?_cons_zero, List.getElem?_cons_succ, List.set_cons_zero, List.set_cons_succ, List.length_cons, List.length_nil, Nat.reduceAdd, Nat.reduceSub, Nat.reduceLeDiff, List.lookup_cons, List.lookup_nil, true_and, and_true, Bool.not_true, Bool.not_false, if_true, if_false, reduceIte, forall_const, Bool.false_eq_true, false_implies, implies_true, true_implies, reduceCtorEq, Nat.reduceBEq, con_MOST_MORE, con_NEAR, con_MOST_REACH, con_MOST_PLACES, con_MOST_BASE, con_LEAST_BASE, con_MOST_FIGURES, con_ZERO, con_UP, con_DOWN, cls_Grid, kl0, A_own_step, A_own_bounds, A_own_tops, A_own_places, A_own_reach, A_own_figures, A_own_base, A_check, C_Grid]
    refine cells_ok (most := 2) (by omega) fun c c1 c63 hc => ?_
    have hl : lstAt ([] ++ [Cell.lst (rangeI 0 c)]) 0 = some (rangeI 0 c) := rfl
    have sz : 1000 ≤ sizeLine := by decide
    generalize [] ++ [Cell.lst (rangeI 0 c)] = s0 at hl ⊢
    simp only [↓wf_nil, ↓wf_cons, ↓wg_asg, ↓wf_par, ↓wf_par3, ↓wg_setF, ↓wg_setI, ↓wf_ex, ↓wf_ret, ↓wf_retN, ↓wf_pass, ↓wf_brk, ↓wf_cnt, ↓wg_ite, ↓wf_for, ↓wp_var, ↓wp_lit, ↓wp_glob, ↓wp_bin, ↓wp_dct, ↓wp_dix, ↓wp_cmpEq, ↓wp_cmpIn, ↓wp_nin, onB_b, ↓wp_cmpNe, ↓wp_neg, ↓wp_cmp, ↓wp_chain, ↓wp_not, ↓wp_and, ↓wp_or, ↓wp_ite, ↓wp_fld, ↓wp_tup, ↓wp_new, ↓wp_callE, ↓wp_meth, ↓wp_make, ↓wp_bi, ↓wp_fold, ↓wp_foldv, ↓wp_append, ↓wp_extend, ↓wp_ix, ↓wp_sl, ↓wp_slk, ↓wp_enil, ↓wp_econs, ↓wp_disp, ↓wp_lrange, ↓wp_lcomp, ↓wp_cnil, ↓wp_ccons, ↓wp_seq, ↓wp_fresh, ↓wp_irange, ↓wp_enum, ↓wp_bind, ↓wp_ok, ↓wp_if, ↓swB_bl, ↓swT_s, ↓onS_s, ↓onO_s, ↓onI_i, ↓onR_r, ↓brB_t, ↓brB_f, ↓brB_n, ↓brB_d, cls_gOf, dct_new, pairsD, keyOf, not_true_eq_false, not_false_eq_true, ixN_30, ixN_31, ixN_32, lst_new, eqD_int, eqD_non_int, fuel_gOf, atI_0, atI_1, atI_2, atI_3, atI_4, putD, List.set_set, List.contains_cons, List.contains_nil, beq_self_eq_true, Bool.or_true, Bool.true_or, Bool.or_false, Bool.false_or, Nat.reduceEqDiff, Nat.reduceLT, Nat.zero_lt_succ, T.put, setAll, wipeE, tru, binD, cmpD, biD, itemsOf, tupOk, fldP, walkP, bnd, isNon, swB_bl, swT_s, onS_s, onO_s, onI_i, onR_r, brB_t, brB_f, brB_n, brB_d, brB_and, brB_or, List.map_cons, List.map_nil, List.cons_append, List.nil_append, List.append_nil, List.replicate, List.getElem?_cons_zero, List.getElem?_cons_succ, List.set_cons_zero, List.set_cons_succ, List.length_cons, List.length_nil, Nat.reduceAdd, Nat.reduceSub, Nat.reduceLeDiff, List.lookup_cons, List.lookup_nil, true_and, and_true, Bool.not_true, Bool.not_false, if_true, if_false, reduceIte, forall_const, Bool.false_eq_true, false_implies, implies_true, true_implies, reduceCtorEq, Nat.reduceBEq, con_MOST_MORE, con_NEAR, con_MOST_REACH, con_MOST_PLACES, con_MOST_BASE, con_LEAST_BASE, con_MOST_FIGURES, con_ZERO, con_UP, con_DOWN, cls_Grid, kl0, A_own_step, A_own_bounds, A_own_tops, A_own_places, A_own_reach, A_own_figures, A_own_base, A_check, C_Grid, hl]
    refine wp_mapL (f := fun _ => .bl true) hl (by rw [rangeI_len]; show c < 4000000; omega) (by rw [rangeI_len]; omega) ?_ ?_
    · intro d hd s' g
      refine elim1 (rangeI_mem hd) fun i hi => ?_
      rw [hi.2, Int.zero_add]
      refine ⟨_, rfl, ?_⟩
      simp only [↓wf_nil, ↓wf_cons, ↓wg_asg, ↓wf_par, ↓wf_par3, ↓wg_setF, ↓wg_setI, ↓wf_ex, ↓wf_ret, ↓wf_retN, ↓wf_pass, ↓wf_brk, ↓wf_cnt, ↓wg_ite, ↓wf_for, ↓wp_var, ↓wp_lit, ↓wp_glob, ↓wp_bin, ↓wp_dct, ↓wp_dix, ↓wp_cmpEq, ↓wp_cmpIn, ↓wp_nin, onB_b, ↓wp_cmpNe, ↓wp_neg, ↓wp_cmp, ↓wp_chain, ↓wp_not, ↓wp_and, ↓wp_or, ↓wp_ite, ↓wp_fld, ↓wp_tup, ↓wp_new, ↓wp_callE, ↓wp_meth, ↓wp_make, ↓wp_bi, ↓wp_fold, ↓wp_foldv, ↓wp_append, ↓wp_extend, ↓wp_ix, ↓wp_sl, ↓wp_slk, ↓wp_enil, ↓wp_econs, ↓wp_disp, ↓wp_lrange, ↓wp_lcomp, ↓wp_cnil, ↓wp_ccons, ↓wp_seq, ↓wp_fresh, ↓wp_irange, ↓wp_enum, ↓wp_bind, ↓wp_ok, ↓wp_if, ↓swB_bl, ↓swT_s, ↓onS_s, ↓onO_s, ↓onI_i, ↓onR_r, ↓brB_t, ↓brB_f, ↓brB_n, ↓brB_d, cls_gOf, dct_new, pairsD, keyOf, not_true_eq_false, not_false_eq_true, ixN_30, ixN_31, ixN_32, lst_new, eqD_int, eqD_non_int, fuel_gOf, atI_0, atI_1, atI_2, atI_3, atI_4, putD, List.set_set, List.contains_cons, List.contains_nil, beq_self_eq_true, Bool.or_true, Bool.true_or, Bool.or_false, Bool.false_or, Nat.reduceEqDiff, Nat.reduceLT, Nat.zero_lt_succ, T.put, setAll, wipeE, tru, binD, cmpD, biD, itemsOf, tupOk, fldP, walkP, bnd, isNon, swB_bl, swT_s, onS_s, onO_s, onI_i, onR_r, brB_t, brB_f, brB_n, brB_d, brB_and, brB_or, List.map_cons, List.map_nil, List.cons_append, List.nil_append, List.append_nil, List.replicate, List.getElem?_cons_zero, List.getElem?_cons_succ, List.set_cons_zero, List.set_cons_succ, List.length_cons, List.length_nil, Nat.reduceAdd, Nat.reduceSub, Nat.reduceLeDiff, List.lookup_cons, List.lookup_nil, true_and, and_true, Bool.not_true, Bool.not_false, if_true, if_false, reduceIte, forall_const, Bool.false_eq_true, false_implies, implies_true, true_implies, reduceCtorEq, Nat.reduceBEq, con_MOST_MORE, con_NEAR, con_MOST_REACH, con_MOST_PLACES, con_MOST_BASE, con_LEAST_BASE, con_MOST_FIGURES, con_ZERO, con_UP, con_DOWN, cls_Grid, kl0, A_own_step, A_own_bounds, A_own_tops, A_own_places, A_own_reach, A_own_figures, A_own_base, A_check, C_Grid]
      have hi1 := hi.1
      refine pot_ok (hc.imp (fun h => by omega) fun h => ⟨h.1, by omega⟩) (by omega) fun p s1 g1 hp hp0 => ?_
      simp only [↓wf_nil, ↓wf_cons, ↓wg_asg, ↓wf_par, ↓wf_par3, ↓wg_setF, ↓wg_setI, ↓wf_ex, ↓wf_ret, ↓wf_retN, ↓wf_pass, ↓wf_brk, ↓wf_cnt, ↓wg_ite, ↓wf_for, ↓wp_var, ↓wp_lit, ↓wp_glob, ↓wp_bin, ↓wp_dct, ↓wp_dix, ↓wp_cmpEq, ↓wp_cmpIn, ↓wp_nin, onB_b, ↓wp_cmpNe, ↓wp_neg, ↓wp_cmp, ↓wp_chain, ↓wp_not, ↓wp_and, ↓wp_or, ↓wp_ite, ↓wp_fld, ↓wp_tup, ↓wp_new, ↓wp_callE, ↓wp_meth, ↓wp_make, ↓wp_bi, ↓wp_fold, ↓wp_foldv, ↓wp_append, ↓wp_extend, ↓wp_ix, ↓wp_sl, ↓wp_slk, ↓wp_enil, ↓wp_econs, ↓wp_disp, ↓wp_lrange, ↓wp_lcomp, ↓wp_cnil, ↓wp_ccons, ↓wp_seq, ↓wp_fresh, ↓wp_irange, ↓wp_enum, ↓wp_bind, ↓wp_ok, ↓wp_if, ↓swB_bl, ↓swT_s, ↓onS_s, ↓onO_s, ↓onI_i, ↓onR_r, ↓brB_t, ↓brB_f, ↓brB_n, ↓brB_d, cls_gOf, dct_new, pairsD, keyOf, not_true_eq_false, not_false_eq_true, ixN_30, ixN_31, ixN_32, lst_new, eqD_int, eqD_non_int, fuel_gOf, atI_0, atI_1, atI_2, atI_3, atI_4, putD, List.set_set, List.contains_cons, List.contains_nil, beq_self_eq_true, Bool.or_true, Bool.true_or, Bool.or_false, Bool.false_or, Nat.reduceEqDiff, Nat.reduceLT, Nat.zero_lt_succ, T.put, setAll, wipeE, tru, binD, cmpD, biD, itemsOf, tupOk, fldP, walkP, bnd, isNon, swB_bl, swT_s, onS_s, onO_s, onI_i, onR_r, brB_t, brB_f, brB_n, brB_d, brB_and, brB_or, List.map_cons, List.map_nil, List.cons_append, List.nil_append, List.append_nil, List.replicate, List.getElem?_cons_zero, List.getElem?_cons_succ, List.set_cons_zero, List.set_cons_succ, List.length_cons, List.length_nil, Nat.reduceAdd, Nat.reduceSub, Nat.reduceLeDiff, List.lookup_cons, List.lookup_nil, true_and, and_true, Bool.not_true, Bool.not_false, if_true, if_false, reduceIte, forall_const, Bool.false_eq_true, false_implies, implies_true, true_implies, reduceCtorEq, Nat.reduceBEq, con_MOST_MORE, con_NEAR, con_MOST_REACH, con_MOST_PLACES, con_MOST_BASE, con_LEAST_BASE, con_MOST_FIGURES, con_ZERO, con_UP, con_DOWN, cls_Grid, kl0, A_own_step, A_own_bounds, A_own_tops, A_own_places, A_own_reach, A_own_figures, A_own_base, A_check, C_Grid]
      refine right_ok hp0 (by decide +kernel) (by omega) fun s2 k2 => ⟨rfl, Kp.back g1 hp k2⟩
    · intro s' g
      simp only [↓wf_nil, ↓wf_cons, ↓wg_asg, ↓wf_par, ↓wf_par3, ↓wg_setF, ↓wg_setI, ↓wf_ex, ↓wf_ret, ↓wf_retN, ↓wf_pass, ↓wf_brk, ↓wf_cnt, ↓wg_ite, ↓wf_for, ↓wp_var, ↓wp_lit, ↓wp_glob, ↓wp_bin, ↓wp_dct, ↓wp_dix, ↓wp_cmpEq, ↓wp_cmpIn, ↓wp_nin, onB_b, ↓wp_cmpNe, ↓wp_neg, ↓wp_cmp, ↓wp_chain, ↓wp_not, ↓wp_and, ↓wp_or, ↓wp_ite, ↓wp_fld, ↓wp_tup, ↓wp_new, ↓wp_callE, ↓wp_meth, ↓wp_make, ↓wp_bi, ↓wp_fold, ↓wp_foldv, ↓wp_append, ↓wp_extend, ↓wp_ix, ↓wp_sl, ↓wp_slk, ↓wp_enil, ↓wp_econs, ↓wp_disp, ↓wp_lrange, ↓wp_lcomp, ↓wp_cnil, ↓wp_ccons, ↓wp_seq, ↓wp_fresh, ↓wp_irange, ↓wp_enum, ↓wp_bind, ↓wp_ok, ↓wp_if, ↓swB_bl, ↓swT_s, ↓onS_s, ↓onO_s, ↓onI_i, ↓onR_r, ↓brB_t, ↓brB_f, ↓brB_n, ↓brB_d, cls_gOf, dct_new, pairsD, keyOf, not_true_eq_false, not_false_eq_true, ixN_30, ixN_31, ixN_32, lst_new, eqD_int, eqD_non_int, fuel_gOf, atI_0, atI_1, atI_2, atI_3, atI_4, putD, List.set_set, List.contains_cons, List.contains_nil, beq_self_eq_true, Bool.or_true, Bool.true_or, Bool.or_false, Bool.false_or, Nat.reduceEqDiff, Nat.reduceLT, Nat.zero_lt_succ, T.put, setAll, wipeE, tru, binD, cmpD, biD, itemsOf, tupOk, fldP, walkP, bnd, isNon, swB_bl, swT_s, onS_s, onO_s, onI_i, onR_r, brB_t, brB_f, brB_n, brB_d, brB_and, brB_or, List.map_cons, List.map_nil, List.cons_append, List.nil_append, List.append_nil, List.replicate, List.getElem?_cons_zero, List.getElem?_cons_succ, List.set_cons_zero, List.set_cons_succ, List.length_cons, List.length_nil, Nat.reduceAdd, Nat.reduceSub, Nat.reduceLeDiff, List.lookup_cons, List.lookup_nil, true_and, and_true, Bool.not_true, Bool.not_false, if_true, if_false, reduceIte, forall_const, Bool.false_eq_true, false_implies, implies_true, true_implies, reduceCtorEq, Nat.reduceBEq, con_MOST_MORE, con_NEAR, con_MOST_REACH, con_MOST_PLACES, con_MOST_BASE, con_LEAST_BASE, con_MOST_FIGURES, con_ZERO, con_UP, con_DOWN, cls_Grid, kl0, A_own_step, A_own_bounds, A_own_tops, A_own_places, A_own_reach, A_own_figures, A_own_base, A_check, C_Grid, foldD]
      rw [allBl_map (fun _ => true)]
      simp [wp]
  obtain ⟨d, s, e, rfl⟩ := wp_get goal
  unfold call at e
  exact ⟨s, e⟩
end Pv
end
open PySem PySem.W PyProof.Rows in
set_option maxRecDepth 100000 in
set_option maxHeartbeats 0 in
theorem PySem.Challenge.cw_roundedsteps_k02_whole_sums_and_what_is_holds : PySem.Challenge.rw_roundedsteps_k02_whole_sums_and_what_is.Holds := by
  w_on; o_law; k_head; (case hw => w_witness2)
  k_fill
  refine Pv.walk (l := PySem.Challenge.rw_roundedsteps_k02_whole_sums_and_what_is) (Z := Pv.Z) (st := Pv.st) (lr := Pv.d_law) (fuel := 4000000) (n := 14) (lawf := 0) (most := 63) rfl (by decide) rfl ⟨rfl, by decide, by decide⟩ (fun w h Y => PySem.W.kIn_of Y) rfl rfl Pv.answers rfl ?F
  case F =>
    intro w mg fa h KX G hmg
    refine' Pv.has KX G hmg ?fact_nc0 ?fact_pg0 ?fact_hd0 ?fact_po0 ?fact_sa0 ?fact_mk0 ?fact_kc0 ?fact_n0_own_base ?fact_n0_own_figures ?fact_n0_own_reach ?fact_n0_own_places ?fact_n0_own_bounds ?fact_n0_own_tops ?fact_n0_own_step ?fact_g0 ?fact_l0 ?fact_c0 ?fact_k0 ?fact_g1 ?fact_l1 ?fact_c1 ?fact_k1 ?fact_g2 ?fact_l2 ?fact_c2 ?fact_k2 ?fact_g3 ?fact_l3 ?fact_c3 ?fact_k3 ?fact_g4 ?fact_l4 ?fact_c4 ?fact_k4 ?fact_g5 ?fact_l5 ?fact_c5 ?fact_k5 ?fact_m6 ?fact_i6 ?fact_l6 ?fact_c6 ?fact_k6 ?fact_g7 ?fact_l7 ?fact_c7 ?fact_k7 ?fact_g8 ?fact_l8 ?fact_c8 ?fact_k8 ?fact_g9 ?fact_l9 ?fact_c9 ?fact_k9 ?fact_g10 ?fact_l10 ?fact_c10 ?fact_k10 ?fact_g11 ?fact_l11 ?fact_c11 ?fact_k11 ?fact_g12 ?fact_l12 ?fact_c12 ?fact_k12 ?fact_g13 ?fact_l13 ?fact_c13 ?fact_k13 ?fact_g14 ?fact_l14 ?fact_c14 ?fact_k14 ?fact_g15 ?fact_l15 ?fact_c15 ?fact_k15 ?fact_g16 ?fact_l16 ?fact_c16 ?fact_k16 ?fact_g17 ?fact_l17 ?fact_c17 ?fact_k17 ?fact_g18 ?fact_l18 ?fact_c18 ?fact_k18 ?fact_g19 ?fact_l19 ?fact_c19 ?fact_k19 ?fact_g20 ?fact_l20 ?fact_c20 ?fact_k20 ?fact_g21 ?fact_l21 ?fact_c21 ?fact_k21 ?fact_g22 ?fact_l22 ?fact_c22 ?fact_k22 ?fact_g23 ?fact_l23 ?fact_c23 ?fact_k23 ?fact_g24 ?fact_l24 ?fact_c24 ?fact_k24 ?fact_g25 ?fact_l25 ?fact_c25 ?fact_k25 ?fact_m26 ?fact_i26 ?fact_l26 ?fact_c26 ?fact_k26 ?fact_m27 ?fact_i27 ?fact_l27 ?fact_c27 ?fact_k27 ?fact_z_abs ?fact_z_max ?fact_z_min ?fact_z_int ?fact_z_bool ?fact_z_str ?fact_z_divmod ?fact_z_repr ?fact_z_isinstance ?fact_z_all ?fact_z_any ?fact_z_sum ?fact_z_len ?fact_z_tuple ?fact_z_list ?fact_z_sorted ?fact_z_range ?fact_z_enumerate ?fact_z_zip ?fact_v0 ?fact_v1 ?fact_v2 ?fact_v3 ?fact_v4 ?fact_v5 ?fact_v6 ?fact_v7 ?fact_v8 ?fact_v9
    (case fact_nc0 => k_is)
    (case fact_pg0 => k_is)
    (case fact_hd0 => k_is)
    (case fact_po0 => k_is)
    (case fact_sa0 => k_is)
    (case fact_mk0 => k_is)
    (case fact_kc0 => k_is)
    (case fact_n0_own_base => k_is)
    (case fact_n0_own_figures => k_is)
    (case fact_n0_own_reach => k_is)
    (case fact_n0_own_places => k_is)
    (case fact_n0_own_bounds => k_is)
    (case fact_n0_own_tops => k_is)
    (case fact_n0_own_step => k_is)
    (case fact_g0 => k_is)
    (case fact_l0 => k_is)
    (case fact_c0 => k_is)
    (case fact_k0 => k_is)
    (case fact_g1 => k_is)
    (case fact_l1 => k_is)
    (case fact_c1 => k_is)
    (case fact_k1 => k_is)
    (case fact_g2 => k_is)
    (case fact_l2 => k_is)
    (case fact_c2 => k_is)
    (case fact_k2 => k_is)
    (case fact_g3 => k_is)
    (case fact_l3 => k_is)
    (case fact_c3 => k_is)
    (case fact_k3 => k_is)
    (case fact_g4 => k_is)
    (case fact_l4 => k_is)
    (case fact_c4 => k_is)
    (case fact_k4 => k_is)
    (case fact_g5 => k_is)
    (case fact_l5 => k_is)
    (case fact_c5 => k_is)
    (case fact_k5 => k_is)
    (case fact_m6 => k_is)
    (case fact_i6 => k_is)
    (case fact_l6 => k_is)
    (case fact_c6 => k_is)
    (case fact_k6 => k_is)
    (case fact_g7 => k_is)
    (case fact_l7 => k_is)
    (case fact_c7 => k_is)
    (case fact_k7 => k_is)
    (case fact_g8 => k_is)
    (case fact_l8 => k_is)
    (case fact_c8 => k_is)
    (case fact_k8 => k_is)
    (case fact_g9 => k_is)
    (case fact_l9 => k_is)
    (case fact_c9 => k_is)
    (case fact_k9 => k_is)
    (case fact_g10 => k_is)
    (case fact_l10 => k_is)
    (case fact_c10 => k_is)
    (case fact_k10 => k_is)
    (case fact_g11 => k_is)
    (case fact_l11 => k_is)
    (case fact_c11 => k_is)
    (case fact_k11 => k_is)
    (case fact_g12 => k_is)
    (case fact_l12 => k_is)
    (case fact_c12 => k_is)
    (case fact_k12 => k_is)
    (case fact_g13 => k_is)
    (case fact_l13 => k_is)
    (case fact_c13 => k_is)
    (case fact_k13 => k_is)
    (case fact_g14 => k_is)
    (case fact_l14 => k_is)
    (case fact_c14 => k_is)
    (case fact_k14 => k_is)
    (case fact_g15 => k_is)
    (case fact_l15 => k_is)
    (case fact_c15 => k_is)
    (case fact_k15 => k_is)
    (case fact_g16 => k_is)
    (case fact_l16 => k_is)
    (case fact_c16 => k_is)
    (case fact_k16 => k_is)
    (case fact_g17 => k_is)
    (case fact_l17 => k_is)
    (case fact_c17 => k_is)
    (case fact_k17 => k_is)
    (case fact_g18 => k_is)
    (case fact_l18 => k_is)
    (case fact_c18 => k_is)
    (case fact_k18 => k_is)
    (case fact_g19 => k_is)
    (case fact_l19 => k_is)
    (case fact_c19 => k_is)
    (case fact_k19 => k_is)
    (case fact_g20 => k_is)
    (case fact_l20 => k_is)
    (case fact_c20 => k_is)
    (case fact_k20 => k_is)
    (case fact_g21 => k_is)
    (case fact_l21 => k_is)
    (case fact_c21 => k_is)
    (case fact_k21 => k_is)
    (case fact_g22 => k_is)
    (case fact_l22 => k_is)
    (case fact_c22 => k_is)
    (case fact_k22 => k_is)
    (case fact_g23 => k_is)
    (case fact_l23 => k_is)
    (case fact_c23 => k_is)
    (case fact_k23 => k_is)
    (case fact_g24 => k_is)
    (case fact_l24 => k_is)
    (case fact_c24 => k_is)
    (case fact_k24 => k_is)
    (case fact_g25 => k_is)
    (case fact_l25 => k_is)
    (case fact_c25 => k_is)
    (case fact_k25 => k_is)
    (case fact_m26 => k_is)
    (case fact_i26 => k_is)
    (case fact_l26 => k_is)
    (case fact_c26 => k_is)
    (case fact_k26 => k_is)
    (case fact_m27 => k_is)
    (case fact_i27 => k_is)
    (case fact_l27 => k_is)
    (case fact_c27 => k_is)
    (case fact_k27 => k_is)
    (case fact_z_abs => k_is)
    (case fact_z_max => k_is)
    (case fact_z_min => k_is)
    (case fact_z_int => k_is)
    (case fact_z_bool => k_is)
    (case fact_z_str => k_is)
    (case fact_z_divmod => k_is)
    (case fact_z_repr => k_is)
    (case fact_z_isinstance => k_is)
    (case fact_z_all => k_is)
    (case fact_z_any => k_is)
    (case fact_z_sum => k_is)
    (case fact_z_len => k_is)
    (case fact_z_tuple => k_is)
    (case fact_z_list => k_is)
    (case fact_z_sorted => k_is)
    (case fact_z_range => k_is)
    (case fact_z_enumerate => k_is)
    (case fact_z_zip => k_is)
    (case fact_v0 => k_is)
    (case fact_v1 => k_is)
    (case fact_v2 => k_is)
    (case fact_v3 => k_is)
    (case fact_v4 => k_is)
    (case fact_v5 => k_is)
    (case fact_v6 => k_is)
    (case fact_v7 => k_is)
    (case fact_v8 => k_is)
    (case fact_v9 => k_is)
