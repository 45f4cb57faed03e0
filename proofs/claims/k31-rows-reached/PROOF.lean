import PyProof.Rows.All
import Wide.All
import OpenK.AllK
import Wide.FinOn
import HandS.ForMost
import KE.SortData
import HandS.Flow
import HandS.Conv
import HandS.Rev
import HandS.Zip
import HandS.TupAny
import HandS.TupMul
import HandS.IsInst
import HandS.ForExc
import HandS.Strs
import HandS.Defaults
import HandS.Wide
import HandS.Style
import PyProof.Rows.ListMulArg
import HandS.Flt
import HandS.ExcOwn
import HandS.WordsExc
import HandS.Walk
import HandS.TryOnly
import KE.GoesNew
import HandS.More
import HandS.Dict
import HandS.SetFor
import HandS.Ends
import HandS.TupSets
import PyProof.AutoSeq1
import HandS.SortInts
import HandS.Star
import HandS.TryMany
import HandS.ExcField
import KE.KExcSuper
import HandS.ExcInit
import HandS.Call
import HandS.CallLocal
import HandS.Iter
import PyProof.P3In
import KE.KDictPairs
import PySem.Challenge.RW_everycase_k31_rows_reached
import HandS.Text
import PyProof.StrLawsIn
import PyProof.ReprBulk
import PyProof.FitsInt
set_option Elab.async false
set_option linter.all false
set_option maxRecDepth 100000
set_option maxHeartbeats 4000000
namespace EC
open PySem

/-! ### values, store, results -/
inductive D where
  | p (x : PyData)
  | ref (i : Nat)
  | tup (ds : List D)
  | fn (k : Nat)
  deriving Inhabited
inductive Ob where
  | lst (ds : List D)
  | ins (c : Nat) (fs : List (Str × D))
  | dct (ks : List Str) (ds : List D)
  | dci (ks : List Int) (ds : List D)
  deriving Inhabited
abbrev Store := List Ob
structure Exc where
  cls : Nat
  arg : Option (Str × D)
inductive Out (α : Type) where
  | ok (a : α) (S : Store)
  | exc (e : Exc) (S : Store)
  | bad
def Out.bind {α β : Type} (m : Out α) (k : α → Store → Out β) : Out β := match m with
  | .ok a S => k a S
  | .exc e S => .exc e S
  | .bad => .bad
def Out.of {α : Type} (o : Option α) (S : Store) : Out α := match o with
  | some a => .ok a S
  | none => .bad
@[simp] theorem bind_ok {α β : Type} (a : α) (S : Store) (k : α → Store → Out β) : (Out.ok a S).bind k = k a S := rfl
@[simp] theorem bind_exc {α β : Type} (e : Exc) (S : Store) (k : α → Store → Out β) : (Out.exc e S : Out α).bind k = .exc e S := rfl
@[simp] theorem bind_bad {α β : Type} (k : α → Store → Out β) : (Out.bad : Out α).bind k = .bad := rfl
@[simp] theorem of_some {α : Type} (a : α) (S : Store) : Out.of (some a) S = .ok a S := rfl
@[simp] theorem of_none {α : Type} (S : Store) : (Out.of none S : Out α) = .bad := rfl
theorem bind_assoc {α β γ : Type} (m : Out α) (k : α → Store → Out β) (l : β → Store → Out γ) : (m.bind k).bind l = m.bind fun a S => (k a S).bind l := by cases m <;> rfl

inductive Slot where
  | un
  | v (d : D)
  | own (xs : List PyData)
  deriving Inhabited
abbrev Env := List Slot

/-! ### the syntax -/
inductive Ty where | int | bool | str | tuple | list | ne
  deriving DecidableEq
/-- what takes values and gives a value: neither changes the store nor raises -/
inductive Pr where
  | add | sub | mul | fdiv | mod | pow | neg | cat
  | eq | ne | lt | le | gt | ge | isN | notN | isT | isF | mem | nmem | memr
  | len | int | str | idx | slice (lo hi : Bool) | isi (ts : List Ty) | tuple | list | revs
  | all | any | sum | min | max | minL | maxL | abs | join | repr | get | dget | lenset | sortset | sorted | tuprev | lstrng | memD | nmemD | memK | nmemK | tupr
  deriving DecidableEq
/-- what walks -/
inductive Ik where | sq | zip | enum | rng | rev
  deriving DecidableEq
/-- what changes the store -/
inductive Ef where | pop | popAt | append | newl | mkt | mkl
  deriving DecidableEq
inductive Tg where
  | nm (i : Nat)
  | tup (ts : List Tg)
inductive E where
  | v (i : Nat)
  | c (x : PyData)
  | g (k : Nat)
  | pr (o : Pr) (es : List E)
  | ef (o : Ef) (es : List E)
  | call (f : Nat) (pm : List Nat) (es : List E)
  | and (a b : E)
  | or (a b : E)
  | not (a : E)
  | ite (c a b : E)
  | chain (o1 o2 : Pr) (a b c : E)
  | comp (t : Tg) (k : Ik) (es : List E) (cs : List E) (e : E)
  | keep (e : E)
  | gget (k : Nat) (e : E)
  | ggetN (k : Nat) (e : E)
  | app (o e : E)
  | popE (o e : E)
  | disp (ks : List Str) (vs : List E) (key d : E)
  | gmem (k : Nat) (e : E)
  | pick (i j : Nat) (ix : E) (es : List E)
  | fld (c : Nat) (e : E) (f : Str)
  | meth (c : Nat) (m : Str) (f : Nat) (e : E) (es : List E)
  | make (c f : Nat) (es : List E)
  | newd (ks : List Str) (vs : List E)
  | newdi (k v : E)
  | newdp (es : List E)
  | dsub (e k : E)
  | dgetv (e k d : E)
  | din (k e : E)
  | fnv (k : Nat)
  | vcall (i : Nat) (ks : List Nat) (es : List E)
/-- an except clause: for each class of the text whether it is taken; the name that it sets (none: it returns); the value: 0 a constant, 1 the error's field, 2 (constant, field), 3 [constant, field]; the field's name -/
structure Hn where
  subs : List Bool
  j : Option Nat
  how : Nat
  pre : PyData
  fld : Str
inductive S where
  | asg (t : Tg) (e : E)
  | ex (e : E)
  | ret (e : E)
  | ifs (c : E) (a b : List S)
  | for_ (t : Tg) (k : Ik) (es : List E) (b : List S)
  | while_ (n : Nat) (c : E) (b : List S)
  | par (i j : Nat) (a b : E)
  | parO (i j : Nat) (a b : E)
  | par3O (i j l : Nat) (a b c : E)
  | parF (bs : List Bool) (is : List Nat) (es : List E)
  | seti (o i e : E)
  | setf (c : Nat) (o : E) (f : Str) (e : E)
  | setd (o k e : E)
  | own (i : Nat) (e : E)
  | oapp (i : Nat) (e : E)
  | oext (i : Nat) (e : E)
  | oaug (i : Nat) (e : E)
  | frz (i : Nat)
  | pass
  | cont
  | raise (c : Nat) (es : List E)
  | raisf (c : Nat) (f : Str) (e : E)
  | try_ (b : List S) (hs : List Hn)

/-! ### pure helpers -/
def pures : List D → Option (List PyData)
  | [] => some []
  | .p x :: r => (pures r).map (x :: ·)
  | _ :: _ => none
@[simp] theorem pures_nil : pures [] = some [] := rfl
@[simp] theorem pures_cons (x : PyData) (r : List D) : pures (.p x :: r) = (pures r).map (x :: ·) := rfl
@[simp] theorem pures_map (xs : List PyData) : pures (xs.map .p) = some xs := by induction xs <;> simp_all
def fitsL (n : Nat) : Bool := decide (n ≤ 16777216)
def mulOk (i j : Int) : Bool := decide ((-(2 ^ 64) < i ∧ i < 2 ^ 64) ∨ (-(2 ^ 64) < j ∧ j < 2 ^ 64))
def cut {α : Type} (xs : List α) (lo hi : Option Int) : List α := (xs.drop (HT.sIx xs.length 0 lo)).take (HT.sIx xs.length xs.length hi - HT.sIx xs.length 0 lo)
def chr (c : Nat) : PyData := .str ⟨#[c]⟩
def truth (S : Store) : D → Option Bool
  | .p .none => some false
  | .p (.bool b) => some b
  | .p (.int i) => some (i != 0)
  | .p (.str x) => if fitsL x.length then some (x.length != 0) else none
  | .p (.list xs) => some (!xs.isEmpty)
  | .p (.tuple xs) => some (!xs.isEmpty)
  | .ref i => match S[i]? with
    | some (.lst ds) => some (!ds.isEmpty)
    | _ => none
  | _ => none
/-- a store's list as data -/
def toP (S : Store) : D → Option PyData
  | .p x => some x
  | .ref i => match S[i]? with
    | some (.lst ds) => (pures ds).map .list
    | _ => none
  | _ => none
def isTy : Ty → PyData → Bool
  | .int, .int _ => true
  | .int, .bool _ => true
  | .bool, .bool _ => true
  | .str, .str _ => true
  | .tuple, .tuple _ => true
  | .list, .list _ => true
  | _, _ => false
def strsOf : List PyData → Option (List Str)
  | [] => some []
  | .str x :: r => (strsOf r).map (x :: ·)
  | _ :: _ => none
def intsOf : List PyData → Option (List Int)
  | [] => some []
  | .int x :: r => (intsOf r).map (x :: ·)
  | _ :: _ => none
def boolsOf : List PyData → Option (List Bool)
  | [] => some []
  | .bool x :: r => (boolsOf r).map (x :: ·)
  | _ :: _ => none
def strLt (x y : Str) : Bool := decide (x.cps.toList < y.cps.toList)
def sc : PyData → Bool
  | .none => true
  | .bool _ => true
  | .int _ => true
  | .str _ => true
  | _ => false
def eqOk (a b : PyData) : Bool := (sc a && sc b) || (a.canLay0 && b.canLay0 && decide (min a.depth b.depth ≤ 64))
def flat : PyData → Bool
  | .none => true
  | .bool _ => true
  | .int _ => true
  | .str _ => true
  | _ => false
def items1 (S : Store) : D → Option (List D)
  | .p (.list xs) => some (xs.map .p)
  | .p (.tuple xs) => some (xs.map .p)
  | .p (.str x) => some (x.cps.toList.map fun c => .p (chr c))
  | _ => none

def isNP : PyData → Bool
  | .none => true
  | _ => false
def isBlP (b : Bool) : PyData → Bool
  | .bool c => c == b
  | _ => false
@[simp] theorem isNP_none : isNP .none = true := rfl
@[simp] theorem isNP_bool (b) : isNP (.bool b) = false := rfl
@[simp] theorem isNP_int (b) : isNP (.int b) = false := rfl
@[simp] theorem isNP_str (b) : isNP (.str b) = false := rfl
@[simp] theorem isNP_list (b) : isNP (.list b) = false := rfl
@[simp] theorem isNP_tuple (b) : isNP (.tuple b) = false := rfl
@[simp] theorem isNP_dict (b) : isNP (.dict b) = false := rfl
@[simp] theorem isBlP_none (c) : isBlP c .none = false := rfl
@[simp] theorem isBlP_bool (c b) : isBlP c (.bool b) = (b == c) := rfl
@[simp] theorem isBlP_int (c b) : isBlP c (.int b) = false := rfl
@[simp] theorem isBlP_str (c b) : isBlP c (.str b) = false := rfl
@[simp] theorem isBlP_list (c b) : isBlP c (.list b) = false := rfl
@[simp] theorem isBlP_tuple (c b) : isBlP c (.tuple b) = false := rfl
@[simp] theorem isBlP_dict (c b) : isBlP c (.dict b) = false := rfl
def p_add : List D → Option D
  | [.p (.int i), .p (.int j)] => some (.p (.int (i + j)))
  | [.p (.str x), .p (.str y)] => if fitsL (x.length + y.length) then some (.p (.str (x ++ y))) else none
  | [.p (.list x), .p (.list y)] => if fitsL (x.length + y.length) then some (.p (.list (x ++ y))) else none
  | [.p (.tuple x), .p (.tuple y)] => if fitsL (x.length + y.length) then some (.p (.tuple (x ++ y))) else none
  | _ => none
def p_sub : List D → Option D
  | [.p (.int i), .p (.int j)] => some (.p (.int (i - j)))
  | _ => none
def p_mul : List D → Option D
  | [.p (.int i), .p (.int j)] => if mulOk i j then some (.p (.int (i * j))) else none
  | [.p (.str x), .p (.int n)] => if decide (2 ≤ n ∧ n ≤ 1000 ∧ 1 ≤ x.length ∧ x.length ≤ 1000) then some (.p (.str ⟨(List.replicate n.toNat x.cps).foldl (· ++ ·) #[]⟩)) else none
  | [.p (.tuple x), .p (.int n)] => if decide (2 ≤ n ∧ n ≤ 1000 ∧ 1 ≤ x.length ∧ x.length ≤ 1000) then some (.p (.tuple (List.replicate n.toNat x).flatten)) else none
  | [.p (.list x), .p (.int n)] => if decide (0 ≤ n ∧ n ≤ 1000 ∧ x.length ≤ 1000) then some (.p (.list (List.replicate n.toNat x).flatten)) else none
  | _ => none
def p_fdiv : List D → Option D
  | [.p (.int i), .p (.int j)] => if decide (0 < j ∧ j.natAbs.log2 < 9000) then some (.p (.int (i / j))) else none
  | _ => none
def p_mod : List D → Option D
  | [.p (.int i), .p (.int j)] => if decide (0 < j) then some (.p (.int (i % j))) else none
  | _ => none
def p_pow : List D → Option D
  | [.p (.int i), .p (.int j)] => if decide (0 ≤ j ∧ j ≤ 1000000 ∧ i.natAbs < 2 ^ 64) then some (.p (.int (i ^ j.toNat))) else none
  | _ => none
def p_neg : List D → Option D
  | [.p (.int i)] => some (.p (.int (-i)))
  | _ => none
def p_eq (S : Store) : List D → Option D
  | [x, y] => match toP S x, toP S y with
    | some a, some b => if eqOk a b then some (.p (.bool (PyData.eqv a b))) else none
    | _, _ => none
  | _ => none
def p_ne (S : Store) : List D → Option D
  | [x, y] => match toP S x, toP S y with
    | some a, some b => if eqOk a b then some (.p (.bool (!PyData.eqv a b))) else none
    | _, _ => none
  | _ => none
def p_lt : List D → Option D
  | [.p (.int i), .p (.int j)] => some (.p (.bool (decide (i < j))))
  | [.p (.str x), .p (.str y)] => some (.p (.bool (strLt x y)))
  | _ => none
def p_le : List D → Option D
  | [.p (.int i), .p (.int j)] => some (.p (.bool (decide (i ≤ j))))
  | [.p (.str x), .p (.str y)] => some (.p (.bool (!strLt y x)))
  | _ => none
def p_gt : List D → Option D
  | [.p (.int i), .p (.int j)] => some (.p (.bool (decide (j < i))))
  | _ => none
def p_ge : List D → Option D
  | [.p (.int i), .p (.int j)] => some (.p (.bool (decide (j ≤ i))))
  | _ => none
def p_isN : List D → Option D
  | [.p x] => some (.p (.bool (isNP x)))
  | _ => none
def p_notN : List D → Option D
  | [.p x] => some (.p (.bool (!isNP x)))
  | _ => none
def p_mem : List D → Option D
  | [.p x, .p (.list xs)] => if flat x && xs.all flat then some (.p (.bool (xs.any fun y => PyData.eqv y x))) else none
  | [.p x, .p (.tuple xs)] => if flat x && xs.all flat then some (.p (.bool (xs.any fun y => PyData.eqv y x))) else none
  | [.p (.str x), .p (.str y)] => some (.p (.bool (!(Builtin.Str.occurrences y x 0 y.length 1).isEmpty)))
  | _ => none
def p_memr (S : Store) : List D → Option D
  | [.p x, .ref i] => match S[i]? with
    | some (.lst ds) => match pures ds with
      | some xs => if flat x && xs.all flat then some (.p (.bool (xs.any fun y => PyData.eqv y x))) else none
      | none => none
    | _ => none
  | _ => none
/-- whether a text is a key of a dict of the store -/
def p_memK (S : Store) : List D → Option D
  | [.p (.str x), .ref i] => match S[i]? with
    | some (.dct ks _) => some (.p (.bool (decide (x ∈ ks))))
    | _ => none
  | [.p (.int x), .ref i] => match S[i]? with
    | some (.dci ks _) => some (.p (.bool (decide (x ∈ ks))))
    | _ => none
  | _ => none
def p_nmemK (S : Store) : List D → Option D
  | [.p (.str x), .ref i] => match S[i]? with
    | some (.dct ks _) => some (.p (.bool (!decide (x ∈ ks))))
    | _ => none
  | [.p (.int x), .ref i] => match S[i]? with
    | some (.dci ks _) => some (.p (.bool (!decide (x ∈ ks))))
    | _ => none
  | _ => none
def p_nmem : List D → Option D
  | [.p x, .p (.list xs)] => if flat x && xs.all flat then some (.p (.bool (!(xs.any fun y => PyData.eqv y x)))) else none
  | [.p x, .p (.tuple xs)] => if flat x && xs.all flat then some (.p (.bool (!(xs.any fun y => PyData.eqv y x)))) else none
  | [.p (.str x), .p (.str y)] => some (.p (.bool (!(!(Builtin.Str.occurrences y x 0 y.length 1).isEmpty))))
  | _ => none
def p_len (S : Store) : List D → Option D
  | [.p (.str x)] => if fitsL x.length then some (.p (.int x.length)) else none
  | [.p (.list xs)] => some (.p (.int xs.length))
  | [.p (.tuple xs)] => some (.p (.int xs.length))
  | [.ref i] => match S[i]? with
    | some (.lst ds) => some (.p (.int ds.length))
    | _ => none
  | _ => none
def p_int : List D → Option D
  | [.p (.int i)] => some (.p (.int i))
  | [.p (.bool b)] => some (.p (.int (if b then 1 else 0)))
  | _ => none
def p_str : List D → Option D
  | [.p (.int i)] => if decide (i.natAbs.log2 < 1920) then some (.p (.str (Str.ofString (toString i)))) else none
  | _ => none
def p_idx (S : Store) : List D → Option D
  | [.p (.list xs), .p (.int i)] => (L2.atI xs i).map .p
  | [.p (.tuple xs), .p (.int i)] => (L2.atI xs i).map .p
  | [.p (.str x), .p (.int i)] => if fitsL x.length then (L2.atI x.cps.toList i).map fun c => .p (chr c) else none
  | [.ref k, .p (.int i)] => match S[k]? with
    | some (.lst ds) => L2.atI ds i
    | _ => none
  | _ => none
def cutD : D → Option Int → Option Int → Option D
  | .p (.list xs), lo, hi => some (.p (.list (cut xs lo hi)))
  | .p (.tuple xs), lo, hi => some (.p (.tuple (cut xs lo hi)))
  | .p (.str x), lo, hi => if fitsL x.length then some (.p (.str ⟨(cut x.cps.toList lo hi).toArray⟩)) else none
  | _, _, _ => none
def p_slice : Bool → Bool → List D → Option D
  | true, true, [x, .p (.int l), .p (.int h)] => cutD x (some l) (some h)
  | true, false, [x, .p (.int l)] => cutD x (some l) none
  | false, true, [x, .p (.int h)] => cutD x none (some h)
  | false, false, [x] => cutD x none none
  | _, _, _ => none
def p_isi (S : Store) (ts : List Ty) : List D → Option D
  | [.p x] => some (.p (.bool (ts.any fun t => isTy t x)))
  | [.ref i] => match S[i]? with
    | some (.lst _) => some (.p (.bool (ts.contains .list)))
    | _ => none
  | _ => none
def p_tuple : List D → Option D
  | [.p (.list xs)] => some (.p (.tuple xs))
  | [.p (.tuple xs)] => some (.p (.tuple xs))
  | _ => none
/-- tuple(x) of a list of the store -/
def p_tupr (S : Store) : List D → Option D
  | [.ref i] => match S[i]? with
    | some (.lst ds) => (pures ds).map fun xs => .p (.tuple xs)
    | _ => none
  | _ => none
def p_list : List D → Option D
  | [.p (.list xs)] => some (.p (.list xs))
  | [.p (.tuple xs)] => some (.p (.list xs))
  | _ => none
def p_all : List D → Option D
  | [.p (.list xs)] => (boolsOf xs).map fun bs => .p (.bool (bs.all id))
  | _ => none
def p_any : List D → Option D
  | [.p (.list xs)] => (boolsOf xs).map fun bs => .p (.bool (bs.any id))
  | _ => none
def p_sum : List D → Option D
  | [.p (.list xs)] => (intsOf xs).map fun ns => .p (.int ns.sum)
  | _ => none
def min2I (i j : Int) : Int := if j < i then j else i
def p_cat : List D → Option D
  | [.p (.list x), .p (.list y)] => if fitsL (x.length + y.length) then some (.p (.list (x ++ y))) else none
  | _ => none
def p_min : List D → Option D
  | [.p (.int i), .p (.int j)] => some (.p (.int (if j < i then j else i)))
  | [.p (.int i), .p (.int j), .p (.int k)] => some (.p (.int (min2I (min2I i j) k)))
  | _ => none
def p_max : List D → Option D
  | [.p (.int i), .p (.int j)] => some (.p (.int (if j > i then j else i)))
  | _ => none
def p_abs : List D → Option D
  | [.p (.int i)] => some (.p (.int (if i < 0 then -i else i)))
  | _ => none
def p_join : List D → Option D
  | [.p (.str a), .p (.list xs)] => match strsOf xs with
    | some ys => if decide ((ys.map (·.length)).sum + ys.length * a.length ≤ 16777216) then some (.p (.str (Txt.join a ys))) else none
    | none => none
  | _ => none
def reprOk (x : PyData) : Bool := x.showable && !x.hasDict && decide (x.depth ≤ 60) && decide (x.shown.length ≤ 16777216)
def p_repr : List D → Option D
  | [.p (.list x)] => if reprOk (.list x) then some (.p (.str (PyData.list x).shown)) else none
  | [.p (.tuple x)] => if reprOk (.tuple x) then some (.p (.str (PyData.tuple x).shown)) else none
  | _ => none
def p_isT : List D → Option D
  | [.p x] => some (.p (.bool (isBlP true x)))
  | _ => none
def p_isF : List D → Option D
  | [.p x] => some (.p (.bool (isBlP false x)))
  | _ => none
def p_mkt : List D → Option D
  | ds => if fitsL ds.length then (match pures ds with
    | some xs => some (.p (.tuple xs))
    | none => some (.tup ds)) else none
def p_mkl : List D → Option D
  | ds => if fitsL ds.length then (pures ds).map fun xs => .p (.list xs) else none
/-- how many unlike texts among the first n -/
def num (xs : List Str) : Nat → Nat
  | 0 => 0
  | n + 1 => match xs[n]? with
    | some x => if x ∈ xs.take n then num xs n else num xs n + 1
    | none => num xs n
def lensetS (xs : List PyData) : Option D := match strsOf xs with
  | some ys => if decide (ys.length ≤ 4000) then some (.p (.int (num ys ys.length))) else none
  | none => none
def p_lenset : List D → Option D
  | [.p (.list xs)] => lensetS xs
  | [.p (.tuple xs)] => lensetS xs
  | _ => none
/-- the texts, each once, as they are met first -/
def ddN (xs : List Str) : Nat → List Str
  | 0 => []
  | n + 1 => match xs[n]? with
    | some x => if x ∈ xs.take n then ddN xs n else ddN xs n ++ [x]
    | none => ddN xs n
def ascD (ns : List Int) : List Int := (List.range 60).filterMap fun (k : Nat) => if (k : Int) ∈ ns then some (k : Int) else none
def sortS (ss : List Str) : List Str := ss.mergeSort fun a b => !decide (b.cps.toList < a.cps.toList)
def p_sortset : List D → Option D
  | [.p (.list xs)] => match intsOf xs with
    | some ns => if decide (ns.length ≤ 4000) && ns.all (fun n => decide (0 ≤ n ∧ n < 60)) then some (.p (.list ((ascD ns).map .int))) else none
    | none => match strsOf xs with
      | some ss => if decide (ss.length < 64) then some (.p (.list ((sortS (ddN ss ss.length)).map .str))) else none
      | none => none
  | _ => none
def p_tuprev : List D → Option D
  | [.p (.list xs)] => some (.p (.tuple xs.reverse))
  | _ => none
def p_revs : List D → Option D
  | [.p (.tuple xs)] => some (.p (.tuple xs.reverse))
  | _ => none
def p_lstrng : List D → Option D
  | [.p (.int n)] => if decide (-1000000 ≤ n ∧ n ≤ 1000000) then some (.p (.list ((List.range n.toNat).map fun (k : Nat) => PyData.int (k : Int)))) else none
  | [.p (.int a), .p (.int b)] => if decide (-1000000000 ≤ a ∧ a ≤ 1000000000 ∧ -1000000000 ≤ b ∧ b ≤ 1000000000 ∧ b - a ≤ 1000000) then some (.p (.list ((List.range (b - a).toNat).map fun (k : Nat) => PyData.int (a + (k : Int))))) else none
  | _ => none
/-- these are sorted place by place -/
def sortOkB (xs : List PyData) : Bool := decide (xs.length ≤ 1000) && xs.all (fun x => match x with
  | .tuple (_ :: _) => decide (x.depth ≤ 60)
  | _ => false) && xs.all fun x => xs.all fun y => PySem.W.alike x y
/-- texts by their signs -/
def p_sorted : List D → Option D
  | [.p (.list xs)] => match intsOf xs with
    | some ns => some (.p (.list ((ns.mergeSort fun a b => decide (a ≤ b)).map .int)))
    | none => match strsOf xs with
      | some ss => if decide (ss.length < 64) then some (.p (.list ((sortS ss).map .str))) else none
      | none => if sortOkB xs then some (.p (.list (xs.mergeSort (PySem.W.dataLe false id)))) else none
  | _ => none
/-- members of any form -/
def memDok (x : PyData) (xs : List PyData) : Bool := x.canLay0 && PyData.canLayAll0 xs && decide (x.depth ≤ 60)
def p_memD : List D → Option D
  | [.p x, .p (.list xs)] => if memDok x xs then some (.p (.bool (xs.any fun y => PyData.eqv y x))) else none
  | [.p x, .p (.tuple xs)] => if memDok x xs then some (.p (.bool (xs.any fun y => PyData.eqv y x))) else none
  | _ => none
def p_nmemD : List D → Option D
  | [.p x, .p (.list xs)] => if memDok x xs then some (.p (.bool (!xs.any fun y => PyData.eqv y x))) else none
  | [.p x, .p (.tuple xs)] => if memDok x xs then some (.p (.bool (!xs.any fun y => PyData.eqv y x))) else none
  | _ => none
def p_maxL : List D → Option D
  | [.p (.list xs)] => match intsOf xs with
    | some (n :: ns) => some (.p (.int (ns.foldl max n)))
    | _ => none
  | _ => none
def prim (S : Store) : Pr → List D → Option D
  | .add, ds => p_add ds
  | .cat, ds => p_cat ds
  | .sub, ds => p_sub ds
  | .mul, ds => p_mul ds
  | .fdiv, ds => p_fdiv ds
  | .mod, ds => p_mod ds
  | .pow, ds => p_pow ds
  | .neg, ds => p_neg ds
  | .eq, ds => p_eq S ds
  | .ne, ds => p_ne S ds
  | .lt, ds => p_lt ds
  | .le, ds => p_le ds
  | .gt, ds => p_gt ds
  | .ge, ds => p_ge ds
  | .isN, ds => p_isN ds
  | .notN, ds => p_notN ds
  | .mem, ds => p_mem ds
  | .maxL, ds => p_maxL ds
  | .memr, ds => p_memr S ds
  | .nmem, ds => p_nmem ds
  | .len, ds => p_len S ds
  | .int, ds => p_int ds
  | .str, ds => p_str ds
  | .idx, ds => p_idx S ds
  | .slice lo hi, ds => p_slice lo hi ds
  | .isi ts, ds => p_isi S ts ds
  | .tuple, ds => p_tuple ds
  | .list, ds => p_list ds
  | .all, ds => p_all ds
  | .any, ds => p_any ds
  | .sum, ds => p_sum ds
  | .min, ds => p_min ds
  | .max, ds => p_max ds
  | .abs, ds => p_abs ds
  | .join, ds => p_join ds
  | .repr, ds => p_repr ds
  | .isT, ds => p_isT ds
  | .isF, ds => p_isF ds
  | .lenset, ds => p_lenset ds
  | .sortset, ds => p_sortset ds
  | .tuprev, ds => p_tuprev ds
  | .revs, ds => p_revs ds
  | .lstrng, ds => p_lstrng ds
  | .sorted, ds => p_sorted ds
  | .memD, ds => p_memD ds
  | .nmemD, ds => p_nmemD ds
  | .memK, ds => p_memK S ds
  | .nmemK, ds => p_nmemK S ds
  | .tupr, ds => p_tupr S ds
  | _, _ => none

def mutl (S : Store) : Ef → List D → Out D
  | .popAt, [.ref k, .p (.int i)] => match S[k]? with
    | some (.lst ds) => if decide (0 ≤ i ∧ i < ds.length ∧ i < 1000000) then (match ds[i.toNat]? with
      | some d => .ok d (S.set k (.lst (ds.eraseIdx i.toNat)))
      | none => .bad) else .bad
    | _ => .bad
  | .append, [.ref k, d] => match S[k]? with
    | some (.lst ds) => if fitsL (ds.length + 1) then .ok (.p .none) (S.set k (.lst (ds ++ [d]))) else .bad
    | _ => .bad
  | .newl, ds => if fitsL ds.length then .ok (.ref S.length) (S ++ [.lst ds]) else .bad
  | .mkt, ds => .of (p_mkt ds) S
  | .mkl, ds => .of (p_mkl ds) S
  | _, _ => .bad

def zipD : List D → List D → List D
  | .p x :: xs, .p y :: ys => .p (.tuple [x, y]) :: zipD xs ys
  | x :: xs, y :: ys => .tup [x, y] :: zipD xs ys
  | _, _ => []
def enumD : Int → List D → List D
  | _, [] => []
  | k, .p x :: r => .p (.tuple [.int k, x]) :: enumD (k + 1) r
  | k, d :: r => .tup [.p (.int k), d] :: enumD (k + 1) r
def rngD (lo : Int) (n : Nat) : List D := (List.range n).map fun (k : Nat) => .p (.int (lo + k))
/-- a range downwards -/
def rngU (lo : Int) (n : Nat) : List D := (List.range n).map fun (k : Nat) => .p (.int (lo - (k : Int)))
def items (S : Store) : Ik → List D → Option (List D)
  | .sq, [d] => items1 S d
  | .zip, [a, b] => match items1 S a, items1 S b with
    | some xs, some ys => some (zipD xs ys)
    | _, _ => none
  | .enum, [a] => (items1 S a).map (enumD 0)
  | .rng, [.p (.int j)] => if decide (-(2 ^ 62) ≤ j ∧ j < 2 ^ 62) then some (rngD 0 j.toNat) else none
  | .rng, [.p (.int i), .p (.int j)] => if decide (-(2 ^ 62) ≤ i ∧ i < 2 ^ 62 ∧ -(2 ^ 62) ≤ j ∧ j < 2 ^ 62) then some (rngD i (j - i).toNat) else none
  | .rng, [.p (.int i), .p (.int j), .p (.int s)] => if decide (s = -1 ∧ -(2 ^ 62) ≤ i ∧ i < 2 ^ 62 ∧ -(2 ^ 62) ≤ j ∧ j < 2 ^ 62) then some (rngU i (i - j).toNat) else none
  | .rev, [.p (.list xs)] => some (xs.map .p).reverse
  | .rev, [.p (.tuple xs)] => some (xs.map .p).reverse
  | _, _ => none

/-! ### the evaluator -/
inductive Fl where
  | nx (ρ : Env)
  | rt (d : D)
  | bk (ρ : Env)
  | ct (ρ : Env)
def look (ρ : Env) (i : Nat) : Option D := match ρ[i]? with
  | some (.v d) => some d
  | _ => none
def lookB (ρ : Env) (i : Nat) : Option D := match ρ[i]? with
  | some (.v d) => some d
  | some (.own xs) => some (.p (.list xs))
  | _ => none
def isOwn (ρ : Env) (i : Nat) : Bool := match ρ[i]? with
  | some (.own _) => true
  | _ => false
def canSet (ρ : Env) (i : Nat) : Bool := decide (i < ρ.length)
mutual
def bindT : Tg → D → Env → Option Env
  | .nm i, d, ρ => if canSet ρ i then some (ρ.set i (.v d)) else none
  | .tup ts, .p (.tuple xs), ρ => bindTs ts (xs.map .p) ρ
  | .tup ts, .p (.list xs), ρ => bindTs ts (xs.map .p) ρ
  | .tup ts, .tup ds, ρ => bindTs ts ds ρ
  | .tup _, _, _ => none
def bindTs : List Tg → List D → Env → Option Env
  | [], [], ρ => some ρ
  | t :: ts, d :: ds, ρ => match bindT t d ρ with
    | some ρ' => bindTs ts ds ρ'
    | none => none
  | _, _, _ => none
end
mutual
def wipeT : Tg → Env → Env
  | .nm i, ρ => ρ.set i .un
  | .tup ts, ρ => wipeTs ts ρ
def wipeTs : List Tg → Env → Env
  | [], ρ => ρ
  | t :: ts, ρ => wipeTs ts (wipeT t ρ)
end
def permute (pm : List Nat) (ds : List D) : Option (List D) := match pm with
  | [] => some ds
  | _ => if pm.length == ds.length then pm.mapM fun i => ds[i]? else none
/-- the items of a comprehension -/
def noX {α : Type} : Out α → Out α
  | .exc _ _ => .bad
  | o => o
def addO : Option PyData → List PyData → List PyData
  | some y, ys => y :: ys
  | none, ys => ys
def kComp (go : Store → Out (List PyData)) (y : Option PyData) (S : Store) : Out (List PyData) := (go S).bind fun ys S' => .ok (addO y ys) S'
def compL (step : D → Store → Out (Option PyData)) : List D → Store → Out (List PyData)
  | [], S => .ok [] S
  | x :: r, S => (noX (step x S)).bind (kComp (compL step r))
def kFor (go : Env → Store → Out Fl) : Fl → Store → Out Fl
  | .nx ρ, S => go ρ S
  | .ct ρ, S => go ρ S
  | .bk ρ, S => .ok (.nx ρ) S
  | .rt d, S => .ok (.rt d) S
def forL (step : D → Env → Store → Out Fl) : List D → Env → Store → Out Fl
  | [], ρ, S => .ok (.nx ρ) S
  | x :: r, ρ, S => (step x ρ S).bind (kFor (forL step r))
def kWh (b go : Env → Store → Out Fl) (ρ : Env) : Bool → Store → Out Fl
  | true, S => (b ρ S).bind (kFor go)
  | false, S => .ok (.nx ρ) S
def whileL (c : Env → Store → Out Bool) (b : Env → Store → Out Fl) : Nat → Env → Store → Out Fl
  | 0, _, _ => .bad
  | n + 1, ρ, S => (c ρ S).bind (kWh b (whileL c b n) ρ)
def tru (d : D) (S : Store) : Out Bool := .of (truth S d) S
def kPr (o : Pr) (ds : List D) (S : Store) : Out D := .of (prim S o ds) S
def kEf (o : Ef) (ds : List D) (S : Store) : Out D := mutl S o ds
def kCons (d : D) (ds : List D) (S : Store) : Out (List D) := .ok (d :: ds) S
def kNot2 (c : Bool) (S : Store) : Out D := .ok (.p (.bool (!c))) S
def kNot (x : D) (S : Store) : Out D := (tru x S).bind kNot2
def kCh4 (o2 : Pr) (y w : D) (S : Store) : Out D := .of (prim S o2 [y, w]) S
def kE3 : D → Store → Out (Option PyData)
  | .p y, S => .ok (some y) S
  | _, _ => .bad
def kCmp3 (ys : List PyData) (S : Store) : Out D := if fitsL ys.length then .ok (.p (.list ys)) S else .bad
def kKeep : D → Store → Out D
  | .p (.list xs), S => .ok (.ref S.length) (S ++ [.lst (xs.map .p)])
  | _, _ => .bad
def dlook : D → Str → Option PyData
  | .p (.dict kvs), z => (kvs.find? fun kv => match kv.1 with | .str y => decide (y = z) | _ => false).map (·.2)
  | _, _ => none
def isL (S : Store) : D → Bool
  | .ref k => match S[k]? with
    | some (.lst _) => true
    | _ => false
  | _ => false
def kGm (g : D) : D → Store → Out D
  | .p (.str z), S => .ok (.p (.bool (dlook g z).isSome)) S
  | _, _ => .bad
def pickN (i j : Nat) : D → Option Nat
  | .p (.int n) => if n = 0 then some i else if n = 1 then some j else none
  | _ => none
def kApp1 (d x : D) (S : Store) : Out D := mutl S .append [d, x]
def kPop1 (d x : D) (S : Store) : Out D := mutl S .popAt [d, x]
def kGg (g : D) : D → Store → Out D
  | .p (.str z), S => .of ((dlook g z).map .p) S
  | _, _ => .bad
/-- DICT.get(x) of a dict of the module -/
def kGgN (g : D) : D → Store → Out D
  | .p (.str z), S => .ok (.p ((dlook g z).getD .none)) S
  | _, _ => .bad
def dpick : List Str → List D → Str → D → D
  | k :: ks, d :: ds, x, z => if k = x then d else dpick ks ds x z
  | _, _, _, z => z
def kDs3 (ks : List Str) (ds : List D) : D → D → Store → Out D
  | .p (.str x), z, S => if decide (ks.Nodup ∧ ks.length = ds.length ∧ ks.length ≤ 15) then .ok (dpick ks ds x z) S else .bad
  | _, _, _ => .bad
def kCall (Fn : Nat → List D → Store → Out D) (f : Nat) (pm : List Nat) (ds : List D) (S : Store) : Out D := match permute pm ds with
  | some ds' => Fn f ds' S
  | none => .bad
def frz : Slot → Slot
  | .own xs => .v (.p (.list xs))
  | s => s
def setSt (S : Store) : List D → Out Unit
  | [.ref k, .p (.int i), d] => match S[k]? with
    | some (.lst ds) => if decide (0 ≤ i ∧ i < ds.length) then .ok () (S.set k (.lst (ds.set i.toNat d))) else .bad
    | _ => .bad
  | _ => .bad
def kFld (c : Nat) (f : Str) : D → Store → Out D
  | .ref k, S => match S[k]? with
    | some (.ins c' fs) => if decide (c' = c) then .of (fs.lookup f) S else .bad
    | _ => .bad
  | _, _ => .bad
def isI (S : Store) (c : Nat) (m : Str) : D → Bool
  | .ref k => match S[k]? with
    | some (.ins c' fs) => decide (c' = c) && (fs.lookup m).isNone
    | _ => false
  | _ => false
def kMeth1 (Fn : Nat → List D → Store → Out D) (f : Nat) (d : D) (ds : List D) (S : Store) : Out D := Fn f (d :: ds) S
def kMake3 (k : Nat) : D → Store → Out D
  | .p .none, S => .ok (.ref k) S
  | _, _ => .bad
def kMake (Fn : Nat → List D → Store → Out D) (c f : Nat) (ds : List D) (S : Store) : Out D := (Fn f (.ref S.length :: ds) (S ++ [.ins c []])).bind (kMake3 S.length)
def putD (f : Str) (d : D) : List (Str × D) → List (Str × D)
  | [] => [(f, d)]
  | (g, x) :: r => if g = f then (g, d) :: r else (g, x) :: putD f d r
def setFd (c : Nat) (f : Str) (d : D) (S : Store) : D → Out Unit
  | .ref k => match S[k]? with
    | some (.ins c' fs) => if decide (c' = c ∧ fs.length < 1000) then .ok () (S.set k (.ins c (putD f d fs))) else .bad
    | _ => .bad
  | _ => .bad
def kNewd (ks : List Str) (ds : List D) (S : Store) : Out D := if decide (ks.Nodup ∧ ks.length = ds.length ∧ ks.length ≤ 15 ∧ 1 ≤ ks.length) then .ok (.ref S.length) (S ++ [.dct ks ds]) else .bad
def isDc (S : Store) : D → Bool
  | .ref k => match S[k]? with
    | some (.dct _ _) => true
    | some (.dci _ _) => true
    | _ => false
  | _ => false
def dfind : List Str → List D → Str → Option D
  | k :: ks, d :: ds, x => if k = x then some d else dfind ks ds x
  | _, _, _ => none
def dfindI : List Int → List D → Int → Option D
  | k :: ks, d :: ds, x => if k = x then some d else dfindI ks ds x
  | _, _, _ => none
def dgetO (S : Store) : D → D → Option (Option D)
  | .ref k, .p (.str x) => match S[k]? with
    | some (.dct ks ds) => some (dfind ks ds x)
    | _ => none
  | .ref k, .p (.int x) => match S[k]? with
    | some (.dci ks ds) => some (dfindI ks ds x)
    | _ => none
  | _, _ => none
def kVc2 (Fn : Nat → List D → Store → Out D) (k : Nat) (ds : List D) (S : Store) : Out D := Fn k ds S
def vcK (ks : List Nat) : Option D → Option Nat
  | some (.fn k) => if k ∈ ks then some k else none
  | _ => none
def oD (S : Store) : Option (Option D) → Out D
  | some (some d) => .ok d S
  | _ => .bad
def oDd (S : Store) (z : D) : Option (Option D) → Out D
  | some (some d) => .ok d S
  | some none => .ok z S
  | none => .bad
def oDi (S : Store) : Option (Option D) → Out D
  | some o => .ok (.p (.bool o.isSome)) S
  | none => .bad
def kDsub1 (d k : D) (S : Store) : Out D := oD S (dgetO S d k)
def kDget2 (d k z : D) (S : Store) : Out D := oDd S z (dgetO S d k)
def kDin1 (k d : D) (S : Store) : Out D := oDi S (dgetO S d k)
def setDk (S : Store) (v : D) : D → D → Out Unit
  | .ref k, .p (.str x) => match S[k]? with
    | some (.dct ks ds) => if decide (ks.length < 1000) then .ok () (S.set k (if x ∈ ks then .dct ks (ds.set (ks.idxOf x) v) else .dct (ks ++ [x]) (ds ++ [v]))) else .bad
    | _ => .bad
  | .ref k, .p (.int x) => match S[k]? with
    | some (.dci ks ds) => if decide (ks.length < 1000000) then .ok () (S.set k (if x ∈ ks then .dci ks (ds.set (ks.idxOf x) v) else .dci (ks ++ [x]) (ds ++ [v]))) else .bad
    | _ => .bad
  | _, _ => .bad
/-- {k: v} with a whole number as its key; dict(pairs) -/
def kNewdi : D → D → Store → Out D
  | .p (.int n), d, S => .ok (.ref S.length) (S ++ [.dci [n] [d]])
  | _, _, _ => .bad
def pairsI : List PyData → Option (List (Int × PyData))
  | [] => some []
  | .tuple [.int k, v] :: r => (pairsI r).map ((k, v) :: ·)
  | _ :: _ => none
def kNewdp : D → Store → Out D
  | .p (.list ps), S => match pairsI ps with
    | some l => if decide ((l.map (·.1)).Nodup ∧ l.length ≤ 1000000) then .ok (.ref S.length) (S ++ [.dci (l.map (·.1)) (l.map fun p => .p p.2)]) else .bad
    | none => .bad
  | _, _ => .bad
def kNewdpL : List D → Store → Out D
  | [d], S => kNewdp d S
  | _, _ => .bad
def nxO (S : Store) : Option Env → Out Fl
  | some ρ => .ok (.nx ρ) S
  | none => .bad
def kAsg (t : Tg) (ρ : Env) (d : D) (S : Store) : Out Fl := nxO S (bindT t d ρ)
def kEx (ρ : Env) (_ : D) (S : Store) : Out Fl := .ok (.nx ρ) S
def kRet (d : D) (S : Store) : Out Fl := .ok (.rt d) S
/-- names set one behind the other, those marked to lists of one's own -/
def setsF : List Bool → List Nat → List D → Env → Option Env
  | [], [], [], ρ => some ρ
  | false :: bs, i :: is, d :: ds, ρ => if canSet ρ i then setsF bs is ds (ρ.set i (.v d)) else none
  | true :: bs, i :: is, .p (.list xs) :: ds, ρ => if canSet ρ i then setsF bs is ds (ρ.set i (.own xs)) else none
  | _, _, _, _ => none
def kParF (bs : List Bool) (is : List Nat) (ρ : Env) (ds : List D) (S : Store) : Out Fl := nxO S (setsF bs is ds ρ)
def kPar2 (i j : Nat) (ρ : Env) (x y : D) (S : Store) : Out Fl := if canSet ρ i && canSet ρ j then .ok (.nx ((ρ.set i (.v x)).set j (.v y))) S else .bad
def kSet3 (ρ : Env) (_ : Unit) (S : Store) : Out Fl := .ok (.nx ρ) S
def kSet2 (ρ : Env) (d x y : D) (S : Store) : Out Fl := (setSt S [x, y, d]).bind (kSet3 ρ)
def kSetf2 (c : Nat) (ρ : Env) (f : Str) (d x : D) (S : Store) : Out Fl := (setFd c f d S x).bind (kSet3 ρ)
def kSetd3 (ρ : Env) (d x y : D) (S : Store) : Out Fl := (setDk S d x y).bind (kSet3 ρ)
def kOwn (i : Nat) (ρ : Env) : D → Store → Out Fl
  | .p (.list xs), S => if canSet ρ i then .ok (.nx (ρ.set i (.own xs))) S else .bad
  | _, _ => .bad
def kApp (i : Nat) (ρ : Env) (d : D) (S : Store) : Out Fl := match ρ[i]?, d with
  | some (.own xs), .p x => if fitsL (xs.length + 1) then .ok (.nx (ρ.set i (.own (xs ++ [x])))) S else .bad
  | _, _ => .bad
def kParO2 (i j : Nat) (ρ : Env) (x y : D) (S : Store) : Out Fl := if canSet ρ i then kOwn j (ρ.set i (.v x)) y S else .bad
def kExt (i : Nat) (ρ : Env) (d : D) (S : Store) : Out Fl := match ρ[i]?, d with
  | some (.own xs), .p (.list ys) => if fitsL (xs.length + ys.length) then .ok (.nx (ρ.set i (.own (xs ++ ys)))) S else .bad
  | some (.own xs), .p (.tuple ys) => if fitsL (xs.length + ys.length) then .ok (.nx (ρ.set i (.own (xs ++ ys)))) S else .bad
  | _, _ => .bad
def kSetP (j l : Nat) (y z : PyData) : Fl → Store → Out Fl
  | .nx ρ, S => .ok (.nx ((ρ.set j (.v (.p y))).set l (.v (.p z)))) S
  | _, _ => .bad
def kPar3c (i j l : Nat) (ρ : Env) (x : D) : D → D → Store → Out Fl
  | .p y, .p z, S => (kOwn i ρ x S).bind (kSetP j l y z)
  | _, _, _ => .bad
def kExtL (i : Nat) (ρ : Env) (d : D) (S : Store) : Out Fl := match ρ[i]?, d with
  | some (.own xs), .p (.list ys) => if fitsL (xs.length + ys.length) then .ok (.nx (ρ.set i (.own (xs ++ ys)))) S else .bad
  | some (.own xs), .p (.tuple ys) => if fitsL (xs.length + ys.length) then .ok (.nx (ρ.set i (.own (xs ++ ys)))) S else .bad
  | _, _ => .bad
def kRaise (c : Nat) (_ : List D) (S : Store) : Out Fl := .exc ⟨c, none⟩ S
def kRaisf2 (c : Nat) (f : Str) (d : D) (_ : D) (S : Store) : Out Fl := .exc ⟨c, some (f, d)⟩ S
/-- the class's __init__ runs: one level -/
def kRaisf (Fn : Nat → List D → Store → Out D) (c : Nat) (f : Str) (d : D) (S : Store) : Out Fl := (Fn 1000 [] S).bind (kRaisf2 c f d)
def hval1 (h : Hn) (x : PyData) : Nat → Option D
  | 1 => some (.p x)
  | 2 => some (.p (.tuple [h.pre, x]))
  | 3 => some (.p (.list [h.pre, x]))
  | _ => none
def hval (h : Hn) (e : Exc) : Option D := if h.how = 0 then some (.p h.pre) else match e.arg with
  | some (f, .p x) => if f = h.fld then hval1 h x h.how else none
  | _ => none
def kTry2 (ρ : Env) (h : Hn) (S : Store) : Option D → Out Fl
  | some d => match h.j with
    | some j => if decide (j < ρ.length) then .ok (.nx ((ρ.map fun _ => Slot.un).set j (.v d))) S else .bad
    | none => .ok (.rt d) S
  | none => .bad
def kTry1 : List Hn → Env → Exc → Store → Out Fl
  | [], _, e, S => .exc e S
  | h :: r, ρ, e, S => match h.subs[e.cls]? with
    | some true => kTry2 ρ h S (hval h e)
    | some false => kTry1 r ρ e S
    | none => .bad
def kTry (hs : List Hn) (ρ : Env) : Out Fl → Out Fl
  | .exc e S => kTry1 hs ρ e S
  | m => m
def noOwn : Env → Bool
  | [] => true
  | .own _ :: _ => false
  | _ :: r => noOwn r
section
variable (G : Nat → D) (Fn : Nat → List D → Store → Out D)
mutual
def evE : E → Env → Store → Out D
  | .v i, ρ, S => .of (look ρ i) S
  | .c x, _, S => .ok (.p x) S
  | .g k, _, S => .ok (G k) S
  | .pr o es, ρ, S => (evA es ρ S).bind (kPr o)
  | .ef o es, ρ, S => (evEs es ρ S).bind (kEf o)
  | .call f pm es, ρ, S => (evEs es ρ S).bind (kCall Fn f pm)
  | .and a b, ρ, S => (evE a ρ S).bind fun x S1 => (tru x S1).bind fun c S2 => if c then evE b ρ S2 else .ok x S2
  | .or a b, ρ, S => (evE a ρ S).bind fun x S1 => (tru x S1).bind fun c S2 => if c then .ok x S2 else evE b ρ S2
  | .not a, ρ, S => (evE a ρ S).bind kNot
  | .ite c a b, ρ, S => (evE c ρ S).bind fun x S1 => (tru x S1).bind fun k S2 => if k then evE a ρ S2 else evE b ρ S2
  | .chain o1 o2 a b c, ρ, S => (evE a ρ S).bind fun x S1 => (evE b ρ S1).bind fun y S2 => (Out.of (prim S2 o1 [x, y]) S2).bind fun z S3 => match z with
    | .p (.bool true) => (evE c ρ S3).bind (kCh4 o2 y)
    | .p (.bool false) => .ok (.p (.bool false)) S3
    | _ => .bad
  | .comp t k es cs e, ρ, S => (evA es ρ S).bind fun ds S1 => match items S1 k ds with
    | none => .bad
    | some xs => (compL (fun x S2 => match bindT t x (wipeT t ρ) with
        | none => .bad
        | some ρ' => (evC cs ρ' S2).bind fun c S3 => if c then (evE e ρ' S3).bind kE3 else .ok none S3) xs S1).bind kCmp3
  | .keep e, ρ, S => (evE e ρ S).bind kKeep
  | .gget k e, ρ, S => (evE e ρ S).bind (kGg (G k))
  | .ggetN k e, ρ, S => (evE e ρ S).bind (kGgN (G k))
  | .app o e, ρ, S => (evE o ρ S).bind fun d S1 => if isL S1 d then (evE e ρ S1).bind (kApp1 d) else .bad
  | .popE o e, ρ, S => (evE o ρ S).bind fun d S1 => if isL S1 d then (evE e ρ S1).bind (kPop1 d) else .bad
  | .gmem k e, ρ, S => (evE e ρ S).bind (kGm (G k))
  | .pick i j ix es, ρ, S => (evE ix ρ S).bind fun x S1 => match pickN i j x with
    | some f => (evEs es ρ S1).bind (kCall Fn f [])
    | none => .bad
  | .fnv k, _, S => .ok (.fn k) S
  | .vcall i ks es, ρ, S => match vcK ks (look ρ i) with
    | some k => (evEs es ρ S).bind (kVc2 Fn k)
    | none => .bad
  | .fld c e f, ρ, S => (evE e ρ S).bind (kFld c f)
  | .meth c m f e es, ρ, S => (evE e ρ S).bind fun d S1 => if isI S1 c m d then (evEs es ρ S1).bind (kMeth1 Fn f d) else .bad
  | .make c f es, ρ, S => (evEs es ρ S).bind (kMake Fn c f)
  | .newd ks vs, ρ, S => (evEs vs ρ S).bind (kNewd ks)
  | .newdi k v, ρ, S => (evE k ρ S).bind fun d S1 => (evE v ρ S1).bind (kNewdi d)
  | .newdp es, ρ, S => (evA es ρ S).bind kNewdpL
  | .dsub e k, ρ, S => (evE e ρ S).bind fun d S1 => (evE k ρ S1).bind (kDsub1 d)
  | .dgetv e k z, ρ, S => (evE e ρ S).bind fun d S1 => if isDc S1 d then (evE k ρ S1).bind fun x S2 => (evE z ρ S2).bind (kDget2 d x) else .bad
  | .din k e, ρ, S => (evE k ρ S).bind fun x S1 => (evE e ρ S1).bind (kDin1 x)
  | .disp ks vs key d, ρ, S => (evEs vs ρ S).bind fun ds S1 => (evE key ρ S1).bind fun x S2 => (evE d ρ S2).bind (kDs3 ks ds x)
/-- strict values -/
def evEs : List E → Env → Store → Out (List D)
  | [], _, S => .ok [] S
  | e :: es, ρ, S => (evE e ρ S).bind fun d S1 => (evEs es ρ S1).bind (kCons d)
/-- arguments of what only looks: a list of one's own, too -/
def evA : List E → Env → Store → Out (List D)
  | [], _, S => .ok [] S
  | .v i :: es, ρ, S => (Out.of (lookB ρ i) S).bind fun d S1 => (evA es ρ S1).bind (kCons d)
  | e :: es, ρ, S => (evE e ρ S).bind fun d S1 => (evA es ρ S1).bind (kCons d)
def evC : List E → Env → Store → Out Bool
  | [], _, S => .ok true S
  | e :: es, ρ, S => (evE e ρ S).bind fun d S1 => (tru d S1).bind fun c S2 => if c then evC es ρ S2 else .ok false S2
end
mutual
def evS : S → Env → Store → Out Fl
  | .asg t e, ρ, S => (evE G Fn e ρ S).bind (kAsg t ρ)
  | .ex e, ρ, S => (evE G Fn e ρ S).bind (kEx ρ)
  | .ret e, ρ, S => (evE G Fn e (ρ.map frz) S).bind kRet
  | .ifs c a b, ρ, S => (evE G Fn c ρ S).bind fun x S1 => (tru x S1).bind fun k S2 => if k then evSs a ρ S2 else evSs b ρ S2
  | .for_ t k es b, ρ, S => (evEs G Fn es ρ S).bind fun ds S1 => match items S1 k ds with
    | none => .bad
    | some xs => forL (fun x ρ1 S2 => match bindT t x ρ1 with
      | some ρ2 => evSs b ρ2 S2
      | none => .bad) xs ρ S1
  | .while_ n c b, ρ, S => whileL (fun ρ1 S1 => (evE G Fn c ρ1 S1).bind fun x S2 => tru x S2) (fun ρ1 S1 => evSs b ρ1 S1) n ρ S
  | .seti o i e, ρ, S => (evE G Fn e ρ S).bind fun d S1 => (evE G Fn o ρ S1).bind fun x S2 => (evE G Fn i ρ S2).bind (kSet2 ρ d x)
  | .setf c o f e, ρ, S => (evE G Fn e ρ S).bind fun d S1 => (evE G Fn o ρ S1).bind (kSetf2 c ρ f d)
  | .setd o k e, ρ, S => (evE G Fn e ρ S).bind fun d S1 => (evE G Fn o ρ S1).bind fun x S2 => (evE G Fn k ρ S2).bind (kSetd3 ρ d x)
  | .par i j a b, ρ, S => (evE G Fn a ρ S).bind fun x S1 => (evE G Fn b ρ S1).bind (kPar2 i j ρ x)
  | .parO i j a b, ρ, S => (evE G Fn a ρ S).bind fun x S1 => (evE G Fn b ρ S1).bind (kParO2 i j ρ x)
  | .parF bs is es, ρ, S => (evEs G Fn es ρ S).bind (kParF bs is ρ)
  | .par3O i j l a b c, ρ, S => (evE G Fn a ρ S).bind fun x S1 => (evE G Fn b ρ S1).bind fun y S2 => (evE G Fn c ρ S2).bind (kPar3c i j l ρ x y)
  | .own i e, ρ, S => (evE G Fn e ρ S).bind (kOwn i ρ)
  | .oapp i e, ρ, S => if isOwn ρ i then (evE G Fn e ρ S).bind (kApp i ρ) else .bad
  | .oext i e, ρ, S => if isOwn ρ i then (evE G Fn e ρ S).bind (kExt i ρ) else .bad
  | .oaug i e, ρ, S => if isOwn ρ i then (evE G Fn e ρ S).bind (kExtL i ρ) else .bad
  | .frz i, ρ, S => .ok (.nx (ρ.modify i frz)) S
  | .pass, ρ, S => .ok (.nx ρ) S
  | .cont, ρ, S => .ok (.ct ρ) S
  | .raise c es, ρ, S => (evEs G Fn es ρ S).bind (kRaise c)
  | .raisf c f e, ρ, S => (evE G Fn e ρ S).bind (kRaisf Fn c f)
  | .try_ b hs, ρ, S => if noOwn ρ then kTry hs ρ (evSs b ρ S) else .bad
def evSs : List S → Env → Store → Out Fl
  | [], ρ, S => .ok (.nx ρ) S
  | s :: r, ρ, S => (evS s ρ S).bind fun f S1 => match f with
    | .nx ρ' => evSs r ρ' S1
    | f => .ok f S1
end
end
structure FD where
  np : Nat
  nv : Nat
  body : List S
def fin : Fl → Store → Out D
  | .rt d, S => .ok d S
  | .nx _, S => .ok (.p .none) S
  | _, _ => .bad
def run (G : Nat → D) (T : Nat → FD) : Nat → Nat → List D → Store → Out D
  | 0, _, _, _ => .bad
  | n + 1, f, args, S => if args.length == (T f).np then (evSs G (run G T n) (T f).body (args.map .v ++ List.replicate (T f).nv .un) S).bind fin else .bad

/-! ### the evaluator's equations, without lambdas -/
section
variable (G : Nat → D) (Fn : Nat → List D → Store → Out D)
def kEs (es : List E) (ρ : Env) (d : D) (S : Store) : Out (List D) := (evEs G Fn es ρ S).bind (kCons d)
def kA (es : List E) (ρ : Env) (d : D) (S : Store) : Out (List D) := (evA G Fn es ρ S).bind (kCons d)
def kC2 (es : List E) (ρ : Env) : Bool → Store → Out Bool
  | true, S => evC G Fn es ρ S
  | false, S => .ok false S
def kC (es : List E) (ρ : Env) (d : D) (S : Store) : Out Bool := (tru d S).bind (kC2 G Fn es ρ)
def kAnd2 (b : E) (ρ : Env) (x : D) : Bool → Store → Out D
  | true, S => evE G Fn b ρ S
  | false, S => .ok x S
def kAnd (b : E) (ρ : Env) (x : D) (S : Store) : Out D := (tru x S).bind (kAnd2 G Fn b ρ x)
def kOr2 (b : E) (ρ : Env) (x : D) : Bool → Store → Out D
  | true, S => .ok x S
  | false, S => evE G Fn b ρ S
def kOr (b : E) (ρ : Env) (x : D) (S : Store) : Out D := (tru x S).bind (kOr2 G Fn b ρ x)
def kIte2 (a b : E) (ρ : Env) : Bool → Store → Out D
  | true, S => evE G Fn a ρ S
  | false, S => evE G Fn b ρ S
def kIte (a b : E) (ρ : Env) (x : D) (S : Store) : Out D := (tru x S).bind (kIte2 G Fn a b ρ)
def kCh3 (o2 : Pr) (c : E) (ρ : Env) (y : D) (z : D) (S : Store) : Out D := match z with
  | .p (.bool true) => (evE G Fn c ρ S).bind (kCh4 o2 y)
  | .p (.bool false) => .ok (.p (.bool false)) S
  | _ => .bad
def kCh2 (o1 o2 : Pr) (c : E) (ρ : Env) (x y : D) (S : Store) : Out D := (Out.of (prim S o1 [x, y]) S).bind (kCh3 G Fn o2 c ρ y)
def kCh1 (o1 o2 : Pr) (b c : E) (ρ : Env) (x : D) (S : Store) : Out D := (evE G Fn b ρ S).bind (kCh2 G Fn o1 o2 c ρ x)
def kE2 (e : E) (ρ : Env) : Bool → Store → Out (Option PyData)
  | true, S => (evE G Fn e ρ S).bind kE3
  | false, S => .ok none S
def stepC1 (cs : List E) (e : E) (S : Store) : Option Env → Out (Option PyData)
  | none => .bad
  | some ρ' => (evC G Fn cs ρ' S).bind (kE2 G Fn e ρ')
def stepC (t : Tg) (cs : List E) (e : E) (ρ : Env) (x : D) (S : Store) : Out (Option PyData) := stepC1 G Fn cs e S (bindT t x (wipeT t ρ))
def kCmp2 (t : Tg) (cs : List E) (e : E) (ρ : Env) (S : Store) : Option (List D) → Out D
  | none => .bad
  | some xs => (compL (stepC G Fn t cs e ρ) xs S).bind kCmp3
def kCmp (t : Tg) (k : Ik) (cs : List E) (e : E) (ρ : Env) (ds : List D) (S : Store) : Out D := kCmp2 G Fn t cs e ρ S (items S k ds)
def kApp0 (e : E) (ρ : Env) (d : D) (S : Store) : Out D := if isL S d then (evE G Fn e ρ S).bind (kApp1 d) else .bad
def kPop0 (e : E) (ρ : Env) (d : D) (S : Store) : Out D := if isL S d then (evE G Fn e ρ S).bind (kPop1 d) else .bad
def kPick2 (es : List E) (ρ : Env) (S : Store) : Option Nat → Out D
  | some f => (evEs G Fn es ρ S).bind (kCall Fn f [])
  | none => .bad
def kPick (i j : Nat) (es : List E) (ρ : Env) (x : D) (S : Store) : Out D := kPick2 G Fn es ρ S (pickN i j x)
def kMeth (c : Nat) (m : Str) (f : Nat) (es : List E) (ρ : Env) (d : D) (S : Store) : Out D := if isI S c m d then (evEs G Fn es ρ S).bind (kMeth1 Fn f d) else .bad
def kNewdi0 (v : E) (ρ : Env) (d : D) (S : Store) : Out D := (evE G Fn v ρ S).bind (kNewdi d)
def kDsub (k : E) (ρ : Env) (d : D) (S : Store) : Out D := (evE G Fn k ρ S).bind (kDsub1 d)
def kDget1 (z : E) (ρ : Env) (d x : D) (S : Store) : Out D := (evE G Fn z ρ S).bind (kDget2 d x)
def kDget (k z : E) (ρ : Env) (d : D) (S : Store) : Out D := if isDc S d then (evE G Fn k ρ S).bind (kDget1 G Fn z ρ d) else .bad
def kDin (e : E) (ρ : Env) (x : D) (S : Store) : Out D := (evE G Fn e ρ S).bind (kDin1 x)
def kDs2 (ks : List Str) (d : E) (ρ : Env) (ds : List D) (x : D) (S : Store) : Out D := (evE G Fn d ρ S).bind (kDs3 ks ds x)
def kDs1 (ks : List Str) (key d : E) (ρ : Env) (ds : List D) (S : Store) : Out D := (evE G Fn key ρ S).bind (kDs2 G Fn ks d ρ ds)
variable {G Fn} (ρ : Env) (S : Store)
@[simp] theorem kDs1_eq (ks key d ds) : kDs1 G Fn ks key d ρ ds S = (evE G Fn key ρ S).bind (kDs2 G Fn ks d ρ ds) := rfl
@[simp] theorem kDs2_eq (ks d ds x) : kDs2 G Fn ks d ρ ds x S = (evE G Fn d ρ S).bind (kDs3 ks ds x) := rfl
@[simp] theorem kDs3_eq (ks ds x z) : kDs3 ks ds (.p (.str x)) z S = if decide (ks.Nodup ∧ ks.length = ds.length ∧ ks.length ≤ 15) then .ok (dpick ks ds x z) S else .bad := rfl
@[simp] theorem kGgN_eq (g z) : kGgN g (.p (.str z)) S = .ok (.p ((dlook g z).getD .none)) S := rfl
@[simp] theorem kGg_eq (g z) : kGg g (.p (.str z)) S = .of ((dlook g z).map .p) S := rfl
@[simp] theorem kGm_eq (g z) : kGm g (.p (.str z)) S = .ok (.p (.bool (dlook g z).isSome)) S := rfl
@[simp] theorem kPick_eq (i j es x) : kPick G Fn i j es ρ x S = kPick2 G Fn es ρ S (pickN i j x) := rfl
@[simp] theorem kPick2_eq (es f) : kPick2 G Fn es ρ S (some f) = (evEs G Fn es ρ S).bind (kCall Fn f []) := rfl
@[simp] theorem pickN_eq (i j n) : pickN i j (.p (.int n)) = if n = 0 then some i else if n = 1 then some j else none := rfl
@[simp] theorem kPr_eq (o ds) : kPr o ds S = .of (prim S o ds) S := rfl
@[simp] theorem kEf_eq (o ds) : kEf o ds S = mutl S o ds := rfl
@[simp] theorem kCons_eq (d ds) : kCons d ds S = .ok (d :: ds) S := rfl
@[simp] theorem kEs_eq (es d) : kEs G Fn es ρ d S = (evEs G Fn es ρ S).bind (kCons d) := rfl
@[simp] theorem kA_eq (es d) : kA G Fn es ρ d S = (evA G Fn es ρ S).bind (kCons d) := rfl
@[simp] theorem kCall_eq (f ds) : kCall Fn f [] ds S = Fn f ds S := rfl
@[simp] theorem kC_eq (es d) : kC G Fn es ρ d S = (tru d S).bind (kC2 G Fn es ρ) := rfl
@[simp] theorem kC2_t (es) : kC2 G Fn es ρ true S = evC G Fn es ρ S := rfl
@[simp] theorem kC2_f (es) : kC2 G Fn es ρ false S = .ok false S := rfl
@[simp] theorem kAnd_eq (b x) : kAnd G Fn b ρ x S = (tru x S).bind (kAnd2 G Fn b ρ x) := rfl
@[simp] theorem kAnd2_t (b x) : kAnd2 G Fn b ρ x true S = evE G Fn b ρ S := rfl
@[simp] theorem kAnd2_f (b x) : kAnd2 G Fn b ρ x false S = .ok x S := rfl
@[simp] theorem kOr_eq (b x) : kOr G Fn b ρ x S = (tru x S).bind (kOr2 G Fn b ρ x) := rfl
@[simp] theorem kOr2_t (b x) : kOr2 G Fn b ρ x true S = .ok x S := rfl
@[simp] theorem kOr2_f (b x) : kOr2 G Fn b ρ x false S = evE G Fn b ρ S := rfl
@[simp] theorem kNot_eq (x) : kNot x S = (tru x S).bind kNot2 := rfl
@[simp] theorem kNot2_eq (c) : kNot2 c S = .ok (.p (.bool (!c))) S := rfl
@[simp] theorem kIte_eq (a b x) : kIte G Fn a b ρ x S = (tru x S).bind (kIte2 G Fn a b ρ) := rfl
@[simp] theorem kIte2_t (a b) : kIte2 G Fn a b ρ true S = evE G Fn a ρ S := rfl
@[simp] theorem kIte2_f (a b) : kIte2 G Fn a b ρ false S = evE G Fn b ρ S := rfl
@[simp] theorem kCh1_eq (o1 o2 b c x) : kCh1 G Fn o1 o2 b c ρ x S = (evE G Fn b ρ S).bind (kCh2 G Fn o1 o2 c ρ x) := rfl
@[simp] theorem kCh2_eq (o1 o2 c x y) : kCh2 G Fn o1 o2 c ρ x y S = (Out.of (prim S o1 [x, y]) S).bind (kCh3 G Fn o2 c ρ y) := rfl
@[simp] theorem kCh3_t (o2 c y) : kCh3 G Fn o2 c ρ y (.p (.bool true)) S = (evE G Fn c ρ S).bind (kCh4 o2 y) := rfl
@[simp] theorem kCh3_f (o2 c y) : kCh3 G Fn o2 c ρ y (.p (.bool false)) S = .ok (.p (.bool false)) S := rfl
@[simp] theorem kCh4_eq (o2 y w) : kCh4 o2 y w S = .of (prim S o2 [y, w]) S := rfl
@[simp] theorem kE3_eq (y) : kE3 (.p y) S = .ok (some y) S := rfl
@[simp] theorem kE2_t (e) : kE2 G Fn e ρ true S = (evE G Fn e ρ S).bind kE3 := rfl
@[simp] theorem kE2_f (e) : kE2 G Fn e ρ false S = .ok none S := rfl
@[simp] theorem stepC1_eq (cs e ρ') : stepC1 G Fn cs e S (some ρ') = (evC G Fn cs ρ' S).bind (kE2 G Fn e ρ') := rfl
theorem stepC_eq (t cs e x) : stepC G Fn t cs e ρ x S = stepC1 G Fn cs e S (bindT t x (wipeT t ρ)) := rfl
@[simp] theorem kCmp_eq (t k cs e ds) : kCmp G Fn t k cs e ρ ds S = kCmp2 G Fn t cs e ρ S (items S k ds) := rfl
@[simp] theorem kCmp2_eq (t cs e xs) : kCmp2 G Fn t cs e ρ S (some xs) = (compL (stepC G Fn t cs e ρ) xs S).bind kCmp3 := rfl
@[simp] theorem kCmp3_eq (ys) : kCmp3 ys S = if fitsL ys.length then .ok (.p (.list ys)) S else .bad := rfl
@[simp] theorem kKeep_eq (xs) : kKeep (.p (.list xs)) S = .ok (.ref S.length) (S ++ [.lst (xs.map .p)]) := rfl

@[simp] theorem evE_v (i) : evE G Fn (.v i) ρ S = .of (look ρ i) S := by rw [evE]
@[simp] theorem evE_c (x) : evE G Fn (.c x) ρ S = .ok (.p x) S := by rw [evE]
@[simp] theorem evE_g (k) : evE G Fn (.g k) ρ S = .ok (G k) S := by rw [evE]
@[simp] theorem evE_pr (o es) : evE G Fn (.pr o es) ρ S = (evA G Fn es ρ S).bind (kPr o) := by rw [evE]
@[simp] theorem evE_ef (o es) : evE G Fn (.ef o es) ρ S = (evEs G Fn es ρ S).bind (kEf o) := by rw [evE]
@[simp] theorem evE_call (f pm es) : evE G Fn (.call f pm es) ρ S = (evEs G Fn es ρ S).bind (kCall Fn f pm) := by rw [evE]
@[simp] theorem evE_not (a) : evE G Fn (.not a) ρ S = (evE G Fn a ρ S).bind kNot := by rw [evE]
@[simp] theorem evE_chain (o1 o2 a b c) : evE G Fn (.chain o1 o2 a b c) ρ S = (evE G Fn a ρ S).bind (kCh1 G Fn o1 o2 b c ρ) := by rw [evE]; rfl
@[simp] theorem kApp0_eq (e ρ d) : kApp0 G Fn e ρ d S = if isL S d then (evE G Fn e ρ S).bind (kApp1 d) else .bad := rfl
@[simp] theorem kPop0_eq (e ρ d) : kPop0 G Fn e ρ d S = if isL S d then (evE G Fn e ρ S).bind (kPop1 d) else .bad := rfl
@[simp] theorem kApp1_eq (d x) : kApp1 d x S = mutl S .append [d, x] := rfl
@[simp] theorem kPop1_eq (d x) : kPop1 d x S = mutl S .popAt [d, x] := rfl
@[simp] theorem isL_ref (k) : isL S (.ref k) = (match S[k]? with
    | some (.lst _) => true
    | _ => false) := rfl
@[simp] theorem evE_app (o e) : evE G Fn (.app o e) ρ S = (evE G Fn o ρ S).bind (kApp0 G Fn e ρ) := by rw [evE]; rfl
@[simp] theorem evE_popE (o e) : evE G Fn (.popE o e) ρ S = (evE G Fn o ρ S).bind (kPop0 G Fn e ρ) := by rw [evE]; rfl
@[simp] theorem evE_ggetN (k e) : evE G Fn (.ggetN k e) ρ S = (evE G Fn e ρ S).bind (kGgN (G k)) := by rw [evE]
@[simp] theorem evE_gget (k e) : evE G Fn (.gget k e) ρ S = (evE G Fn e ρ S).bind (kGg (G k)) := by rw [evE]
@[simp] theorem evE_disp (ks vs key d) : evE G Fn (.disp ks vs key d) ρ S = (evEs G Fn vs ρ S).bind (kDs1 G Fn ks key d ρ) := by rw [evE]; rfl
@[simp] theorem evE_gmem (k e) : evE G Fn (.gmem k e) ρ S = (evE G Fn e ρ S).bind (kGm (G k)) := by rw [evE]
@[simp] theorem evE_fnv (k) : evE G Fn (.fnv k) ρ S = .ok (.fn k) S := by rw [evE]
@[simp] theorem evE_vcall (i ks es) : evE G Fn (.vcall i ks es) ρ S = (match vcK ks (look ρ i) with
    | some k => (evEs G Fn es ρ S).bind (kVc2 Fn k)
    | none => .bad) := by rw [evE]
@[simp] theorem vcK_eq (ks k) : vcK ks (some (.fn k)) = if k ∈ ks then some k else none := rfl
@[simp] theorem kVc2_eq (k ds) : kVc2 Fn k ds S = Fn k ds S := rfl
@[simp] theorem evE_fld (c e f) : evE G Fn (.fld c e f) ρ S = (evE G Fn e ρ S).bind (kFld c f) := by rw [evE]
@[simp] theorem evE_meth (c m f e es) : evE G Fn (.meth c m f e es) ρ S = (evE G Fn e ρ S).bind (kMeth G Fn c m f es ρ) := by rw [evE]; rfl
@[simp] theorem evE_make (c f es) : evE G Fn (.make c f es) ρ S = (evEs G Fn es ρ S).bind (kMake Fn c f) := by rw [evE]
@[simp] theorem evE_newd (ks vs) : evE G Fn (.newd ks vs) ρ S = (evEs G Fn vs ρ S).bind (kNewd ks) := by rw [evE]
@[simp] theorem evE_dsub (e k) : evE G Fn (.dsub e k) ρ S = (evE G Fn e ρ S).bind (kDsub G Fn k ρ) := by rw [evE]; rfl
@[simp] theorem evE_dgetv (e k z) : evE G Fn (.dgetv e k z) ρ S = (evE G Fn e ρ S).bind (kDget G Fn k z ρ) := by rw [evE]; rfl
@[simp] theorem evE_din (k e) : evE G Fn (.din k e) ρ S = (evE G Fn k ρ S).bind (kDin G Fn e ρ) := by rw [evE]; rfl
@[simp] theorem kFld_eq (c f k) : kFld c f (.ref k) S = (match S[k]? with
    | some (.ins c' fs) => if decide (c' = c) then .of (fs.lookup f) S else .bad
    | _ => .bad) := rfl
@[simp] theorem isI_ref (c m k) : isI S c m (.ref k) = (match S[k]? with
    | some (.ins c' fs) => decide (c' = c) && (fs.lookup m).isNone
    | _ => false) := rfl
@[simp] theorem isDc_ref (k) : isDc S (.ref k) = (match S[k]? with
    | some (.dct _ _) => true
    | some (.dci _ _) => true
    | _ => false) := rfl
@[simp] theorem kMeth_eq (c m f es d) : kMeth G Fn c m f es ρ d S = if isI S c m d then (evEs G Fn es ρ S).bind (kMeth1 Fn f d) else .bad := rfl
@[simp] theorem kMeth1_eq (f d ds) : kMeth1 Fn f d ds S = Fn f (d :: ds) S := rfl
@[simp] theorem kMake_eq (c f ds) : kMake Fn c f ds S = (Fn f (.ref S.length :: ds) (S ++ [.ins c []])).bind (kMake3 S.length) := rfl
@[simp] theorem kMake3_eq (k) : kMake3 k (.p .none) S = .ok (.ref k) S := rfl
@[simp] theorem kNewd_eq (ks ds) : kNewd ks ds S = if decide (ks.Nodup ∧ ks.length = ds.length ∧ ks.length ≤ 15 ∧ 1 ≤ ks.length) then .ok (.ref S.length) (S ++ [.dct ks ds]) else .bad := rfl
@[simp] theorem evE_newdi (k v) : evE G Fn (.newdi k v) ρ S = (evE G Fn k ρ S).bind (kNewdi0 G Fn v ρ) := by rw [evE]; rfl
@[simp] theorem evE_newdp (es) : evE G Fn (.newdp es) ρ S = (evA G Fn es ρ S).bind kNewdpL := by rw [evE]
@[simp] theorem kNewdpL_eq (d) : kNewdpL [d] S = kNewdp d S := rfl
@[simp] theorem kNewdi0_eq (v d) : kNewdi0 G Fn v ρ d S = (evE G Fn v ρ S).bind (kNewdi d) := rfl
@[simp] theorem kNewdi_eq (n d) : kNewdi (.p (.int n)) d S = .ok (.ref S.length) (S ++ [.dci [n] [d]]) := rfl
@[simp] theorem kDsub_eq (k d) : kDsub G Fn k ρ d S = (evE G Fn k ρ S).bind (kDsub1 d) := rfl
@[simp] theorem kDget_eq (k z d) : kDget G Fn k z ρ d S = if isDc S d then (evE G Fn k ρ S).bind (kDget1 G Fn z ρ d) else .bad := rfl
@[simp] theorem kDget1_eq (z d x) : kDget1 G Fn z ρ d x S = (evE G Fn z ρ S).bind (kDget2 d x) := rfl
@[simp] theorem kDin_eq (e x) : kDin G Fn e ρ x S = (evE G Fn e ρ S).bind (kDin1 x) := rfl
@[simp] theorem kDsub1_eq (d k) : kDsub1 d k S = oD S (dgetO S d k) := rfl
@[simp] theorem kDget2_eq (d k z) : kDget2 d k z S = oDd S z (dgetO S d k) := rfl
@[simp] theorem kDin1_eq (k d) : kDin1 k d S = oDi S (dgetO S d k) := rfl
@[simp] theorem dgetO_eqI (k x) : dgetO S (.ref k) (.p (.int x)) = (match S[k]? with
    | some (.dci ks ds) => some (dfindI ks ds x)
    | _ => none) := rfl
@[simp] theorem dgetO_eq (k x) : dgetO S (.ref k) (.p (.str x)) = (match S[k]? with
    | some (.dct ks ds) => some (dfind ks ds x)
    | _ => none) := rfl
@[simp] theorem oD_some (d) : oD S (some (some d)) = .ok d S := rfl
@[simp] theorem oDd_some (z d) : oDd S z (some (some d)) = .ok d S := rfl
@[simp] theorem oDd_none (z) : oDd S z (some none) = .ok z S := rfl
@[simp] theorem oDi_some (o) : oDi S (some o) = .ok (.p (.bool o.isSome)) S := rfl
@[simp] theorem evE_pick (i j ix es) : evE G Fn (.pick i j ix es) ρ S = (evE G Fn ix ρ S).bind (kPick G Fn i j es ρ) := by
  rw [evE]; congr
@[simp] theorem evE_keep (e) : evE G Fn (.keep e) ρ S = (evE G Fn e ρ S).bind kKeep := by rw [evE]
@[simp] theorem evE_and (a b) : evE G Fn (.and a b) ρ S = (evE G Fn a ρ S).bind (kAnd G Fn b ρ) := by
  rw [evE]; congr; funext x S1; unfold kAnd; congr; funext c S2; cases c <;> rfl
@[simp] theorem evE_or (a b) : evE G Fn (.or a b) ρ S = (evE G Fn a ρ S).bind (kOr G Fn b ρ) := by
  rw [evE]; congr; funext x S1; unfold kOr; congr; funext c S2; cases c <;> rfl
@[simp] theorem evE_ite (c a b) : evE G Fn (.ite c a b) ρ S = (evE G Fn c ρ S).bind (kIte G Fn a b ρ) := by
  rw [evE]; congr; funext x S1; unfold kIte; congr; funext c S2; cases c <;> rfl
@[simp] theorem evE_comp (t k es cs e) : evE G Fn (.comp t k es cs e) ρ S = (evA G Fn es ρ S).bind (kCmp G Fn t k cs e ρ) := by
  rw [evE]; congr; funext ds S1
  show _ = kCmp2 G Fn t cs e ρ S1 (items S1 k ds)
  cases items S1 k ds with
  | none => rfl
  | some xs =>
    unfold kCmp2
    simp only
    congr
    funext x S2
    unfold stepC stepC1
    cases bindT t x (wipeT t ρ) with
    | none => rfl
    | some ρ' =>
      simp only
      congr
      funext c S3
      cases c with
      | true =>
        simp only [if_true, kE2]
      | false => rfl
@[simp] theorem evEs_nil : evEs G Fn [] ρ S = .ok [] S := by rw [evEs]
@[simp] theorem evEs_cons (e es) : evEs G Fn (e :: es) ρ S = (evE G Fn e ρ S).bind (kEs G Fn es ρ) := by rw [evEs]; rfl
@[simp] theorem evA_nil : evA G Fn [] ρ S = .ok [] S := by rw [evA]
def nv : E → Bool
  | .v _ => false
  | _ => true
@[simp] theorem evA_v (i es) : evA G Fn (.v i :: es) ρ S = (Out.of (lookB ρ i) S).bind (kA G Fn es ρ) := by rw [evA]; rfl
theorem evA_e (e es) (h : nv e = true) : evA G Fn (e :: es) ρ S = (evE G Fn e ρ S).bind (kA G Fn es ρ) := by
  cases e with
  | v i => cases h
  | _ => rw [evA]; all_goals first | rfl | (intro i z; cases z)
@[simp] theorem evA_c (x es) : evA G Fn (.c x :: es) ρ S = (evE G Fn (.c x) ρ S).bind (kA G Fn es ρ) := evA_e ρ S _ _ rfl
@[simp] theorem evA_g (k es) : evA G Fn (.g k :: es) ρ S = (evE G Fn (.g k) ρ S).bind (kA G Fn es ρ) := evA_e ρ S _ _ rfl
@[simp] theorem evA_pr (o bs es) : evA G Fn (.pr o bs :: es) ρ S = (evE G Fn (.pr o bs) ρ S).bind (kA G Fn es ρ) := evA_e ρ S _ _ rfl
@[simp] theorem evA_ef (o bs es) : evA G Fn (.ef o bs :: es) ρ S = (evE G Fn (.ef o bs) ρ S).bind (kA G Fn es ρ) := evA_e ρ S _ _ rfl
@[simp] theorem evA_call (f pm bs es) : evA G Fn (.call f pm bs :: es) ρ S = (evE G Fn (.call f pm bs) ρ S).bind (kA G Fn es ρ) := evA_e ρ S _ _ rfl
@[simp] theorem evA_and (a b es) : evA G Fn (.and a b :: es) ρ S = (evE G Fn (.and a b) ρ S).bind (kA G Fn es ρ) := evA_e ρ S _ _ rfl
@[simp] theorem evA_or (a b es) : evA G Fn (.or a b :: es) ρ S = (evE G Fn (.or a b) ρ S).bind (kA G Fn es ρ) := evA_e ρ S _ _ rfl
@[simp] theorem evA_not (a es) : evA G Fn (.not a :: es) ρ S = (evE G Fn (.not a) ρ S).bind (kA G Fn es ρ) := evA_e ρ S _ _ rfl
@[simp] theorem evA_ite (c a b es) : evA G Fn (.ite c a b :: es) ρ S = (evE G Fn (.ite c a b) ρ S).bind (kA G Fn es ρ) := evA_e ρ S _ _ rfl
@[simp] theorem evA_chain (o1 o2 a b c es) : evA G Fn (.chain o1 o2 a b c :: es) ρ S = (evE G Fn (.chain o1 o2 a b c) ρ S).bind (kA G Fn es ρ) := evA_e ρ S _ _ rfl
@[simp] theorem evA_comp (t k bs cs e es) : evA G Fn (.comp t k bs cs e :: es) ρ S = (evE G Fn (.comp t k bs cs e) ρ S).bind (kA G Fn es ρ) := evA_e ρ S _ _ rfl
@[simp] theorem evA_app (o e es) : evA G Fn (.app o e :: es) ρ S = (evE G Fn (.app o e) ρ S).bind (kA G Fn es ρ) := evA_e ρ S _ _ rfl
@[simp] theorem evA_popE (o e es) : evA G Fn (.popE o e :: es) ρ S = (evE G Fn (.popE o e) ρ S).bind (kA G Fn es ρ) := evA_e ρ S _ _ rfl
@[simp] theorem evA_ggetN (k e es) : evA G Fn (.ggetN k e :: es) ρ S = (evE G Fn (.ggetN k e) ρ S).bind (kA G Fn es ρ) := evA_e ρ S _ _ rfl
@[simp] theorem evA_newdi (k v es) : evA G Fn (.newdi k v :: es) ρ S = (evE G Fn (.newdi k v) ρ S).bind (kA G Fn es ρ) := evA_e ρ S _ _ rfl
@[simp] theorem evA_newdp (as es) : evA G Fn (.newdp as :: es) ρ S = (evE G Fn (.newdp as) ρ S).bind (kA G Fn es ρ) := evA_e ρ S _ _ rfl
@[simp] theorem evA_gget (k e es) : evA G Fn (.gget k e :: es) ρ S = (evE G Fn (.gget k e) ρ S).bind (kA G Fn es ρ) := evA_e ρ S _ _ rfl
@[simp] theorem evA_disp (ks vs k d es) : evA G Fn (.disp ks vs k d :: es) ρ S = (evE G Fn (.disp ks vs k d) ρ S).bind (kA G Fn es ρ) := evA_e ρ S _ _ rfl
@[simp] theorem evA_gmem (k e es) : evA G Fn (.gmem k e :: es) ρ S = (evE G Fn (.gmem k e) ρ S).bind (kA G Fn es ρ) := evA_e ρ S _ _ rfl
@[simp] theorem evA_pick (i j ix bs es) : evA G Fn (.pick i j ix bs :: es) ρ S = (evE G Fn (.pick i j ix bs) ρ S).bind (kA G Fn es ρ) := evA_e ρ S _ _ rfl
@[simp] theorem evA_keep (e es) : evA G Fn (.keep e :: es) ρ S = (evE G Fn (.keep e) ρ S).bind (kA G Fn es ρ) := evA_e ρ S _ _ rfl
@[simp] theorem evC_nil : evC G Fn [] ρ S = .ok true S := by rw [evC]
@[simp] theorem evC_cons (e es) : evC G Fn (e :: es) ρ S = (evE G Fn e ρ S).bind (kC G Fn es ρ) := by
  rw [evC]; congr; funext d S1; unfold kC; congr; funext c S2; cases c <;> rfl
end
section
variable (G : Nat → D) (Fn : Nat → List D → Store → Out D)
def kSs (r : List S) : Fl → Store → Out Fl
  | .nx ρ, S => evSs G Fn r ρ S
  | .rt d, S => .ok (.rt d) S
  | .bk ρ, S => .ok (.bk ρ) S
  | .ct ρ, S => .ok (.ct ρ) S
def kIf2 (a b : List S) (ρ : Env) : Bool → Store → Out Fl
  | true, S => evSs G Fn a ρ S
  | false, S => evSs G Fn b ρ S
def kIf (a b : List S) (ρ : Env) (x : D) (S : Store) : Out Fl := (tru x S).bind (kIf2 G Fn a b ρ)
def stepF1 (b : List S) (S : Store) : Option Env → Out Fl
  | some ρ => evSs G Fn b ρ S
  | none => .bad
def stepF (t : Tg) (b : List S) (x : D) (ρ : Env) (S : Store) : Out Fl := stepF1 G Fn b S (bindT t x ρ)
def kFor1 (t : Tg) (b : List S) (ρ : Env) (S : Store) : Option (List D) → Out Fl
  | some xs => forL (stepF G Fn t b) xs ρ S
  | none => .bad
def kFor0 (t : Tg) (k : Ik) (b : List S) (ρ : Env) (ds : List D) (S : Store) : Out Fl := kFor1 G Fn t b ρ S (items S k ds)
def cW (c : E) (ρ : Env) (S : Store) : Out Bool := (evE G Fn c ρ S).bind tru
def kPar (i j : Nat) (b : E) (ρ : Env) (x : D) (S : Store) : Out Fl := (evE G Fn b ρ S).bind (kPar2 i j ρ x)
def kParO (i j : Nat) (b : E) (ρ : Env) (x : D) (S : Store) : Out Fl := (evE G Fn b ρ S).bind (kParO2 i j ρ x)
def kPar3b (i j l : Nat) (c : E) (ρ : Env) (x y : D) (S : Store) : Out Fl := (evE G Fn c ρ S).bind (kPar3c i j l ρ x y)
def kPar3a (i j l : Nat) (b c : E) (ρ : Env) (x : D) (S : Store) : Out Fl := (evE G Fn b ρ S).bind (kPar3b G Fn i j l c ρ x)
def kSetf0 (c : Nat) (o : E) (f : Str) (ρ : Env) (d : D) (S : Store) : Out Fl := (evE G Fn o ρ S).bind (kSetf2 c ρ f d)
def kSetd1 (k : E) (ρ : Env) (d x : D) (S : Store) : Out Fl := (evE G Fn k ρ S).bind (kSetd3 ρ d x)
def kSetd0 (o k : E) (ρ : Env) (d : D) (S : Store) : Out Fl := (evE G Fn o ρ S).bind (kSetd1 G Fn k ρ d)
def kSet1 (i : E) (ρ : Env) (d x : D) (S : Store) : Out Fl := (evE G Fn i ρ S).bind (kSet2 ρ d x)
def kSet0 (o i : E) (ρ : Env) (d : D) (S : Store) : Out Fl := (evE G Fn o ρ S).bind (kSet1 G Fn i ρ d)
variable {G Fn} (ρ : Env) (S : Store)
@[simp] theorem kSs_nx (r) : kSs G Fn r (.nx ρ) S = evSs G Fn r ρ S := rfl
@[simp] theorem kSs_rt (r d) : kSs G Fn r (.rt d) S = .ok (.rt d) S := rfl
@[simp] theorem kSs_bk (r) : kSs G Fn r (.bk ρ) S = .ok (.bk ρ) S := rfl
@[simp] theorem kSs_ct (r) : kSs G Fn r (.ct ρ) S = .ok (.ct ρ) S := rfl
@[simp] theorem nxO_some : nxO S (some ρ) = .ok (.nx ρ) S := rfl
@[simp] theorem kAsg_eq (t d) : kAsg t ρ d S = nxO S (bindT t d ρ) := rfl
@[simp] theorem kEx_eq (d) : kEx ρ d S = .ok (.nx ρ) S := rfl
@[simp] theorem kRet_eq (d) : kRet d S = .ok (.rt d) S := rfl
@[simp] theorem kIf_eq (a b x) : kIf G Fn a b ρ x S = (tru x S).bind (kIf2 G Fn a b ρ) := rfl
@[simp] theorem kIf2_t (a b) : kIf2 G Fn a b ρ true S = evSs G Fn a ρ S := rfl
@[simp] theorem kIf2_f (a b) : kIf2 G Fn a b ρ false S = evSs G Fn b ρ S := rfl
@[simp] theorem stepF1_eq (b) : stepF1 G Fn b S (some ρ) = evSs G Fn b ρ S := rfl
theorem stepF_eq (t b x) : stepF G Fn t b x ρ S = stepF1 G Fn b S (bindT t x ρ) := rfl
@[simp] theorem kFor0_eq (t k b ds) : kFor0 G Fn t k b ρ ds S = kFor1 G Fn t b ρ S (items S k ds) := rfl
@[simp] theorem kFor1_eq (t b xs) : kFor1 G Fn t b ρ S (some xs) = forL (stepF G Fn t b) xs ρ S := rfl
theorem cW_eq (c) : cW G Fn c ρ S = (evE G Fn c ρ S).bind tru := rfl
@[simp] theorem kPar_eq (i j b x) : kPar G Fn i j b ρ x S = (evE G Fn b ρ S).bind (kPar2 i j ρ x) := rfl
@[simp] theorem kPar2_eq (i j x y) : kPar2 i j ρ x y S = if canSet ρ i && canSet ρ j then .ok (.nx ((ρ.set i (.v x)).set j (.v y))) S else .bad := rfl
@[simp] theorem kSet0_eq (o i d) : kSet0 G Fn o i ρ d S = (evE G Fn o ρ S).bind (kSet1 G Fn i ρ d) := rfl
@[simp] theorem kSet1_eq (i d x) : kSet1 G Fn i ρ d x S = (evE G Fn i ρ S).bind (kSet2 ρ d x) := rfl
@[simp] theorem kSet2_eq (d x y) : kSet2 ρ d x y S = (setSt S [x, y, d]).bind (kSet3 ρ) := rfl
@[simp] theorem kSet3_eq (u) : kSet3 ρ u S = .ok (.nx ρ) S := rfl
@[simp] theorem kOwn_eq (i xs) : kOwn i ρ (.p (.list xs)) S = if canSet ρ i then .ok (.nx (ρ.set i (.own xs))) S else .bad := rfl
theorem kApp_eq (i d) : kApp i ρ d S = match ρ[i]?, d with
  | some (.own xs), .p x => if fitsL (xs.length + 1) then .ok (.nx (ρ.set i (.own (xs ++ [x])))) S else .bad
  | _, _ => .bad := rfl
theorem kExt_eq (i d) : kExt i ρ d S = match ρ[i]?, d with
  | some (.own xs), .p (.list ys) => if fitsL (xs.length + ys.length) then .ok (.nx (ρ.set i (.own (xs ++ ys)))) S else .bad
  | some (.own xs), .p (.tuple ys) => if fitsL (xs.length + ys.length) then .ok (.nx (ρ.set i (.own (xs ++ ys)))) S else .bad
  | _, _ => .bad := rfl
@[simp] theorem kRaisf_eq (c f d) : kRaisf Fn c f d S = (Fn 1000 [] S).bind (kRaisf2 c f d) := rfl
@[simp] theorem kRaisf2_eq (c f d x) : kRaisf2 c f d x S = .exc ⟨c, some (f, d)⟩ S := rfl
@[simp] theorem kTry_exc (hs e) : kTry hs ρ (.exc e S) = kTry1 hs ρ e S := rfl
@[simp] theorem kTry_ok (hs f) : kTry hs ρ (.ok f S) = .ok f S := rfl
@[simp] theorem kTry_bad (hs) : kTry hs ρ .bad = .bad := rfl
@[simp] theorem kRaise_eq (c ds) : kRaise c ds S = .exc ⟨c, none⟩ S := rfl
@[simp] theorem evS_asg (t e) : evS G Fn (.asg t e) ρ S = (evE G Fn e ρ S).bind (kAsg t ρ) := by rw [evS]
@[simp] theorem evS_ex (e) : evS G Fn (.ex e) ρ S = (evE G Fn e ρ S).bind (kEx ρ) := by rw [evS]
@[simp] theorem evS_ret (e) : evS G Fn (.ret e) ρ S = (evE G Fn e (ρ.map frz) S).bind kRet := by rw [evS]
@[simp] theorem evS_ifs (c a b) : evS G Fn (.ifs c a b) ρ S = (evE G Fn c ρ S).bind (kIf G Fn a b ρ) := by
  rw [evS]; congr; funext x S1; unfold kIf; congr; funext c S2; cases c <;> rfl
@[simp] theorem evS_for (t k es b) : evS G Fn (.for_ t k es b) ρ S = (evEs G Fn es ρ S).bind (kFor0 G Fn t k b ρ) := by
  rw [evS]; congr; funext ds S1
  show _ = kFor1 G Fn t b ρ S1 (items S1 k ds)
  cases items S1 k ds with
  | none => rfl
  | some xs =>
    refine congrArg (fun q => forL q xs ρ S1) ?_
    funext x ρ1 S2
    show _ = stepF1 G Fn b S2 (bindT t x ρ1)
    cases bindT t x ρ1 <;> rfl
@[simp] theorem evS_while (n c b) : evS G Fn (.while_ n c b) ρ S = whileL (cW G Fn c) (evSs G Fn b) n ρ S := by rw [evS]; rfl
@[simp] theorem kParO_eq (i j b x) : kParO G Fn i j b ρ x S = (evE G Fn b ρ S).bind (kParO2 i j ρ x) := rfl
@[simp] theorem kParO2_eq (i j x y) : kParO2 i j ρ x y S = if canSet ρ i then kOwn j (ρ.set i (.v x)) y S else .bad := rfl
@[simp] theorem evS_parO (i j a b) : evS G Fn (.parO i j a b) ρ S = (evE G Fn a ρ S).bind (kParO G Fn i j b ρ) := by rw [evS]; rfl
@[simp] theorem evS_par (i j a b) : evS G Fn (.par i j a b) ρ S = (evE G Fn a ρ S).bind (kPar G Fn i j b ρ) := by rw [evS]; rfl
@[simp] theorem evS_parF (bs is es) : evS G Fn (.parF bs is es) ρ S = (evEs G Fn es ρ S).bind (kParF bs is ρ) := by rw [evS]
@[simp] theorem kParF_eq (bs is ds) : kParF bs is ρ ds S = nxO S (setsF bs is ds ρ) := rfl
@[simp] theorem setsF_n (ρ) : setsF [] [] [] ρ = some ρ := rfl
@[simp] theorem setsF_v (bs i is d ds ρ) : setsF (false :: bs) (i :: is) (d :: ds) ρ = if canSet ρ i then setsF bs is ds (ρ.set i (.v d)) else none := rfl
@[simp] theorem setsF_o (bs i is xs ds ρ) : setsF (true :: bs) (i :: is) (.p (.list xs) :: ds) ρ = if canSet ρ i then setsF bs is ds (ρ.set i (.own xs)) else none := rfl
@[simp] theorem evS_par3O (i j l a b c) : evS G Fn (.par3O i j l a b c) ρ S = (evE G Fn a ρ S).bind (kPar3a G Fn i j l b c ρ) := by rw [evS]; rfl
@[simp] theorem kPar3a_eq (i j l b c x) : kPar3a G Fn i j l b c ρ x S = (evE G Fn b ρ S).bind (kPar3b G Fn i j l c ρ x) := rfl
@[simp] theorem kPar3b_eq (i j l c x y) : kPar3b G Fn i j l c ρ x y S = (evE G Fn c ρ S).bind (kPar3c i j l ρ x y) := rfl
@[simp] theorem kPar3c_eq (i j l x y z) : kPar3c i j l ρ x (.p y) (.p z) S = (kOwn i ρ x S).bind (kSetP j l y z) := rfl
@[simp] theorem kSetP_eq (j l y z) : kSetP j l y z (.nx ρ) S = .ok (.nx ((ρ.set j (.v (.p y))).set l (.v (.p z)))) S := rfl
@[simp] theorem evS_setf (c o f e) : evS G Fn (.setf c o f e) ρ S = (evE G Fn e ρ S).bind (kSetf0 G Fn c o f ρ) := by rw [evS]; rfl
@[simp] theorem evS_setd (o k e) : evS G Fn (.setd o k e) ρ S = (evE G Fn e ρ S).bind (kSetd0 G Fn o k ρ) := by rw [evS]; rfl
@[simp] theorem kSetf0_eq (c o f d) : kSetf0 G Fn c o f ρ d S = (evE G Fn o ρ S).bind (kSetf2 c ρ f d) := rfl
@[simp] theorem kSetf2_eq (c f d x) : kSetf2 c ρ f d x S = (setFd c f d S x).bind (kSet3 ρ) := rfl
@[simp] theorem setFd_eq (c f d k) : setFd c f d S (.ref k) = (match S[k]? with
    | some (.ins c' fs) => if decide (c' = c ∧ fs.length < 1000) then .ok () (S.set k (.ins c (putD f d fs))) else .bad
    | _ => .bad) := rfl
@[simp] theorem kSetd0_eq (o k d) : kSetd0 G Fn o k ρ d S = (evE G Fn o ρ S).bind (kSetd1 G Fn k ρ d) := rfl
@[simp] theorem kSetd1_eq (k d x) : kSetd1 G Fn k ρ d x S = (evE G Fn k ρ S).bind (kSetd3 ρ d x) := rfl
@[simp] theorem kSetd3_eq (d x y) : kSetd3 ρ d x y S = (setDk S d x y).bind (kSet3 ρ) := rfl
@[simp] theorem evS_seti (o i e) : evS G Fn (.seti o i e) ρ S = (evE G Fn e ρ S).bind (kSet0 G Fn o i ρ) := by rw [evS]; rfl
@[simp] theorem evS_own (i e) : evS G Fn (.own i e) ρ S = (evE G Fn e ρ S).bind (kOwn i ρ) := by
  rw [evS]
@[simp] theorem evS_oapp (i e) : evS G Fn (.oapp i e) ρ S = if isOwn ρ i then (evE G Fn e ρ S).bind (kApp i ρ) else .bad := by rw [evS]
@[simp] theorem evS_oext (i e) : evS G Fn (.oext i e) ρ S = if isOwn ρ i then (evE G Fn e ρ S).bind (kExt i ρ) else .bad := by rw [evS]
@[simp] theorem evS_oaug (i e) : evS G Fn (.oaug i e) ρ S = if isOwn ρ i then (evE G Fn e ρ S).bind (kExtL i ρ) else .bad := by rw [evS]
@[simp] theorem kExtL_eq (i d) : kExtL i ρ d S = (match ρ[i]?, d with
  | some (.own xs), .p (.list ys) => if fitsL (xs.length + ys.length) then .ok (.nx (ρ.set i (.own (xs ++ ys)))) S else .bad
  | some (.own xs), .p (.tuple ys) => if fitsL (xs.length + ys.length) then .ok (.nx (ρ.set i (.own (xs ++ ys)))) S else .bad
  | _, _ => .bad) := rfl
@[simp] theorem evS_frz (i) : evS G Fn (.frz i) ρ S = .ok (.nx (ρ.modify i frz)) S := by rw [evS]
@[simp] theorem evS_pass : evS G Fn .pass ρ S = .ok (.nx ρ) S := by rw [evS]
@[simp] theorem evS_cont : evS G Fn .cont ρ S = .ok (.ct ρ) S := by rw [evS]
@[simp] theorem evS_raise (c es) : evS G Fn (.raise c es) ρ S = (evEs G Fn es ρ S).bind (kRaise c) := by rw [evS]
@[simp] theorem evS_raisf (c f e) : evS G Fn (.raisf c f e) ρ S = (evE G Fn e ρ S).bind (kRaisf Fn c f) := by rw [evS]
@[simp] theorem evS_try (b hs) : evS G Fn (.try_ b hs) ρ S = if noOwn ρ then kTry hs ρ (evSs G Fn b ρ S) else .bad := by rw [evS]
@[simp] theorem evSs_nil : evSs G Fn [] ρ S = .ok (.nx ρ) S := by rw [evSs]
@[simp] theorem evSs_cons (s r) : evSs G Fn (s :: r) ρ S = (evS G Fn s ρ S).bind (kSs G Fn r) := by
  rw [evSs]; congr; funext f S1; cases f <;> rfl
end
/-- one argument of what only looks -/
def evA1 (G : Nat → D) (Fn : Nat → List D → Store → Out D) : E → Env → Store → Out D
  | .v i, ρ, S => .of (lookB ρ i) S
  | e, ρ, S => evE G Fn e ρ S
theorem evA_one {G : Nat → D} {Fn : Nat → List D → Store → Out D} (e : E) (es : List E) (ρ : Env) (S : Store) : evA G Fn (e :: es) ρ S = (evA1 G Fn e ρ S).bind (kA G Fn es ρ) := by
  cases e <;> rw [evA] <;> first | rfl | (intro i z; cases z)
@[simp] theorem forL_nil (step ρ S) : forL step [] ρ S = .ok (.nx ρ) S := rfl
theorem forL_cons (step x r ρ S) : forL step (x :: r) ρ S = (step x ρ S).bind (kFor (forL step r)) := rfl
@[simp] theorem kFor_nx (go ρ S) : kFor go (.nx ρ) S = go ρ S := rfl
@[simp] theorem kFor_ct (go ρ S) : kFor go (.ct ρ) S = go ρ S := rfl
@[simp] theorem kFor_bk (go ρ S) : kFor go (.bk ρ) S = .ok (.nx ρ) S := rfl
@[simp] theorem kFor_rt (go d S) : kFor go (.rt d) S = .ok (.rt d) S := rfl
@[simp] theorem kWh_t (b go ρ S) : kWh b go ρ true S = (b ρ S).bind (kFor go) := rfl
@[simp] theorem kWh_f (b go ρ S) : kWh b go ρ false S = .ok (.nx ρ) S := rfl
theorem whileL_succ (c b n ρ S) : whileL c b (n + 1) ρ S = (c ρ S).bind (kWh b (whileL c b n) ρ) := rfl
@[simp] theorem compL_nil (step S) : compL step [] S = .ok [] S := rfl
theorem compL_cons (step x r S) : compL step (x :: r) S = (noX (step x S)).bind (kComp (compL step r)) := rfl
@[simp] theorem noX_ok {α : Type} (a : α) (S) : noX (.ok a S) = .ok a S := rfl
def kAddO (y : Option PyData) (ys : List PyData) (S : Store) : Out (List PyData) := .ok (addO y ys) S
@[simp] theorem kAddO_eq (y ys S) : kAddO y ys S = .ok (addO y ys) S := rfl
@[simp] theorem kComp_eq (go y S) : kComp go y S = (go S).bind (kAddO y) := rfl
@[simp] theorem addO_some (y ys) : addO (some y) ys = y :: ys := rfl
@[simp] theorem addO_none (ys) : addO none ys = ys := rfl
@[simp] theorem fin_rt (d S) : fin (.rt d) S = .ok d S := rfl
@[simp] theorem fin_nx (ρ S) : fin (.nx ρ) S = .ok (.p .none) S := rfl
@[simp] theorem tru_eq (d S) : tru d S = .of (truth S d) S := rfl
@[simp] theorem frz_own (xs) : frz (.own xs) = .v (.p (.list xs)) := rfl
@[simp] theorem frz_v (d) : frz (.v d) = .v d := rfl
@[simp] theorem frz_un : frz .un = .un := rfl
theorem run_succ (G T n f args S) (h : (args.length == (T f).np) = true) : run G T (n + 1) f args S = (evSs G (run G T n) (T f).body (args.map .v ++ List.replicate (T f).nv .un) S).bind fin := by rw [run, if_pos h]
section
variable (S : Store)
@[simp] theorem prim_add (ds) : prim S .add ds = p_add ds := rfl
@[simp] theorem prim_sub (ds) : prim S .sub ds = p_sub ds := rfl
@[simp] theorem prim_mul (ds) : prim S .mul ds = p_mul ds := rfl
@[simp] theorem prim_fdiv (ds) : prim S .fdiv ds = p_fdiv ds := rfl
@[simp] theorem prim_mod (ds) : prim S .mod ds = p_mod ds := rfl
@[simp] theorem prim_pow (ds) : prim S .pow ds = p_pow ds := rfl
@[simp] theorem prim_neg (ds) : prim S .neg ds = p_neg ds := rfl
@[simp] theorem prim_eq (ds) : prim S .eq ds = p_eq S ds := rfl
@[simp] theorem prim_ne (ds) : prim S .ne ds = p_ne S ds := rfl
@[simp] theorem prim_lt (ds) : prim S .lt ds = p_lt ds := rfl
@[simp] theorem prim_le (ds) : prim S .le ds = p_le ds := rfl
@[simp] theorem prim_gt (ds) : prim S .gt ds = p_gt ds := rfl
@[simp] theorem prim_ge (ds) : prim S .ge ds = p_ge ds := rfl
@[simp] theorem prim_isN (ds) : prim S .isN ds = p_isN ds := rfl
@[simp] theorem prim_notN (ds) : prim S .notN ds = p_notN ds := rfl
@[simp] theorem prim_mem (ds) : prim S .mem ds = p_mem ds := rfl
@[simp] theorem prim_maxL (ds) : prim S .maxL ds = p_maxL ds := rfl
@[simp] theorem p_maxL_eq (xs) : p_maxL [.p (.list xs)] = (match intsOf xs with
    | some (n :: ns) => some (.p (.int (ns.foldl max n)))
    | _ => none) := rfl
@[simp] theorem prim_memD (ds) : prim S .memD ds = p_memD ds := rfl
@[simp] theorem prim_nmemD (ds) : prim S .nmemD ds = p_nmemD ds := rfl
@[simp] theorem p_memD_0 (x xs) : p_memD [.p x, .p (.list xs)] = (if memDok x xs then some (.p (.bool (xs.any fun y => PyData.eqv y x))) else none) := rfl
@[simp] theorem p_memD_1 (x xs) : p_memD [.p x, .p (.tuple xs)] = (if memDok x xs then some (.p (.bool (xs.any fun y => PyData.eqv y x))) else none) := rfl
@[simp] theorem p_nmemD_0 (x xs) : p_nmemD [.p x, .p (.list xs)] = (if memDok x xs then some (.p (.bool (!xs.any fun y => PyData.eqv y x))) else none) := rfl
@[simp] theorem p_nmemD_1 (x xs) : p_nmemD [.p x, .p (.tuple xs)] = (if memDok x xs then some (.p (.bool (!xs.any fun y => PyData.eqv y x))) else none) := rfl
@[simp] theorem prim_cat (ds) : prim S .cat ds = p_cat ds := rfl
@[simp] theorem p_cat_0 (x y) : p_cat [.p (.list x), .p (.list y)] = (if fitsL (x.length + y.length) then some (.p (.list (x ++ y))) else none) := rfl
@[simp] theorem p_min_3 (i j k) : p_min [.p (.int i), .p (.int j), .p (.int k)] = some (.p (.int (min2I (min2I i j) k))) := rfl
@[simp] theorem prim_memK (ds) : prim S .memK ds = p_memK S ds := rfl
@[simp] theorem prim_nmemK (ds) : prim S .nmemK ds = p_nmemK S ds := rfl
@[simp] theorem p_memK_eq (x i) : p_memK S [.p (.str x), .ref i] = (match S[i]? with
    | some (.dct ks _) => some (.p (.bool (decide (x ∈ ks))))
    | _ => none) := rfl
@[simp] theorem p_nmemK_eq (x i) : p_nmemK S [.p (.str x), .ref i] = (match S[i]? with
    | some (.dct ks _) => some (.p (.bool (!decide (x ∈ ks))))
    | _ => none) := rfl
@[simp] theorem prim_memr (ds) : prim S .memr ds = p_memr S ds := rfl
@[simp] theorem p_memr_eq (x i) : p_memr S [.p x, .ref i] = (match S[i]? with
    | some (.lst ds) => match pures ds with
      | some xs => if flat x && xs.all flat then some (.p (.bool (xs.any fun y => PyData.eqv y x))) else none
      | none => none
    | _ => none) := rfl
@[simp] theorem prim_nmem (ds) : prim S .nmem ds = p_nmem ds := rfl
@[simp] theorem prim_tupr (ds) : prim S .tupr ds = p_tupr S ds := rfl
@[simp] theorem prim_len (ds) : prim S .len ds = p_len S ds := rfl
@[simp] theorem prim_int (ds) : prim S .int ds = p_int ds := rfl
@[simp] theorem prim_str (ds) : prim S .str ds = p_str ds := rfl
@[simp] theorem prim_idx (ds) : prim S .idx ds = p_idx S ds := rfl
@[simp] theorem prim_slice (lo hi ds) : prim S (.slice lo hi) ds = p_slice lo hi ds := rfl
@[simp] theorem p_slice_tt (x l h) : p_slice true true [x, .p (.int l), .p (.int h)] = cutD x (some l) (some h) := rfl
@[simp] theorem p_slice_tf (x l) : p_slice true false [x, .p (.int l)] = cutD x (some l) none := rfl
@[simp] theorem p_slice_ft (x h) : p_slice false true [x, .p (.int h)] = cutD x none (some h) := rfl
@[simp] theorem p_slice_ff (x) : p_slice false false [x] = cutD x none none := rfl
@[simp] theorem cutD_list (xs lo hi) : cutD (.p (.list xs)) lo hi = some (.p (.list (cut xs lo hi))) := rfl
@[simp] theorem cutD_tuple (xs lo hi) : cutD (.p (.tuple xs)) lo hi = some (.p (.tuple (cut xs lo hi))) := rfl
@[simp] theorem cutD_str (x lo hi) : cutD (.p (.str x)) lo hi = if fitsL x.length then some (.p (.str ⟨(cut x.cps.toList lo hi).toArray⟩)) else none := rfl
@[simp] theorem prim_isi (ts) (ds) : prim S (.isi ts) ds = p_isi S ts ds := rfl
@[simp] theorem prim_tuple (ds) : prim S .tuple ds = p_tuple ds := rfl
@[simp] theorem prim_list (ds) : prim S .list ds = p_list ds := rfl
@[simp] theorem prim_all (ds) : prim S .all ds = p_all ds := rfl
@[simp] theorem prim_any (ds) : prim S .any ds = p_any ds := rfl
@[simp] theorem prim_sum (ds) : prim S .sum ds = p_sum ds := rfl
@[simp] theorem prim_min (ds) : prim S .min ds = p_min ds := rfl
@[simp] theorem prim_max (ds) : prim S .max ds = p_max ds := rfl
@[simp] theorem prim_abs (ds) : prim S .abs ds = p_abs ds := rfl
@[simp] theorem p_mem_2 (x y) : p_mem [.p (.str x), .p (.str y)] = some (.p (.bool (!(Builtin.Str.occurrences y x 0 y.length 1).isEmpty))) := rfl
@[simp] theorem p_nmem_2 (x y) : p_nmem [.p (.str x), .p (.str y)] = some (.p (.bool (!(!(Builtin.Str.occurrences y x 0 y.length 1).isEmpty)))) := rfl
@[simp] theorem prim_join (ds) : prim S .join ds = p_join ds := rfl
@[simp] theorem prim_repr (ds) : prim S .repr ds = p_repr ds := rfl
@[simp] theorem prim_lenset (ds) : prim S .lenset ds = p_lenset ds := rfl
@[simp] theorem prim_sortset (ds) : prim S .sortset ds = p_sortset ds := rfl
@[simp] theorem prim_revs (ds) : prim S .revs ds = p_revs ds := rfl
@[simp] theorem p_revs_0 (xs) : p_revs [.p (.tuple xs)] = some (.p (.tuple xs.reverse)) := rfl
@[simp] theorem prim_tuprev (ds) : prim S .tuprev ds = p_tuprev ds := rfl
@[simp] theorem prim_lstrng (ds) : prim S .lstrng ds = p_lstrng ds := rfl
@[simp] theorem prim_sorted (ds) : prim S .sorted ds = p_sorted ds := rfl
@[simp] theorem p_lenset_0 (xs) : p_lenset [.p (.list xs)] = lensetS xs := rfl
@[simp] theorem p_lenset_1 (xs) : p_lenset [.p (.tuple xs)] = lensetS xs := rfl
@[simp] theorem p_tuprev_0 (xs) : p_tuprev [.p (.list xs)] = some (.p (.tuple xs.reverse)) := rfl
@[simp] theorem p_lstrng_0 (n) : p_lstrng [.p (.int n)] = if decide (-1000000 ≤ n ∧ n ≤ 1000000) then some (.p (.list ((List.range n.toNat).map fun (k : Nat) => PyData.int (k : Int)))) else none := rfl
@[simp] theorem p_lstrng_2 (a b) : p_lstrng [.p (.int a), .p (.int b)] = if decide (-1000000000 ≤ a ∧ a ≤ 1000000000 ∧ -1000000000 ≤ b ∧ b ≤ 1000000000 ∧ b - a ≤ 1000000) then some (.p (.list ((List.range (b - a).toNat).map fun (k : Nat) => PyData.int (a + (k : Int))))) else none := rfl
theorem p_sorted_0 (xs) : p_sorted [.p (.list xs)] = match intsOf xs with
    | some ns => some (.p (.list ((ns.mergeSort fun a b => decide (a ≤ b)).map .int)))
    | none => match strsOf xs with
    | some ss => if decide (ss.length < 64) then some (.p (.list ((sortS ss).map .str))) else none
    | none => if sortOkB xs then some (.p (.list (xs.mergeSort (PySem.W.dataLe false id)))) else none := rfl
@[simp] theorem prim_isT (ds) : prim S .isT ds = p_isT ds := rfl
@[simp] theorem prim_isF (ds) : prim S .isF ds = p_isF ds := rfl
@[simp] theorem p_repr_0 (x) : p_repr [.p (.list x)] = if reprOk (.list x) then some (.p (.str (PyData.list x).shown)) else none := rfl
@[simp] theorem p_repr_1 (x) : p_repr [.p (.tuple x)] = if reprOk (.tuple x) then some (.p (.str (PyData.tuple x).shown)) else none := rfl
@[simp] theorem p_add_0 (i) (j) : p_add ([.p (.int i), .p (.int j)]) = (some (.p (.int (i + j)))) := rfl
@[simp] theorem p_add_1 (x) (y) : p_add ([.p (.str x), .p (.str y)]) = (if fitsL (x.length + y.length) then some (.p (.str (x ++ y))) else none) := rfl
@[simp] theorem p_add_2 (x) (y) : p_add ([.p (.list x), .p (.list y)]) = (if fitsL (x.length + y.length) then some (.p (.list (x ++ y))) else none) := rfl
@[simp] theorem p_add_3 (x) (y) : p_add ([.p (.tuple x), .p (.tuple y)]) = (if fitsL (x.length + y.length) then some (.p (.tuple (x ++ y))) else none) := rfl
@[simp] theorem p_sub_0 (i) (j) : p_sub ([.p (.int i), .p (.int j)]) = (some (.p (.int (i - j)))) := rfl
@[simp] theorem p_mul_1 (n) (x) : p_mul ([.p (.str x), .p (.int n)]) = (if decide (2 ≤ n ∧ n ≤ 1000 ∧ 1 ≤ x.length ∧ x.length ≤ 1000) then some (.p (.str ⟨(List.replicate n.toNat x.cps).foldl (· ++ ·) #[]⟩)) else none) := rfl
@[simp] theorem p_mul_2 (n) (x) : p_mul ([.p (.tuple x), .p (.int n)]) = (if decide (2 ≤ n ∧ n ≤ 1000 ∧ 1 ≤ x.length ∧ x.length ≤ 1000) then some (.p (.tuple (List.replicate n.toNat x).flatten)) else none) := rfl
@[simp] theorem p_mul_L (x) (n) : p_mul ([.p (.list x), .p (.int n)]) = (if decide (0 ≤ n ∧ n ≤ 1000 ∧ x.length ≤ 1000) then some (.p (.list (List.replicate n.toNat x).flatten)) else none) := rfl
@[simp] theorem p_mul_0 (i) (j) : p_mul ([.p (.int i), .p (.int j)]) = (if mulOk i j then some (.p (.int (i * j))) else none) := rfl
@[simp] theorem p_fdiv_0 (i) (j) : p_fdiv ([.p (.int i), .p (.int j)]) = (if decide (0 < j ∧ j.natAbs.log2 < 9000) then some (.p (.int (i / j))) else none) := rfl
@[simp] theorem p_mod_0 (i) (j) : p_mod ([.p (.int i), .p (.int j)]) = (if decide (0 < j) then some (.p (.int (i % j))) else none) := rfl
@[simp] theorem p_pow_0 (i) (j) : p_pow ([.p (.int i), .p (.int j)]) = (if decide (0 ≤ j ∧ j ≤ 1000000 ∧ i.natAbs < 2 ^ 64) then some (.p (.int (i ^ j.toNat))) else none) := rfl
@[simp] theorem p_neg_0 (i) : p_neg ([.p (.int i)]) = (some (.p (.int (-i)))) := rfl
@[simp] theorem p_eq_0 (x) (y) : p_eq S ([x, y]) = (match toP S x, toP S y with
    | some a, some b => if eqOk a b then some (.p (.bool (PyData.eqv a b))) else none
    | _, _ => none) := rfl
@[simp] theorem p_ne_0 (x) (y) : p_ne S ([x, y]) = (match toP S x, toP S y with
    | some a, some b => if eqOk a b then some (.p (.bool (!PyData.eqv a b))) else none
    | _, _ => none) := rfl
@[simp] theorem p_lt_0 (i) (j) : p_lt ([.p (.int i), .p (.int j)]) = (some (.p (.bool (decide (i < j))))) := rfl
@[simp] theorem p_lt_1 (x) (y) : p_lt ([.p (.str x), .p (.str y)]) = (some (.p (.bool (strLt x y)))) := rfl
@[simp] theorem p_le_0 (i) (j) : p_le ([.p (.int i), .p (.int j)]) = (some (.p (.bool (decide (i ≤ j))))) := rfl
@[simp] theorem p_le_1 (x) (y) : p_le ([.p (.str x), .p (.str y)]) = (some (.p (.bool (!strLt y x)))) := rfl
@[simp] theorem p_gt_0 (i) (j) : p_gt ([.p (.int i), .p (.int j)]) = (some (.p (.bool (decide (j < i))))) := rfl
@[simp] theorem p_ge_0 (i) (j) : p_ge ([.p (.int i), .p (.int j)]) = (some (.p (.bool (decide (j ≤ i))))) := rfl
@[simp] theorem p_isN_0 (x) : p_isN ([.p x]) = (some (.p (.bool (isNP x)))) := rfl
@[simp] theorem p_notN_0 (x) : p_notN ([.p x]) = (some (.p (.bool (!isNP x)))) := rfl
@[simp] theorem p_mem_0 (x) (xs) : p_mem ([.p x, .p (.list xs)]) = (if flat x && xs.all flat then some (.p (.bool (xs.any fun y => PyData.eqv y x))) else none) := rfl
@[simp] theorem p_mem_1 (x) (xs) : p_mem ([.p x, .p (.tuple xs)]) = (if flat x && xs.all flat then some (.p (.bool (xs.any fun y => PyData.eqv y x))) else none) := rfl
@[simp] theorem p_nmem_0 (x) (xs) : p_nmem ([.p x, .p (.list xs)]) = (if flat x && xs.all flat then some (.p (.bool (!(xs.any fun y => PyData.eqv y x)))) else none) := rfl
@[simp] theorem p_nmem_1 (x) (xs) : p_nmem ([.p x, .p (.tuple xs)]) = (if flat x && xs.all flat then some (.p (.bool (!(xs.any fun y => PyData.eqv y x)))) else none) := rfl
@[simp] theorem p_len_0 (x) : p_len S ([.p (.str x)]) = (if fitsL x.length then some (.p (.int x.length)) else none) := rfl
@[simp] theorem p_len_1 (xs) : p_len S ([.p (.list xs)]) = (some (.p (.int xs.length))) := rfl
@[simp] theorem p_len_2 (xs) : p_len S ([.p (.tuple xs)]) = (some (.p (.int xs.length))) := rfl
@[simp] theorem p_tupr_0 (i) : p_tupr S [.ref i] = (match S[i]? with
    | some (.lst ds) => (pures ds).map fun xs => .p (.tuple xs)
    | _ => none) := rfl
@[simp] theorem p_len_3 (i) : p_len S ([.ref i]) = (match S[i]? with
    | some (.lst ds) => some (.p (.int ds.length))
    | _ => none) := rfl
@[simp] theorem p_int_0 (i) : p_int ([.p (.int i)]) = (some (.p (.int i))) := rfl
@[simp] theorem p_int_1 (b) : p_int ([.p (.bool b)]) = (some (.p (.int (if b then 1 else 0)))) := rfl
@[simp] theorem p_str_0 (i) : p_str ([.p (.int i)]) = (if decide (i.natAbs.log2 < 1920) then some (.p (.str (Str.ofString (toString i)))) else none) := rfl
@[simp] theorem p_idx_0 (i) (xs) : p_idx S ([.p (.list xs), .p (.int i)]) = ((L2.atI xs i).map .p) := rfl
@[simp] theorem p_idx_1 (i) (xs) : p_idx S ([.p (.tuple xs), .p (.int i)]) = ((L2.atI xs i).map .p) := rfl
@[simp] theorem p_idx_2 (i) (x) : p_idx S ([.p (.str x), .p (.int i)]) = (if fitsL x.length then (L2.atI x.cps.toList i).map fun c => .p (chr c) else none) := rfl
@[simp] theorem p_idx_3 (i) (k) : p_idx S ([.ref k, .p (.int i)]) = (match S[k]? with
    | some (.lst ds) => L2.atI ds i
    | _ => none) := rfl
@[simp] theorem p_isi_0 (ts) (x) : p_isi S ts ([.p x]) = (some (.p (.bool (ts.any fun t => isTy t x)))) := rfl
@[simp] theorem p_isi_1 (ts) (i) : p_isi S ts ([.ref i]) = (match S[i]? with
    | some (.lst _) => some (.p (.bool (ts.contains .list)))
    | _ => none) := rfl
@[simp] theorem p_tuple_0 (xs) : p_tuple ([.p (.list xs)]) = (some (.p (.tuple xs))) := rfl
@[simp] theorem p_tuple_1 (xs) : p_tuple ([.p (.tuple xs)]) = (some (.p (.tuple xs))) := rfl
@[simp] theorem p_list_0 (xs) : p_list ([.p (.list xs)]) = (some (.p (.list xs))) := rfl
@[simp] theorem p_list_1 (xs) : p_list ([.p (.tuple xs)]) = (some (.p (.list xs))) := rfl
@[simp] theorem p_all_0 (xs) : p_all ([.p (.list xs)]) = ((boolsOf xs).map fun bs => .p (.bool (bs.all id))) := rfl
@[simp] theorem p_any_0 (xs) : p_any ([.p (.list xs)]) = ((boolsOf xs).map fun bs => .p (.bool (bs.any id))) := rfl
@[simp] theorem p_sum_0 (xs) : p_sum ([.p (.list xs)]) = ((intsOf xs).map fun ns => .p (.int ns.sum)) := rfl
@[simp] theorem p_min_0 (i) (j) : p_min ([.p (.int i), .p (.int j)]) = (some (.p (.int (if j < i then j else i)))) := rfl
@[simp] theorem p_max_0 (i) (j) : p_max ([.p (.int i), .p (.int j)]) = (some (.p (.int (if j > i then j else i)))) := rfl
@[simp] theorem p_abs_0 (i) : p_abs ([.p (.int i)]) = (some (.p (.int (if i < 0 then -i else i)))) := rfl
@[simp] theorem mutl_mkt (ds) : mutl S .mkt ds = .of (p_mkt ds) S := rfl
@[simp] theorem mutl_mkl (ds) : mutl S .mkl ds = .of (p_mkl ds) S := rfl
@[simp] theorem mutl_newl (ds) : mutl S .newl ds = if fitsL ds.length then .ok (.ref S.length) (S ++ [.lst ds]) else .bad := rfl
@[simp] theorem mutl_popAt (k i) : mutl S .popAt [.ref k, .p (.int i)] = match S[k]? with
    | some (.lst ds) => if decide (0 ≤ i ∧ i < ds.length ∧ i < 1000000) then (match ds[i.toNat]? with
      | some d => .ok d (S.set k (.lst (ds.eraseIdx i.toNat)))
      | none => .bad) else .bad
    | _ => .bad := rfl
@[simp] theorem mutl_append (k d) : mutl S .append [.ref k, d] = match S[k]? with
    | some (.lst ds) => if fitsL (ds.length + 1) then .ok (.p .none) (S.set k (.lst (ds ++ [d]))) else .bad
    | _ => .bad := rfl
@[simp] theorem p_mkt_0 (ds) : p_mkt (ds) = (if fitsL ds.length then (match pures ds with
    | some xs => some (.p (.tuple xs))
    | none => some (.tup ds)) else none) := rfl
@[simp] theorem p_mkl_0 (ds) : p_mkl (ds) = (if fitsL ds.length then (pures ds).map fun xs => .p (.list xs) else none) := rfl
end
end EC

namespace EC
open PySem PySem.Spec PyProof.Rows L2

/-! pure data in a frozen heap: lists are tracked ones (or the script), tuples may be written -/
mutual
inductive Dq (K : PySem.W.Frag) (F : Hp) : V → PyData → Prop
  | non : Dq K F .non .none
  | bl (b : Bool) : Dq K F (.bl b) (.bool b)
  | int (i : Int) : Dq K F (.int i) (.int i)
  | str (x : Str) : Dq K F (.str x) (.str x)
  | lst {a : Addr} {xs : List V} {ds : List PyData} : SqL K F a xs → DqAll K F xs ds → Dq K F (.ref a) (.list ds)
  | tup {a : Addr} {xs : List V} {ds : List PyData} : SqT K F a xs → DqAll K F xs ds → Dq K F (.ref a) (.tuple ds)
inductive DqAll (K : PySem.W.Frag) (F : Hp) : List V → List PyData → Prop
  | nil : DqAll K F [] []
  | cons {v : V} {vs : List V} {d : PyData} {ds : List PyData} : Dq K F v d → DqAll K F vs ds → DqAll K F (v :: vs) (d :: ds)
end
theorem rd_mono {F F' : Hp} {a : Addr} {o : HO} (e : Same F F') (h : Rd F a o) : Rd F' a o := by
  rcases h with h | ⟨u, h⟩
  · exact .inl (e _ _ h)
  · exact .inr ⟨u, e _ _ h⟩
mutual
theorem Dq.dp {K : PySem.W.Frag} {F : Hp} : ∀ (d : PyData) (v : V), Dq K F v d → Dp K F v d
  | .none, _, h => by cases h; exact .non
  | .bool b, _, h => by cases h; exact .bl b
  | .int i, _, h => by cases h; exact .int i
  | .str x, _, h => by cases h; exact .str x
  | .list ds, _, h => by cases h with | lst h1 h2 => exact .lst h1 (DqAll.dp ds _ h2)
  | .tuple ds, _, h => by cases h with | tup h1 h2 => exact .tup h1 (DqAll.dp ds _ h2)
  | .dict _, _, h => by cases h
theorem DqAll.dp {K : PySem.W.Frag} {F : Hp} : ∀ (ds : List PyData) (vs : List V), DqAll K F vs ds → DpAll K F vs ds
  | [], _, h => by cases h; exact .nil
  | d :: ds, _, h => by cases h with | cons h1 h2 => exact .cons (Dq.dp d _ h1) (DqAll.dp ds _ h2)
end
/-! ### frozen data: monotone -/
theorem sqL_mono {K : PySem.W.Frag} {F F' : Hp} {a : Addr} {xs : List V} (e : Same F F') (h : SqL K F a xs) : SqL K F' a xs := e.seq h
theorem sqT_mono {K : PySem.W.Frag} {F F' : Hp} {a : Addr} {xs : List V} (e : Same F F') (h : SqT K F a xs) : SqT K F' a xs := by
  rcases h with (h | ⟨o, h⟩) | h
  · exact .inl (.inl (e _ _ h))
  · exact .inl (.inr ⟨o, e _ _ h⟩)
  · exact .inr h
mutual
theorem dq_mono {K : PySem.W.Frag} {F F' : Hp} (e : Same F F') : ∀ (d : PyData) (v : V), Dq K F v d → Dq K F' v d
  | .none, _, h => by cases h; exact .non
  | .bool b, _, h => by cases h; exact .bl b
  | .int i, _, h => by cases h; exact .int i
  | .str x, _, h => by cases h; exact .str x
  | .list ds, _, h => by cases h with | lst h1 h2 => exact .lst (sqL_mono e h1) (dqAll_mono e ds _ h2)
  | .tuple ds, _, h => by cases h with | tup h1 h2 => exact .tup (sqT_mono e h1) (dqAll_mono e ds _ h2)
  | .dict _, _, h => by cases h
theorem dqAll_mono {K : PySem.W.Frag} {F F' : Hp} (e : Same F F') : ∀ (ds : List PyData) (vs : List V), DqAll K F vs ds → DqAll K F' vs ds
  | [], _, h => by cases h; exact .nil
  | d :: ds, _, h => by cases h with | cons h1 h2 => exact .cons (dq_mono e d _ h1) (dqAll_mono e ds _ h2)
end
theorem DqAll.len {K : PySem.W.Frag} {F : Hp} : ∀ {vs : List V} {ds : List PyData}, DqAll K F vs ds → vs.length = ds.length
  | _, _, .nil => rfl
  | _, _, .cons _ t => by rw [List.length_cons, List.length_cons, DqAll.len t]
theorem DqAll.get {K : PySem.W.Frag} {F : Hp} : ∀ {vs : List V} {ds : List PyData} {i : Nat} {d : PyData}, DqAll K F vs ds → ds[i]? = some d → ∃ v, vs[i]? = some v ∧ Dq K F v d
  | _, _, _, _, .nil, e => by simp at e
  | _, _, 0, _, .cons r _, e => by simp at e; subst e; exact ⟨_, rfl, r⟩
  | _, _, i + 1, d, .cons _ t, e => by
    obtain ⟨v, h1, h2⟩ := DqAll.get (i := i) (d := d) t (by simpa using e)
    exact ⟨v, by simpa using h1, h2⟩
theorem DqAll.append {K : PySem.W.Frag} {F : Hp} : ∀ {vs ws : List V} {ds es : List PyData}, DqAll K F vs ds → DqAll K F ws es → DqAll K F (vs ++ ws) (ds ++ es)
  | _, _, _, _, .nil, s => s
  | _, _, _, _, .cons r t, s => .cons r (DqAll.append t s)
theorem DqAll.take {K : PySem.W.Frag} {F : Hp} : ∀ {vs : List V} {ds : List PyData} (n : Nat), DqAll K F vs ds → DqAll K F (vs.take n) (ds.take n)
  | _, _, 0, _ => .nil
  | _, _, _ + 1, .nil => .nil
  | _, _, n + 1, .cons r t => .cons r (DqAll.take n t)
theorem DqAll.drop {K : PySem.W.Frag} {F : Hp} : ∀ {vs : List V} {ds : List PyData} (n : Nat), DqAll K F vs ds → DqAll K F (vs.drop n) (ds.drop n)
  | _, _, 0, r => r
  | _, _, _ + 1, .nil => .nil
  | _, _, n + 1, .cons _ t => DqAll.drop n t
theorem DqAll.reverse {K : PySem.W.Frag} {F : Hp} {vs : List V} {ds : List PyData} (h : DqAll K F vs ds) : DqAll K F vs.reverse ds.reverse := by
  induction ds generalizing vs with
  | nil => cases h; exact .nil
  | cons d ds ih =>
    cases h with
    | cons h1 h2 =>
      rw [List.reverse_cons, List.reverse_cons]
      exact DqAll.append (ih h2) (.cons h1 .nil)

/-! ### values, the store, the names -/
/-- where the classes of the module stand, and the defs -/
class CA where
  cl : Nat → Addr
  fa : Nat → Addr
variable [CA]
mutual
def Rep (K : PySem.W.Frag) (F : Hp) (ι : List Addr) : D → V → Prop
  | .p x, v => Dq K F v x
  | .ref i, v => ∃ a, v = .ref a ∧ ι[i]? = some a
  | .tup ds, v => ∃ a vs, v = .ref a ∧ F a = some (.tup vs) ∧ Reps K F ι ds vs
  | .fn k, v => v = .ref (CA.fa k)
def Reps (K : PySem.W.Frag) (F : Hp) (ι : List Addr) : List D → List V → Prop
  | [], vs => vs = []
  | d :: ds, vs => ∃ v r, vs = v :: r ∧ Rep K F ι d v ∧ Reps K F ι ds r
end
structure Stp (F H : Hp) (ι : List Addr) (F' H' : Hp) (ι' : List Addr) : Prop where
  fr : Same F F'
  pre : ∃ τ, ι' = ι ++ τ
  keep : ∀ a u, H a = some u → a ∉ ι → H' a = some u
  frz : ∀ a, F a = none → F' a ≠ none → H a = none
  new : ∀ a ∈ ι', a ∈ ι ∨ H a = none
  live : ∀ a, H a ≠ none → H' a ≠ none
section
variable {K : PySem.W.Frag} {F F' F2 H H' H2 : Hp} {ι ι' ι2 : List Addr}
theorem Stp.refl : Stp F H ι F H ι := ⟨Same.refl F, ⟨[], by simp⟩, fun _ _ h _ => h, fun _ h h' => absurd h h', fun _ h => .inl h, fun _ h => h⟩
theorem Stp.trans (a : Stp F H ι F' H' ι') (b : Stp F' H' ι' F2 H2 ι2) : Stp F H ι F2 H2 ι2 where
  fr := a.fr.trans b.fr
  pre := by
    obtain ⟨t, rfl⟩ := a.pre
    obtain ⟨u, rfl⟩ := b.pre
    exact ⟨t ++ u, by rw [List.append_assoc]⟩
  keep := fun x u h hx => b.keep x u (a.keep x u h hx) fun z => (a.new x z).elim hx fun n => by rw [h] at n; cases n
  frz := fun x h h' => by
    by_cases z : F' x = none
    · have n := b.frz x z h'
      cases q : H x with
      | none => rfl
      | some u => exact absurd n (a.live x (by rw [q]; exact fun z => nomatch z))
    · exact a.frz x h z
  new := fun x h => by
    rcases b.new x h with z | z
    · exact a.new x z
    · refine .inr ?_
      cases q : H x with
      | none => rfl
      | some u => exact absurd z (a.live x (by rw [q]; exact fun z => nomatch z))
  live := fun x h => b.live x (a.live x h)
theorem Stp.ix (a : Stp F H ι F' H' ι') {i : Nat} {x : Addr} (h : ι[i]? = some x) : ι'[i]? = some x := by
  obtain ⟨t, rfl⟩ := a.pre
  rw [List.getElem?_append_left (List.getElem?_eq_some_iff.mp h).1]
  exact h
mutual
theorem Rep.mono (st : Stp F H ι F' H' ι') : ∀ (d : D) (v : V), Rep K F ι d v → Rep K F' ι' d v
  | .p x, v, h => by
    unfold Rep at h ⊢
    exact dq_mono st.fr x v h
  | .ref i, v, h => by
    unfold Rep at h ⊢
    obtain ⟨a, e, h⟩ := h
    exact ⟨a, e, st.ix h⟩
  | .tup ds, v, h => by
    unfold Rep at h ⊢
    obtain ⟨a, vs, e, h1, h2⟩ := h
    exact ⟨a, vs, e, st.fr _ _ h1, Reps.mono st ds vs h2⟩
  | .fn _, _, h => by
    unfold Rep at h ⊢
    exact h
theorem Reps.mono (st : Stp F H ι F' H' ι') : ∀ (ds : List D) (vs : List V), Reps K F ι ds vs → Reps K F' ι' ds vs
  | [], vs, h => by
    unfold Reps at h ⊢
    exact h
  | d :: ds, vs, h => by
    unfold Reps at h ⊢
    obtain ⟨v, r, e, h1, h2⟩ := h
    exact ⟨v, r, e, Rep.mono st d v h1, Reps.mono st ds r h2⟩
end
theorem rep_p {x : PyData} {v : V} : Rep K F ι (.p x) v ↔ Dq K F v x := by unfold Rep; exact Iff.rfl
theorem rep_ref {i : Nat} {v : V} : Rep K F ι (.ref i) v ↔ ∃ a, v = .ref a ∧ ι[i]? = some a := by unfold Rep; exact Iff.rfl
theorem rep_tup {ds : List D} {v : V} : Rep K F ι (.tup ds) v ↔ ∃ a vs, v = .ref a ∧ F a = some (.tup vs) ∧ Reps K F ι ds vs := by unfold Rep; exact Iff.rfl
theorem reps_nil {vs : List V} : Reps K F ι [] vs ↔ vs = [] := by unfold Reps; exact Iff.rfl
theorem reps_cons {d : D} {ds : List D} {vs : List V} : Reps K F ι (d :: ds) vs ↔ ∃ v r, vs = v :: r ∧ Rep K F ι d v ∧ Reps K F ι ds r := by
  rw [Reps]
theorem Reps.len : ∀ {ds : List D} {vs : List V}, Reps K F ι ds vs → vs.length = ds.length
  | [], vs, h => by rw [reps_nil.mp h]; rfl
  | d :: ds, vs, h => by
    obtain ⟨v, r, rfl, _, h2⟩ := reps_cons.mp h
    rw [List.length_cons, List.length_cons, Reps.len h2]
theorem Reps.get : ∀ {ds : List D} {vs : List V} {i : Nat} {d : D}, Reps K F ι ds vs → ds[i]? = some d → ∃ v, vs[i]? = some v ∧ Rep K F ι d v
  | [], _, _, _, _, e => by simp at e
  | c :: ds, vs, 0, d, h, e => by
    obtain ⟨v, r, rfl, h1, _⟩ := reps_cons.mp h
    simp at e
    subst e
    exact ⟨v, rfl, h1⟩
  | c :: ds, vs, i + 1, d, h, e => by
    obtain ⟨v, r, rfl, _, h2⟩ := reps_cons.mp h
    obtain ⟨w, h3, h4⟩ := Reps.get (i := i) (d := d) h2 (by simpa using e)
    exact ⟨w, by simpa using h3, h4⟩
theorem reps_append : ∀ {ds es : List D} {vs ws : List V}, Reps K F ι ds vs → Reps K F ι es ws → Reps K F ι (ds ++ es) (vs ++ ws)
  | [], _, _, _, h, h' => by rw [reps_nil.mp h]; exact h'
  | d :: ds, _, _, _, h, h' => by
    obtain ⟨v, r, rfl, h1, h2⟩ := reps_cons.mp h
    exact reps_cons.mpr ⟨v, r ++ _, rfl, h1, reps_append h2 h'⟩
theorem reps_set : ∀ {ds : List D} {vs : List V} {d : D} {v : V} (i : Nat), Reps K F ι ds vs → Rep K F ι d v → Reps K F ι (ds.set i d) (vs.set i v)
  | [], _, _, _, _, h, _ => by rw [reps_nil.mp h]; exact reps_nil.mpr rfl
  | c :: ds, _, d, v, 0, h, hd => by
    obtain ⟨w, r, rfl, _, h2⟩ := reps_cons.mp h
    exact reps_cons.mpr ⟨v, r, rfl, hd, h2⟩
  | c :: ds, _, d, v, i + 1, h, hd => by
    obtain ⟨w, r, rfl, h1, h2⟩ := reps_cons.mp h
    exact reps_cons.mpr ⟨w, r.set i v, rfl, h1, reps_set i h2 hd⟩
theorem reps_erase : ∀ {ds : List D} {vs : List V} (i : Nat), Reps K F ι ds vs → Reps K F ι (ds.eraseIdx i) (vs.eraseIdx i)
  | [], _, _, h => by rw [reps_nil.mp h]; exact reps_nil.mpr rfl
  | c :: ds, _, 0, h => by
    obtain ⟨w, r, rfl, _, h2⟩ := reps_cons.mp h
    exact h2
  | c :: ds, _, i + 1, h => by
    obtain ⟨w, r, rfl, h1, h2⟩ := reps_cons.mp h
    exact reps_cons.mpr ⟨w, r.eraseIdx i, rfl, h1, reps_erase i h2⟩
theorem reps_pures : ∀ {ds : List D} {xs : List PyData} {vs : List V}, pures ds = some xs → Reps K F ι ds vs → DqAll K F vs xs
  | [], xs, vs, e, h => by
    cases e
    rw [reps_nil.mp h]
    exact .nil
  | .p x :: ds, xs, vs, e, h => by
    obtain ⟨v, r, rfl, h1, h2⟩ := reps_cons.mp h
    rw [pures_cons] at e
    cases q : pures ds with
    | none => rw [q] at e; cases e
    | some ys =>
      rw [q] at e
      cases e
      exact .cons (rep_p.mp h1) (reps_pures q h2)
  | .ref _ :: _, _, _, e, _ => by cases e
  | .tup _ :: _, _, _, e, _ => by cases e
  | .fn _ :: _, _, _, e, _ => by cases e
theorem reps_map : ∀ {xs : List PyData} {vs : List V}, Reps K F ι (xs.map .p) vs ↔ DqAll K F vs xs
  | [], vs => ⟨fun h => by rw [reps_nil.mp h]; exact .nil, fun h => by cases h; exact reps_nil.mpr rfl⟩
  | x :: xs, vs => ⟨fun h => by
      obtain ⟨v, r, rfl, h1, h2⟩ := reps_cons.mp h
      exact .cons (rep_p.mp h1) (reps_map.mp h2), fun h => by
      cases h with
      | cons h1 h2 => exact reps_cons.mpr ⟨_, _, rfl, rep_p.mpr h1, reps_map.mpr h2⟩⟩

/-! ### the store and the heap -/
def RepO (K : PySem.W.Frag) (F H : Hp) (ι : List Addr) (a : Addr) : Ob → Prop
  | .lst ds => ∃ vs, H a = some (.lst vs) ∧ Reps K F ι ds vs
  | .ins c fs => ∃ dx vs, H a = some (.ins (CA.cl c) dx ((fs.map (·.1)).zip vs)) ∧ Reps K F ι (fs.map (·.2)) vs
  | .dct ks ds => ∃ vs, H a = some (.dK ((ks.map Sum.inr).zip vs)) ∧ Reps K F ι ds vs ∧ ks.length = ds.length ∧ ks.Nodup
  | .dci ks ds => ∃ vs, H a = some (.dK ((ks.map Sum.inl).zip vs)) ∧ Reps K F ι ds vs ∧ ks.length = ds.length ∧ ks.Nodup
structure Sto (K : PySem.W.Frag) (F H : Hp) (ι : List Addr) (S : Store) : Prop where
  sub : Same F H
  len : ι.length = S.length
  nd : ι.Nodup
  off : ∀ a ∈ ι, F a = none
  obj : ∀ (i : Nat) o, S[i]? = some o → ∃ a, ι[i]? = some a ∧ RepO K F H ι a o
theorem Sto.lst {S : Store} (s : Sto K F H ι S) {i : Nat} {ds : List D} (h : S[i]? = some (.lst ds)) : ∃ a vs, ι[i]? = some a ∧ H a = some (.lst vs) ∧ Reps K F ι ds vs := by
  obtain ⟨a, h1, vs, h2, h3⟩ := s.obj i _ h
  exact ⟨a, vs, h1, h2, h3⟩
theorem Sto.there {S : Store} (s : Sto K F H ι S) {a : Addr} (h : a ∈ ι) : H a ≠ none := by
  obtain ⟨i, hi, e⟩ := List.getElem_of_mem h
  have hs : i < S.length := by rw [← s.len]; exact hi
  obtain ⟨b, h1, h2⟩ := s.obj i S[i] (List.getElem?_eq_getElem hs)
  rw [List.getElem?_eq_getElem hi, e] at h1
  cases h1
  cases q : S[i] with
  | lst ds =>
    rw [q] at h2
    obtain ⟨vs, h3, _⟩ := h2
    rw [h3]
    exact fun z => nomatch z
  | ins c fs =>
    rw [q] at h2
    obtain ⟨dx, vs, h3, _⟩ := h2
    rw [h3]
    exact fun z => nomatch z
  | dct ks ds =>
    rw [q] at h2
    obtain ⟨vs, h3, _⟩ := h2
    rw [h3]
    exact fun z => nomatch z
  | dci ks ds =>
    rw [q] at h2
    obtain ⟨vs, h3, _⟩ := h2
    rw [h3]
    exact fun z => nomatch z
/-- a new frozen object -/
theorem Stp.laid {S : Store} (s : Sto K F H ι S) {p : Addr} (hp : H p = none) (o : HO) : Stp F H ι (upd F p o) (upd H p o) ι := by
  have fp : F p = none := Same.free s.sub hp
  refine ⟨fun b u q => ?_, ⟨[], by simp⟩, fun b u q _ => ?_, fun b h h' => ?_, fun _ h => .inl h, fun b h => ?_⟩
  · rw [upd_ne (ne_of_none q fp)]; exact q
  · rw [upd_ne (ne_of_none q hp)]; exact q
  · by_cases e : b = p
    · rw [e]; exact hp
    · rw [upd_ne e] at h'; exact absurd h h'
  · by_cases e : b = p
    · rw [e, upd_same]; exact fun z => nomatch z
    · rw [upd_ne e]; exact h
theorem RepO.mono {a : Addr} {o : Ob} (st : Stp F H ι F' H' ι') (hk : ∀ u, H a = some u → H' a = some u) (h : RepO K F H ι a o) : RepO K F' H' ι' a o := by
  cases o with
  | lst ds =>
    obtain ⟨vs, h1, h2⟩ := h
    exact ⟨vs, hk _ h1, Reps.mono st ds vs h2⟩
  | ins c fs =>
    obtain ⟨dx, vs, h1, h2⟩ := h
    exact ⟨dx, vs, hk _ h1, Reps.mono st _ vs h2⟩
  | dct ks ds =>
    obtain ⟨vs, h1, h2, h3⟩ := h
    exact ⟨vs, hk _ h1, Reps.mono st ds vs h2, h3⟩
  | dci ks ds =>
    obtain ⟨vs, h1, h2, h3⟩ := h
    exact ⟨vs, hk _ h1, Reps.mono st ds vs h2, h3⟩
theorem Sto.laid {S : Store} (s : Sto K F H ι S) {p : Addr} (hp : H p = none) (o : HO) : Sto K (upd F p o) (upd H p o) ι S := by
  have st := Stp.laid s hp o
  refine ⟨fun b u q => ?_, s.len, s.nd, fun a ha => ?_, fun i ob h => ?_⟩
  · by_cases e : b = p
    · subst e
      rw [upd_same] at q ⊢
      exact q
    · rw [upd_ne e] at q ⊢
      exact s.sub _ _ q
  · have e : a ≠ p := fun z => s.there ha (by rw [z]; exact hp)
    rw [upd_ne e]
    exact s.off a ha
  · obtain ⟨a, h1, h2⟩ := s.obj i ob h
    refine ⟨a, h1, RepO.mono st (fun vs q => ?_) h2⟩
    rw [upd_ne (ne_of_none q hp)]
    exact q

/-! ### names -/
def SlotR (K : PySem.W.Frag) (F H : Hp) (ι : List Addr) (own : Nat → Option Addr) (i : Nat) (o : Option (Option V)) : Slot → Prop
  | .un => True
  | .v d => ∃ v, o = some (some v) ∧ Rep K F ι d v
  | .own xs => ∃ a vs, own i = some a ∧ o = some (some (.ref a)) ∧ H a = some (.lst vs) ∧ DqAll K F vs xs
structure EnvR (K : PySem.W.Frag) (F H : Hp) (ι : List Addr) (own : Nat → Option Addr) (ρ : Env) (σ : L2.St) : Prop where
  len : ρ.length = σ.length
  slot : ∀ (i : Nat) s, ρ[i]? = some s → SlotR K F H ι own i (σ[i]?) s
  off : ∀ i a, own i = some a → F a = none ∧ a ∉ ι ∧ H a ≠ none
  inj : ∀ i j a, own i = some a → own j = some a → i = j
theorem SlotR.mono {own : Nat → Option Addr} {i : Nat} {o : Option (Option V)} {s : Slot} (st : Stp F H ι F' H' ι') (hk : ∀ a u, own i = some a → H a = some u → H' a = some u) (h : SlotR K F H ι own i o s) : SlotR K F' H' ι' own i o s := by
  cases s with
  | un => exact h
  | v d =>
    obtain ⟨v, h1, h2⟩ := h
    exact ⟨v, h1, Rep.mono st d v h2⟩
  | own xs =>
    obtain ⟨a, vs, h1, h2, h3, h4⟩ := h
    exact ⟨a, vs, h1, h2, hk a _ h1 h3, dqAll_mono st.fr xs vs h4⟩
theorem EnvR.mono {own : Nat → Option Addr} {ρ : Env} {σ : L2.St} (st : Stp F H ι F' H' ι') (e : EnvR K F H ι own ρ σ) : EnvR K F' H' ι' own ρ σ := by
  refine ⟨e.len, fun i s h => SlotR.mono st (fun a u h1 h2 => st.keep a u h2 (e.off i a h1).2.1) (e.slot i s h), fun i a h => ?_, e.inj⟩
  obtain ⟨h1, h2, h3⟩ := e.off i a h
  refine ⟨?_, fun z => ?_, st.live a h3⟩
  · cases q : F' a with
    | none => rfl
    | some u => exact absurd (st.frz a h1 (by rw [q]; exact fun z => nomatch z)) h3
  · rcases st.new a z with y | y
    · exact h2 y
    · exact h3 y
end
end EC

namespace EC
open PySem PySem.Spec PyProof.Rows L2
variable [CA]

/-! ### what a reading says -/
def RepX (ca : Nat → Addr) (K : PySem.W.Frag) (F H : Hp) (ι : List Addr) (e : Exc) (cls : Value) (dx : Option Addr) : Prop :=
  cls = .ref (ca e.cls) ∧ match e.arg with
    | none => dx = none
    | some (f, d) => ∃ dd v, dx = some dd ∧ H dd = some (.xd [(f, v)]) ∧ Rep K F ι d v
def PostG {α β : Type} (ca : Nat → Addr) (K : PySem.W.Frag) (W : WX) (σ : L2.St) (F H : Hp) (ι : List Addr) (R : Hp → Hp → List Addr → α → β → Prop) (Q : β → Hp → Prop) : Out α → Prop
  | .ok d S' => ∀ v F' H' ι', Stp F H ι F' H' ι' → Sto K F' H' ι' S' → R F' H' ι' d v → Q v H'
  | .exc e S' => ∀ cls dx F' H' ι', Stp F H ι F' H' ι' → Sto K F' H' ι' S' → RepX ca K F' H' ι' e cls dx → W cls dx σ H'
  | .bad => False
section
variable {ca : Nat → Addr} {K : PySem.W.Frag} {W : WX} {F H : Hp} {ι : List Addr}
/-- the state of a reading -/
def tG {α β : Type} (ca : Nat → Addr) (K : PySem.W.Frag) (W : WX) (R : Hp → Hp → List Addr → α → β → Prop) (m : Env → Store → Out α) : L2.St → Hp → (β → Hp → Prop) → Prop := fun σ H Q =>
  ∃ F ι S ρ own, Sto K F H ι S ∧ EnvR K F H ι own ρ σ ∧ PostG ca K W σ F H ι R Q (m ρ S)
abbrev RV (K : PySem.W.Frag) : Hp → Hp → List Addr → D → V → Prop := fun F _ ι d v => Rep K F ι d v
abbrev RVs (K : PySem.W.Frag) : Hp → Hp → List Addr → List D → List V → Prop := fun F _ ι d v => Reps K F ι d v
abbrev RBl : Hp → Hp → List Addr → Bool → Bool → Prop := fun _ _ _ d v => v = d
/-- a value, or a list of one's own that is only looked at -/
def RepA (K : PySem.W.Frag) (F H : Hp) (ι : List Addr) (d : D) (v : V) : Prop :=
  Rep K F ι d v ∨ ∃ a vs xs, d = .p (.list xs) ∧ v = .ref a ∧ F a = none ∧ a ∉ ι ∧ H a = some (.lst vs) ∧ DqAll K F vs xs
abbrev RA (K : PySem.W.Frag) : Hp → Hp → List Addr → D → V → Prop := fun F H ι d v => RepA K F H ι d v
def RepAs (K : PySem.W.Frag) (F H : Hp) (ι : List Addr) : List D → List V → Prop
  | [], vs => vs = []
  | d :: ds, vs => ∃ v r, vs = v :: r ∧ RepA K F H ι d v ∧ RepAs K F H ι ds r
abbrev RAs (K : PySem.W.Frag) : Hp → Hp → List Addr → List D → List V → Prop := fun F H ι d v => RepAs K F H ι d v
theorem RepA.mono {F' H' : Hp} {ι' : List Addr} {d : D} {v : V} (st : Stp F H ι F' H' ι') (h : RepA K F H ι d v) : RepA K F' H' ι' d v := by
  rcases h with h | ⟨a, vs, xs, e1, e2, e3, e4, e5, e6⟩
  · exact .inl (Rep.mono st d v h)
  · refine .inr ⟨a, vs, xs, e1, e2, ?_, fun z => ?_, st.keep a _ e5 e4, dqAll_mono st.fr xs vs e6⟩
    · cases q : F' a with
      | none => rfl
      | some u =>
        have := st.frz a e3 (by rw [q]; exact fun z => nomatch z)
        rw [e5] at this
        cases this
    · rcases st.new a z with y | y
      · exact e4 y
      · rw [e5] at y; cases y
theorem repA_p {x : PyData} {v : V} (h : RepA K F H ι (.p x) v) (hn : ∀ xs, x ≠ .list xs) : Dq K F v x := by
  rcases h with h | ⟨a, vs, xs, e1, _⟩
  · exact rep_p.mp h
  · injection e1 with e1
    exact absurd e1 (hn xs)
theorem repA_int {i : Int} {v : V} (h : RepA K F H ι (.p (.int i)) v) : v = .int i := by
  have := repA_p h (fun _ z => nomatch z)
  cases this
  rfl
theorem repA_bool {i : Bool} {v : V} (h : RepA K F H ι (.p (.bool i)) v) : v = .bl i := by
  have := repA_p h (fun _ z => nomatch z)
  cases this
  rfl
theorem repA_str {x : Str} {v : V} (h : RepA K F H ι (.p (.str x)) v) : v = .str x := by
  have := repA_p h (fun _ z => nomatch z)
  cases this
  rfl
theorem repA_none {v : V} (h : RepA K F H ι (.p .none) v) : v = .non := by
  have := repA_p h (fun _ z => nomatch z)
  cases this
  rfl
theorem repA_list {S : Store} {xs : List PyData} {v : V} (s : Sto K F H ι S) (h : RepA K F H ι (.p (.list xs)) v) : ∃ a vs, v = .ref a ∧ SqL K H a vs ∧ DqAll K F vs xs := by
  rcases h with h | ⟨a, vs, ys, e1, e2, _, _, e5, e6⟩
  · have q := rep_p.mp h
    cases q with
    | lst h1 h2 => exact ⟨_, _, rfl, sqL_mono s.sub h1, h2⟩
  · injection e1 with e1
    injection e1 with e1
    subst e1
    exact ⟨a, vs, e2, .inl (.inl e5), e6⟩
theorem repA_tuple {S : Store} {xs : List PyData} {v : V} (s : Sto K F H ι S) (h : RepA K F H ι (.p (.tuple xs)) v) : ∃ a vs, v = .ref a ∧ SqT K H a vs ∧ SqT K F a vs ∧ DqAll K F vs xs := by
  have q := repA_p h (fun _ z => nomatch z)
  cases q with
  | tup h1 h2 => exact ⟨_, _, rfl, sqT_mono s.sub h1, h1, h2⟩
theorem repA_ref {S : Store} {i : Nat} {ds : List D} {v : V} (s : Sto K F H ι S) (h : RepA K F H ι (.ref i) v) (hs : S[i]? = some (.lst ds)) : ∃ a vs, v = .ref a ∧ ι[i]? = some a ∧ H a = some (.lst vs) ∧ Reps K F ι ds vs := by
  rcases h with h | ⟨a, vs, xs, e1, _⟩
  · obtain ⟨a, e, h1⟩ := rep_ref.mp h
    obtain ⟨b, vs, h2, h3, h4⟩ := s.lst hs
    rw [h1] at h2
    cases h2
    exact ⟨a, vs, e, h1, h3, h4⟩
  · cases e1
theorem rd_sqL {a : Addr} {vs : List V} (h : Rd H a (.lst vs)) : SqL K H a vs := .inl h
/-- as data of the whole heap -/
theorem repA_dp {S : Store} {x : PyData} {d : D} {v : V} (s : Sto K F H ι S) (h : RepA K F H ι d v) (e : toP S d = some x) : Dp K H v x := by
  have list : ∀ {a : Addr} {vs : List V} {xs : List PyData}, SqL K H a vs → DqAll K F vs xs → Dp K H (.ref a) (.list xs) := fun h1 h2 => .lst h1 (DqAll.dp _ _ (dqAll_mono s.sub _ _ h2))
  cases d with
  | p y =>
    have e' : y = x := Option.some.inj e
    subst e'
    cases y with
    | list xs =>
      obtain ⟨a, vs, rfl, h1, h2⟩ := repA_list s h
      exact list h1 h2
    | _ => exact Dq.dp _ _ (dq_mono s.sub _ _ (repA_p h (fun _ z => nomatch z)))
  | ref i =>
    have e : (match S[i]? with
      | some (.lst ds) => (pures ds).map PyData.list
      | _ => none) = some x := e
    cases q : S[i]? with
    | none => rw [q] at e; cases e
    | some o =>
      rw [q] at e
      cases o with
      | ins c fs => cases e
      | dct ks ds => cases e
      | dci ks ds => cases e
      | lst ds =>
        have e' : (pures ds).map PyData.list = some x := e
        cases q2 : pures ds with
        | none => rw [q2] at e'; cases e'
        | some xs =>
          rw [q2] at e'
          cases e'
          obtain ⟨a, vs, rfl, _, h1, h2⟩ := repA_ref s h q
          exact list (.inl (.inl h1)) (reps_pures q2 h2)
  | tup ds => cases e
  | fn k => cases e
theorem repAs_nil {vs : List V} (h : RepAs K F H ι [] vs) : vs = [] := h
theorem repAs_cons {d : D} {ds : List D} {vs : List V} (h : RepAs K F H ι (d :: ds) vs) : ∃ v r, vs = v :: r ∧ RepA K F H ι d v ∧ RepAs K F H ι ds r := h
theorem repAs_of : ∀ {ds : List D} {v : V} {r : List V}, RepAs K F H ι ds (v :: r) → ∃ d es, ds = d :: es ∧ RepA K F H ι d v ∧ RepAs K F H ι es r
  | [], v, r, h => by cases (show v :: r = [] from h)
  | d :: ds, v, r, h => by
    obtain ⟨w, q, e, h1, h2⟩ := repAs_cons h
    cases e
    exact ⟨d, ds, rfl, h1, h2⟩
theorem repAs_of0 : ∀ {ds : List D}, RepAs K F H ι ds [] → ds = []
  | [], _ => rfl
  | d :: ds, h => by
    obtain ⟨w, q, e, _⟩ := repAs_cons h
    cases e
theorem RepAs.mono {F' H' : Hp} {ι' : List Addr} (st : Stp F H ι F' H' ι') : ∀ {ds : List D} {vs : List V}, RepAs K F H ι ds vs → RepAs K F' H' ι' ds vs
  | [], vs, h => h
  | d :: ds, vs, h => by
    obtain ⟨v, r, e, h1, h2⟩ := repAs_cons h
    exact ⟨v, r, e, h1.mono st, RepAs.mono st h2⟩

/-! ### an operation on values -/
def rP (K : PySem.W.Frag) (o : Pr) : List V → Hp → VK → Prop := fun vs H Q => ∃ F ι S ds d, Sto K F H ι S ∧ RepAs K F H ι ds vs ∧ prim S o ds = some d ∧
  ∀ v F' H', Stp F H ι F' H' ι → Sto K F' H' ι S → Rep K F' ι d v → Q v H'
/-- the three ends: a flat value, a frozen thing, a new list or tuple -/
theorem fin_flat {S : Store} {d : D} {v : V} {Q : VK} (s : Sto K F H ι S) (q : ∀ v F' H', Stp F H ι F' H' ι → Sto K F' H' ι S → Rep K F' ι d v → Q v H') (h : Rep K F ι d v) : Q v H := q v F H Stp.refl s h
theorem rd_upd {p : Addr} {o : HO} : Rd (upd F p o) p o := .inl upd_same
theorem fin_lst {S : Store} {xs : List PyData} {vs : List V} {Q : VK} (s : Sto K F H ι S) (q : ∀ v F' H', Stp F H ι F' H' ι → Sto K F' H' ι S → Rep K F' ι (.p (.list xs)) v → Q v H') (h : DqAll K F vs xs)
    {p : Addr} (hp : H p = none) : Q (.ref p) (upd H p (.lst vs)) :=
  q _ _ _ (Stp.laid s hp _) (s.laid hp _) (rep_p.mpr (.lst (.inl rd_upd) (dqAll_mono (Stp.laid s hp (.lst vs)).fr _ _ h)))
theorem fin_tup {S : Store} {xs : List PyData} {vs : List V} {Q : VK} (s : Sto K F H ι S) (q : ∀ v F' H', Stp F H ι F' H' ι → Sto K F' H' ι S → Rep K F' ι (.p (.tuple xs)) v → Q v H') (h : DqAll K F vs xs)
    {p : Addr} (hp : H p = none) : Q (.ref p) (upd H p (.tup vs)) :=
  q _ _ _ (Stp.laid s hp _) (s.laid hp _) (rep_p.mpr (.tup (.inl rd_upd) (dqAll_mono (Stp.laid s hp (.tup vs)).fr _ _ h)))
theorem fin_mix {S : Store} {ds : List D} {vs : List V} {Q : VK} (s : Sto K F H ι S) (q : ∀ v F' H', Stp F H ι F' H' ι → Sto K F' H' ι S → Rep K F' ι (.tup ds) v → Q v H') (h : Reps K F ι ds vs)
    {p : Addr} (hp : H p = none) : Q (.ref p) (upd H p (.tup vs)) :=
  q _ _ _ (Stp.laid s hp _) (s.laid hp _) (rep_tup.mpr ⟨p, vs, rfl, upd_same, Reps.mono (Stp.laid s hp (.tup vs)) _ _ h⟩)
end
theorem fits_le {n : Nat} (h : fitsL n = true) : n ≤ sizeLine := by
  have e : sizeLine = 16777216 := sizeLine_eq
  unfold fitsL at h
  have := of_decide_eq_true h
  omega
section
variable {X : Cx}
abbrev rP1 (K : PySem.W.Frag) (o : Pr) : V → Hp → VK → Prop := fun x H Q => rP K o [x] H Q
abbrev rP2 (K : PySem.W.Frag) (o : Pr) : R2 := fun x y H Q => rP K o [x, y] H Q

theorem two {K : PySem.W.Frag} {F H : Hp} {ι : List Addr} {ds : List D} {x y : V} (h : RepAs K F H ι ds [x, y]) : ∃ d e, ds = [d, e] ∧ RepA K F H ι d x ∧ RepA K F H ι e y := by
  obtain ⟨d, r, rfl, h1, h2⟩ := repAs_of h
  obtain ⟨e, r, rfl, h3, h4⟩ := repAs_of h2
  obtain rfl := repAs_of0 h4
  exact ⟨d, e, rfl, h1, h3⟩
theorem one {K : PySem.W.Frag} {F H : Hp} {ι : List Addr} {ds : List D} {x : V} (h : RepAs K F H ι ds [x]) : ∃ d, ds = [d] ∧ RepA K F H ι d x := by
  obtain ⟨d, r, rfl, h1, h2⟩ := repAs_of h
  obtain rfl := repAs_of0 h2
  exact ⟨d, rfl, h1⟩
/-- list + list -/
theorem cat_rd {pins : List (Addr × Obj)} {s : Shared} {σ : L2.St} {H : Hp} {l b : Addr} {xs zs : List V} {Q : VK} (I : Inv X pins σ H s) (hH : SqL X.K H l xs) (hB : SqL X.K H b zs) (hz : xs.length + zs.length ≤ sizeLine) (q : ∀ p, H p = none → Q (.ref p) (upd H p (.lst (xs ++ zs)))) :
    wpAny (model X.prog X.w) X.A (binaryOp .Add (.ref l) (.ref b)) (EP X pins σ Q) X.xe s := by
  obtain ⟨its, r, p1, z⟩ := I.list hH
  obtain ⟨its2, r2, p2, z2⟩ := I.list hB
  have l1 := r.length
  have l2 := r2.length
  obtain ⟨⟨cls, dd, data, sl⟩, ho, hc, n, hd⟩ := p1.isList
  obtain ⟨⟨cls2, dd2, data2, sl2⟩, ho2, hc2, n2, hd2⟩ := p2.isList
  simp only at hc hd hc2 hd2
  subst hc hd hc2 hd2
  have ea : its.toArray ++ its2.toArray = (its ++ its2).toArray := by simp
  refine PySem.concat_meets ⟨_, ho, rfl⟩ ⟨_, ho2, rfl⟩ noFill_list_add seq_list_add PySem.F.slot_list_add PySem.F.entry_list_add (PySem.F.args_list_add_2 _ _) (PyProof.Rows.list_addW l b its.toArray its2.toArray n n2 dd dd2 sl sl2 (by rw [List.size_toArray, List.size_toArray]; omega)) ⟨ho, ho2, ?_⟩
  rw [ea]
  exact ⟨.ref _, _, I.lnew (t' := s.toks) (r.append r2) (by rw [List.length_append]; omega), rfl, q _ I.fresh⟩

theorem o_add : OpR X (binaryOp .Add) (rP2 X.K .add) := by
  intro pins s σ H x y v u Q I rx ry h
  obtain ⟨F, ι, S, ds, d, st, ra, hp, q⟩ := h
  obtain ⟨d1, d2, rfl, r1, r2⟩ := two ra
  rw [prim_add] at hp
  unfold p_add at hp
  split at hp
  · rename_i i j e
    cases e
    cases hp
    rw [repA_int r1] at rx
    rw [repA_int r2] at ry
    exact op_add pins s σ H _ _ v u Q I rx ry ⟨i, j, rfl, rfl, fin_flat st q (rep_p.mpr (.int _))⟩
  · rename_i a b e
    cases e
    split at hp
    · rename_i hz
      cases hp
      rw [repA_str r1] at rx
      rw [repA_str r2] at ry
      exact op_add_str pins s σ H _ _ v u Q I rx ry ⟨a, b, rfl, rfl, fits_le hz, fin_flat st q (rep_p.mpr (.str _))⟩
    · cases hp
  · rename_i a b e
    cases e
    split at hp
    · rename_i hz
      cases hp
      obtain ⟨p1, vs1, rfl, h1, q1⟩ := repA_list st r1
      obtain ⟨p2, vs2, rfl, h2, q2⟩ := repA_list st r2
      cases rx
      cases ry
      exact cat_rd I h1 h2 (by rw [q1.len, q2.len]; exact fits_le hz) fun p hp => fin_lst st q (q1.append q2) hp
    · cases hp
  · rename_i a b e
    cases e
    split at hp
    · rename_i hz
      cases hp
      obtain ⟨p1, vs1, rfl, h1, g1, q1⟩ := repA_tuple st r1
      obtain ⟨p2, vs2, rfl, h2, g2, q2⟩ := repA_tuple st r2
      refine op_catA pins s σ H _ _ v u Q I rx ry ⟨p1, p2, vs1, vs2, rfl, rfl, h1, h2, (by rw [q1.len, q2.len]; exact fits_le hz), fun e => ?_, fun _ e => ?_, fun _ _ p hp => fin_tup st q (q1.append q2) hp⟩
      · subst e
        cases q1
        exact fin_flat st q (rep_p.mpr (.tup g2 q2))
      · subst e
        cases q2
        rw [List.append_nil] at q
        exact fin_flat st q (rep_p.mpr (.tup g1 q1))
    · cases hp
  · cases hp
end
end EC

namespace EC
open PySem PySem.Spec PyProof.Rows L2
variable [CA]
section
variable {X : Cx}
theorem b2 {K : PySem.W.Frag} {F H : Hp} {ι : List Addr} {S : Store} {Q : VK} {d : D} {b : Bool} (st : Sto K F H ι S) (q : ∀ v F' H', Stp F H ι F' H' ι → Sto K F' H' ι S → Rep K F' ι d v → Q v H') (e : some (D.p (.bool b)) = some d) : Q (.bl b) H := by
  cases e
  exact fin_flat st q (rep_p.mpr (.bl b))
theorem i2 {K : PySem.W.Frag} {F H : Hp} {ι : List Addr} {S : Store} {Q : VK} {d : D} {i : Int} (st : Sto K F H ι S) (q : ∀ v F' H', Stp F H ι F' H' ι → Sto K F' H' ι S → Rep K F' ι d v → Q v H') (e : some (D.p (.int i)) = some d) : Q (.int i) H := by
  cases e
  exact fin_flat st q (rep_p.mpr (.int i))
theorem s2 {K : PySem.W.Frag} {F H : Hp} {ι : List Addr} {S : Store} {Q : VK} {d : D} {i : Str} (st : Sto K F H ι S) (q : ∀ v F' H', Stp F H ι F' H' ι → Sto K F' H' ι S → Rep K F' ι d v → Q v H') (e : some (D.p (.str i)) = some d) : Q (.str i) H := by
  cases e
  exact fin_flat st q (rep_p.mpr (.str i))
theorem o_sub : OpR X (binaryOp .Sub) (rP2 X.K .sub) := by
  intro pins s σ H x y v u Q I rx ry h
  obtain ⟨F, ι, S, ds, d, st, ra, hp, q⟩ := h
  obtain ⟨d1, d2, rfl, r1, r2⟩ := two ra
  rw [prim_sub] at hp
  unfold p_sub at hp
  split at hp
  · rename_i i j e
    cases e
    rw [repA_int r1] at rx
    rw [repA_int r2] at ry
    exact op_sub pins s σ H _ _ v u Q I rx ry ⟨i, j, rfl, rfl, i2 st q hp⟩
  · cases hp
theorem mulOk_ok {i j : Int} (h : mulOk i j = true) : CMul i j := by
  unfold mulOk at h
  have q := of_decide_eq_true h
  exact q
theorem vals_rep {xs : List V} {us : List Value} (r : Vals xs us) : ∀ m : Nat, Vals (List.replicate m xs).flatten (List.replicate m us).flatten
  | 0 => .nil
  | m + 1 => by
    rw [List.replicate_succ, List.replicate_succ, List.flatten_cons, List.flatten_cons]
    exact r.append (vals_rep r m)
/-- xs * n -/
def rRepL (K : PySem.W.Frag) : V → V → Hp → VK → Prop := fun x y H Q => ∃ (l : Addr) (k : Int) (xs : List V), x = .ref l ∧ y = .int k ∧ SqL K H l xs ∧ 0 ≤ k ∧ k ≤ 1000 ∧ xs.length ≤ 1000 ∧ ∀ p, H p = none → Q (.ref p) (upd H p (.lst (List.replicate k.toNat xs).flatten))
theorem op_repL : OpR X (binaryOp .Mult) (rRepL X.K) := by
  intro pins s σ H x y v u Q I rx ry h
  obtain ⟨l, k, xs, rfl, rfl, hL, h0, h1, hz, q⟩ := h
  cases rx
  obtain ⟨t, rfl⟩ := ry
  obtain ⟨its, r, hl, hs⟩ := I.list hL
  obtain ⟨⟨cls, dd, data, sl⟩, ho, hc, n, hd⟩ := hl.isList
  simp only at hc hd
  subst hc hd
  have hle : its.length = xs.length := r.length.symm
  have hsz0 : its.toArray.size = xs.length := by rw [List.size_toArray, hle]
  have hm : its.toArray.size * k.toNat ≤ 1000000 := by
    rw [hsz0]
    exact Nat.le_trans (Nat.mul_le_mul hz (show k.toNat ≤ 1000 by omega)) (by decide)
  have hm2 : its.length * k.toNat ≤ 1000000 := by rw [← List.size_toArray]; exact hm
  refine wpAny_binaryOp_repeat_ref (T := "list") (U := "int") (by decide) ⟨_, ho, rfl⟩ (fun s' => typeIs_int s' k t) noFill_list_mul F.fills_int_mul F.slot_int_rmul repeat_list F.slot_int_index.lookup
    (call_meets F.slot_int_rmul (typeIs_int s k t) F.entry_int_rmul (F.args_int_rmul_2 _ _) (lm_int_rmul_list_any k t l its.toArray n dd sl)
      ⟨ho, rfl, ⟨_, ho, rfl⟩, call_meets F.slot_list_mul ⟨_, ho, rfl⟩ F.entry_list_mul (F.args_list_mul_2 _ _)
        (lm_list_mul_any l its.toArray n dd sl k t (by simp [Builtin.List.listFitsIndex]; omega) (by omega) (by simp [Builtin.List.listTooLong, sizeLine]; omega))
        ⟨ho, ?_⟩⟩)
  rw [PyProof.Rows.listMul_foldl_if]
  refine ⟨.ref s.heap.objs.size, _, I.laid (t' := s.toks) (o := .lst (List.replicate k.toNat xs).flatten) (fun b ob q => Heap.get?_push_of_some _ q) (Nat.le_refl _) ?_, rfl, q _ (I.hok.fresh (Nat.le_refl _))⟩
  refine ⟨by rw [PyProof.Rows.lm_len_rep_flat, sizeLine_eq]; have a1 : k.toNat * xs.length ≤ 1000 * 1000 := Nat.mul_le_mul (by omega) hz; omega, _, 0, vals_rep r k.toNat, Heap.get?_push_size _ rfl⟩
theorem o_mul : OpR X (binaryOp .Mult) (rP2 X.K .mul) := by
  intro pins s σ H x y v u Q I rx ry h
  obtain ⟨F, ι, S, ds, d, st, ra, hp, q⟩ := h
  obtain ⟨d1, d2, rfl, r1, r2⟩ := two ra
  rw [prim_mul] at hp
  unfold p_mul at hp
  split at hp
  · rename_i i j e
    cases e
    split at hp
    · rename_i hm
      rw [repA_int r1] at rx
      rw [repA_int r2] at ry
      exact op_mul pins s σ H _ _ v u Q I rx ry ⟨i, j, rfl, rfl, mulOk_ok hm, i2 st q hp⟩
    · cases hp
  · rename_i a n e
    cases e
    split at hp
    · rename_i hm
      have hm := of_decide_eq_true hm
      rw [repA_str r1] at rx
      rw [repA_int r2] at ry
      obtain ⟨t, rfl⟩ := rx
      obtain ⟨t', rfl⟩ := ry
      have n1 : ¬ n < 1 := by omega
      have n2 : (n == 1 || a.length == 0) = false := by
        have e1 : (n == 1) = false := by rw [beq_eq_false_iff_ne]; omega
        have e2 : (a.length == 0) = false := by rw [beq_eq_false_iff_ne]; omega
        rw [e1, e2]; rfl
      have hb : a.length * n.toNat ≤ 1000000 := by
        have : a.length * n.toNat ≤ 1000 * 1000 := Nat.mul_le_mul hm.2.2.2 (by omega)
        omega
      refine PySem.P.mul_str ?_ (fun _ _ => ?_) (fun _ _ => ?_) ?_
      · rw [decide_eq_false (by omega), decide_eq_false (by omega)]; rfl
      · have h1 : (2 ^ 63 - 1 : Int) / n ≥ 1000000 := by
          refine Int.le_ediv_of_mul_le (by omega) ?_
          have : 1000000 * n ≤ 1000000 * 1000 := Int.mul_le_mul_of_nonneg_left (by omega) (by omega)
          omega
        omega
      · unfold PySem.Builtin.Str.tooLong
        refine decide_eq_false ?_
        have : sizeLine = 16777216 := sizeLine_eq
        omega
      · rw [if_neg n1, n2, if_neg Bool.false_ne_true]
        refine ⟨?_, .str _, H, I.tok _, ⟨_, rfl⟩, s2 st q hp⟩
        refine fits_reps ?_
        unfold PySem.Builtin.Str.tooLong
        refine decide_eq_false ?_
        have : sizeLine = 16777216 := sizeLine_eq
        omega
    · cases hp
  · rename_i xs n e
    cases e
    split at hp
    · rename_i hm
      have hm := of_decide_eq_true hm
      rw [repA_int r2] at ry
      obtain ⟨p1, vs1, rfl, h1, g1, q1⟩ := repA_tuple st r1
      have l1 := q1.len
      cases hp
      refine op_repT pins s σ H _ _ v u Q I rx ry ⟨p1, n, vs1, rfl, rfl, h1, fun e => ?_, hm.1, hm.2.1, by omega, fun p hp => fin_tup st q ?_ hp⟩
      · rw [e] at l1
        have := hm.2.2.1
        simp at l1
        omega
      · generalize n.toNat = m
        induction m with
        | zero => exact .nil
        | succ m ih =>
          rw [List.replicate_succ, List.replicate_succ, List.flatten_cons, List.flatten_cons]
          exact q1.append ih
    · cases hp
  · rename_i xs n e
    cases e
    split at hp
    · rename_i hm
      have hm := of_decide_eq_true hm
      rw [repA_int r2] at ry
      obtain ⟨p1, vs1, rfl, h1, q1⟩ := repA_list st r1
      have l1 := q1.len
      cases hp
      refine op_repL pins s σ H _ _ v u Q I rx ry ⟨p1, n, vs1, rfl, rfl, h1, hm.1, hm.2.1, by omega, fun p hp => fin_lst st q ?_ hp⟩
      generalize n.toNat = m
      induction m with
      | zero => exact .nil
      | succ m ih =>
        rw [List.replicate_succ, List.replicate_succ, List.flatten_cons, List.flatten_cons]
        exact q1.append ih
    · cases hp
  · cases hp
theorem o_fdiv : OpR X (binaryOp .FloorDiv) (rP2 X.K .fdiv) := by
  intro pins s σ H x y v u Q I rx ry h
  obtain ⟨F, ι, S, ds, d, st, ra, hp, q⟩ := h
  obtain ⟨d1, d2, rfl, r1, r2⟩ := two ra
  rw [prim_fdiv] at hp
  unfold p_fdiv at hp
  split at hp
  · rename_i i j e
    cases e
    split at hp
    · rename_i hm
      have hm := of_decide_eq_true hm
      rw [repA_int r1] at rx
      rw [repA_int r2] at ry
      exact op_fdivW pins s σ H _ _ v u Q I rx ry ⟨i, j, rfl, rfl, hm, i2 st q hp⟩
    · cases hp
  · cases hp
theorem o_mod : OpR X (binaryOp .Mod) (rP2 X.K .mod) := by
  intro pins s σ H x y v u Q I rx ry h
  obtain ⟨F, ι, S, ds, d, st, ra, hp, q⟩ := h
  obtain ⟨d1, d2, rfl, r1, r2⟩ := two ra
  rw [prim_mod] at hp
  unfold p_mod at hp
  split at hp
  · rename_i i j e
    cases e
    split at hp
    · rename_i hm
      rw [repA_int r1] at rx
      rw [repA_int r2] at ry
      exact op_mod pins s σ H _ _ v u Q I rx ry ⟨i, j, rfl, rfl, of_decide_eq_true hm, i2 st q hp⟩
    · cases hp
  · cases hp
theorem o_pow : OpR X (binaryOp .Pow) (rP2 X.K .pow) := by
  intro pins s σ H x y v u Q I rx ry h
  obtain ⟨F, ι, S, ds, d, st, ra, hp, q⟩ := h
  obtain ⟨d1, d2, rfl, r1, r2⟩ := two ra
  rw [prim_pow] at hp
  unfold p_pow at hp
  split at hp
  · rename_i i j e
    cases e
    split at hp
    · rename_i hm
      have hm := of_decide_eq_true hm
      rw [repA_int r1] at rx
      rw [repA_int r2] at ry
      exact op_pow pins s σ H _ _ v u Q I rx ry ⟨i, j, rfl, rfl, hm, i2 st q hp⟩
    · cases hp
  · cases hp
theorem o_neg : UnR X (unaryOp .USub) (rP1 X.K .neg) := by
  intro pins s σ H x v Q I rx h
  obtain ⟨F, ι, S, ds, d, st, ra, hp, q⟩ := h
  obtain ⟨d1, rfl, r1⟩ := one ra
  rw [prim_neg] at hp
  unfold p_neg at hp
  split at hp
  · rename_i i e
    cases e
    rw [repA_int r1] at rx
    exact un_neg pins s σ H _ v Q I rx ⟨i, rfl, i2 st q hp⟩
  · cases hp

/-! ### comparisons -/
theorem eqOk_eq (hu : X.A.units + 64 < cLine) {pins : List (Addr × Obj)} {s : Shared} {σ : L2.St} {H : Hp} {x y : V} {v u : Value} {Q : VK} {a b : PyData} (I : Inv X pins σ H s) (rx : RelV x v) (ry : RelV y u) (ha : Dp X.K H x a) (hb : Dp X.K H y b)
    (ok : eqOk a b = true) (q : Q (.bl (PyData.eqv a b)) H) : wpAny (model X.prog X.w) X.A (compareOp .Eq v u) (EP X pins σ Q) X.xe s := by
  unfold eqOk at ok
  rcases Bool.or_eq_true_iff.mp ok with k | k
  · obtain ⟨k1, k2⟩ := Bool.and_eq_true_iff.mp k
    have sc1 : scal x y = true → decide (x = y) = PyData.eqv a b → wpAny (model X.prog X.w) X.A (compareOp .Eq v u) (EP X pins σ Q) X.xe s := fun h1 h2 =>
      op_eq pins s σ H x y v u Q I rx ry ⟨h1, by rw [h2]; exact q⟩
    have dp : a.canLay0 = true → b.canLay0 = true → a.depth = 0 → wpAny (model X.prog X.w) X.A (compareOp .Eq v u) (EP X pins σ Q) X.xe s := fun h1 h2 h3 => by
      obtain ⟨as, e1⟩ := Dp.reads I a x v ha rx
      obtain ⟨bs, e2⟩ := Dp.reads I b y u hb ry
      exact SeqAt.compareEq_reads e1 e2 h1 h2 (by rw [h3]; omega) ⟨.bl _, H, I, rfl, q⟩
    cases ha <;> cases hb <;> first
      | exact absurd k1 Bool.false_ne_true
      | exact absurd k2 Bool.false_ne_true
      | exact sc1 rfl dec_bl
      | exact sc1 rfl dec_int
      | exact sc1 rfl dec_str
      | exact sc1 rfl (by simp [PyData.eqv])
      | exact dp (by simp [PyData.canLay0]) (by simp [PyData.canLay0]) (by simp [PyData.depth])
  · obtain ⟨k1, k2⟩ := Bool.and_eq_true_iff.mp k
    obtain ⟨k1, k3⟩ := Bool.and_eq_true_iff.mp k1
    have k2 := of_decide_eq_true k2
    obtain ⟨as, e1⟩ := Dp.reads I a x v ha rx
    obtain ⟨bs, e2⟩ := Dp.reads I b y u hb ry
    exact SeqAt.compareEq_reads e1 e2 k1 k3 (by omega) ⟨.bl _, H, I, rfl, q⟩
end
end EC

namespace EC
open PySem PySem.Spec PyProof.Rows L2
variable [CA]
section
variable {X : Cx}
theorem eqOk_ne (hu : X.A.units + 64 < cLine) {pins : List (Addr × Obj)} {s : Shared} {σ : L2.St} {H : Hp} {x y : V} {v u : Value} {Q : VK} {a b : PyData} (I : Inv X pins σ H s) (rx : RelV x v) (ry : RelV y u) (ha : Dp X.K H x a) (hb : Dp X.K H y b)
    (ok : eqOk a b = true) (q : Q (.bl (!PyData.eqv a b)) H) : wpAny (model X.prog X.w) X.A (compareOp .NotEq v u) (EP X pins σ Q) X.xe s := by
  unfold eqOk at ok
  rcases Bool.or_eq_true_iff.mp ok with k | k
  · obtain ⟨k1, k2⟩ := Bool.and_eq_true_iff.mp k
    have sc1 : scal x y = true → decide (x = y) = PyData.eqv a b → wpAny (model X.prog X.w) X.A (compareOp .NotEq v u) (EP X pins σ Q) X.xe s := fun h1 h2 =>
      op_ne pins s σ H x y v u Q I rx ry ⟨h1, by rw [h2]; exact q⟩
    have dp : a.canLay0 = true → b.canLay0 = true → a.depth = 0 → wpAny (model X.prog X.w) X.A (compareOp .NotEq v u) (EP X pins σ Q) X.xe s := fun h1 h2 h3 => by
      obtain ⟨as, e1⟩ := Dp.reads I a x v ha rx
      obtain ⟨bs, e2⟩ := Dp.reads I b y u hb ry
      exact SeqAt.compareNe_reads e1 e2 h1 h2 (by rw [h3]; omega) ⟨.bl _, H, I, rfl, q⟩
    cases ha <;> cases hb <;> first
      | exact absurd k1 Bool.false_ne_true
      | exact absurd k2 Bool.false_ne_true
      | exact sc1 rfl dec_bl
      | exact sc1 rfl dec_int
      | exact sc1 rfl dec_str
      | exact sc1 rfl (by simp [PyData.eqv])
      | exact dp (by simp [PyData.canLay0]) (by simp [PyData.canLay0]) (by simp [PyData.depth])
  · obtain ⟨k1, k2⟩ := Bool.and_eq_true_iff.mp k
    obtain ⟨k1, k3⟩ := Bool.and_eq_true_iff.mp k1
    have k2 := of_decide_eq_true k2
    obtain ⟨as, e1⟩ := Dp.reads I a x v ha rx
    obtain ⟨bs, e2⟩ := Dp.reads I b y u hb ry
    exact SeqAt.compareNe_reads e1 e2 k1 k3 (by omega) ⟨.bl _, H, I, rfl, q⟩
theorem o_eq (hu : X.A.units + 64 < cLine) : OpR X (compareOp .Eq) (rP2 X.K .eq) := by
  intro pins s σ H x y v u Q I rx ry h
  obtain ⟨F, ι, S, ds, d, st, ra, hp, q⟩ := h
  obtain ⟨d1, d2, rfl, r1, r2⟩ := two ra
  rw [prim_eq] at hp
  rw [p_eq_0] at hp
  split at hp
  · rename_i a b e1 e2
    split at hp
    · rename_i ok
      exact eqOk_eq hu I rx ry (repA_dp st r1 e1) (repA_dp st r2 e2) ok (b2 st q hp)
    · cases hp
  · cases hp
theorem o_ne (hu : X.A.units + 64 < cLine) : OpR X (compareOp .NotEq) (rP2 X.K .ne) := by
  intro pins s σ H x y v u Q I rx ry h
  obtain ⟨F, ι, S, ds, d, st, ra, hp, q⟩ := h
  obtain ⟨d1, d2, rfl, r1, r2⟩ := two ra
  rw [prim_ne] at hp
  rw [p_ne_0] at hp
  split at hp
  · rename_i a b e1 e2
    split at hp
    · rename_i ok
      exact eqOk_ne hu I rx ry (repA_dp st r1 e1) (repA_dp st r2 e2) ok (b2 st q hp)
    · cases hp
  · cases hp
theorem o_lt : OpR X (compareOp .Lt) (rP2 X.K .lt) := by
  intro pins s σ H x y v u Q I rx ry h
  obtain ⟨F, ι, S, ds, d, st, ra, hp, q⟩ := h
  obtain ⟨d1, d2, rfl, r1, r2⟩ := two ra
  rw [prim_lt] at hp
  unfold p_lt at hp
  split at hp
  · rename_i i j e
    cases e
    rw [repA_int r1] at rx
    rw [repA_int r2] at ry
    exact op_lt pins s σ H _ _ v u Q I rx ry ⟨i, j, rfl, rfl, b2 st q hp⟩
  · rename_i i j e
    cases e
    rw [repA_str r1] at rx
    rw [repA_str r2] at ry
    exact op_lt_str pins s σ H _ _ v u Q I rx ry ⟨i, j, rfl, rfl, b2 st q hp⟩
  · cases hp
theorem o_le : OpR X (compareOp .LtE) (rP2 X.K .le) := by
  intro pins s σ H x y v u Q I rx ry h
  obtain ⟨F, ι, S, ds, d, st, ra, hp, q⟩ := h
  obtain ⟨d1, d2, rfl, r1, r2⟩ := two ra
  rw [prim_le] at hp
  unfold p_le at hp
  split at hp
  · rename_i i j e
    cases e
    rw [repA_int r1] at rx
    rw [repA_int r2] at ry
    exact op_le pins s σ H _ _ v u Q I rx ry ⟨i, j, rfl, rfl, b2 st q hp⟩
  · rename_i i j e
    cases e
    rw [repA_str r1] at rx
    rw [repA_str r2] at ry
    exact op_le_str pins s σ H _ _ v u Q I rx ry ⟨i, j, rfl, rfl, b2 st q hp⟩
  · cases hp
theorem o_gt : OpR X (compareOp .Gt) (rP2 X.K .gt) := by
  intro pins s σ H x y v u Q I rx ry h
  obtain ⟨F, ι, S, ds, d, st, ra, hp, q⟩ := h
  obtain ⟨d1, d2, rfl, r1, r2⟩ := two ra
  rw [prim_gt] at hp
  unfold p_gt at hp
  split at hp
  · rename_i i j e
    cases e
    rw [repA_int r1] at rx
    rw [repA_int r2] at ry
    exact op_gt pins s σ H _ _ v u Q I rx ry ⟨i, j, rfl, rfl, b2 st q hp⟩
  · cases hp
theorem o_ge : OpR X (compareOp .GtE) (rP2 X.K .ge) := by
  intro pins s σ H x y v u Q I rx ry h
  obtain ⟨F, ι, S, ds, d, st, ra, hp, q⟩ := h
  obtain ⟨d1, d2, rfl, r1, r2⟩ := two ra
  rw [prim_ge] at hp
  unfold p_ge at hp
  split at hp
  · rename_i i j e
    cases e
    rw [repA_int r1] at rx
    rw [repA_int r2] at ry
    exact op_ge pins s σ H _ _ v u Q I rx ry ⟨i, j, rfl, rfl, b2 st q hp⟩
  · cases hp
/-- is None, is not None: the right side a value none -/
theorem dq_none {K : PySem.W.Frag} {F H : Hp} {ι : List Addr} {x : PyData} {v : V} (h : RepA K F H ι (.p x) v) : decide (v = .non) = isNP x := by
  rcases h with h | ⟨a, vs, xs, e1, e2, _⟩
  · have q := rep_p.mp h
    cases q <;> simp [isNP]
  · cases e1
    subst e2
    simp
theorem o_isN : OpR X (compareOp .Is) (fun x y H Q => y = .non ∧ rP X.K .isN [x] H Q) := by
  intro pins s σ H x y v u Q I rx ry h
  obtain ⟨hy, F, ι, S, ds, d, st, ra, hp, q⟩ := h
  obtain ⟨d1, rfl, r1⟩ := one ra
  rw [prim_isN] at hp
  unfold p_isN at hp
  split at hp
  · rename_i a e
    cases e
    refine op_isN pins s σ H _ _ v u Q I rx ry ⟨hy, ?_⟩
    rw [dq_none r1]
    exact b2 st q hp
  · cases hp
theorem o_notN : OpR X (compareOp .IsNot) (fun x y H Q => y = .non ∧ rP X.K .notN [x] H Q) := by
  intro pins s σ H x y v u Q I rx ry h
  obtain ⟨hy, F, ι, S, ds, d, st, ra, hp, q⟩ := h
  obtain ⟨d1, rfl, r1⟩ := one ra
  rw [prim_notN] at hp
  unfold p_notN at hp
  split at hp
  · rename_i a e
    cases e
    refine op_notN pins s σ H _ _ v u Q I rx ry ⟨hy, ?_⟩
    rw [dq_none r1]
    exact b2 st q hp
  · cases hp
theorem is_bl_gen {M : Model} {A : Around} {E : Value → Shared → Prop} {s : Shared} {Q : Value → Shared → Prop} {v : Value} {b : Bool} (hb : ∀ n, v ≠ .builtin n) (h : Q (.bool (v == .bool b)) s) : wpAny M A (compareOp .Is v (.bool b)) Q E s := by
  cases v <;> first | exact wpAny_pure h | exact absurd rfl (hb _)
theorem dq_bl {K : PySem.W.Frag} {F H : Hp} {ι : List Addr} {x : PyData} {v : V} {u : Value} {b : Bool} (h : RepA K F H ι (.p x) v) (r : RelV v u) : (∀ n, u ≠ .builtin n) ∧ (u == Value.bool b) = isBlP b x := by
  rcases h with h | ⟨a, vs, xs, e1, e2, _⟩
  · have q := rep_p.mp h
    cases q with
    | non => cases r; exact ⟨fun _ z => (by cases z), rfl⟩
    | bl c => cases r; exact ⟨fun _ z => (by cases z), by cases c <;> cases b <;> rfl⟩
    | int i => obtain ⟨t, rfl⟩ := r; exact ⟨fun _ z => (by cases z), rfl⟩
    | str i => obtain ⟨t, rfl⟩ := r; exact ⟨fun _ z => (by cases z), rfl⟩
    | lst _ _ => cases r; exact ⟨fun _ z => (by cases z), rfl⟩
    | tup _ _ => cases r; exact ⟨fun _ z => (by cases z), rfl⟩
  · cases e1
    subst e2
    cases r
    exact ⟨fun _ z => (by cases z), rfl⟩
theorem o_isT : OpR X (compareOp .Is) (fun x y H Q => y = .bl true ∧ rP X.K .isT [x] H Q) := by
  intro pins s σ H x y v u Q I rx ry h
  obtain ⟨rfl, F, ι, S, ds, d, st, ra, hp, q⟩ := h
  obtain ⟨d1, rfl, r1⟩ := one ra
  cases ry
  rw [prim_isT] at hp
  unfold p_isT at hp
  split at hp
  · rename_i a e
    cases e
    obtain ⟨n1, n2⟩ := dq_bl (b := true) r1 rx
    refine is_bl_gen n1 ?_
    rw [n2]
    refine ⟨.bl _, H, I, rfl, ?_⟩
    exact b2 st q hp
  · cases hp
theorem o_isF : OpR X (compareOp .Is) (fun x y H Q => y = .bl false ∧ rP X.K .isF [x] H Q) := by
  intro pins s σ H x y v u Q I rx ry h
  obtain ⟨rfl, F, ι, S, ds, d, st, ra, hp, q⟩ := h
  obtain ⟨d1, rfl, r1⟩ := one ra
  cases ry
  rw [prim_isF] at hp
  unfold p_isF at hp
  split at hp
  · rename_i a e
    cases e
    obtain ⟨n1, n2⟩ := dq_bl (b := false) r1 rx
    refine is_bl_gen n1 ?_
    rw [n2]
    refine ⟨.bl _, H, I, rfl, ?_⟩
    exact b2 st q hp
  · cases hp

/-! ### in -/
theorem flat_V {K : PySem.W.Frag} {F : Hp} {x : PyData} {v : V} (h : Dq K F v x) (f : flat x = true) : flatV v = true := by
  cases h <;> first | rfl | exact absurd f Bool.false_ne_true
theorem flat_eq {K : PySem.W.Frag} {F F' : Hp} {x y : PyData} {v w : V} (h : Dq K F v x) (h' : Dq K F' w y) (f : flat x = true) (f' : flat y = true) : eqV v w = PyData.eqv x y := by
  cases h <;> cases h' <;> first | rfl | exact absurd f Bool.false_ne_true | exact absurd f' Bool.false_ne_true
theorem flat_all {K : PySem.W.Frag} {F : Hp} : ∀ {xs : List PyData} {vs : List V}, DqAll K F vs xs → xs.all flat = true → vs.all flatV = true
  | [], _, h, _ => by cases h; rfl
  | x :: xs, _, h, f => by
    cases h with
    | cons h1 h2 =>
      rw [List.all_cons, Bool.and_eq_true] at f ⊢
      exact ⟨flat_V h1 f.1, flat_all h2 f.2⟩
theorem flat_any {K : PySem.W.Frag} {F F' : Hp} {x : PyData} {v : V} (h : Dq K F' v x) (f : flat x = true) : ∀ {xs : List PyData} {vs : List V}, DqAll K F vs xs → xs.all flat = true → inV v vs = xs.any fun y => PyData.eqv y x
  | [], _, h, _ => by cases h; rfl
  | y :: xs, _, h', f' => by
    cases h' with
    | cons h1 h2 =>
      rw [List.all_cons, Bool.and_eq_true] at f'
      have := flat_any h f h2 f'.2
      unfold inV at this ⊢
      rw [List.any_cons, List.any_cons, this, flat_eq h1 h f'.1 f]
theorem repA_flat {K : PySem.W.Frag} {F H : Hp} {ι : List Addr} {x : PyData} {v : V} (h : RepA K F H ι (.p x) v) (f : flat x = true) : Dq K F v x :=
  repA_p h (fun xs e => by rw [e] at f; exact absurd f Bool.false_ne_true)
theorem o_mem : OpR X (compareOp .In) (rP2 X.K .mem) := by
  intro pins s σ H x y v u Q I rx ry h
  obtain ⟨F, ι, S, ds, d, st, ra, hp, q⟩ := h
  obtain ⟨d1, d2, rfl, r1, r2⟩ := two ra
  rw [prim_mem] at hp
  unfold p_mem at hp
  split at hp
  · rename_i a xs e
    cases e
    split at hp
    · rename_i f
      obtain ⟨f1, f2⟩ := Bool.and_eq_true_iff.mp f
      obtain ⟨p, vs, rfl, h1, h2⟩ := repA_list st r2
      have dx := repA_flat r1 f1
      refine op_in_seq pins s σ H _ _ v u Q I rx ry ⟨p, vs, rfl, .inl h1, flat_V dx f1, flat_all h2 f2, ?_⟩
      rw [if_neg Bool.false_ne_true, flat_any dx f1 h2 f2]
      exact b2 st q hp
    · cases hp
  · rename_i a xs e
    cases e
    split at hp
    · rename_i f
      obtain ⟨f1, f2⟩ := Bool.and_eq_true_iff.mp f
      obtain ⟨p, vs, rfl, h1, _, h2⟩ := repA_tuple st r2
      have dx := repA_flat r1 f1
      refine op_in_seq pins s σ H _ _ v u Q I rx ry ⟨p, vs, rfl, .inr h1, flat_V dx f1, flat_all h2 f2, ?_⟩
      rw [if_neg Bool.false_ne_true, flat_any dx f1 h2 f2]
      exact b2 st q hp
    · cases hp
  · rename_i a z e
    cases e
    rw [repA_str r1] at rx
    rw [repA_str r2] at ry
    exact op_in_str pins s σ H _ _ v u Q I rx ry ⟨a, z, rfl, rfl, b2 st q hp⟩
  · cases hp
theorem o_nmem : OpR X (compareOp .NotIn) (rP2 X.K .nmem) := by
  intro pins s σ H x y v u Q I rx ry h
  obtain ⟨F, ι, S, ds, d, st, ra, hp, q⟩ := h
  obtain ⟨d1, d2, rfl, r1, r2⟩ := two ra
  rw [prim_nmem] at hp
  unfold p_nmem at hp
  split at hp
  · rename_i a xs e
    cases e
    split at hp
    · rename_i f
      obtain ⟨f1, f2⟩ := Bool.and_eq_true_iff.mp f
      obtain ⟨p, vs, rfl, h1, h2⟩ := repA_list st r2
      have dx := repA_flat r1 f1
      refine op_notIn_seq pins s σ H _ _ v u Q I rx ry ⟨p, vs, rfl, .inl h1, flat_V dx f1, flat_all h2 f2, ?_⟩
      rw [if_pos rfl, flat_any dx f1 h2 f2]
      exact b2 st q hp
    · cases hp
  · rename_i a xs e
    cases e
    split at hp
    · rename_i f
      obtain ⟨f1, f2⟩ := Bool.and_eq_true_iff.mp f
      obtain ⟨p, vs, rfl, h1, _, h2⟩ := repA_tuple st r2
      have dx := repA_flat r1 f1
      refine op_notIn_seq pins s σ H _ _ v u Q I rx ry ⟨p, vs, rfl, .inr h1, flat_V dx f1, flat_all h2 f2, ?_⟩
      rw [if_pos rfl, flat_any dx f1 h2 f2]
      exact b2 st q hp
    · cases hp
  · rename_i a z e
    cases e
    rw [repA_str r1] at rx
    rw [repA_str r2] at ry
    exact op_notin_str pins s σ H _ _ v u Q I rx ry ⟨a, z, rfl, rfl, b2 st q hp⟩
  · cases hp

/-! ### a[i] -/
theorem atI_dq {K : PySem.W.Frag} {F : Hp} {xs : List PyData} {vs : List V} {i : Int} {x : PyData} (h : DqAll K F vs xs) (e : L2.atI xs i = some x) : ∃ v, L2.atI vs i = some v ∧ Dq K F v x := by
  unfold L2.atI at e ⊢
  rw [h.len]
  cases q : ixN xs.length i with
  | none => rw [q] at e; cases e
  | some j =>
    rw [q] at e
    exact h.get e
theorem atI_rep {K : PySem.W.Frag} {F : Hp} {ι : List Addr} {xs : List D} {vs : List V} {i : Int} {x : D} (h : Reps K F ι xs vs) (e : L2.atI xs i = some x) : ∃ v, L2.atI vs i = some v ∧ Rep K F ι x v := by
  unfold L2.atI at e ⊢
  rw [h.len]
  cases q : ixN xs.length i with
  | none => rw [q] at e; cases e
  | some j =>
    rw [q] at e
    exact h.get e
theorem map_some {α β : Type} {f : α → β} {o : Option α} {b : β} (h : o.map f = some b) : ∃ a, o = some a ∧ f a = b := by
  cases o with
  | none => cases h
  | some a => exact ⟨a, rfl, Option.some.inj h⟩
theorem x_idx : IxR X (rP2 X.K .idx) := by
  intro value slice pins s σ H x y v u Q I rx ry h hs
  obtain ⟨F, ι, S, ds, d, st, ra, hp, q⟩ := h
  obtain ⟨d1, d2, rfl, r1, r2⟩ := two ra
  rw [prim_idx] at hp
  unfold p_idx at hp
  split at hp
  · rename_i xs i e
    cases e
    obtain ⟨a, e1, rfl⟩ := map_some hp
    obtain ⟨p, vs, rfl, h1, h2⟩ := repA_list st r1
    have y0 := repA_int r2
    obtain ⟨w, e2, e3⟩ := atI_dq h2 e1
    exact ix_list value slice pins s σ H _ _ v u Q I rx ry ⟨p, vs, i, w, rfl, y0, h1, e2, fin_flat st q (rep_p.mpr e3)⟩ hs
  · rename_i xs i e
    cases e
    obtain ⟨a, e1, rfl⟩ := map_some hp
    obtain ⟨p, vs, rfl, h1, _, h2⟩ := repA_tuple st r1
    have y0 := repA_int r2
    obtain ⟨w, e2, e3⟩ := atI_dq h2 e1
    exact ix_tup value slice pins s σ H _ _ v u Q I rx ry ⟨p, vs, i, w, rfl, y0, h1, e2, fin_flat st q (rep_p.mpr e3)⟩ hs
  · rename_i z i e
    cases e
    split at hp
    · rename_i hz
      obtain ⟨c, e1, rfl⟩ := map_some hp
      have x0 := repA_str r1
      have y0 := repA_int r2
      exact ix_str value slice pins s σ H _ _ v u Q I rx ry ⟨z, i, c, x0, y0, fits_le hz, e1, fin_flat st q (rep_p.mpr (.str _))⟩ hs
    · cases hp
  · rename_i k i e
    cases e
    split at hp
    · rename_i es he
      obtain ⟨p, vs, rfl, _, h1, h2⟩ := repA_ref st r1 he
      have y0 := repA_int r2
      obtain ⟨w, e2, e3⟩ := atI_rep h2 hp
      exact ix_list value slice pins s σ H _ _ v u Q I rx ry ⟨p, vs, i, w, rfl, y0, SqL.of h1, e2, fin_flat st q e3⟩ hs
    · cases hp
  · cases hp

/-! ### a[lo:hi] -/
def rCut (K : PySem.W.Frag) : V → Option Int → Option Int → Hp → VK → Prop := fun x lo hi H Q => ∃ F ι S d e, Sto K F H ι S ∧ RepA K F H ι d x ∧ cutD d lo hi = some e ∧
  ∀ v F' H', Stp F H ι F' H' ι → Sto K F' H' ι S → Rep K F' ι e v → Q v H'
theorem dq_cut {K : PySem.W.Frag} {F : Hp} {xs : List PyData} {vs : List V} (h : DqAll K F vs xs) (lo hi : Option Int) : DqAll K F (cutV vs lo hi) (cut xs lo hi) := by
  unfold cutV cut
  rw [h.len]
  exact (h.drop _).take _
theorem x_cut : SlR X (rCut X.K) := by
  intro pins s σ H x v vl vu lo hi sl Q I rx hs pl pu h
  obtain ⟨F, ι, S, d, e, st, r1, hp, q⟩ := h
  unfold cutD at hp
  split at hp
  · rename_i l h xs
    cases hp
    obtain ⟨p, vs, rfl, h1, h2⟩ := repA_list st r1
    exact sl_list pins s σ H _ v vl vu _ _ sl Q I rx hs pl pu ⟨p, vs, rfl, h1, fun p hp => fin_lst st q (dq_cut h2 _ _) hp⟩
  · rename_i l h xs
    cases hp
    obtain ⟨p, vs, rfl, h1, g1, h2⟩ := repA_tuple st r1
    refine sl_tupA pins s σ H _ v vl vu _ _ sl Q I rx hs pl pu ⟨p, vs, rfl, h1, fun w => ?_, fun _ p hp => fin_tup st q (dq_cut h2 _ _) hp⟩
    have e : cut xs lo hi = xs := by
      unfold cut
      rw [← h2.len, w.1, w.2, List.drop_zero, Nat.sub_zero, h2.len, List.take_length]
    rw [e] at q
    exact fin_flat st q (rep_p.mpr (.tup g1 h2))
  · rename_i l h z
    split at hp
    · rename_i hz
      cases hp
      have x0 := repA_str r1
      exact sl_str pins s σ H _ v vl vu _ _ sl Q I rx hs pl pu ⟨z, x0, fits_le hz, fin_flat st q (rep_p.mpr (.str _))⟩
    · cases hp
  · cases hp
end
end EC

namespace EC
open PySem PySem.Spec PyProof.Rows L2
variable [CA]
theorem PE.weaken {X : Cx} {e : Expr} {t t' : TE} (h : PE X e t) (w : ∀ σ H Q, t' σ H Q → t σ H Q) : PE X e t' := ⟨fun pins s σ H Q I q => h.run pins s σ H Q I (w σ H Q q)⟩
theorem PT.weaken {X : Cx} {e : Expr} {t t' : TT} (h : PT X e t) (w : ∀ σ H Q, t' σ H Q → t σ H Q) : PT X e t' := ⟨fun pins s σ H Q I q => h.run pins s σ H Q I (w σ H Q q)⟩
theorem PW.weaken {X : Cx} {e : Expr} {t t' : TT} (h : PW X e t) (w : ∀ σ H Q, t' σ H Q → t σ H Q) : PW X e t' := ⟨fun wh pins s σ H Q I q => h.run wh pins s σ H Q I (w σ H Q q)⟩
theorem PA.weaken {X : Cx} {e : List Expr} {t t' : TA} (h : PA X e t) (w : ∀ σ H Q, t' σ H Q → t σ H Q) : PA X e t' := ⟨fun pos pins s σ H Q I q => h.run pos pins s σ H Q I (w σ H Q q)⟩
theorem PS.weaken {X : Cx} {e : Stmt} {t t' : TS} (h : PS X e t) (w : ∀ D σ H, t' D σ H → t D σ H) : PS X e t' := ⟨fun pins s σ H D I q => h.run pins s σ H D I (w D σ H q)⟩
theorem PSs.weaken {X : Cx} {e : List Stmt} {t t' : TS} (h : PSs X e t) (w : ∀ D σ H, t' D σ H → t D σ H) : PSs X e t' := ⟨fun pins s σ H D I q => h.run pins s σ H D I (w D σ H q)⟩
section
variable {ca : Nat → Addr} {K : PySem.W.Frag} {W : WX} {F H F' H' : Hp} {ι ι' : List Addr} {σ : L2.St}
theorem PostG.mono {α β : Type} {R : Hp → Hp → List Addr → α → β → Prop} {Q : β → Hp → Prop} {m : Out α} (h : PostG ca K W σ F H ι R Q m) (st : Stp F H ι F' H' ι') : PostG ca K W σ F' H' ι' R Q m := by
  cases m with
  | ok d S => exact fun v F2 H2 ι2 s2 => h v F2 H2 ι2 (st.trans s2)
  | exc e S => exact fun c d F2 H2 ι2 s2 => h c d F2 H2 ι2 (st.trans s2)
  | bad => exact h
theorem PostG.bind_ {α β γ δ : Type} {R : Hp → Hp → List Addr → α → β → Prop} {R' : Hp → Hp → List Addr → γ → δ → Prop} {Q : β → Hp → Prop} {Q' : δ → Hp → Prop} {m : Out α} {k : α → Store → Out γ} (h : PostG ca K W σ F H ι R' Q' (m.bind k))
    (g : ∀ d S' v F' H' ι', Stp F H ι F' H' ι' → Sto K F' H' ι' S' → R F' H' ι' d v → PostG ca K W σ F' H' ι' R' Q' (k d S') → Q v H') : PostG ca K W σ F H ι R Q m := by
  cases m with
  | ok d S =>
    have h : PostG ca K W σ F H ι R' Q' (k d S) := h
    exact fun v F2 H2 ι2 s2 st2 r => g d S v F2 H2 ι2 s2 st2 r (h.mono s2)
  | exc e S => exact h
  | bad => exact h
theorem PostG.of {α β : Type} {R : Hp → Hp → List Addr → α → β → Prop} {Q : β → Hp → Prop} {o : Option α} {S : Store} (h : PostG ca K W σ F H ι R Q (Out.of o S)) : ∃ d, o = some d ∧ ∀ v F' H' ι', Stp F H ι F' H' ι' → Sto K F' H' ι' S → R F' H' ι' d v → Q v H' := by
  cases o with
  | none => exact h.elim
  | some d => exact ⟨d, rfl, h⟩
theorem truV_of {S : Store} {d : D} {v : V} {b : Bool} (st : Sto K F H ι S) (r : RepA K F H ι d v) (h : truth S d = some b) : TruV K v H b := by
  unfold truth at h
  split at h
  · cases h
    rw [repA_none r]
    exact rfl
  · cases h
    rw [repA_bool r]
    exact rfl
  · cases h
    rw [repA_int r]
    exact rfl
  · rename_i x
    split at h
    · rename_i hz
      cases h
      rw [repA_str r]
      refine ⟨fits_le hz, ?_⟩
      have : ((x.length : Int) != 0) = (x.length != 0) := by
        by_cases e : x.length = 0
        · rw [e]; rfl
        · rw [bne_iff_ne.mpr e, bne_iff_ne.mpr (by omega)]
      exact this.symm
    · cases h
  · cases h
    obtain ⟨a, vs, rfl, h1, h2⟩ := repA_list st r
    refine .inl ⟨vs, h1, ?_⟩
    cases h2 <;> rfl
  · cases h
    obtain ⟨a, vs, rfl, h1, _, h2⟩ := repA_tuple st r
    refine .inr (.inl ⟨vs, h1, ?_⟩)
    cases h2 <;> rfl
  · rename_i i
    split at h
    · rename_i ds e
      cases h
      obtain ⟨a, vs, rfl, _, h1, h2⟩ := repA_ref st r e
      refine .inl ⟨vs, SqL.of h1, ?_⟩
      have l := h2.len
      cases ds <;> cases vs <;> first | rfl | cases l
    · cases h
  · cases h
end
abbrev GE (X : Cx) (ca : Nat → Addr) (W : WX) (G : Nat → D) (Fn : Nat → List D → Store → Out D) (e' : E) (e : Expr) : Prop := PE X e (tG ca X.K W (RV X.K) (evE G Fn e'))
abbrev GA (X : Cx) (ca : Nat → Addr) (W : WX) (G : Nat → D) (Fn : Nat → List D → Store → Out D) (e' : E) (e : Expr) : Prop := PE X e (tG ca X.K W (RA X.K) (evA1 G Fn e'))
abbrev GL (X : Cx) (ca : Nat → Addr) (W : WX) (G : Nat → D) (Fn : Nat → List D → Store → Out D) (es' : List E) (es : List Expr) : Prop := PA X es (tG ca X.K W (RAs X.K) (evA G Fn es'))
abbrev GV (X : Cx) (ca : Nat → Addr) (W : WX) (G : Nat → D) (Fn : Nat → List D → Store → Out D) (es' : List E) (es : List Expr) : Prop := PA X es (tG ca X.K W (RVs X.K) (evEs G Fn es'))
abbrev GT (X : Cx) (ca : Nat → Addr) (W : WX) (G : Nat → D) (Fn : Nat → List D → Store → Out D) (e' : E) (e : Expr) : Prop := PT X e (tG ca X.K W RBl fun ρ S => (evE G Fn e' ρ S).bind tru)
abbrev GW (X : Cx) (ca : Nat → Addr) (W : WX) (G : Nat → D) (Fn : Nat → List D → Store → Out D) (e' : E) (e : Expr) : Prop := PW X e (tG ca X.K W RBl fun ρ S => (evE G Fn e' ρ S).bind tru)
section
variable {X : Cx} {ca : Nat → Addr} {W : WX} {G : Nat → D} {Fn : Nat → List D → Store → Out D} {a b c : Expr} {a' b' c' : E} {es : List Expr} {es' : List E} {pos p : Pos}

/-! ### names and constants -/
theorem g_v {i : Nat} {x : Str} (hN : X.N[i]? = some x) (hv : Vis X.env.scope x) (hd : (x == ("__debug__" : Str)) = false := by decide) (hcd : (x == ("__classdict__" : Str)) = false := by decide) : GE X ca W G Fn (.v i) (.Name x pos) := by
  refine PE.weaken (pe_var hN hv hd hcd) fun σ H Q ⟨F, ι, S, ρ, own, st, en, h⟩ => ?_
  rw [evE_v] at h
  obtain ⟨d, e, h⟩ := h.of
  unfold look at e
  split at e
  · rename_i d' e2
    cases e
    obtain ⟨v, e3, r⟩ := en.slot i _ e2
    exact ⟨v, e3, h v F H ι Stp.refl st r⟩
  · cases e
theorem ga_v {i : Nat} {x : Str} (hN : X.N[i]? = some x) (hv : Vis X.env.scope x) (hd : (x == ("__debug__" : Str)) = false := by decide) (hcd : (x == ("__classdict__" : Str)) = false := by decide) : GA X ca W G Fn (.v i) (.Name x pos) := by
  refine PE.weaken (pe_var hN hv hd hcd) fun σ H Q ⟨F, ι, S, ρ, own, st, en, h⟩ => ?_
  unfold evA1 at h
  obtain ⟨d, e, h⟩ := h.of
  unfold lookB at e
  split at e
  · rename_i d' e2
    cases e
    obtain ⟨v, e3, r⟩ := en.slot i _ e2
    exact ⟨v, e3, h v F H ι Stp.refl st (.inl r)⟩
  · rename_i xs e2
    cases e
    obtain ⟨p, vs, e3, e4, e5, e6⟩ := en.slot i _ e2
    obtain ⟨o1, o2, _⟩ := en.off i p e3
    exact ⟨_, e4, h _ F H ι Stp.refl st (.inr ⟨p, vs, xs, rfl, rfl, o1, o2, e5, e6⟩)⟩
  · cases e
theorem ga_of (h : GE X ca W G Fn a' a) (hn : ∀ i, a' ≠ .v i := by intro i z; cases z) : GA X ca W G Fn a' a := by
  refine PE.weaken h fun σ H Q ⟨F, ι, S, ρ, own, st, en, h⟩ => ⟨F, ι, S, ρ, own, st, en, ?_⟩
  have e : evA1 G Fn a' ρ S = evE G Fn a' ρ S := by
    cases a' <;> first | rfl | exact absurd rfl (hn _)
  have h : PostG ca X.K W σ F H ι (RA X.K) Q (evA1 G Fn a' ρ S) := h
  rw [e] at h
  show PostG ca X.K W σ F H ι (RV X.K) Q (evE G Fn a' ρ S)
  revert h
  cases evE G Fn a' ρ S with
  | ok d S1 => exact fun h v F2 H2 ι2 s2 st2 r => h v F2 H2 ι2 s2 st2 (.inl r)
  | exc e S1 => exact fun h => h
  | bad => exact fun h => h
theorem g_int {i : Int} {j : Nat} : GE X ca W G Fn (.c (.int i)) (.Constant (.int i) j pos) := by
  refine PE.weaken pe_int fun σ H Q ⟨F, ι, S, ρ, own, st, en, h⟩ => ?_
  rw [evE_c] at h
  exact h _ F H ι Stp.refl st (rep_p.mpr (.int i))
theorem g_str {i : Str} {j : Nat} : GE X ca W G Fn (.c (.str i)) (.Constant (.str i) j pos) := by
  refine PE.weaken pe_str fun σ H Q ⟨F, ι, S, ρ, own, st, en, h⟩ => ?_
  rw [evE_c] at h
  exact h _ F H ι Stp.refl st (rep_p.mpr (.str i))
theorem g_bl {i : Bool} {j : Nat} : GE X ca W G Fn (.c (.bool i)) (.Constant (.bool i) j pos) := by
  refine PE.weaken pe_bl fun σ H Q ⟨F, ι, S, ρ, own, st, en, h⟩ => ?_
  rw [evE_c] at h
  exact h _ F H ι Stp.refl st (rep_p.mpr (.bl i))
theorem g_non {j : Nat} : GE X ca W G Fn (.c .none) (.Constant .none j pos) := by
  refine PE.weaken pe_non fun σ H Q ⟨F, ι, S, ρ, own, st, en, h⟩ => ?_
  rw [evE_c] at h
  exact h _ F H ι Stp.refl st (rep_p.mpr .non)
/-- a module's constant -/
structure GlR (X : Cx) (G : Nat → D) (k : Nat) (x : Str) : Prop where
  r : ∃ v u, X.mg x = some u ∧ RelV v u ∧ ∀ F ι, Rep X.K F ι (G k) v
theorem g_g {k : Nat} {x : Str} (hg : Gl X x) (hr : GlR X G k x) (hd : (x == ("__debug__" : Str)) = false := by decide) : GE X ca W G Fn (.g k) (.Name x pos) := by
  obtain ⟨v, u, hm, r, hv⟩ := hr.r
  refine PE.weaken (pe_glob hg hm r hd) fun σ H Q ⟨F, ι, S, ρ, own, st, en, h⟩ => ?_
  rw [evE_g] at h
  exact h v F H ι Stp.refl st (hv F ι)

/-! ### arguments -/
theorem gl_nil : GL X ca W G Fn [] [] := by
  refine PA.weaken pa_nil fun σ H Q ⟨F, ι, S, ρ, own, st, en, h⟩ => ?_
  rw [evA] at h
  exact h [] F H ι Stp.refl st rfl
theorem gl_cons (ha : GA X ca W G Fn a' a) (hs : GL X ca W G Fn es' es) (hst : starEach (a :: es) X.env = (false, eval a X.env) :: starEach es X.env := by rfl) : GL X ca W G Fn (a' :: es') (a :: es) := by
  refine PA.weaken (pa_cons ha hs hst) fun σ H Q ⟨F, ι, S, ρ, own, st, en, h⟩ => ?_
  rw [evA_one] at h
  refine ⟨F, ι, S, ρ, own, st, en, h.bind_ fun d S1 v F1 H1 ι1 s1 st1 r1 h1 => ?_⟩
  have h1 : PostG ca X.K W σ F1 H1 ι1 (RAs X.K) Q ((evA G Fn es' ρ S1).bind (kCons d)) := h1
  refine ⟨F1, ι1, S1, ρ, own, st1, en.mono s1, h1.bind_ fun ds S2 vs F2 H2 ι2 s2 st2 r2 h2 => ?_⟩
  exact h2 _ F2 H2 ι2 Stp.refl st2 ⟨v, vs, rfl, r1.mono s2, r2⟩
theorem gv_nil : GV X ca W G Fn [] [] := by
  refine PA.weaken pa_nil fun σ H Q ⟨F, ι, S, ρ, own, st, en, h⟩ => ?_
  rw [evEs] at h
  exact h [] F H ι Stp.refl st (reps_nil.mpr rfl)
theorem gv_cons (ha : GE X ca W G Fn a' a) (hs : GV X ca W G Fn es' es) (hst : starEach (a :: es) X.env = (false, eval a X.env) :: starEach es X.env := by rfl) : GV X ca W G Fn (a' :: es') (a :: es) := by
  refine PA.weaken (pa_cons ha hs hst) fun σ H Q ⟨F, ι, S, ρ, own, st, en, h⟩ => ?_
  rw [evEs] at h
  refine ⟨F, ι, S, ρ, own, st, en, h.bind_ fun d S1 v F1 H1 ι1 s1 st1 r1 h1 => ?_⟩
  refine ⟨F1, ι1, S1, ρ, own, st1, en.mono s1, h1.bind_ fun ds S2 vs F2 H2 ι2 s2 st2 r2 h2 => ?_⟩
  exact h2 _ F2 H2 ι2 Stp.refl st2 (reps_cons.mpr ⟨v, vs, rfl, Rep.mono s2 _ _ r1, r2⟩)

/-! ### operations -/
/-- the end of an operation on values -/
theorem pr_end {o : Pr} {ds : List D} {vs : List V} {S : Store} {F H : Hp} {ι : List Addr} {σ : L2.St} {Q : VK} (h : PostG ca X.K W σ F H ι (RV X.K) Q (kPr o ds S)) (st : Sto X.K F H ι S) (r : RepAs X.K F H ι ds vs) : rP X.K o vs H Q := by
  obtain ⟨d, e, h⟩ := PostG.of h
  exact ⟨F, ι, S, ds, d, st, r, e, fun v F' H' s' st' r' => h v F' H' ι s' st' r'⟩
theorem g_pr {o : Pr} {r : List V → Hp → VK → Prop} {t : TE} (hl : GL X ca W G Fn es' es) (h : ∀ {u : TA}, PA X es u → PE X a (fun σ H Q => u σ H fun vs H1 => rP X.K o vs H1 Q)) : GE X ca W G Fn (.pr o es') a := by
  refine PE.weaken (h hl) fun σ H Q ⟨F, ι, S, ρ, own, st, en, h⟩ => ?_
  rw [evE_pr] at h
  refine ⟨F, ι, S, ρ, own, st, en, h.bind_ fun ds S1 vs F1 H1 ι1 s1 st1 r1 h1 => ?_⟩
  exact pr_end h1 st1 r1
theorem two_end {o : Pr} {S : Store} {F H : Hp} {ι : List Addr} {σ : L2.St} {ρ : EC.Env} {own : Nat → Option Addr} {Q : VK} (h : PostG ca X.K W σ F H ι (RV X.K) Q (evE G Fn (.pr o [a', b']) ρ S)) (st : Sto X.K F H ι S) (en : EnvR X.K F H ι own ρ σ) :
    tOp (rP2 X.K o) (tG ca X.K W (RA X.K) (evA1 G Fn a')) (tG ca X.K W (RA X.K) (evA1 G Fn b')) σ H Q := by
  rw [evE_pr, evA_one, bind_assoc] at h
  refine ⟨F, ι, S, ρ, own, st, en, h.bind_ fun d S1 v F1 H1 ι1 s1 st1 r1 h1 => ?_⟩
  have h1 : PostG ca X.K W σ F1 H1 ι1 (RV X.K) Q (((evA G Fn [b'] ρ S1).bind (kCons d)).bind (kPr o)) := h1
  rw [evA_one, bind_assoc, bind_assoc] at h1
  refine ⟨F1, ι1, S1, ρ, own, st1, en.mono s1, h1.bind_ fun d2 S2 v2 F2 H2 ι2 s2 st2 r2 h2 => ?_⟩
  have h2 : PostG ca X.K W σ F2 H2 ι2 (RV X.K) Q ((((evA G Fn [] ρ S2).bind (kCons d2)).bind (kCons d)).bind (kPr o)) := h2
  rw [evA] at h2
  exact pr_end h2 st2 ⟨v, _, rfl, r1.mono s2, v2, _, rfl, r2, rfl⟩
theorem g_bin {op : Operator} {o : Pr} (ho : OpR X (binaryOp op) (rP2 X.K o)) (ha : GA X ca W G Fn a' a) (hb : GA X ca W G Fn b' b) : GE X ca W G Fn (.pr o [a', b']) (.BinOp a op b pos) :=
  PE.weaken (pe_op ho ha hb) fun σ H Q ⟨F, ι, S, ρ, own, st, en, h⟩ => two_end h st en
theorem g_cmp {op : CmpOp} {o : Pr} (ho : OpR X (compareOp op) (rP2 X.K o)) (ha : GA X ca W G Fn a' a) (hb : GA X ca W G Fn b' b) (hm : behindInMarks op b = false := by rfl) : GE X ca W G Fn (.pr o [a', b']) (.Compare a [op] [b] pos) :=
  PE.weaken (pe_cmpR ho ha hb hm) fun σ H Q ⟨F, ι, S, ρ, own, st, en, h⟩ => two_end h st en
theorem g_ix (ha : GA X ca W G Fn a' a) (hb : GA X ca W G Fn b' b) (hs : PlainIx b) : GE X ca W G Fn (.pr .idx [a', b']) (.Subscript a b pos) :=
  PE.weaken (pe_ix x_idx ha hb hs) fun σ H Q ⟨F, ι, S, ρ, own, st, en, h⟩ => two_end h st en
theorem one_end {o : Pr} {S : Store} {F H : Hp} {ι : List Addr} {σ : L2.St} {ρ : EC.Env} {own : Nat → Option Addr} {Q : VK} (h : PostG ca X.K W σ F H ι (RV X.K) Q (evE G Fn (.pr o [a']) ρ S)) (st : Sto X.K F H ι S) (en : EnvR X.K F H ι own ρ σ) :
    tG ca X.K W (RA X.K) (evA1 G Fn a') σ H fun x H1 => rP1 X.K o x H1 Q := by
  rw [evE_pr, evA_one, bind_assoc] at h
  refine ⟨F, ι, S, ρ, own, st, en, h.bind_ fun d S1 v F1 H1 ι1 s1 st1 r1 h1 => ?_⟩
  have h1 : PostG ca X.K W σ F1 H1 ι1 (RV X.K) Q (((evA G Fn [] ρ S1).bind (kCons d)).bind (kPr o)) := h1
  rw [evA] at h1
  exact pr_end h1 st1 ⟨v, _, rfl, r1, rfl⟩
theorem g_un {op : UnaryOp} {o : Pr} (ho : UnR X (unaryOp op) (rP1 X.K o)) (ha : GA X ca W G Fn a' a) : GE X ca W G Fn (.pr o [a']) (.UnaryOp op a pos) :=
  PE.weaken (pe_un ho ha) fun σ H Q ⟨F, ι, S, ρ, own, st, en, h⟩ => one_end h st en
/-- a is None, a is True .. -/
theorem g_isK {op : CmpOp} {o : Pr} {w : V} (ho : OpR X (compareOp op) fun x y H Q => y = w ∧ rP X.K o [x] H Q) (ha : GA X ca W G Fn a' a) (hb : PE X b (tC w)) (hm : behindInMarks op b = false := by rfl) : GE X ca W G Fn (.pr o [a']) (.Compare a [op] [b] pos) := by
  refine PE.weaken (pe_cmpR ho ha hb hm) fun σ H Q ⟨F, ι, S, ρ, own, st, en, h⟩ => ?_
  have q := one_end h st en
  obtain ⟨F, ι, S, ρ, own, st, en, h⟩ := q
  refine ⟨F, ι, S, ρ, own, st, en, ?_⟩
  revert h
  show PostG ca X.K W σ F H ι (RA X.K) _ (evA1 G Fn a' ρ S) → PostG ca X.K W σ F H ι (RA X.K) _ (evA1 G Fn a' ρ S)
  cases evA1 G Fn a' ρ S with
  | ok d S1 => exact fun h v F2 H2 ι2 s2 st2 r => ⟨rfl, h v F2 H2 ι2 s2 st2 r⟩
  | exc e S1 => exact fun h => h
  | bad => exact fun h => h
end
end EC

namespace EC
open PySem PySem.Spec PyProof.Rows L2
variable [CA]
section
variable {X : Cx} {ca : Nat → Addr} {W : WX} {G : Nat → D} {Fn : Nat → List D → Store → Out D} {a b c : Expr} {a' b' c' : E} {es : List Expr} {es' : List E} {pos p : Pos}
theorem tG_ex {α β : Type} {K : PySem.W.Frag} {R : Hp → Hp → List Addr → α → β → Prop} {m : EC.Env → Store → Out α} {σ : L2.St} {F H : Hp} {ι : List Addr} {S : Store} {ρ : EC.Env} {own : Nat → Option Addr} {Q : β → Hp → Prop} (st : Sto K F H ι S) (en : EnvR K F H ι own ρ σ) (h : PostG ca K W σ F H ι R Q (m ρ S)) : tG ca K W R m σ H Q := ⟨F, ι, S, ρ, own, st, en, h⟩

/-! ### and, or, not, if -/
theorem g_one {op : BoolOp} (ha : GE X ca W G Fn a' a) : GE X ca W G Fn a' (.BoolOp op [a] pos) := pe_one ha
theorem g_and {rest : List Expr} (ha : GE X ca W G Fn a' a) (hb : GE X ca W G Fn b' (.BoolOp .And (b :: rest) pos)) : GE X ca W G Fn (.and a' b') (.BoolOp .And (a :: b :: rest) pos) := by
  refine PE.weaken (pe_andT ha hb) fun σ H Q ⟨F, ι, S, ρ, own, st, en, h⟩ => ?_
  rw [evE_and] at h
  refine tG_ex st en (h.bind_ fun d S1 v F1 H1 ι1 s1 st1 r1 h1 => ?_)
  rw [kAnd_eq, tru_eq] at h1
  cases e : truth S1 d with
  | none => rw [e] at h1; exact h1.elim
  | some k =>
    rw [e] at h1
    refine ⟨k, truV_of st1 (.inl r1) e, ?_⟩
    cases k with
    | true => exact tG_ex st1 (en.mono s1) h1
    | false => exact h1 v F1 H1 ι1 Stp.refl st1 r1
theorem g_or {rest : List Expr} (ha : GE X ca W G Fn a' a) (hb : GE X ca W G Fn b' (.BoolOp .Or (b :: rest) pos)) : GE X ca W G Fn (.or a' b') (.BoolOp .Or (a :: b :: rest) pos) := by
  refine PE.weaken (pe_orT ha hb) fun σ H Q ⟨F, ι, S, ρ, own, st, en, h⟩ => ?_
  rw [evE_or] at h
  refine tG_ex st en (h.bind_ fun d S1 v F1 H1 ι1 s1 st1 r1 h1 => ?_)
  rw [kOr_eq, tru_eq] at h1
  cases e : truth S1 d with
  | none => rw [e] at h1; exact h1.elim
  | some k =>
    rw [e] at h1
    refine ⟨k, truV_of st1 (.inl r1) e, ?_⟩
    cases k with
    | false => exact tG_ex st1 (en.mono s1) h1
    | true => exact h1 v F1 H1 ι1 Stp.refl st1 r1
theorem g_not (ha : GE X ca W G Fn a' a) : GE X ca W G Fn (.not a') (.UnaryOp .Not a pos) := by
  refine PE.weaken (pe_notT ha) fun σ H Q ⟨F, ι, S, ρ, own, st, en, h⟩ => ?_
  rw [evE_not] at h
  refine tG_ex st en (h.bind_ fun d S1 v F1 H1 ι1 s1 st1 r1 h1 => ?_)
  rw [kNot_eq, tru_eq] at h1
  cases e : truth S1 d with
  | none => rw [e] at h1; exact h1.elim
  | some k =>
    rw [e] at h1
    exact ⟨k, truV_of st1 (.inl r1) e, h1 _ F1 H1 ι1 Stp.refl st1 (rep_p.mpr (.bl _))⟩
theorem g_ite (hc : GT X ca W G Fn c' c) (ha : GE X ca W G Fn a' a) (hb : GE X ca W G Fn b' b) : GE X ca W G Fn (.ite c' a' b') (.IfExp c a b pos) := by
  refine PE.weaken (pe_ifExp hc ha hb) fun σ H Q ⟨F, ι, S, ρ, own, st, en, h⟩ => ?_
  rw [evE_ite] at h
  refine tG_ex st en ?_
  have h : PostG ca X.K W σ F H ι (RV X.K) Q (((evE G Fn c' ρ S).bind tru).bind (kIte2 G Fn a' b' ρ)) := by
    rw [bind_assoc]
    exact h
  refine h.bind_ fun k S1 v F1 H1 ι1 s1 st1 r1 h1 => ?_
  have r1 : v = k := r1
  subst r1
  cases v with
  | true => exact tG_ex st1 (en.mono s1) h1
  | false => exact tG_ex st1 (en.mono s1) h1
theorem chain_read {o1 o2 : Pr} {S : Store} {F H : Hp} {ι : List Addr} {σ : L2.St} {ρ : EC.Env} {own : Nat → Option Addr} {Q : VK} (h : PostG ca X.K W σ F H ι (RV X.K) Q (evE G Fn (.chain o1 o2 a' b' c') ρ S)) (st : Sto X.K F H ι S) (en : EnvR X.K F H ι own ρ σ) :
    tChain (rP2 X.K o1) (rP2 X.K o2) (tG ca X.K W (RV X.K) (evE G Fn a')) (tG ca X.K W (RV X.K) (evE G Fn b')) (tG ca X.K W (RV X.K) (evE G Fn c')) σ H Q := by
  rw [evE_chain] at h
  refine tG_ex st en (h.bind_ fun d S1 x F1 H1 ι1 s1 st1 r1 h1 => ?_)
  rw [kCh1_eq] at h1
  refine tG_ex st1 (en.mono s1) (h1.bind_ fun d2 S2 y F2 H2 ι2 s2 st2 r2 h2 => ?_)
  rw [kCh2_eq] at h2
  have r1' := Rep.mono s2 _ _ r1
  cases e : prim S2 o1 [d, d2] with
  | none => rw [e] at h2; exact h2.elim
  | some z =>
    rw [e] at h2
    refine ⟨F2, ι2, S2, [d, d2], z, st2, ⟨x, _, rfl, .inl r1', y, _, rfl, .inl r2, rfl⟩, e, fun v F3 H3 s3 st3 r3 => ?_⟩
    have h2 : PostG ca X.K W σ F2 H2 ι2 (RV X.K) Q (kCh3 G Fn o2 c' ρ d2 z S2) := h2
    unfold kCh3 at h2
    split at h2
    · have q := rep_p.mp r3
      cases q
      refine ⟨true, rfl, ?_⟩
      rw [if_pos rfl]
      refine tG_ex st3 ((en.mono s1).mono (s2.trans s3)) ((h2.mono s3).bind_ fun d4 S4 w F4 H4 ι4 s4 st4 r4 h4 => ?_)
      exact pr_end (o := o2) (ds := [d2, d4]) (vs := [y, w]) h4 st4 ⟨y, _, rfl, .inl (Rep.mono s4 _ _ (Rep.mono s3 _ _ r2)), w, _, rfl, .inl r4, rfl⟩
    · have q := rep_p.mp r3
      cases q
      refine ⟨false, rfl, ?_⟩
      rw [if_neg Bool.false_ne_true]
      exact h2 _ F3 H3 ι2 s3 st3 (rep_p.mpr (.bl _))
    · exact h2.elim
theorem g_chain {op op' : CmpOp} {o1 o2 : Pr} (ho : OpR X (compareOp op) (rP2 X.K o1)) (ho' : OpR X (compareOp op') (rP2 X.K o2)) (ha : GE X ca W G Fn a' a) (hb : GE X ca W G Fn b' b) (hc : GE X ca W G Fn c' c) (hm : lastMarks [op, op'] [b, c] = false := by with_unfolding_all rfl) :
    GE X ca W G Fn (.chain o1 o2 a' b' c') (.Compare a [op, op'] [b, c] pos) := by
  exact PE.weaken (pe_chain ho ho' ha hb hc hm) fun σ H Q ⟨F, ι, S, ρ, own, st, en, h⟩ => chain_read h st en

/-! ### tests -/
theorem gt_of (ha : GE X ca W G Fn a' a) (he : ∀ whole, isTrue a X.env whole = (do let v ← whole; standAt a.pos; holding [v] (truthy v)) := by intro _; rfl) : GT X ca W G Fn a' a := by
  refine PT.weaken (pt_truth ha he) fun σ H Q ⟨F, ι, S, ρ, own, st, en, h⟩ => ?_
  refine tG_ex st en (h.bind_ fun d S1 v F1 H1 ι1 s1 st1 r1 h1 => ?_)
  rw [tru_eq] at h1
  obtain ⟨k, e, h1⟩ := PostG.of h1
  exact ⟨k, truV_of st1 (.inl r1) e, h1 k F1 H1 ι1 Stp.refl st1 rfl⟩
def isCmp : Pr → Bool
  | .eq => true
  | .ne => true
  | .lt => true
  | .le => true
  | .gt => true
  | .ge => true
  | .isN => true
  | .notN => true
  | .isT => true
  | .isF => true
  | .mem => true
  | .memr => true
  | .nmem => true
  | .memD => true
  | .nmemD => true
  | .memK => true
  | .nmemK => true
  | _ => false
theorem isCmp_ok {o : Pr} {S : Store} {ds : List D} {d : D} (h : isCmp o = true) (e : prim S o ds = some d) : ∃ k, d = .p (.bool k) := by
  cases o <;> first | exact absurd h Bool.false_ne_true | skip
  all_goals
    first | (rw [prim_eq] at e; unfold p_eq at e) | (rw [prim_ne] at e; unfold p_ne at e) | (rw [prim_lt] at e; unfold p_lt at e) | (rw [prim_le] at e; unfold p_le at e) | (rw [prim_gt] at e; unfold p_gt at e) | (rw [prim_ge] at e; unfold p_ge at e) | (rw [prim_isN] at e; unfold p_isN at e) | (rw [prim_notN] at e; unfold p_notN at e) | (rw [prim_isT] at e; unfold p_isT at e) | (rw [prim_isF] at e; unfold p_isF at e) | (rw [prim_mem] at e; unfold p_mem at e) | (rw [prim_memr] at e; unfold p_memr at e) | (rw [prim_nmem] at e; unfold p_nmem at e) | (rw [prim_memD] at e; unfold p_memD at e) | (rw [prim_nmemD] at e; unfold p_nmemD at e) | (rw [prim_memK] at e; unfold p_memK at e) | (rw [prim_nmemK] at e; unfold p_nmemK at e)
    repeat' split at e
    all_goals first | cases e; done | exact ⟨_, (Option.some.inj e).symm⟩
theorem test_post {σ : L2.St} {F H : Hp} {ι : List Addr} {Q : Bool → Hp → Prop} {m : Out D} (hb : ∀ d S', m = .ok d S' → ∃ k, d = .p (.bool k)) (h : PostG ca X.K W σ F H ι RBl Q (m.bind tru)) :
    PostG ca X.K W σ F H ι (RV X.K) (fun x H' => ∃ k, x = .bl k ∧ Q k H') m := by
  cases m with
  | bad => exact h
  | exc e S1 => exact h
  | ok d S1 =>
    obtain ⟨k, rfl⟩ := hb d S1 rfl
    intro v F1 H1 ι1 s1 st1 r1
    have q := rep_p.mp r1
    cases q
    exact ⟨k, rfl, h k F1 H1 ι1 s1 st1 rfl⟩
theorem pr_bool {o : Pr} {es' : List E} {ρ : EC.Env} {S S' : Store} {d : D} (h : isCmp o = true) (e : evE G Fn (.pr o es') ρ S = .ok d S') : ∃ k, d = .p (.bool k) := by
  rw [evE_pr] at e
  cases q : evA G Fn es' ρ S with
  | bad => rw [q] at e; cases e
  | exc x S1 => rw [q] at e; cases e
  | ok ds S1 =>
    rw [q] at e
    have e : Out.of (prim S1 o ds) S1 = .ok d S' := e
    cases q2 : prim S1 o ds with
    | none => rw [q2] at e; cases e
    | some z =>
      rw [q2] at e
      cases e
      exact isCmp_ok h q2
theorem gt_cmp {op : CmpOp} {o : Pr} (ho : OpR X (compareOp op) (rP2 X.K o)) (ha : GA X ca W G Fn a' a) (hb : GA X ca W G Fn b' b) (hi : isCmp o = true := by rfl) (hm : behindInMarks op b = false := by rfl) : GT X ca W G Fn (.pr o [a', b']) (.Compare a [op] [b] pos) := by
  refine PT.weaken (pt_cmpR ho ha hb hm) fun σ H Q ⟨F, ι, S, ρ, own, st, en, h⟩ => ?_
  exact two_end (test_post (fun d S' e => pr_bool hi e) h) st en
theorem gt_isK {op : CmpOp} {o : Pr} {w : V} (ho : OpR X (compareOp op) fun x y H Q => y = w ∧ rP X.K o [x] H Q) (ha : GA X ca W G Fn a' a) (hb : PE X b (tC w)) (hi : isCmp o = true := by rfl) (hm : behindInMarks op b = false := by rfl) : GT X ca W G Fn (.pr o [a']) (.Compare a [op] [b] pos) := by
  refine PT.weaken (pt_cmpR ho ha hb hm) fun σ H Q ⟨F, ι, S, ρ, own, st, en, h⟩ => ?_
  have q := one_end (test_post (fun d S' e => pr_bool hi e) h) st en
  obtain ⟨F, ι, S, ρ, own, st, en, h⟩ := q
  refine ⟨F, ι, S, ρ, own, st, en, ?_⟩
  revert h
  show PostG ca X.K W σ F H ι (RA X.K) _ (evA1 G Fn a' ρ S) → PostG ca X.K W σ F H ι (RA X.K) _ (evA1 G Fn a' ρ S)
  cases evA1 G Fn a' ρ S with
  | ok d S1 => exact fun h v F2 H2 ι2 s2 st2 r => ⟨rfl, h v F2 H2 ι2 s2 st2 r⟩
  | exc e S1 => exact fun h => h
  | bad => exact fun h => h
theorem chain_bool {o1 o2 : Pr} {ρ : EC.Env} {S S' : Store} {d : D} (h : isCmp o2 = true) (e : evE G Fn (.chain o1 o2 a' b' c') ρ S = .ok d S') : ∃ k, d = .p (.bool k) := by
  rw [evE_chain] at e
  cases q : evE G Fn a' ρ S with
  | bad => rw [q] at e; cases e
  | exc x S1 => rw [q] at e; cases e
  | ok x S1 =>
    rw [q] at e
    have e : (evE G Fn b' ρ S1).bind (kCh2 G Fn o1 o2 c' ρ x) = .ok d S' := e
    cases q2 : evE G Fn b' ρ S1 with
    | bad => rw [q2] at e; cases e
    | exc x S1 => rw [q2] at e; cases e
    | ok y S2 =>
      rw [q2] at e
      have e : (Out.of (prim S2 o1 [x, y]) S2).bind (kCh3 G Fn o2 c' ρ y) = .ok d S' := e
      cases q3 : prim S2 o1 [x, y] with
      | none => rw [q3] at e; cases e
      | some z =>
        rw [q3] at e
        have e : kCh3 G Fn o2 c' ρ y z S2 = .ok d S' := e
        unfold kCh3 at e
        split at e
        · cases q4 : evE G Fn c' ρ S2 with
          | bad => rw [q4] at e; cases e
          | exc x S1 => rw [q4] at e; cases e
          | ok w S4 =>
            rw [q4] at e
            have e : Out.of (prim S4 o2 [y, w]) S4 = .ok d S' := e
            cases q5 : prim S4 o2 [y, w] with
            | none => rw [q5] at e; cases e
            | some u =>
              rw [q5] at e
              cases e
              exact isCmp_ok h q5
        · cases e
          exact ⟨_, rfl⟩
        · cases e
theorem gt_chain {op op' : CmpOp} {o1 o2 : Pr} (ho : OpR X (compareOp op) (rP2 X.K o1)) (ho' : OpR X (compareOp op') (rP2 X.K o2)) (ha : GE X ca W G Fn a' a) (hb : GE X ca W G Fn b' b) (hc : GE X ca W G Fn c' c) (hi : isCmp o2 = true := by rfl) (hm : lastMarks [op, op'] [b, c] = false := by with_unfolding_all rfl) :
    GT X ca W G Fn (.chain o1 o2 a' b' c') (.Compare a [op, op'] [b, c] pos) := by
  refine PT.weaken (pt_chain ho ho' ha hb hc hm) fun σ H Q ⟨F, ι, S, ρ, own, st, en, h⟩ => ?_
  exact chain_read (test_post (fun d S' e => chain_bool hi e) h) st en
theorem gw_pt (h : GW X ca W G Fn a' a) : GT X ca W G Fn a' a := h.pt
theorem gw_and1 (ha : GT X ca W G Fn a' a) : GW X ca W G Fn a' (.BoolOp .And [a] pos) := pw_and1 ha
theorem gw_or1 (ha : GT X ca W G Fn a' a) : GW X ca W G Fn a' (.BoolOp .Or [a] pos) := pw_or1 ha
theorem tru_again {σ : L2.St} {F H : Hp} {ι : List Addr} {Q : Bool → Hp → Prop} {m : Out D} {k : D → Store → Out D} {l : Bool → Store → Out Bool} (hk : ∀ d S b, truth S d = some b → ((k d S).bind tru) = l b S) (hn : ∀ d S, truth S d = none → k d S = .bad)
    (h : PostG ca X.K W σ F H ι RBl Q ((m.bind k).bind tru)) : PostG ca X.K W σ F H ι RBl Q ((m.bind tru).bind l) := by
  cases m with
  | bad => exact h
  | exc e S1 => exact h
  | ok d S1 =>
    have h : PostG ca X.K W σ F H ι RBl Q ((k d S1).bind tru) := h
    show PostG ca X.K W σ F H ι RBl Q ((Out.of (truth S1 d) S1).bind l)
    cases e : truth S1 d with
    | none => rw [hn d S1 e] at h; exact h.elim
    | some b => rw [hk d S1 b e] at h; exact h
theorem gw_and {rest : List Expr} (ha : GT X ca W G Fn a' a) (hb : GW X ca W G Fn b' (.BoolOp .And (b :: rest) pos)) : GW X ca W G Fn (.and a' b') (.BoolOp .And (a :: b :: rest) pos) := by
  refine PW.weaken (pw_and ha hb) fun σ H Q ⟨F, ι, S, ρ, own, st, en, h⟩ => ?_
  have h : PostG ca X.K W σ F H ι RBl Q ((evE G Fn (.and a' b') ρ S).bind tru) := h
  rw [evE_and] at h
  have h := tru_again (l := fun k S1 => if k = true then (evE G Fn b' ρ S1).bind tru else .ok false S1) (fun d S b e => by
    rw [kAnd_eq, tru_eq, e]
    cases b with
    | true => rfl
    | false =>
      show tru d S = _
      rw [tru_eq, e]
      rfl) (fun d S e => by rw [kAnd_eq, tru_eq, e]; rfl) h
  refine tG_ex st en (h.bind_ fun k S1 v F1 H1 ι1 s1 st1 r1 h1 => ?_)
  have r1 : v = k := r1
  subst r1
  cases v with
  | true => exact tG_ex st1 (en.mono s1) h1
  | false => exact h1 _ F1 H1 ι1 Stp.refl st1 rfl
theorem gw_or {rest : List Expr} (ha : GT X ca W G Fn a' a) (hb : GW X ca W G Fn b' (.BoolOp .Or (b :: rest) pos)) : GW X ca W G Fn (.or a' b') (.BoolOp .Or (a :: b :: rest) pos) := by
  refine PW.weaken (pw_or ha hb) fun σ H Q ⟨F, ι, S, ρ, own, st, en, h⟩ => ?_
  have h : PostG ca X.K W σ F H ι RBl Q ((evE G Fn (.or a' b') ρ S).bind tru) := h
  rw [evE_or] at h
  have h := tru_again (l := fun k S1 => if k = true then .ok true S1 else (evE G Fn b' ρ S1).bind tru) (fun d S b e => by
    rw [kOr_eq, tru_eq, e]
    cases b with
    | false => rfl
    | true =>
      show tru d S = _
      rw [tru_eq, e]
      rfl) (fun d S e => by rw [kOr_eq, tru_eq, e]; rfl) h
  refine tG_ex st en (h.bind_ fun k S1 v F1 H1 ι1 s1 st1 r1 h1 => ?_)
  have r1 : v = k := r1
  subst r1
  cases v with
  | false => exact tG_ex st1 (en.mono s1) h1
  | true => exact h1 _ F1 H1 ι1 Stp.refl st1 rfl
theorem gt_not (ha : GT X ca W G Fn a' a) : GT X ca W G Fn (.not a') (.UnaryOp .Not a pos) := by
  refine PT.weaken (pt_not ha) fun σ H Q ⟨F, ι, S, ρ, own, st, en, h⟩ => ?_
  have h : PostG ca X.K W σ F H ι RBl Q ((evE G Fn (.not a') ρ S).bind tru) := h
  rw [evE_not] at h
  have h := tru_again (l := fun k S1 => .ok (!k) S1) (fun d S b e => by rw [kNot_eq, tru_eq, e]; rfl) (fun d S e => by rw [kNot_eq, tru_eq, e]; rfl) h
  refine tG_ex st en (h.bind_ fun k S1 v F1 H1 ι1 s1 st1 r1 h1 => ?_)
  have r1 : v = k := r1
  subst r1
  exact h1 _ F1 H1 ι1 Stp.refl st1 rfl

/-! ### displays -/
theorem fits_V {K : PySem.W.Frag} {F : Hp} {ι : List Addr} {ds : List D} {vs : List V} (h : fitsL ds.length = true) (r : Reps K F ι ds vs) : vs.length ≤ sizeLine := by rw [r.len]; exact fits_le h
theorem g_tup {k : Nat} (hl : GV X ca W G Fn es' es) : GE X ca W G Fn (.ef .mkt es') (.Tuple es k pos) := by
  refine PE.weaken (pe_tup hl) fun σ H Q ⟨F, ι, S, ρ, own, st, en, h⟩ => ?_
  rw [evE_ef] at h
  refine tG_ex st en (h.bind_ fun ds S1 vs F1 H1 ι1 s1 st1 r1 h1 => ?_)
  rw [kEf_eq, mutl_mkt] at h1
  obtain ⟨d, e, h1⟩ := PostG.of h1
  rw [p_mkt_0] at e
  split at e
  · rename_i hz
    refine ⟨fits_V hz r1, fun p hp => ?_⟩
    split at e
    · rename_i xs e2
      cases e
      exact fin_tup st1 (fun v F' H' s2 st2 r2 => h1 v F' H' ι1 s2 st2 r2) (reps_pures e2 r1) hp
    · cases e
      exact fin_mix st1 (fun v F' H' s2 st2 r2 => h1 v F' H' ι1 s2 st2 r2) r1 hp
  · cases e
theorem g_lst (hl : GV X ca W G Fn es' es) : GE X ca W G Fn (.ef .mkl es') (.List es pos) := by
  refine PE.weaken (pe_lst hl) fun σ H Q ⟨F, ι, S, ρ, own, st, en, h⟩ => ?_
  rw [evE_ef] at h
  refine tG_ex st en (h.bind_ fun ds S1 vs F1 H1 ι1 s1 st1 r1 h1 => ?_)
  rw [kEf_eq, mutl_mkl] at h1
  obtain ⟨d, e, h1⟩ := PostG.of h1
  rw [p_mkl_0] at e
  split at e
  · rename_i hz
    refine ⟨fits_V hz r1, fun p hp => ?_⟩
    obtain ⟨xs, e2, rfl⟩ := map_some e
    exact fin_lst st1 (fun v F' H' s2 st2 r2 => h1 v F' H' ι1 s2 st2 r2) (reps_pures e2 r1) hp
  · cases e
end
end EC

namespace EC
open PySem PySem.Spec PyProof.Rows L2
variable [CA]
section
variable {X : Cx} {ca : Nat → Addr} {W : WX} {G : Nat → D} {Fn : Nat → List D → Store → Out D} {a b c e : Expr} {a' b' c' e' : E} {es : List Expr} {es' : List E} {pos p : Pos}

/-! ### built-in functions -/
theorem o_len : CallR X (.builtin "len") (rP X.K .len) := by
  intro pins s σ H xs us Q I r h
  obtain ⟨F, ι, S, ds, d, st, ra, hp, q⟩ := h
  rw [prim_len] at hp
  unfold p_len at hp
  split at hp
  · rename_i x
    split at hp
    · rename_i hz
      obtain ⟨v, w, rfl, r1, r2⟩ := repAs_cons ra
      obtain rfl := repAs_nil r2
      rw [repA_str r1] at r
      exact call_len_str pins s σ H _ us Q I r ⟨x, rfl, fits_le hz, i2 st q hp⟩
    · cases hp
  · rename_i x
    obtain ⟨v, w, rfl, r1, r2⟩ := repAs_cons ra
    obtain rfl := repAs_nil r2
    obtain ⟨p, vs, rfl, h1, h2⟩ := repA_list st r1
    refine call_len_seq pins s σ H _ us Q I r ⟨p, vs, rfl, .inl h1, ?_⟩
    rw [h2.len]
    exact i2 st q hp
  · rename_i x
    obtain ⟨v, w, rfl, r1, r2⟩ := repAs_cons ra
    obtain rfl := repAs_nil r2
    obtain ⟨p, vs, rfl, h1, _, h2⟩ := repA_tuple st r1
    refine call_len_seq pins s σ H _ us Q I r ⟨p, vs, rfl, .inr h1, ?_⟩
    rw [h2.len]
    exact i2 st q hp
  · rename_i i
    obtain ⟨v, w, rfl, r1, r2⟩ := repAs_cons ra
    obtain rfl := repAs_nil r2
    split at hp
    · rename_i es he
      obtain ⟨p, vs, rfl, _, h1, h2⟩ := repA_ref st r1 he
      refine call_len_seq pins s σ H _ us Q I r ⟨p, vs, rfl, .inl (SqL.of h1), ?_⟩
      rw [h2.len]
      exact i2 st q hp
    · cases hp
  · cases hp
theorem o_int : CallR X (.type "int") (rP X.K .int) := by
  intro pins s σ H xs us Q I r h
  obtain ⟨F, ι, S, ds, d, st, ra, hp, q⟩ := h
  rw [prim_int] at hp
  unfold p_int at hp
  split at hp
  · obtain ⟨v, w, rfl, r1, r2⟩ := repAs_cons ra
    obtain rfl := repAs_nil r2
    rw [repA_int r1] at r
    exact call_int1 pins s σ H _ us Q I r (.inl ⟨_, rfl, i2 st q hp⟩)
  · obtain ⟨v, w, rfl, r1, r2⟩ := repAs_cons ra
    obtain rfl := repAs_nil r2
    rw [repA_bool r1] at r
    exact call_int1 pins s σ H _ us Q I r (.inr ⟨_, rfl, i2 st q hp⟩)
  · cases hp
theorem o_str : CallR X (.type "str") (rP X.K .str) := by
  intro pins s σ H xs us Q I r h
  obtain ⟨F, ι, S, ds, d, st, ra, hp, q⟩ := h
  rw [prim_str] at hp
  unfold p_str at hp
  split at hp
  · split at hp
    · rename_i hz
      obtain ⟨v, w, rfl, r1, r2⟩ := repAs_cons ra
      obtain rfl := repAs_nil r2
      rw [repA_int r1] at r
      exact call_str_int pins s σ H _ us Q I r ⟨_, rfl, of_decide_eq_true hz, s2 st q hp⟩
    · cases hp
  · cases hp
theorem o_tuple : CallR X (.type "tuple") (rP X.K .tuple) := by
  intro pins s σ H xs us Q I r h
  obtain ⟨F, ι, S, ds, d, st, ra, hp, q⟩ := h
  rw [prim_tuple] at hp
  unfold p_tuple at hp
  split at hp
  · obtain ⟨v, w, rfl, r1, r2⟩ := repAs_cons ra
    obtain rfl := repAs_nil r2
    obtain ⟨p, vs, rfl, h1, h2⟩ := repA_list st r1
    cases hp
    exact call_tuple_of pins s σ H _ us Q I r ⟨p, vs, rfl, .inl ⟨h1, fun l hl => fin_tup st q h2 hl⟩⟩
  · obtain ⟨v, w, rfl, r1, r2⟩ := repAs_cons ra
    obtain rfl := repAs_nil r2
    obtain ⟨p, vs, rfl, h1, g1, h2⟩ := repA_tuple st r1
    cases hp
    exact call_tuple_of pins s σ H _ us Q I r ⟨p, vs, rfl, .inr ⟨h1, fin_flat st q (rep_p.mpr (.tup g1 h2))⟩⟩
  · cases hp
theorem o_list : CallR X (.type "list") (rP X.K .list) := by
  intro pins s σ H xs us Q I r h
  obtain ⟨F, ι, S, ds, d, st, ra, hp, q⟩ := h
  rw [prim_list] at hp
  unfold p_list at hp
  split at hp
  · obtain ⟨v, w, rfl, r1, r2⟩ := repAs_cons ra
    obtain rfl := repAs_nil r2
    obtain ⟨p, vs, rfl, h1, h2⟩ := repA_list st r1
    cases hp
    exact call_list_of pins s σ H _ us Q I r ⟨p, vs, rfl, .inl h1, fun l hl => fin_lst st q h2 hl⟩
  · obtain ⟨v, w, rfl, r1, r2⟩ := repAs_cons ra
    obtain rfl := repAs_nil r2
    obtain ⟨p, vs, rfl, h1, g1, h2⟩ := repA_tuple st r1
    cases hp
    exact call_list_of pins s σ H _ us Q I r ⟨p, vs, rfl, .inr h1, fun l hl => fin_lst st q h2 hl⟩
  · cases hp
theorem bools_V {K : PySem.W.Frag} {F : Hp} : ∀ {xs : List PyData} {bs : List Bool} {vs : List V}, boolsOf xs = some bs → DqAll K F vs xs → vs = bs.map V.bl
  | [], _, _, e, h => by cases e; cases h; rfl
  | .bool x :: xs, bs, _, e, h => by
    unfold boolsOf at e
    obtain ⟨cs, e1, rfl⟩ := map_some e
    cases h with
    | cons h1 h2 =>
      cases h1
      rw [bools_V e1 h2]
      rfl
  | .none :: _, _, _, e, _ => by cases e
  | .int _ :: _, _, _, e, _ => by cases e
  | .str _ :: _, _, _, e, _ => by cases e
  | .list _ :: _, _, _, e, _ => by cases e
  | .tuple _ :: _, _, _, e, _ => by cases e
  | .dict _ :: _, _, _, e, _ => by cases e
theorem ints_V {K : PySem.W.Frag} {F : Hp} : ∀ {xs : List PyData} {bs : List Int} {vs : List V}, intsOf xs = some bs → DqAll K F vs xs → vs = bs.map V.int
  | [], _, _, e, h => by cases e; cases h; rfl
  | .int x :: xs, bs, _, e, h => by
    unfold intsOf at e
    obtain ⟨cs, e1, rfl⟩ := map_some e
    cases h with
    | cons h1 h2 =>
      cases h1
      rw [ints_V e1 h2]
      rfl
  | .none :: _, _, _, e, _ => by cases e
  | .bool _ :: _, _, _, e, _ => by cases e
  | .str _ :: _, _, _, e, _ => by cases e
  | .list _ :: _, _, _, e, _ => by cases e
  | .tuple _ :: _, _, _, e, _ => by cases e
  | .dict _ :: _, _, _, e, _ => by cases e
theorem strs_V {K : PySem.W.Frag} {F : Hp} : ∀ {xs : List PyData} {bs : List Str} {vs : List V}, strsOf xs = some bs → DqAll K F vs xs → vs = bs.map V.str
  | [], _, _, e, h => by cases e; cases h; rfl
  | .str x :: xs, bs, _, e, h => by
    unfold strsOf at e
    obtain ⟨cs, e1, rfl⟩ := map_some e
    cases h with
    | cons h1 h2 =>
      cases h1
      rw [strs_V e1 h2]
      rfl
  | .none :: _, _, _, e, _ => by cases e
  | .bool _ :: _, _, _, e, _ => by cases e
  | .int _ :: _, _, _, e, _ => by cases e
  | .list _ :: _, _, _, e, _ => by cases e
  | .tuple _ :: _, _, _, e, _ => by cases e
  | .dict _ :: _, _, _, e, _ => by cases e
theorem o_all (hc : X.calm = true) : CallR X (.builtin "all") (rP X.K .all) := by
  intro pins s σ H xs us Q I r h
  obtain ⟨F, ι, S, ds, d, st, ra, hp, q⟩ := h
  rw [prim_all] at hp
  unfold p_all at hp
  split at hp
  · obtain ⟨v, w, rfl, r1, r2⟩ := repAs_cons ra
    obtain rfl := repAs_nil r2
    obtain ⟨p, vs, rfl, h1, h2⟩ := repA_list st r1
    obtain ⟨bs, e1, rfl⟩ := map_some hp
    rw [bools_V e1 h2] at h1
    exact cr_all hc pins s σ H _ us Q I r ⟨p, bs, rfl, h1, b2 st q rfl⟩
  · cases hp
theorem o_any (hc : X.calm = true) : CallR X (.builtin "any") (rP X.K .any) := by
  intro pins s σ H xs us Q I r h
  obtain ⟨F, ι, S, ds, d, st, ra, hp, q⟩ := h
  rw [prim_any] at hp
  unfold p_any at hp
  split at hp
  · obtain ⟨v, w, rfl, r1, r2⟩ := repAs_cons ra
    obtain rfl := repAs_nil r2
    obtain ⟨p, vs, rfl, h1, h2⟩ := repA_list st r1
    obtain ⟨bs, e1, rfl⟩ := map_some hp
    rw [bools_V e1 h2] at h1
    exact cr_any hc pins s σ H _ us Q I r ⟨p, bs, rfl, h1, b2 st q rfl⟩
  · cases hp
theorem o_sum (hc : X.calm = true) : CallR X (.builtin "sum") (rP X.K .sum) := by
  intro pins s σ H xs us Q I r h
  obtain ⟨F, ι, S, ds, d, st, ra, hp, q⟩ := h
  rw [prim_sum] at hp
  unfold p_sum at hp
  split at hp
  · obtain ⟨v, w, rfl, r1, r2⟩ := repAs_cons ra
    obtain rfl := repAs_nil r2
    obtain ⟨p, vs, rfl, h1, h2⟩ := repA_list st r1
    obtain ⟨bs, e1, rfl⟩ := map_some hp
    rw [ints_V e1 h2] at h1
    exact cr_sum hc pins s σ H _ us Q I r ⟨p, bs, rfl, h1, i2 st q rfl⟩
  · cases hp
theorem o_min (hc : X.calm = true) : CallR X (.builtin "min") (rP X.K .min) := by
  intro pins s σ H xs us Q I r h
  obtain ⟨F, ι, S, ds, d, st, ra, hp, q⟩ := h
  rw [prim_min] at hp
  unfold p_min at hp
  split at hp
  · obtain ⟨v, w, rfl, r1, r2⟩ := repAs_cons ra
    obtain ⟨v2, w2, rfl, r3, r4⟩ := repAs_cons r2
    obtain rfl := repAs_nil r4
    rw [repA_int r1, repA_int r3] at r
    exact call_min2 hc pins s σ H _ us Q I r ⟨_, _, rfl, i2 st q hp⟩
  · obtain ⟨v, w, rfl, r1, r2⟩ := repAs_cons ra
    obtain ⟨v2, w2, rfl, r3, r4⟩ := repAs_cons r2
    obtain ⟨v3, w3, rfl, r5, r6⟩ := repAs_cons r4
    obtain rfl := repAs_nil r6
    rename_i i j k
    rw [repA_int r1, repA_int r3, repA_int r5] at r
    refine call_min3Nu hc pins s σ H _ us Q I r ⟨_, _, _, .int (min2I (min2I i j) k), rfl, ?_, i2 st q hp⟩
    have e1 : nuMin2 (.int i) (.int j) = some (.int (min2I i j)) := by
      by_cases c : j < i
      · simp [nuMin2, nuLt, nuCB, min2I, c]
      · simp [nuMin2, nuLt, nuCB, min2I, c]
    have e2 : ∀ m : Int, nuMin2 (.int m) (.int k) = some (.int (min2I m k)) := by
      intro m
      by_cases c : k < m
      · simp [nuMin2, nuLt, nuCB, min2I, c]
      · simp [nuMin2, nuLt, nuCB, min2I, c]
    show (nuMin2 (.int i) (.int j)).bind (fun m => nuMin2 m (.int k)) = _
    rw [e1]
    exact e2 _
  · cases hp
theorem o_max (hc : X.calm = true) : CallR X (.builtin "max") (rP X.K .max) := by
  intro pins s σ H xs us Q I r h
  obtain ⟨F, ι, S, ds, d, st, ra, hp, q⟩ := h
  rw [prim_max] at hp
  unfold p_max at hp
  split at hp
  · obtain ⟨v, w, rfl, r1, r2⟩ := repAs_cons ra
    obtain ⟨v2, w2, rfl, r3, r4⟩ := repAs_cons r2
    obtain rfl := repAs_nil r4
    rw [repA_int r1, repA_int r3] at r
    exact call_max2 hc pins s σ H _ us Q I r ⟨_, _, rfl, i2 st q hp⟩
  · cases hp
theorem o_abs : CallR X (.builtin "abs") (rP X.K .abs) := by
  intro pins s σ H xs us Q I r h
  obtain ⟨F, ι, S, ds, d, st, ra, hp, q⟩ := h
  rw [prim_abs] at hp
  unfold p_abs at hp
  split at hp
  · obtain ⟨v, w, rfl, r1, r2⟩ := repAs_cons ra
    obtain rfl := repAs_nil r2
    rw [repA_int r1] at r
    exact call_abs pins s σ H _ us Q I r ⟨_, rfl, i2 st q hp⟩
  · cases hp
/-- f(..), f a built-in function or type -/
theorem gl_pr {o : Pr} {id : String} {f : Str} (hc : CallR X (.builtin id) (rP X.K o)) (hg : Gl X f) (hm : X.mg f = none) (hv : bootBuiltins f = some (.builtin id)) (ha : GL X ca W G Fn es' (e :: es)) (hn : f ≠ "__name__" := by decide) (hdb : (f == ("__debug__" : Str)) = false := by decide)
    (he : starEach (e :: es) X.env = (false, eval e X.env) :: starEach es X.env := by rfl) (hpl : (backTo pos (starEach es X.env)).any (·.1) = false := by rfl) : GE X ca W G Fn (.pr o es') (.Call (.Name f p) (e :: es) [] pos) := by
  refine PE.weaken (pe_callB hc hg hm hv ha hn hdb he hpl) fun σ H Q ⟨F, ι, S, ρ, own, st, en, h⟩ => ?_
  rw [evE_pr] at h
  exact tG_ex st en (h.bind_ fun ds S1 vs F1 H1 ι1 s1 st1 r1 h1 => pr_end h1 st1 r1)
theorem gl_ty {o : Pr} {id : String} {f : Str} (hc : CallR X (.type id) (rP X.K o)) (hg : Gl X f) (hm : X.mg f = none) (hv : bootBuiltins f = some (.type id)) (ha : GL X ca W G Fn es' (e :: es)) (hn : f ≠ "__name__" := by decide) (hdb : (f == ("__debug__" : Str)) = false := by decide)
    (he : starEach (e :: es) X.env = (false, eval e X.env) :: starEach es X.env := by rfl) (hpl : (backTo pos (starEach es X.env)).any (·.1) = false := by rfl) : GE X ca W G Fn (.pr o es') (.Call (.Name f p) (e :: es) [] pos) := by
  refine PE.weaken (pe_callTy hc hg hm hv ha hn hdb he hpl) fun σ H Q ⟨F, ι, S, ρ, own, st, en, h⟩ => ?_
  rw [evE_pr] at h
  exact tG_ex st en (h.bind_ fun ds S1 vs F1 H1 ι1 s1 st1 r1 h1 => pr_end h1 st1 r1)
/-- sep.join(list) -/
theorem g_join {z : Str} {j : Nat} {apos cpos : Pos} (he' : GA X ca W G Fn e' e) (hs : starEach [e] X.env = [(false, eval e X.env)] := by rfl) (hbase : attributeBase (.Constant (.str z) j cpos) "join" X.env (eval (.Constant (.str z) j cpos) X.env) = eval (.Constant (.str z) j cpos) X.env := by rfl) (hline : (apos.endLine == pos.line) = true := by rfl) :
    GE X ca W G Fn (.pr .join [.c (.str z), e']) (.Call (.Attribute (.Constant (.str z) j cpos) "join" apos) [e] [] pos) := by
  refine PE.weaken (pe_join pe_str he' hs hbase hline) fun σ H Q ⟨F, ι, S, ρ, own, st, en, h⟩ => ?_
  have e1 : evA1 G Fn (.c (.str z)) ρ S = .ok (.p (.str z)) S := evE_c (G := G) (Fn := Fn) ρ S _
  rw [evE_pr, evA_one, bind_assoc, e1] at h
  have h1 : PostG ca X.K W σ F H ι (RV X.K) Q (((evA G Fn [e'] ρ S).bind (kCons (.p (.str z)))).bind (kPr .join)) := h
  rw [evA_one, bind_assoc, bind_assoc] at h1
  refine ⟨⟨z, rfl⟩, tG_ex st en (h1.bind_ fun d2 S2 v2 F2 H2 ι2 s2 st2 r2 h2 => ?_)⟩
  have h2 : PostG ca X.K W σ F2 H2 ι2 (RV X.K) Q ((((evA G Fn [] ρ S2).bind (kCons d2)).bind (kCons (.p (.str z)))).bind (kPr .join)) := h2
  rw [evA] at h2
  obtain ⟨x, hx, q⟩ := PostG.of (R := RV X.K) (o := prim S2 .join [.p (.str z), d2]) h2
  rw [prim_join] at hx
  unfold p_join at hx
  split at hx
  · rename_i z xs q2
    cases q2
    obtain ⟨pp, vs, rfl, g1, g2⟩ := repA_list st2 r2
    split at hx
    · rename_i ys ey
      split at hx
      · rename_i hz
        cases hx
        rw [strs_V ey g2] at g1
        exact ⟨_, pp, ys, rfl, rfl, .inl g1, of_decide_eq_true hz, q _ _ _ _ Stp.refl st2 (rep_p.mpr (.str _))⟩
      · cases hx
    · cases hx
  · cases hx

/-! ### what cannot raise -/
mutual
def calmE : E → Bool
  | .v _ => true
  | .c _ => true
  | .g _ => true
  | .pr _ es => calmEs es
  | _ => false
def calmEs : List E → Bool
  | [] => true
  | e :: es => calmE e && calmEs es
end
theorem of_exc {α : Type} {o : Option α} {S S' : Store} {x : Exc} : (Out.of o S : Out α) ≠ .exc x S' := by cases o <;> exact fun h => nomatch h
mutual
theorem calm_E : ∀ (e : E), calmE e = true → ∀ ρ S x S', evE G Fn e ρ S ≠ .exc x S'
  | .v i, _, ρ, S, x, S' => by rw [evE_v]; exact of_exc
  | .c i, _, ρ, S, x, S' => by rw [evE_c]; exact fun h => nomatch h
  | .g i, _, ρ, S, x, S' => by rw [evE_g]; exact fun h => nomatch h
  | .pr o es, h, ρ, S, x, S' => by
    rw [evE_pr]
    have q := calm_Es es (by unfold calmE at h; exact h) ρ S
    cases e : evA G Fn es ρ S with
    | bad => exact fun h => nomatch h
    | exc y S1 => exact absurd e (q y S1)
    | ok ds S1 => exact of_exc
  | .ef _ _, h, _, _, _, _ => by unfold calmE at h; exact absurd h Bool.false_ne_true
  | .call _ _ _, h, _, _, _, _ => by unfold calmE at h; exact absurd h Bool.false_ne_true
  | .and _ _, h, _, _, _, _ => by unfold calmE at h; exact absurd h Bool.false_ne_true
  | .or _ _, h, _, _, _, _ => by unfold calmE at h; exact absurd h Bool.false_ne_true
  | .not _, h, _, _, _, _ => by unfold calmE at h; exact absurd h Bool.false_ne_true
  | .ite _ _ _, h, _, _, _, _ => by unfold calmE at h; exact absurd h Bool.false_ne_true
  | .chain _ _ _ _ _, h, _, _, _, _ => by unfold calmE at h; exact absurd h Bool.false_ne_true
  | .comp _ _ _ _ _, h, _, _, _, _ => by unfold calmE at h; exact absurd h Bool.false_ne_true
  | .keep _, h, _, _, _, _ => by unfold calmE at h; exact absurd h Bool.false_ne_true
  | .gget _ _, h, _, _, _, _ => by unfold calmE at h; exact absurd h Bool.false_ne_true
  | .disp _ _ _ _, h, _, _, _, _ => by unfold calmE at h; exact absurd h Bool.false_ne_true
theorem calm_Es : ∀ (es : List E), calmEs es = true → ∀ ρ S x S', evA G Fn es ρ S ≠ .exc x S'
  | [], _, ρ, S, x, S' => by rw [evA]; exact fun h => nomatch h
  | e :: es, h, ρ, S, x, S' => by
    unfold calmEs at h
    obtain ⟨h1, h2⟩ := Bool.and_eq_true_iff.mp h
    rw [evA_one]
    have n1 : ∀ y S1, evA1 G Fn e ρ S ≠ .exc y S1 := fun y S1 => by
      have q := calm_E e h1 ρ S y S1
      cases e <;> first | exact q | exact of_exc
    cases q1 : evA1 G Fn e ρ S with
    | bad => exact fun h => nomatch h
    | exc y S1 => exact absurd q1 (n1 y S1)
    | ok d S1 =>
      show (evA G Fn es ρ S1).bind (kCons d) ≠ _
      cases q2 : evA G Fn es ρ S1 with
      | bad => exact fun h => nomatch h
      | exc y S2 => exact absurd q2 (calm_Es es h2 ρ S1 y S2)
      | ok ds S2 => exact fun h => nomatch h
end
theorem calmA1 {e : E} (h1 : calmE e = true) (ρ S x S') : evA1 G Fn e ρ S ≠ .exc x S' := by
  have q := calm_E (G := G) (Fn := Fn) e h1 ρ S x S'
  cases e <;> first | exact q | exact of_exc

/-! ### a[lo:hi] -/
theorem slice_tf {ds : List D} {x : D} (h : p_slice true false ds = some x) : ∃ d l, ds = [d, .p (.int l)] ∧ cutD d (some l) none = some x := by
  unfold p_slice at h
  split at h
  all_goals first | contradiction | exact ⟨_, _, rfl, h⟩
theorem slice_ft {ds : List D} {x : D} (h : p_slice false true ds = some x) : ∃ d l, ds = [d, .p (.int l)] ∧ cutD d none (some l) = some x := by
  unfold p_slice at h
  split at h
  all_goals first | contradiction | exact ⟨_, _, rfl, h⟩
theorem slice_tt {ds : List D} {x : D} (h : p_slice true true ds = some x) : ∃ d l u, ds = [d, .p (.int l), .p (.int u)] ∧ cutD d (some l) (some u) = some x := by
  unfold p_slice at h
  split at h
  all_goals first | contradiction | exact ⟨_, _, _, rfl, h⟩
/-- the operands of a slice, walked -/
theorem cut_read1 {o : Pr} {S : Store} {F H : Hp} {ι : List Addr} {σ : L2.St} {ρ : EC.Env} {own : Nat → Option Addr} {Q : VK} {x : D} (h : PostG ca X.K W σ F H ι (RV X.K) Q (((evA G Fn [b'] ρ S).bind (kCons x)).bind (kPr o))) (st : Sto X.K F H ι S) (en : EnvR X.K F H ι own ρ σ)
    {R : V → Hp → Prop} (g : ∀ d S2 v F2 H2 ι2, Stp F H ι F2 H2 ι2 → Sto X.K F2 H2 ι2 S2 → RepA X.K F2 H2 ι2 d v → PostG ca X.K W σ F2 H2 ι2 (RV X.K) Q (kPr o [x, d] S2) → R v H2) : tG ca X.K W (RA X.K) (evA1 G Fn b') σ H R := by
  rw [evA_one, bind_assoc, bind_assoc] at h
  refine tG_ex st en (h.bind_ fun d2 S2 v2 F2 H2 ι2 s2 st2 r2 h2 => ?_)
  have h2 : PostG ca X.K W σ F2 H2 ι2 (RV X.K) Q ((((evA G Fn [] ρ S2).bind (kCons d2)).bind (kCons x)).bind (kPr o)) := h2
  rw [evA] at h2
  exact g d2 S2 v2 F2 H2 ι2 s2 st2 r2 h2
theorem g_cut00 {p2 : Pos} (ha : GA X ca W G Fn a' a) : GE X ca W G Fn (.pr (.slice false false) [a']) (.Subscript a (.Slice none none none p2) pos) := by
  refine PE.weaken (pe_slice x_cut ha po_none po_none) fun σ H Q ⟨F, ι, S, ρ, own, st, en, h⟩ => ?_
  rw [evE_pr, evA_one, bind_assoc] at h
  refine tG_ex st en (h.bind_ fun d S1 v F1 H1 ι1 s1 st1 r1 h1 => ?_)
  have h1 : PostG ca X.K W σ F1 H1 ι1 (RV X.K) Q (((evA G Fn [] ρ S1).bind (kCons d)).bind (kPr (.slice false false))) := h1
  rw [evA] at h1
  obtain ⟨x, hx, q⟩ := PostG.of (R := RV X.K) (o := prim S1 (.slice false false) [d]) h1
  exact ⟨F1, ι1, S1, d, x, st1, r1, hx, fun v F' H' s' st' r' => q v F' H' ι1 s' st' r'⟩
theorem g_cut10 {p2 : Pos} (ha : GA X ca W G Fn a' a) (hb : GA X ca W G Fn b' b) : GE X ca W G Fn (.pr (.slice true false) [a', b']) (.Subscript a (.Slice (some b) none none p2) pos) := by
  refine PE.weaken (pe_slice x_cut ha (po_some hb) po_none) fun σ H Q ⟨F, ι, S, ρ, own, st, en, h⟩ => ?_
  rw [evE_pr, evA_one, bind_assoc] at h
  refine tG_ex st en (h.bind_ fun d S1 v F1 H1 ι1 s1 st1 r1 h1 => ?_)
  refine cut_read1 h1 st1 (en.mono s1) fun d2 S2 v2 F2 H2 ι2 s2 st2 r2 h2 => ?_
  obtain ⟨x, hx, q⟩ := PostG.of (R := RV X.K) (o := prim S2 (.slice true false) [d, d2]) h2
  obtain ⟨_, l, e1, hx⟩ := slice_tf hx
  cases e1
  exact ⟨_, repA_int r2, F2, ι2, S2, d, x, st2, r1.mono s2, hx, fun v F' H' s' st' r' => q v F' H' ι2 s' st' r'⟩
theorem g_cut01 {p2 : Pos} (ha : GA X ca W G Fn a' a) (hb : GA X ca W G Fn b' b) : GE X ca W G Fn (.pr (.slice false true) [a', b']) (.Subscript a (.Slice none (some b) none p2) pos) := by
  refine PE.weaken (pe_slice x_cut ha po_none (po_some hb)) fun σ H Q ⟨F, ι, S, ρ, own, st, en, h⟩ => ?_
  rw [evE_pr, evA_one, bind_assoc] at h
  refine tG_ex st en (h.bind_ fun d S1 v F1 H1 ι1 s1 st1 r1 h1 => ?_)
  refine cut_read1 h1 st1 (en.mono s1) fun d2 S2 v2 F2 H2 ι2 s2 st2 r2 h2 => ?_
  obtain ⟨x, hx, q⟩ := PostG.of (R := RV X.K) (o := prim S2 (.slice false true) [d, d2]) h2
  obtain ⟨_, l, e1, hx⟩ := slice_ft hx
  cases e1
  exact ⟨_, repA_int r2, F2, ι2, S2, d, x, st2, r1.mono s2, hx, fun v F' H' s' st' r' => q v F' H' ι2 s' st' r'⟩
theorem g_cut11 {p2 : Pos} (ha : GA X ca W G Fn a' a) (hb : GA X ca W G Fn b' b) (hc : GA X ca W G Fn c' c) (hk : calmE c' = true := by rfl) : GE X ca W G Fn (.pr (.slice true true) [a', b', c']) (.Subscript a (.Slice (some b) (some c) none p2) pos) := by
  refine PE.weaken (pe_slice x_cut ha (po_some hb) (po_some hc)) fun σ H Q ⟨F, ι, S, ρ, own, st, en, h⟩ => ?_
  rw [evE_pr, evA_one, bind_assoc] at h
  refine tG_ex st en (h.bind_ fun d S1 v F1 H1 ι1 s1 st1 r1 h1 => ?_)
  have h1 : PostG ca X.K W σ F1 H1 ι1 (RV X.K) Q (((evA G Fn [b', c'] ρ S1).bind (kCons d)).bind (kPr (.slice true true))) := h1
  rw [evA_one, bind_assoc, bind_assoc] at h1
  refine tG_ex st1 (en.mono s1) (h1.bind_ fun d2 S2 v2 F2 H2 ι2 s2 st2 r2 h2 => ?_)
  have h2 : PostG ca X.K W σ F2 H2 ι2 (RV X.K) Q (((evA G Fn [c'] ρ S2).bind (kCons d2)).bind fun a S => (kCons d a S).bind (kPr (.slice true true))) := h2
  rw [evA_one, bind_assoc, bind_assoc] at h2
  have nx : ∀ x S3, evA1 G Fn c' ρ S2 ≠ .exc x S3 := fun x S3 => calmA1 hk _ _ _ _
  have last : ∀ {d3 S3} {F3 H3 : Hp} {ι3 : List Addr}, PostG ca X.K W σ F3 H3 ι3 (RV X.K) Q (((kA G Fn [] ρ d3 S3).bind (kCons d2)).bind fun a S => (kCons d a S).bind (kPr (.slice true true))) → PostG ca X.K W σ F3 H3 ι3 (RV X.K) Q (kPr (.slice true true) [d, d2, d3] S3) := fun {d3 S3 F3 H3 ι3} h3 => by
    have h3 : PostG ca X.K W σ F3 H3 ι3 (RV X.K) Q ((((evA G Fn [] ρ S3).bind (kCons d3)).bind (kCons d2)).bind fun a S => (kCons d a S).bind (kPr (.slice true true))) := h3
    rw [evA] at h3
    exact h3
  have int2 : ∃ l, d2 = .p (.int l) := by
    revert h2 nx
    cases evA1 G Fn c' ρ S2 with
    | bad => exact fun h _ => h.elim
    | exc x S3 => exact fun _ h => absurd rfl (h x S3)
    | ok d3 S3 =>
      intro h2 _
      obtain ⟨x, hx, q⟩ := PostG.of (R := RV X.K) (o := prim S3 (.slice true true) [d, d2, d3]) (last h2)
      obtain ⟨_, l, u, e1, hx⟩ := slice_tt hx
      cases e1
      exact ⟨l, rfl⟩
  obtain ⟨l, rfl⟩ := int2
  refine ⟨l, repA_int r2, tG_ex st2 ((en.mono s1).mono s2) (h2.bind_ fun d3 S3 v3 F3 H3 ι3 s3 st3 r3 h3 => ?_)⟩
  obtain ⟨x, hx, q⟩ := PostG.of (R := RV X.K) (o := prim S3 (.slice true true) [d, .p (.int l), d3]) (last h3)
  obtain ⟨_, _, u, e1, hx⟩ := slice_tt hx
  cases e1
  exact ⟨u, repA_int r3, F3, ι3, S3, d, x, st3, (r1.mono s2).mono s3, hx, fun v F' H' s' st' r' => q v F' H' ι3 s' st' r'⟩
end
end EC

namespace EC
open PySem PySem.Spec PyProof.Rows L2
variable [CA]
/-! ### the store, written -/
section
variable {K : PySem.W.Frag} {F H : Hp} {ι : List Addr} {S : Store}
theorem Stp.wr (s : Sto K F H ι S) {a : Addr} (ha : a ∈ ι) (o : HO) : Stp F H ι F (upd H a o) ι := by
  refine ⟨Same.refl F, ⟨[], by simp⟩, fun b u q hb => ?_, fun b h h' => absurd h h', fun _ h => .inl h, fun b h => ?_⟩
  · rw [upd_ne (fun e => hb (by rw [e]; exact ha))]
    exact q
  · by_cases e : b = a
    · rw [e, upd_same]; exact fun z => nomatch z
    · rw [upd_ne e]; exact h
theorem ix_mem {i : Nat} {a : Addr} (h : ι[i]? = some a) : a ∈ ι := List.mem_of_getElem? h
theorem Sto.wr (s : Sto K F H ι S) {k : Nat} {a : Addr} {ds : List D} {vs : List V} (ha : ι[k]? = some a) (r : Reps K F ι ds vs) : Sto K F (upd H a (.lst vs)) ι (S.set k (.lst ds)) := by
  have st := Stp.wr s (ix_mem ha) (.lst vs)
  have fa := s.off a (ix_mem ha)
  refine ⟨fun b u q => ?_, by rw [List.length_set]; exact s.len, s.nd, s.off, fun i o h => ?_⟩
  · rw [upd_ne (ne_of_none q fa)]
    exact s.sub _ _ q
  · by_cases e : k = i
    · subst e
      by_cases hk : k < S.length
      · rw [List.getElem?_set_self hk] at h
        cases h
        exact ⟨a, ha, vs, upd_same, r⟩
      · rw [List.getElem?_eq_none (by rw [List.length_set]; omega)] at h
        cases h
    · rw [List.getElem?_set_ne e] at h
      obtain ⟨b, h1, h2⟩ := s.obj i o h
      refine ⟨b, h1, RepO.mono st (fun ws q => ?_) h2⟩
      rw [upd_ne (fun z => e ?_)]
      · exact q
      · subst z
        have i1 := (List.getElem?_eq_some_iff.mp ha)
        have i2 := (List.getElem?_eq_some_iff.mp h1)
        obtain ⟨l1, g1⟩ := i1
        obtain ⟨l2, g2⟩ := i2
        exact (List.getElem_inj s.nd).mp (g1.trans g2.symm)
theorem Stp.nw (s : Sto K F H ι S) {p : Addr} (hp : H p = none) (o : HO) : Stp F H ι F (upd H p o) (ι ++ [p]) := by
  refine ⟨Same.refl F, ⟨[p], rfl⟩, fun b u q _ => ?_, fun b h h' => absurd h h', fun b h => ?_, fun b h => ?_⟩
  · rw [upd_ne (ne_of_none q hp)]
    exact q
  · rcases List.mem_append.mp h with h | h
    · exact .inl h
    · rw [List.mem_singleton.mp h]
      exact .inr hp
  · by_cases e : b = p
    · rw [e, upd_same]; exact fun z => nomatch z
    · rw [upd_ne e]; exact h
theorem Sto.nw (s : Sto K F H ι S) {p : Addr} (hp : H p = none) {ds : List D} {vs : List V} (r : Reps K F ι ds vs) : Sto K F (upd H p (.lst vs)) (ι ++ [p]) (S ++ [.lst ds]) := by
  have st := Stp.nw s hp (.lst vs)
  have pn : p ∉ ι := fun h => s.there h hp
  refine ⟨fun b u q => ?_, by rw [List.length_append, List.length_append, s.len]; rfl, ?_, fun a h => ?_, fun i o h => ?_⟩
  · rw [upd_ne (ne_of_none q (Same.free s.sub hp))]
    exact s.sub _ _ q
  · refine List.nodup_append.mpr ⟨s.nd, List.nodup_cons.mpr ⟨by simp, List.nodup_nil⟩, fun a h b hb e => ?_⟩
    rw [List.mem_singleton.mp hb] at e
    exact pn (e ▸ h)
  · rcases List.mem_append.mp h with h | h
    · exact s.off a h
    · rw [List.mem_singleton.mp h]
      exact Same.free s.sub hp
  · by_cases e : i < S.length
    · rw [List.getElem?_append_left e] at h
      obtain ⟨b, h1, h2⟩ := s.obj i o h
      refine ⟨b, st.ix h1, RepO.mono st (fun ws q => ?_) h2⟩
      rw [upd_ne (ne_of_none q hp)]
      exact q
    · rw [List.getElem?_append_right (by omega)] at h
      have ei : i - S.length = 0 := by
        by_cases z : i - S.length = 0
        · exact z
        · rw [List.getElem?_eq_none (by simp; omega)] at h
          cases h
      rw [ei] at h
      cases h
      refine ⟨p, ?_, vs, upd_same, Reps.mono st _ _ r⟩
      rw [List.getElem?_append_right (by rw [s.len]; omega), s.len, ei]
      rfl
end
section
variable {X : Cx} {ca : Nat → Addr} {W : WX} {G : Nat → D} {Fn : Nat → List D → Store → Out D} {a b c e : Expr} {a' b' c' e' : E} {es : List Expr} {es' : List E} {pos p : Pos}

/-! ### what changes a list -/
theorem two_ef {o : Ef} {S : Store} {F H : Hp} {ι : List Addr} {σ : L2.St} {ρ : EC.Env} {own : Nat → Option Addr} {Q : VK} {d : D} (h : PostG ca X.K W σ F H ι (RV X.K) Q (((evEs G Fn [e'] ρ S).bind (kCons d)).bind (kEf o))) (st : Sto X.K F H ι S) (en : EnvR X.K F H ι own ρ σ)
    {R : V → Hp → Prop} (g : ∀ d2 S2 v F2 H2 ι2, Stp F H ι F2 H2 ι2 → Sto X.K F2 H2 ι2 S2 → Rep X.K F2 ι2 d2 v → PostG ca X.K W σ F2 H2 ι2 (RV X.K) Q (mutl S2 o [d, d2]) → R v H2) : tG ca X.K W (RV X.K) (evE G Fn e') σ H R := by
  refine tG_ex st en ?_
  rw [evEs_cons, bind_assoc, bind_assoc] at h
  refine h.bind_ fun d2 S2 v F2 H2 ι2 s2 st2 r2 h2 => ?_
  have h2 : PostG ca X.K W σ F2 H2 ι2 (RV X.K) Q ((((evEs G Fn [] ρ S2).bind (kCons d2)).bind (kCons d)).bind (kEf o)) := h2
  rw [evEs_nil] at h2
  exact g d2 S2 v F2 H2 ι2 s2 st2 r2 h2
theorem one_ef {o : Ef} {S : Store} {F H : Hp} {ι : List Addr} {σ : L2.St} {ρ : EC.Env} {own : Nat → Option Addr} {Q : VK} (h : PostG ca X.K W σ F H ι (RV X.K) Q (evE G Fn (.ef o (e' :: es')) ρ S)) (st : Sto X.K F H ι S) (en : EnvR X.K F H ι own ρ σ)
    {R : V → Hp → Prop} (g : ∀ d S2 v F2 H2 ι2, Stp F H ι F2 H2 ι2 → Sto X.K F2 H2 ι2 S2 → Rep X.K F2 ι2 d v → PostG ca X.K W σ F2 H2 ι2 (RV X.K) Q (((evEs G Fn es' ρ S2).bind (kCons d)).bind (kEf o)) → R v H2) : tG ca X.K W (RV X.K) (evE G Fn e') σ H R := by
  refine tG_ex st en ?_
  rw [evE_ef, evEs_cons, bind_assoc] at h
  exact h.bind_ fun d S2 v F2 H2 ι2 s2 st2 r2 h2 => g d S2 v F2 H2 ι2 s2 st2 r2 h2
theorem g_popAt {o : Expr} {o' : E} {apos : Pos} (ho : GE X ca W G Fn o' o) {i : Int} {j : Nat} {ip : Pos} (hbase : attributeBase o "pop" X.env (eval o X.env) = eval o X.env := by rfl)
    (hfew : ((backTo pos (starEach [.Constant (.int i) j ip] X.env)).all (fun x => !x.1) && (backToKw pos (keywordEach [] X.env)).all (fun x => x.1.isSome)
      && decide (([Expr.Constant (.int i) j ip]).length + ([] : List Keyword).length + (if ([] : List Keyword).isEmpty then 0 else 1) < 30)) = true := by rfl)
    (hline : (apos.endLine == pos.line) = true := by rfl) (hs : starEach [.Constant (.int i) j ip] X.env = [(false, eval (.Constant (.int i) j ip) X.env)] := by rfl) :
    GE X ca W G Fn (.ef .popAt [o', .c (.int i)]) (.Call (.Attribute o "pop" apos) [.Constant (.int i) j ip] [] pos) := by
  refine PE.weaken (pe_bm PySem.F.plainAttrs_list PySem.F.slot_list_pop PySem.F.type_list_pop mt_popAt ho (pa_cons pe_int pa_nil hs) hbase hfew hline hs) fun σ H Q ⟨F, ι, S, ρ, own, st, en, h⟩ => ?_
  refine one_ef h st en fun d S1 v F1 H1 ι1 s1 st1 r1 h1 => ?_
  rw [evEs_cons, evE_c] at h1
  have h1 : PostG ca X.K W σ F1 H1 ι1 (RV X.K) Q ((((evEs G Fn [] ρ S1).bind (kCons (.p (.int i)))).bind (kCons d)).bind (kEf .popAt)) := h1
  rw [evEs_nil] at h1
  have h1 : PostG ca X.K W σ F1 H1 ι1 (RV X.K) Q (mutl S1 .popAt [d, .p (.int i)]) := h1
  unfold mutl at h1
  split at h1
  all_goals first | contradiction | skip
  · rename_i k i2 q1 q2
    cases q2
    split at h1
    · rename_i ds e1
      split at h1
      · rename_i hi
        have hi := of_decide_eq_true hi
        split at h1
        · rename_i x e2
          obtain ⟨pp, rfl, g1⟩ := rep_ref.mp r1
          obtain ⟨pp2, vs, g2, g3, g4⟩ := st1.lst e1
          rw [g1] at g2
          cases g2
          obtain ⟨w, g5, g6⟩ := Reps.get g4 e2
          have lv := g4.len
          refine ⟨Or.inl ⟨rfl, _, Or.inl (Or.inl g3)⟩, pp, vs, i, i.toNat, w, rfl, rfl, g3, by omega, by omega, ?_, g5, ?_⟩
          · unfold seqIndex?
            simp only
            rw [if_neg (by omega : ¬ i < 0), if_pos]
            rw [lv]
            simp [hi]
          · exact h1 w F1 _ ι1 (Stp.wr st1 (ix_mem g1) _) (st1.wr g1 (reps_erase _ g4)) g6
        · exact h1.elim
      · exact h1.elim
    · exact h1.elim
/-- a new list of the store -/
theorem g_newl (hl : GV X ca W G Fn es' es) : GE X ca W G Fn (.ef .newl es') (.List es pos) := by
  refine PE.weaken (pe_lst hl) fun σ H Q ⟨F, ι, S, ρ, own, st, en, h⟩ => ?_
  rw [evE_ef] at h
  refine tG_ex st en (h.bind_ fun ds S1 vs F1 H1 ι1 s1 st1 r1 h1 => ?_)
  rw [kEf_eq, mutl_newl] at h1
  split at h1
  · rename_i hz
    refine ⟨fits_V hz r1, fun p hp => ?_⟩
    refine h1 _ F1 _ (ι1 ++ [p]) (Stp.nw st1 hp _) (st1.nw hp r1) (rep_ref.mpr ⟨p, rfl, ?_⟩)
    rw [← st1.len, List.getElem?_append_right (Nat.le_refl _), Nat.sub_self]
    rfl
  · exact h1.elim

/-! ### isinstance -/
def tyN : PyData → String
  | .none => "NoneType"
  | .bool _ => "bool"
  | .int _ => "int"
  | .str _ => "str"
  | .list _ => "list"
  | .tuple _ => "tuple"
  | .dict _ => "dict"
def Ty.name : Ty → String
  | .int => "int"
  | .bool => "bool"
  | .str => "str"
  | .tuple => "tuple"
  | .list => "list"
  | .ne => "NoneType"
theorem sqL_ty {K : PySem.W.Frag} {H : Hp} {a : Addr} {vs : List V} (h : SqL K H a vs) : TyX K H (.ref a) (.type "list") := by
  rcases h with (h | ⟨o, h⟩) | ⟨o, its, n, h1, h2, _⟩
  · exact .base (.lst h)
  · exact .base (.frz h)
  · exact .kList h1 h2
theorem sqT_ty {K : PySem.W.Frag} {H : Hp} {a : Addr} {vs : List V} (h : SqT K H a vs) : TyX K H (.ref a) (.type "tuple") := by
  rcases h with (h | ⟨o, h⟩) | ⟨o, its, n, h1, h2, _⟩
  · exact .base (.tup h)
  · exact .fTuple h
  · exact .kTuple h1 h2
theorem ty_of {K : PySem.W.Frag} {F H : Hp} {ι : List Addr} {S : Store} {x : PyData} {v : V} (st : Sto K F H ι S) (r : RepA K F H ι (.p x) v) : TyX K H v (.type (tyN x)) := by
  cases x with
  | none => rw [repA_none r]; exact .base .non
  | bool b => rw [repA_bool r]; exact .base (.bl b)
  | int b => rw [repA_int r]; exact .base (.int b)
  | str b => rw [repA_str r]; exact .base (.str b)
  | list xs =>
    obtain ⟨a, vs, rfl, h1, _⟩ := repA_list st r
    exact sqL_ty h1
  | tuple xs =>
    obtain ⟨a, vs, rfl, h1, _⟩ := repA_tuple st r
    exact sqT_ty h1
  | dict xs =>
    have q := repA_p r (fun _ z => nomatch z)
    cases q
theorem kit_is {K : PySem.W.Frag} (t : Ty) (ht : t ≠ .ne) (x : PyData) (hx : ∀ y, x ≠ .dict y) : PySem.W.kitOne K (.type (tyN x)) (.type t.name) = some (isTy t x) := by
  cases t <;> cases x <;> first
    | exact absurd rfl ht
    | exact absurd rfl (hx _)
    | (refine kit_ty ?_; dsimp only [tyN, Ty.name, isTy]; decide +kernel)
theorem kit_any {K : PySem.W.Frag} (x : PyData) (hx : ∀ y, x ≠ .dict y) : ∀ (ts : List Ty), (∀ t ∈ ts, t ≠ .ne) → PySem.W.kitAny K (.type (tyN x)) (ts.map fun t => .type t.name) = some (ts.any fun t => isTy t x)
  | [], _ => rfl
  | t :: ts, h => by
    have h1 := kit_is (K := K) t (h t List.mem_cons_self) x hx
    have h2 := kit_any (K := K) x hx ts fun u hu => h u (List.mem_cons_of_mem _ hu)
    rw [List.map_cons, List.any_cons]
    refine kitAny_cons h1 (fun e => ?_) fun e => ?_
    · rw [e, Bool.false_or]; exact h2
    · rw [e, Bool.true_or]
theorem isi_end {ts : List Ty} {S : Store} {ds : List D} {v : V} {F H : Hp} {ι : List Addr} {σ : L2.St} {Q : VK} {d : D} (h : PostG ca X.K W σ F H ι (RV X.K) Q (kPr (.isi ts) [d] S)) (st : Sto X.K F H ι S) (r : RepA X.K F H ι d v) (hts : ∀ t ∈ ts, t ≠ .ne) :
    ∃ (t : Value) (b : Bool), TyX X.K H v t ∧ PySem.W.kitAny X.K t (ts.map fun t => .type t.name) = some b ∧ ∀ F' H', Stp F H ι F' H' ι → Sto X.K F' H' ι S → Q (.bl b) H' := by
  obtain ⟨x, hx, q⟩ := PostG.of h
  rw [prim_isi] at hx
  unfold p_isi at hx
  split at hx
  · rename_i y e
    cases e
    cases hx
    refine ⟨_, _, ty_of st r, kit_any y (fun z ez => ?_) ts hts, fun F' H' s1 st1 => q _ F' H' ι s1 st1 (rep_p.mpr (.bl _))⟩
    subst ez
    have q := repA_p r (fun _ z => nomatch z)
    cases q
  · rename_i i e
    cases e
    split at hx
    · rename_i ds he
      cases hx
      obtain ⟨a, vs, rfl, _, h1, _⟩ := repA_ref st r he
      have k := kit_any (K := X.K) (.list []) (fun z ez => nomatch ez) ts hts
      refine ⟨_, _, sqL_ty (SqL.of h1), k, fun F' H' s1 st1 => q _ F' H' ι s1 st1 (rep_p.mpr ?_)⟩
      have e : (ts.any fun t => isTy t (.list [])) = ts.contains .list := by
        clear k q hts h
        induction ts with
        | nil => rfl
        | cons t ts ih => rw [List.any_cons, List.contains_cons, ih]; congr 1; cases t <;> rfl
      rw [e]
      exact .bl _
    · cases hx
  · cases hx
/-- the name of a built-in type, as a value -/
theorem pe_tyname {x : Str} {n : String} (hg : Gl X x) (hm : X.mg x = none) (hv : bootBuiltins x = some (.type n)) (hn : x ≠ "__name__" := by decide) (hd : (x == ("__debug__" : Str)) = false := by decide) : PE X (.Name x pos) (tC (.ty n)) := pe_bltn hg hm hv rfl hn hd
theorem kit_one {K : PySem.W.Frag} {t c : Value} {b : Bool} (h : PySem.W.kitAny K t [c] = some b) : PySem.W.kitOne K t c = some b := by
  unfold PySem.W.kitAny at h
  cases e : PySem.W.kitOne K t c with
  | none => rw [e] at h; cases h
  | some k =>
    rw [e] at h
    cases k with
    | true => exact h
    | false => exact h
theorem g_isi1 {f : Str} {n : Str} {p1 p2 : Pos} {t : Ty} (ht : t ≠ .ne) (hg : Gl X f) (hm : X.mg f = none) (hv : bootBuiltins f = some (.builtin "isinstance")) (ha : GA X ca W G Fn a' a) (hb : PE X (.Name n p2) (tC (.ty t.name))) (hn : f ≠ "__name__" := by decide) (hdb : (f == ("__debug__" : Str)) = false := by decide)
    (he : starEach [a, .Name n p2] X.env = (false, eval a X.env) :: starEach [.Name n p2] X.env := by rfl) (he2 : starEach [.Name n p2] X.env = [(false, eval (.Name n p2) X.env)] := by rfl) (hpl : (backTo pos (starEach [.Name n p2] X.env)).any (·.1) = false := by rfl) :
    GE X ca W G Fn (.pr (.isi [t]) [a']) (.Call (.Name f p1) [a, .Name n p2] [] pos) := by
  refine PE.weaken (pe_callB call_isi hg hm hv (pa_cons ha (pa_cons hb pa_nil he2) he) hn hdb he hpl) fun σ H Q ⟨F, ι, S, ρ, own, st, en, h⟩ => ?_
  rw [evE_pr, evA_one, bind_assoc] at h
  refine tG_ex st en (h.bind_ fun d S1 v F1 H1 ι1 s1 st1 r1 h1 => ?_)
  have h1 : PostG ca X.K W σ F1 H1 ι1 (RV X.K) Q (((evA G Fn [] ρ S1).bind (kCons d)).bind (kPr (.isi [t]))) := h1
  rw [evA_nil] at h1
  obtain ⟨u, b, ty, k, q⟩ := isi_end (ds := []) (h := (h1 : PostG ca X.K W σ F1 H1 ι1 (RV X.K) Q (kPr (.isi [t]) [d] S1))) st1 r1 (by intro z hz; rw [List.mem_singleton.mp hz]; exact ht)
  exact ⟨v, .ty t.name, u, .type t.name, b, rfl, .ty _, ty, kit_one k, q F1 H1 Stp.refl st1⟩
theorem g_isi2 {f : Str} {n m : Str} {p1 p2 p3 p4 : Pos} {kk : Nat} {t t2 : Ty} (ht : t ≠ .ne) (ht2 : t2 ≠ .ne) (hg : Gl X f) (hm : X.mg f = none) (hv : bootBuiltins f = some (.builtin "isinstance")) (ha : GA X ca W G Fn a' a) (hb : PE X (.Name n p2) (tC (.ty t.name))) (hc : PE X (.Name m p3) (tC (.ty t2.name))) (hn : f ≠ "__name__" := by decide) (hdb : (f == ("__debug__" : Str)) = false := by decide)
    (he : starEach [a, .Tuple [.Name n p2, .Name m p3] kk p4] X.env = (false, eval a X.env) :: starEach [.Tuple [.Name n p2, .Name m p3] kk p4] X.env := by rfl) (he2 : starEach [.Tuple [.Name n p2, .Name m p3] kk p4] X.env = [(false, eval (.Tuple [.Name n p2, .Name m p3] kk p4) X.env)] := by rfl)
    (he3 : starEach [.Name n p2, .Name m p3] X.env = (false, eval (.Name n p2) X.env) :: starEach [.Name m p3] X.env := by rfl) (he4 : starEach [.Name m p3] X.env = [(false, eval (.Name m p3) X.env)] := by rfl)
    (hpl : (backTo pos (starEach [.Tuple [.Name n p2, .Name m p3] kk p4] X.env)).any (·.1) = false := by rfl) :
    GE X ca W G Fn (.pr (.isi [t, t2]) [a']) (.Call (.Name f p1) [a, .Tuple [.Name n p2, .Name m p3] kk p4] [] pos) := by
  refine PE.weaken (pe_callB call_isiT hg hm hv (pa_cons ha (pa_cons (pe_tup (pa_cons hb (pa_cons hc pa_nil he4) he3)) pa_nil he2) he) hn hdb he hpl) fun σ H Q ⟨F, ι, S, ρ, own, st, en, h⟩ => ?_
  rw [evE_pr, evA_one, bind_assoc] at h
  refine tG_ex st en (h.bind_ fun d S1 v F1 H1 ι1 s1 st1 r1 h1 => ?_)
  have h1 : PostG ca X.K W σ F1 H1 ι1 (RV X.K) Q (((evA G Fn [] ρ S1).bind (kCons d)).bind (kPr (.isi [t, t2]))) := h1
  rw [evA_nil] at h1
  refine ⟨(by show 2 ≤ sizeLine; rw [sizeLine_eq]; decide), fun pp hp => ?_⟩
  have s2 := Stp.laid st1 hp (.tup [.ty t.name, .ty t2.name])
  have st2 := st1.laid hp (.tup [.ty t.name, .ty t2.name])
  obtain ⟨u, b, ty, k, q⟩ := isi_end (ds := []) (h := (PostG.mono (h1 : PostG ca X.K W σ F1 H1 ι1 (RV X.K) Q (kPr (.isi [t, t2]) [d] S1)) s2)) st2 (r1.mono s2) (by
    intro z hz
    rcases List.mem_cons.mp hz with rfl | hz
    · exact ht
    · rw [List.mem_singleton.mp hz]; exact ht2)
  exact ⟨v, pp, [.ty t.name, .ty t2.name], u, [.type t.name, .type t2.name], b, rfl, upd_same, .cons (.ty _) (.cons (.ty _) .nil), ty, k, q _ _ Stp.refl st2⟩
end
end EC

namespace EC
open PySem PySem.Spec PyProof.Rows L2
variable [CA]
/-- a def keeps its promise where no repr is open -/
structure FnG (gb : Bool) (P : Program) (w : World) (K : PySem.W.Frag) (mg : Str → Option Value) (base : Heap) (CX : CXT) (k : Nat) (f : Addr) (fd : FuncData) (ps : List Str) (sp : Sp) : Prop where
  len : ∀ vs H Q E, sp vs H Q E → vs.length = ps.length
  run : ∀ (A : Around) (outer : List PySem.Env) (s : Shared) (H : Hp) (args : Args) (us : List Value) (vs : List V) (Q : VK) (E : XK), Room k A → (gb = true → A.guards = some []) → Env0 P w K mg base A outer s H → BindsTo s fd args (ps.zip us) → Vals vs us → sp vs H Q E →
    codeAny (model P w) A (.call (.ref f) args) (CR CX outer P w H s Q E) s
theorem guards_deeper {gb : Bool} {A : Around} {env : PySem.Env} (h : gb = true → A.guards = some []) : gb = true → (A.deeper env).guards = some [] := h
theorem fn_ofG {gb : Bool} {CX : CXT} {P : Program} {w : World} {K : PySem.W.Frag} {mg : Str → Option Value} {base : Heap} {k : Nat} {f : Addr} {name qual : Str} {params : Arguments} {body : List Stmt} {scope : Scope} {dV kV doc pm cdv ct oc : Value} {an od : Option Addr}
    {osl : Array (Option Value)} {N ps : List Str} {sp : Sp} (lk : K.lookup f = some ⟨oc, od, .func (PySem.W.fnOf name qual params body scope dV kV doc pm an cdv ct), osl⟩) (hcd : PySem.W.codeIn K cdv qual = true) (S : FnScope N ps scope)
    (len : ∀ vs H Q E, sp vs H Q E → vs.length = ps.length)
    (hbody : ∀ (A : Around) (outer : List PySem.Env) (s : Shared) (H : Hp) (vs : List V) (Q : VK) (E : XK), Room k (A.deeper (envOfC qual scope s.heap.objs.size f cdv)) → (gb = true → (A.deeper (envOfC qual scope s.heap.objs.size f cdv)).guards = some []) → sp vs H Q E →
      ∃ t, PSs (cxOf CX P w K mg base N qual scope f cdv A outer s H E) body t ∧ t { nx := fun _ H' => Q .non H', rt := Q } (start N vs) H) :
    FnG gb P w K mg base CX (k + 1) f (PySem.W.fnOf name qual params body scope dV kV doc pm an cdv ct) ps sp := by
  refine ⟨len, fun A outer s H args us vs Q E hr hgd e0 hb r hsp => ?_⟩
  have hl := len _ _ _ _ hsp
  have KX : K.In s.heap := e0.mod.kin.keeps fun b o e => (e0.bs b o e).1
  have lim : s.heap.NoLimit := e0.mod.nolimit.keeps fun b o e => (e0.bs b o e).1
  have hkind : ∀ y ∈ ps.zip us, scope.names.lookup y.1 = some .local ∨ (scope.names.lookup y.1 = some .cell ∧ ((cellsFrom (s.heap.objs.size + 1) scope.names []).lookup y.1).isSome = true) := fun ⟨n, v⟩ hy => by
    rcases S.par n (List.of_mem_zip hy).1 with q | q
    · exact .inl q
    · exact .inr ⟨q, PySem.W.cellsFrom_some _ _ _ (.inl q)⟩
  refine codeAny_call_function hr.depth (KX _ _ lk) rfl S.co S.gen rfl (PySem.W.codeRec_of KX hcd) (hb _ _ _ _ ?_)
  refine wpAny_newFunctionEnv_cells S.kind hkind fun env he s1 x => ?_
  subst he
  refine ⟨lim.keeps x.toInCall.keep, codeAny_func ?_⟩
  obtain ⟨t, ht, hq⟩ := hbody A outer s H vs Q E (hr.deeper _) (guards_deeper hgd) hsp
  have I : Inv (cxOf CX P w K mg base N qual scope f cdv A outer s H E) [] (start N vs) H s1 := inv_start S hr.hd e0 hl r x
  refine wpAny_mono (ht.run [] s1 (start N vs) H _ I hq) (fun fl s' hs => ?_) fun e s' hs => hs
  have fin : ∀ {σ' : L2.St} {H' : Hp} {v : V} {u : Value}, Inv (cxOf CX P w K mg base N qual scope f cdv A outer s H E) [] σ' H' s' → RelV v u → Q v H' → CE outer P w H s Q u s' :=
    fun {σ' H' v u} J rv q => ⟨v, H', J.os, J.bare, J.base, J.hok, rv, q⟩
  cases fl with
  | ret u =>
    obtain ⟨v, σ', H', J, rv, q⟩ := hs
    exact fin J rv q
  | next =>
    obtain ⟨σ', H', J, q⟩ := hs
    exact fin (v := V.non) (u := Value.none) J rfl q
  | brk =>
    obtain ⟨_, _, _, q⟩ := hs
    exact False.elim q
  | cont =>
    obtain ⟨_, _, _, q⟩ := hs
    exact False.elim q
/-- what a def of the evaluator promises -/
def spG (ca : Nat → Addr) (K : PySem.W.Frag) (np : Nat) (m : List D → Store → Out D) : Sp := fun vs H Q E => vs.length = np ∧ ∃ F ι S ds, Sto K F H ι S ∧ Reps K F ι ds vs ∧ PostG ca K (fun c d _ H' => E c d H') [] F H ι (RV K) Q (m ds S)
theorem PostG.slots {α β : Type} {ca : Nat → Addr} {K : PySem.W.Frag} {E : XK} {F H : Hp} {ι : List Addr} {σ σ' : L2.St} {R : Hp → Hp → List Addr → α → β → Prop} {Q : β → Hp → Prop} {m : Out α} (h : PostG ca K (fun c d _ H' => E c d H') σ F H ι R Q m) : PostG ca K (fun c d _ H' => E c d H') σ' F H ι R Q m := by
  cases m <;> exact h
/-- every exception that the evaluator gives out is the wish's, at the slots σ -/
theorem PostG.at_ {α β : Type} {ca : Nat → Addr} {K : PySem.W.Frag} {W : WX} {F H : Hp} {ι : List Addr} {σ : L2.St} {R : Hp → Hp → List Addr → α → β → Prop} {Q : β → Hp → Prop} {m : Out α} (h : PostG ca K W σ F H ι R Q m) : PostG ca K (fun c d _ H' => W c d σ H') [] F H ι R Q m := by
  cases m <;> exact h
section
variable {X : Cx} {ca : Nat → Addr} {W : WX} {G : Nat → D} {Fn : Nat → List D → Store → Out D} {a b c e : Expr} {a' b' c' e' : E} {es : List Expr} {es' : List E} {pos p : Pos} {CX : CXT} {k : Nat} {f : Addr} {fd : FuncData} {ps : List Str} {E : L2.St → XK} {x : Str}
theorem run_fnG {pins : List (Addr × Obj)} {σ : L2.St} {H : Hp} {s : Shared} {Q : VK} {args : Args} {us : List Value} {vs : List V} {sp : Sp} {gb : Bool} (F : FnG gb X.prog X.w X.K X.mg X.base CX k f fd ps sp) (hr : Room k X.A) (hgd : gb = true → X.A.guards = some []) (hb : BindsTo s fd args (ps.zip us)) (hx : PassesAt CX X σ (E σ))
    (I : Inv X pins σ H s) (r : Vals vs us) (h : sp vs H Q (E σ)) : wpAny (model X.prog X.w) X.A (call (.ref f) args.pos args.kw) (EP X pins σ Q) X.xe s := by
  refine wpAny_call (codeAny_mono (F.run X.A X.stack s H args us vs Q (E σ) hr hgd I.env0 hb r h) fun r s' hq => ?_)
  cases r with
  | error e => exact hx pins H s e s' I hq
  | ok fl =>
    cases fl with
    | ret u => exact I.after hq
    | next => exact False.elim hq
    | brk => exact False.elim hq
    | cont => exact False.elim hq
theorem pe_callG {t : TA} {sp : Sp} {gb : Bool} (F : FnG gb X.prog X.w X.K X.mg X.base CX k f fd ps sp) (hr : Room k X.A) (hgd : gb = true → X.A.guards = some []) (hg : Gl X x) (hm : X.mg x = some (.ref f)) (hk : PySem.W.keepIn X.K (.ref f) = true) (hb : Binds X.K fd ps []) (hx : ∀ σ, PassesAt CX X σ (E σ))
    (ha : PA X (e :: es) t) (hdb : (x == ("__debug__" : Str)) = false := by decide) (he : starEach (e :: es) X.env = (false, eval e X.env) :: starEach es X.env := by rfl) (hpl : (backTo pos (starEach es X.env)).any (·.1) = false := by rfl) :
    PE X (.Call (.Name x p) (e :: es) [] pos) (tCallS sp E t) := by
  refine ⟨fun pins s σ H Q I h => ?_⟩
  refine wpAny_Call_Name_kw (ld_glob I hg hm ?_ hdb)
  refine PySem.W.callWith_K (h₀ := X.base) I.ok.mod.kin hk (thn (ha.run pos pins s σ H _ I h) fun us s1 ⟨vs, H1, I1, r, q⟩ => ⟨I1.kIn, ?_⟩) he hpl
  have hl : us.length = ps.length := by rw [← r.length]; exact F.len _ _ _ _ q
  have b := hb s1 us I1.kIn (by rw [List.append_nil]; exact hl)
  rw [List.append_nil] at b
  exact run_fnG (args := ⟨us, []⟩) F hr hgd b (hx σ) I1 r q
/-- the call's facts, for the evaluator's function number i -/
structure FnC (X : Cx) (ca : Nat → Addr) (W : WX) (Fn : Nat → List D → Store → Out D) (np : Nat) (i : Nat) (x : Str) (ps : List Str) : Prop where
  c : ∃ (gb : Bool) (f : Addr) (fd : FuncData) (k : Nat), FnG gb X.prog X.w X.K X.mg X.base (L2.CX X.prog X.w) k f fd ps (spG ca X.K np (Fn i)) ∧ Room k X.A ∧ (gb = true → X.A.guards = some []) ∧ X.mg x = some (.ref f) ∧ PySem.W.keepIn X.K (.ref f) = true ∧ Binds X.K fd ps [] ∧ ∀ σ, PassesAt (L2.CX X.prog X.w) X σ (WE W σ)
theorem g_call {np i : Nat} {ps : List Str} (C : FnC X ca W Fn np i x ps) (hg : Gl X x) (hn : (e :: es).length = np) (ha : GV X ca W G Fn es' (e :: es)) (hdb : (x == ("__debug__" : Str)) = false := by decide) (he : starEach (e :: es) X.env = (false, eval e X.env) :: starEach es X.env := by rfl) (hpl : (backTo pos (starEach es X.env)).any (·.1) = false := by rfl)
    (hl : es'.length = np := by rfl) : GE X ca W G Fn (.call i [] es') (.Call (.Name x p) (e :: es) [] pos) := by
  obtain ⟨gb, f, fd, k, F, hr, hgd, hm, hk, hb, hx⟩ := C.c
  refine PE.weaken (pe_callG F hr hgd hg hm hk hb hx ha hdb he hpl) fun σ H Q ⟨F, ι, S, ρ, own, st, en, h⟩ => ?_
  rw [evE_call] at h
  refine tG_ex st en ?_
  have lens : ∀ (es' : List EC.E) S ds S', evEs G Fn es' ρ S = .ok ds S' → ds.length = es'.length := by
    intro es'
    induction es' with
    | nil => intro S ds S' e; rw [evEs_nil] at e; cases e; rfl
    | cons a r ih =>
      intro S ds S' e
      rw [evEs_cons] at e
      cases q : evE G Fn a ρ S with
      | bad => rw [q] at e; cases e
      | exc x S1 => rw [q] at e; cases e
      | ok d S1 =>
        rw [q] at e
        have e : (evEs G Fn r ρ S1).bind (kCons d) = .ok ds S' := e
        cases q2 : evEs G Fn r ρ S1 with
        | bad => rw [q2] at e; cases e
        | exc x S1 => rw [q2] at e; cases e
        | ok ds2 S2 =>
          rw [q2] at e
          cases e
          rw [List.length_cons, List.length_cons, ih S1 ds2 _ q2]
  have hlen := lens es' S
  revert h hlen
  cases evEs G Fn es' ρ S with
  | bad => exact fun h _ => h
  | exc x S1 => exact fun h _ => h
  | ok ds S1 =>
    intro h hlen v F1 H1 ι1 s1 st1 r1
    have h : PostG ca X.K W σ F H ι (RV X.K) Q (Fn i ds S1) := h
    exact ⟨by rw [Reps.len r1, hlen ds S1 rfl, hl], F1, ι1, S1, ds, st1, r1, (h.mono s1).at_⟩
end
end EC

namespace EC
open PySem PySem.Spec PyProof.Rows L2
variable [CA]
theorem PI.weaken {X : Cx} {tg e : Expr} {t t' : TI} (h : PI X tg e t) (w : ∀ σ H Q, t' σ H Q → t σ H Q) : PI X tg e t' := ⟨fun pins s σ H R I q => h.run pins s σ H R I (w σ H R q)⟩
/-! ### walks over the evaluator's items -/
def okD (F1 H1 : Hp) (ι1 : List Addr) : Hp → Hp → List Addr → Prop := fun F H ι => Stp F1 H1 ι1 F H ι
def okS (F1 : Hp) : Hp → Hp → List Addr → Prop := fun F _ _ => Same F1 F
structure Wk (K : PySem.W.Frag) (J : It) (xs : List D) (ok : Hp → Hp → List Addr → Prop) : Prop where
  ex : ∃ (Gd : Hp → Prop) (Y : Nat → Hp → V → Hp → Prop), Walk J xs.length Gd Y ∧ (∀ F H ι S, ok F H ι → Sto K F H ι S → Gd H) ∧
    ∀ i v d F H H' ι S, ok F H ι → Sto K F H ι S → xs[i]? = some d → Y i H v H' → ∃ F', Stp F H ι F' H' ι ∧ Sto K F' H' ι S ∧ Rep K F' ι d v
structure LwL (K : PySem.W.Frag) (ok : Hp → Hp → List Addr → Prop) (xs : List PyData) (a : Addr) (vs : List V) : Prop where
  len : vs.length = xs.length
  at_ : ∀ F H ι S, ok F H ι → Sto K F H ι S → SqL K H a vs ∧ DqAll K F vs xs
structure LwT (K : PySem.W.Frag) (ok : Hp → Hp → List Addr → Prop) (xs : List PyData) (a : Addr) (vs : List V) : Prop where
  len : vs.length = xs.length
  at_ : ∀ F H ι S, ok F H ι → Sto K F H ι S → SqT K H a vs ∧ DqAll K F vs xs
section
variable {K : PySem.W.Frag} {F1 H1 : Hp} {ι1 : List Addr} {S1 : Store} {xs : List PyData} {v : V} {ok : Hp → Hp → List Addr → Prop} {a : Addr} {vs : List V}
theorem lwL_D (st : Sto K F1 H1 ι1 S1) (r : RepA K F1 H1 ι1 (.p (.list xs)) v) : ∃ a vs, v = .ref a ∧ LwL K (okD F1 H1 ι1) xs a vs := by
  rcases r with r | ⟨a, vs, ys, e1, e2, e3, e4, e5, e6⟩
  · have q := rep_p.mp r
    cases q with
    | lst h1 h2 => exact ⟨_, _, rfl, h2.len, fun F H ι S s1 st1 => ⟨sqL_mono (s1.fr.trans st1.sub) h1, dqAll_mono s1.fr _ _ h2⟩⟩
  · injection e1 with e1
    injection e1 with e1
    subst e1
    exact ⟨a, vs, e2, e6.len, fun F H ι S s1 st1 => ⟨.inl (.inl (s1.keep a _ e5 e4)), dqAll_mono s1.fr _ _ e6⟩⟩
theorem lwL_S (r : Rep K F1 ι1 (.p (.list xs)) v) : ∃ a vs, v = .ref a ∧ LwL K (okS F1) xs a vs := by
  have q := rep_p.mp r
  cases q with
  | lst h1 h2 => exact ⟨_, _, rfl, h2.len, fun F H ι S s1 st1 => ⟨sqL_mono (Same.trans s1 st1.sub) h1, dqAll_mono s1 _ _ h2⟩⟩
theorem lwT_D (st : Sto K F1 H1 ι1 S1) (r : RepA K F1 H1 ι1 (.p (.tuple xs)) v) : ∃ a vs, v = .ref a ∧ LwT K (okD F1 H1 ι1) xs a vs := by
  have q := repA_p r (fun _ z => nomatch z)
  cases q with
  | tup h1 h2 => exact ⟨_, _, rfl, h2.len, fun F H ι S s1 st1 => ⟨sqT_mono (s1.fr.trans st1.sub) h1, dqAll_mono s1.fr _ _ h2⟩⟩
theorem lwT_S (r : Rep K F1 ι1 (.p (.tuple xs)) v) : ∃ a vs, v = .ref a ∧ LwT K (okS F1) xs a vs := by
  have q := rep_p.mp r
  cases q with
  | tup h1 h2 => exact ⟨_, _, rfl, h2.len, fun F H ι S s1 st1 => ⟨sqT_mono (Same.trans s1 st1.sub) h1, dqAll_mono s1 _ _ h2⟩⟩
theorem get_map {d : D} {i : Nat} (h : (xs.map D.p)[i]? = some d) : ∃ x, xs[i]? = some x ∧ d = .p x := by
  rw [List.getElem?_map] at h
  obtain ⟨x, h1, h2⟩ := map_some h
  exact ⟨x, h1, h2.symm⟩
theorem wk_list (L : LwL K ok xs a vs) : Wk K (Itl K a) (xs.map .p) ok := by
  refine ⟨_, _, (by rw [List.length_map, ← L.len]; exact walk_list (K := K) (a := a) (xs := vs)), fun F H ι S h st => (L.at_ F H ι S h st).1, fun i v d F H H' ι S h st hi y => ?_⟩
  obtain ⟨e, y⟩ := y
  subst e
  obtain ⟨x, h1, rfl⟩ := get_map hi
  obtain ⟨w, h2, h3⟩ := (L.at_ F H' ι S h st).2.get h1
  rw [h2] at y
  cases y
  exact ⟨F, Stp.refl, st, rep_p.mpr h3⟩
theorem wk_tup (L : LwT K ok xs a vs) : Wk K (Itt K a) (xs.map .p) ok := by
  refine ⟨_, _, (by rw [List.length_map, ← L.len]; exact walk_tup (K := K) (a := a) (xs := vs)), fun F H ι S h st => (L.at_ F H ι S h st).1, fun i v d F H H' ι S h st hi y => ?_⟩
  obtain ⟨e, y⟩ := y
  subst e
  obtain ⟨x, h1, rfl⟩ := get_map hi
  obtain ⟨w, h2, h3⟩ := (L.at_ F H' ι S h st).2.get h1
  rw [h2] at y
  cases y
  exact ⟨F, Stp.refl, st, rep_p.mpr h3⟩
theorem wk_str {z : Str} : Wk K (Its z) (z.cps.toList.map fun c => .p (chr c)) ok := by
  refine ⟨_, _, (by rw [List.length_map, Array.length_toList]; exact walk_str (z := z)), fun F H ι S h st => True.intro, fun i v d F H H' ι S h st hi y => ?_⟩
  obtain ⟨e, c, h1, rfl⟩ := y
  subst e
  rw [List.getElem?_map, Array.getElem?_toList, h1] at hi
  cases hi
  exact ⟨F, Stp.refl, st, rep_p.mpr (.str _)⟩
theorem wk_rng {lo : Int} {n : Nat} : Wk K (Itr lo n) (rngD lo n) ok := by
  refine ⟨_, _, (by unfold rngD; rw [List.length_map, List.length_range]; exact walk_range (lo := lo) (n := n)), fun F H ι S h st => True.intro, fun i v d F H H' ι S h st hi y => ?_⟩
  obtain ⟨e, rfl⟩ := y
  subst e
  unfold rngD at hi
  rw [List.getElem?_map] at hi
  obtain ⟨k, h1, rfl⟩ := map_some hi
  have e : k = i := by
    have := List.getElem?_eq_some_iff.mp h1
    obtain ⟨hl, he⟩ := this
    rw [List.getElem_range] at he
    exact he.symm
  subst e
  exact ⟨F, Stp.refl, st, rep_p.mpr (.int _)⟩
theorem enumD_get : ∀ {xs : List PyData} {k : Int} {i : Nat} {d : D}, (enumD k (xs.map D.p))[i]? = some d → ∃ x, xs[i]? = some x ∧ d = .p (.tuple [.int (k + i), x])
  | [], _, _, _, h => by simp [enumD] at h
  | x :: xs, k, 0, d, h => by
    simp [enumD] at h
    exact ⟨x, rfl, by simp [h.symm]⟩
  | x :: xs, k, i + 1, d, h => by
    simp only [List.map_cons, enumD, List.getElem?_cons_succ] at h
    obtain ⟨y, h1, h2⟩ := enumD_get h
    refine ⟨y, by simpa using h1, ?_⟩
    rw [h2]
    have : k + 1 + (i : Int) = k + ((i + 1 : Nat) : Int) := by omega
    rw [this]
theorem enumD_len : ∀ {xs : List PyData} {k : Int}, (enumD k (xs.map D.p)).length = xs.length
  | [], _ => rfl
  | x :: xs, k => by simp only [List.map_cons, enumD, List.length_cons, enumD_len]
theorem zipD_get : ∀ {xs ys : List PyData} {i : Nat} {d : D}, (zipD (xs.map D.p) (ys.map D.p))[i]? = some d → ∃ x y, xs[i]? = some x ∧ ys[i]? = some y ∧ d = .p (.tuple [x, y])
  | [], _, _, _, h => by simp [zipD] at h
  | x :: xs, [], _, _, h => by simp [zipD] at h
  | x :: xs, y :: ys, 0, d, h => by
    simp [zipD] at h
    exact ⟨x, y, rfl, rfl, h.symm⟩
  | x :: xs, y :: ys, i + 1, d, h => by
    simp only [List.map_cons, zipD, List.getElem?_cons_succ] at h
    obtain ⟨u, w, h1, h2, h3⟩ := zipD_get h
    exact ⟨u, w, by simpa using h1, by simpa using h2, h3⟩
theorem zipD_len : ∀ {xs ys : List PyData}, (zipD (xs.map D.p) (ys.map D.p)).length = min xs.length ys.length
  | [], _ => by simp [zipD]
  | x :: xs, [] => by simp [zipD]
  | x :: xs, y :: ys => by simp only [List.map_cons, zipD, List.length_cons, zipD_len]; omega
/-- a new pair -/
theorem pair_rep {F H H' : Hp} {ι : List Addr} {S : Store} {T : Addr} {x y : V} {dx dy : PyData} (st : Sto K F H ι S) (hT : H T = none) (e : H' = upd H T (.tup [x, y])) (h1 : Dq K F x dx) (h2 : Dq K F y dy) : ∃ F', Stp F H ι F' H' ι ∧ Sto K F' H' ι S ∧ Rep K F' ι (.p (.tuple [dx, dy])) (.ref T) := by
  subst e
  have s1 := Stp.laid st hT (.tup [x, y])
  exact ⟨_, s1, st.laid hT _, rep_p.mpr (.tup (.inl rd_upd) (dqAll_mono s1.fr _ _ (.cons h1 (.cons h2 .nil))))⟩
theorem wk_enum (L : LwL K ok xs a vs) : Wk K (Ite K a) (enumD 0 (xs.map .p)) ok := by
  refine ⟨_, _, (by rw [enumD_len, ← L.len]; exact walk_enum (K := K) (a := a) (xs := vs)), fun F H ι S h st => (L.at_ F H ι S h st).1, fun i v d F H H' ι S h st hi y => ?_⟩
  obtain ⟨T, x, z, rfl, hT, e, ex, ez⟩ := y
  obtain ⟨w, h1, rfl⟩ := enumD_get hi
  obtain ⟨w2, h2, h3⟩ := (L.at_ F H ι S h st).2.get h1
  have ez : vs[i]? = some z := ez
  rw [h2] at ez
  cases ez
  cases ex
  rw [Int.zero_add]
  exact pair_rep st hT e (.int _) h3
theorem wk_zipL {ys : List PyData} {b : Addr} {ws : List V} (L : LwL K ok xs a vs) (M : LwL K ok ys b ws) : Wk K (Itz K a b) (zipD (xs.map .p) (ys.map .p)) ok := by
  refine ⟨fun H => SqL K H a vs ∧ SqL K H b ws, _, (by rw [zipD_len, ← L.len, ← M.len]; exact walk_zip (K := K) (a := a) (b := b) (xs := vs) (ys := ws) rfl), fun F H ι S h st => ⟨(L.at_ F H ι S h st).1, (M.at_ F H ι S h st).1⟩, fun i v d F H H' ι S h st hi y => ?_⟩
  obtain ⟨T, x, z, rfl, hT, e, ex, ez⟩ := y
  obtain ⟨u, w, h1, h2, rfl⟩ := zipD_get hi
  obtain ⟨v1, g1, g2⟩ := (L.at_ F H ι S h st).2.get h1
  obtain ⟨v2, g3, g4⟩ := (M.at_ F H ι S h st).2.get h2
  have ex : vs[i]? = some x := ex
  have ez : ws[i]? = some z := ez
  rw [g1] at ex
  rw [g3] at ez
  cases ex
  cases ez
  exact pair_rep st hT e g2 g4
end
/-! ### what a for walks -/
def okB (b : Bool) (F1 H1 : Hp) (ι1 : List Addr) : Hp → Hp → List Addr → Prop := if b = true then okS F1 else okD F1 H1 ι1
abbrev RI (K : PySem.W.Frag) (b : Bool) : Hp → Hp → List Addr → List D → It → Prop := fun F H ι xs J => Wk K J xs (okB b F H ι)
def kIt (k : Ik) (ds : List D) (S : Store) : Out (List D) := .of (items S k ds) S
/-- the arguments of a walk: looked at (a comprehension's), or strict (a loop's) -/
def evB (b : Bool) (G : Nat → D) (Fn : Nat → List D → Store → Out D) (es : List E) (ρ : Env) (S : Store) : Out (List D) := if b = true then evEs G Fn es ρ S else evA G Fn es ρ S
def evX (b : Bool) (G : Nat → D) (Fn : Nat → List D → Store → Out D) (e : E) (ρ : Env) (S : Store) : Out D := if b = true then evE G Fn e ρ S else evA1 G Fn e ρ S
theorem evB_nil {b : Bool} {G : Nat → D} {Fn : Nat → List D → Store → Out D} {ρ : Env} {S : Store} : evB b G Fn [] ρ S = .ok [] S := by
  cases b
  · exact evA_nil (G := G) (Fn := Fn) ρ S
  · exact evEs_nil (G := G) (Fn := Fn) ρ S
theorem evB_cons {b : Bool} {G : Nat → D} {Fn : Nat → List D → Store → Out D} {e : E} {es : List E} {ρ : Env} {S : Store} : evB b G Fn (e :: es) ρ S = (evX b G Fn e ρ S).bind fun d S1 => (evB b G Fn es ρ S1).bind (kCons d) := by
  cases b
  · exact evA_one (G := G) (Fn := Fn) e es ρ S
  · exact evEs_cons (G := G) (Fn := Fn) ρ S e es
abbrev RX (K : PySem.W.Frag) (b : Bool) : Hp → Hp → List Addr → D → V → Prop := fun F H ι d v => if b = true then Rep K F ι d v else RepA K F H ι d v
theorem RX.a {K : PySem.W.Frag} {b : Bool} {F H : Hp} {ι : List Addr} {d : D} {v : V} (h : RX K b F H ι d v) : RepA K F H ι d v := by
  cases b
  · exact h
  · exact .inl h
theorem RX.mono {K : PySem.W.Frag} {b : Bool} {F H F' H' : Hp} {ι ι' : List Addr} {d : D} {v : V} (st : Stp F H ι F' H' ι') (h : RX K b F H ι d v) : RX K b F' H' ι' d v := by
  cases b
  · exact RepA.mono st h
  · exact Rep.mono st d v h
abbrev GX (b : Bool) (X : Cx) (ca : Nat → Addr) (W : WX) (G : Nat → D) (Fn : Nat → List D → Store → Out D) (e' : E) (e : Expr) : Prop := PE X e (tG ca X.K W (RX X.K b) (evX b G Fn e'))
abbrev GI (b : Bool) (X : Cx) (ca : Nat → Addr) (W : WX) (G : Nat → D) (Fn : Nat → List D → Store → Out D) (k : Ik) (es' : List E) (tg it : Expr) : Prop := PI X tg it (tG ca X.K W (RI X.K b) fun ρ S => (evB b G Fn es' ρ S).bind (kIt k))
section
variable {X : Cx} {ca : Nat → Addr} {W : WX} {G : Nat → D} {Fn : Nat → List D → Store → Out D} {a b c e tg : Expr} {a' b' c' e' : E} {es : List Expr} {es' : List E} {pos p : Pos} {bb : Bool}
theorem gx_A (h : GA X ca W G Fn a' a) : GX false X ca W G Fn a' a := h
theorem gx_V (h : GE X ca W G Fn a' a) : GX true X ca W G Fn a' a := h
/-- one argument, two arguments of a walk -/
theorem one_it {k : Ik} {σ : L2.St} {F H : Hp} {ι : List Addr} {S : Store} {ρ : EC.Env} {own : Nat → Option Addr} {R : It → Hp → Prop} (h : PostG ca X.K W σ F H ι (RI X.K bb) R ((evB bb G Fn [a'] ρ S).bind (kIt k))) (st : Sto X.K F H ι S) (en : EnvR X.K F H ι own ρ σ)
    {Q : V → Hp → Prop} (g : ∀ d S1 v F1 H1 ι1, Sto X.K F1 H1 ι1 S1 → RX X.K bb F1 H1 ι1 d v → PostG ca X.K W σ F1 H1 ι1 (RI X.K bb) R (kIt k [d] S1) → Q v H1) : tG ca X.K W (RX X.K bb) (evX bb G Fn a') σ H Q := by
  rw [evB_cons, bind_assoc] at h
  refine tG_ex st en (h.bind_ fun d S1 v F1 H1 ι1 s1 st1 r1 h1 => ?_)
  rw [evB_nil] at h1
  exact g d S1 v F1 H1 ι1 st1 r1 h1
theorem two_it {k : Ik} {σ : L2.St} {F H : Hp} {ι : List Addr} {S : Store} {ρ : EC.Env} {own : Nat → Option Addr} {R : It → Hp → Prop} (h : PostG ca X.K W σ F H ι (RI X.K bb) R ((evB bb G Fn [a', b'] ρ S).bind (kIt k))) (st : Sto X.K F H ι S) (en : EnvR X.K F H ι own ρ σ)
    {Q : V → V → Hp → Prop} (g : ∀ d d2 S1 v v2 F1 H1 ι1, Sto X.K F1 H1 ι1 S1 → RX X.K bb F1 H1 ι1 d v → RX X.K bb F1 H1 ι1 d2 v2 → PostG ca X.K W σ F1 H1 ι1 (RI X.K bb) R (kIt k [d, d2] S1) → Q v v2 H1) : tG ca X.K W (RX X.K bb) (evX bb G Fn a') σ H fun v H1 => tG ca X.K W (RX X.K bb) (evX bb G Fn b') σ H1 fun v2 H2 => Q v v2 H2 := by
  rw [evB_cons, bind_assoc] at h
  refine tG_ex st en (h.bind_ fun d S1 v F1 H1 ι1 s1 st1 r1 h1 => ?_)
  rw [evB_cons, bind_assoc, bind_assoc] at h1
  refine tG_ex st1 (en.mono s1) (h1.bind_ fun d2 S2 v2 F2 H2 ι2 s2 st2 r2 h2 => ?_)
  rw [evB_nil] at h2
  exact g d d2 S2 v v2 F2 H2 ι2 st2 (RX.mono s2 r1) r2 h2
/-- one value: list, tuple or text -/
def iSq (K : PySem.W.Frag) (te : TE) : TI := fun σ H R => te σ H fun x H1 => (∃ a, x = .ref a ∧ (∃ xs, SqL K H1 a xs) ∧ R (Itl K a) H1) ∨ (∃ a, x = .ref a ∧ (∃ xs, SqT K H1 a xs) ∧ R (Itt K a) H1) ∨ ∃ z, x = .str z ∧ R (Its z) H1
theorem pi_sq {te : TE} (hl : PE X e te) : PI X tg e (iSq X.K te) := by
  refine ⟨fun pins s σ H R I h => ?_⟩
  refine thn (hl.run pins s σ H _ I h) fun v s1 ⟨x, H1, I1, r1, q1⟩ => ?_
  rcases q1 with ⟨a, e, ⟨xs, hq⟩, q⟩ | ⟨a, e, ⟨xs, hq⟩, q⟩ | ⟨x, ex, q⟩
  · subst e
    cases r1
    obtain ⟨its, rv, p, hz⟩ := I1.list hq
    refine wpAny_pyIter_list p.isList ?_
    refine ⟨s1.heap.objs.size, [s1.heap.objs.size], _, _, H1, rfl, I1.kept (t' := s1.toks) fun b o e => Heap.get?_push_of_some _ e, turn_list a _, ⟨_, Heap.get?_push_size _ rfl, rfl, rfl⟩, fun b hb => ?_, q⟩
    have e : b = s1.heap.objs.size := by simpa using hb
    subst e
    exact I1.fpOk (Nat.le_refl _) (I1.hok.fresh (Nat.le_refl _))
  · subst e
    cases r1
    obtain ⟨its, rv, p, hz⟩ := I1.tuple hq
    refine wpAny_pyIter_tuple (show s1.heap.IsTuple a its.toArray from p) ?_
    refine ⟨s1.heap.objs.size, [s1.heap.objs.size], _, _, H1, rfl, I1.kept (t' := s1.toks) fun b o e => Heap.get?_push_of_some _ e, turn_tuple a _, ⟨_, Heap.get?_push_size _ rfl, rfl, rfl⟩, fun b hb => ?_, q⟩
    have e : b = s1.heap.objs.size := by simpa using hb
    subst e
    exact I1.fpOk (Nat.le_refl _) (I1.hok.fresh (Nat.le_refl _))
  · subst ex
    obtain ⟨t, rfl⟩ := r1
    cases ha : x.cps.all (· < 128)
    · exact wpAny_pyIter_wide ha (pi_one (tk := s1.toks) I1 _ (turn_str _ x t "str_iterator" (.inr rfl)) ⟨_, Heap.get?_push_size _ rfl, rfl, rfl⟩ q)
    · exact wpAny_pyIter_ascii ha (pi_one (tk := s1.toks) I1 _ (turn_str _ x t "str_ascii_iterator" (.inl rfl)) ⟨_, Heap.get?_push_size _ rfl, rfl, rfl⟩ q)
theorem sq_end {σ : L2.St} {F H : Hp} {ι : List Addr} {S : Store} {R : It → Hp → Prop} {d : D} {v : V} (h : PostG ca X.K W σ F H ι (RI X.K bb) R (kIt .sq [d] S)) (st : Sto X.K F H ι S) (r : if bb = true then Rep X.K F ι d v else RepA X.K F H ι d v) :
    (∃ a, v = .ref a ∧ (∃ xs, SqL X.K H a xs) ∧ R (Itl X.K a) H) ∨ (∃ a, v = .ref a ∧ (∃ xs, SqT X.K H a xs) ∧ R (Itt X.K a) H) ∨ ∃ z, v = .str z ∧ R (Its z) H := by
  obtain ⟨xs, hx, q⟩ := PostG.of h
  replace hx : items1 S d = some xs := hx
  unfold items1 at hx
  split at hx
  · rename_i ys
    cases hx
    cases bb with
    | true =>
      obtain ⟨a, vs, rfl, L⟩ := lwL_S (ι1 := ι) r
      exact .inl ⟨a, rfl, ⟨vs, (L.at_ F H ι S (Same.refl F) st).1⟩, q _ F H ι Stp.refl st (wk_list L)⟩
    | false =>
      obtain ⟨a, vs, rfl, L⟩ := lwL_D st r
      exact .inl ⟨a, rfl, ⟨vs, (L.at_ F H ι S Stp.refl st).1⟩, q _ F H ι Stp.refl st (wk_list L)⟩
  · rename_i ys
    cases hx
    cases bb with
    | true =>
      obtain ⟨a, vs, rfl, L⟩ := lwT_S (ι1 := ι) r
      exact .inr (.inl ⟨a, rfl, ⟨vs, (L.at_ F H ι S (Same.refl F) st).1⟩, q _ F H ι Stp.refl st (wk_tup L)⟩)
    | false =>
      obtain ⟨a, vs, rfl, L⟩ := lwT_D st r
      exact .inr (.inl ⟨a, rfl, ⟨vs, (L.at_ F H ι S Stp.refl st).1⟩, q _ F H ι Stp.refl st (wk_tup L)⟩)
  · rename_i z
    cases hx
    have e : v = .str z := by
      cases bb with
      | true => exact repA_str (H := H) (ι := ι) (F := F) (K := X.K) (.inl r)
      | false => exact repA_str r
    exact .inr (.inr ⟨z, e, q _ F H ι Stp.refl st wk_str⟩)
  · cases hx
theorem gi_sq (ha : GX bb X ca W G Fn a' a) : GI bb X ca W G Fn .sq [a'] tg a :=
  PI.weaken (pi_sq ha) fun σ H R ⟨F, ι, S, ρ, own, st, en, h⟩ => one_it h st en fun d S1 v F1 H1 ι1 st1 r1 h1 => sq_end (bb := bb) h1 st1 r1
theorem items_rng1 {S : Store} {d : D} {xs : List D} (h : items S .rng [d] = some xs) : ∃ j : Int, d = .p (.int j) ∧ -(2 ^ 62) ≤ j ∧ j < 2 ^ 62 ∧ xs = rngD 0 j.toNat := by
  have key : ∀ j : Int, items S .rng [.p (.int j)] = some xs → ∃ j' : Int, D.p (.int j) = .p (.int j') ∧ -(2 ^ 62) ≤ j' ∧ j' < 2 ^ 62 ∧ xs = rngD 0 j'.toNat := fun j h => by
    have h : (if decide (-(2 ^ 62) ≤ j ∧ j < 2 ^ 62) then some (rngD 0 j.toNat) else none) = some xs := h
    split at h
    · rename_i hj
      have hj := of_decide_eq_true hj
      cases h
      exact ⟨j, rfl, hj.1, hj.2, rfl⟩
    · cases h
  cases d with
  | p x => cases x <;> first | exact key _ h | cases h
  | _ => cases h
theorem items_rng2 {S : Store} {d d2 : D} {xs : List D} (h : items S .rng [d, d2] = some xs) : ∃ i j : Int, d = .p (.int i) ∧ d2 = .p (.int j) ∧ (-(2 ^ 62) ≤ i ∧ i < 2 ^ 62 ∧ -(2 ^ 62) ≤ j ∧ j < 2 ^ 62) ∧ xs = rngD i (j - i).toNat := by
  have key : ∀ i j : Int, items S .rng [.p (.int i), .p (.int j)] = some xs → ∃ i' j' : Int, D.p (.int i) = .p (.int i') ∧ D.p (.int j) = .p (.int j') ∧ (-(2 ^ 62) ≤ i' ∧ i' < 2 ^ 62 ∧ -(2 ^ 62) ≤ j' ∧ j' < 2 ^ 62) ∧ xs = rngD i' (j' - i').toNat := fun i j h => by
    have h : (if decide (-(2 ^ 62) ≤ i ∧ i < 2 ^ 62 ∧ -(2 ^ 62) ≤ j ∧ j < 2 ^ 62) then some (rngD i (j - i).toNat) else none) = some xs := h
    split at h
    · rename_i hj
      cases h
      exact ⟨i, j, rfl, rfl, of_decide_eq_true hj, rfl⟩
    · cases h
  cases d with
  | p x =>
    cases d2 with
    | p y => cases x <;> cases y <;> first | exact key _ _ h | cases h
    | _ => cases x <;> cases h
  | _ => cases d2 <;> cases h
theorem gi_rng1 (hg : Gl X "range") (hm : X.mg "range" = none) (ha : GX bb X ca W G Fn a' a) (hs : starEach [a] X.env = [(false, eval a X.env)] := by rfl) : GI bb X ca W G Fn .rng [a'] tg (.Call (.Name "range" p) [a] [] pos) := by
  refine PI.weaken (pi_range1 hg hm (pa_cons ha pa_nil hs) hs) fun σ H R ⟨F, ι, S, ρ, own, st, en, h⟩ => one_it h st en fun d S1 v F1 H1 ι1 st1 r1 h1 => ?_
  obtain ⟨xs, hx, q⟩ := PostG.of h1
  obtain ⟨j, rfl, h1, h2, rfl⟩ := items_rng1 hx
  exact ⟨j, by rw [repA_int r1.a], h1, h2, q _ F1 H1 ι1 Stp.refl st1 wk_rng⟩
theorem gi_rng2 (hg : Gl X "range") (hm : X.mg "range" = none) (ha : GX bb X ca W G Fn a' a) (hb : GX bb X ca W G Fn b' b) (hs : starEach [a, b] X.env = [(false, eval a X.env), (false, eval b X.env)] := by rfl) (hs2 : starEach [b] X.env = [(false, eval b X.env)] := by rfl) :
    GI bb X ca W G Fn .rng [a', b'] tg (.Call (.Name "range" p) [a, b] [] pos) := by
  refine PI.weaken (pi_range2 hg hm (pa_cons ha (pa_cons hb pa_nil hs2) (by rw [hs, hs2])) hs hs2) fun σ H R ⟨F, ι, S, ρ, own, st, en, h⟩ => two_it h st en fun d d2 S1 v v2 F1 H1 ι1 st1 r1 r2 h1 => ?_
  obtain ⟨xs, hx, q⟩ := PostG.of h1
  obtain ⟨i, j, rfl, rfl, hj, rfl⟩ := items_rng2 hx
  exact ⟨i, j, by rw [repA_int r1.a, repA_int r2.a], hj, q _ F1 H1 ι1 Stp.refl st1 wk_rng⟩
end
end EC

namespace EC
open PySem PySem.Spec PyProof.Rows L2
variable [CA]
/-! ### targets -/
mutual
def slotsT : Tg → List Nat
  | .nm i => [i]
  | .tup ts => slotsTs ts
def slotsTs : List Tg → List Nat
  | [] => []
  | t :: ts => slotsT t ++ slotsTs ts
end
/-- σ' is σ but at the slots l -/
structure Off (l : List Nat) (σ σ' : L2.St) : Prop where
  len : σ'.length = σ.length
  at_ : ∀ j, j ∉ l → σ'[j]? = σ[j]?
theorem Off.refl {l : List Nat} {σ : L2.St} : Off l σ σ := ⟨rfl, fun _ _ => rfl⟩
theorem Off.trans {l l' m : List Nat} {σ σ1 σ2 : L2.St} (a : Off l σ σ1) (b : Off l' σ1 σ2) (h : ∀ j, j ∈ l ∨ j ∈ l' → j ∈ m) : Off m σ σ2 :=
  ⟨b.len.trans a.len, fun j hj => (b.at_ j fun z => hj (h j (.inr z))).trans (a.at_ j fun z => hj (h j (.inl z)))⟩
theorem wipe_get {σ : L2.St} {j : Nat} : ∀ {vs : List Nat}, (wipe σ vs)[j]? = if j ∈ vs ∧ j < σ.length then some none else σ[j]?
  | [] => by simp [wipe]
  | v :: vs => by
    unfold wipe
    by_cases e : v = j
    · subst e
      by_cases hl : v < σ.length
      · rw [List.getElem?_set_self (by rw [wipe_length]; exact hl), if_pos ⟨List.mem_cons_self, hl⟩]
      · rw [List.getElem?_eq_none (by rw [List.length_set, wipe_length]; omega), if_neg (fun h => hl h.2), List.getElem?_eq_none (by omega)]
    · rw [List.getElem?_set_ne e, wipe_get]
      have : (j ∈ v :: vs ∧ j < σ.length) ↔ (j ∈ vs ∧ j < σ.length) := by
        rw [List.mem_cons]
        constructor
        · rintro ⟨z | z, h⟩
          · exact absurd z.symm e
          · exact ⟨z, h⟩
        · exact fun h => ⟨.inr h.1, h.2⟩
      by_cases z : j ∈ vs ∧ j < σ.length
      · rw [if_pos z, if_pos (this.mpr z)]
      · rw [if_neg z, if_neg (fun h => z (this.mp h))]
theorem Off.wipe {l vs : List Nat} {σ σ' : L2.St} (h : Off l σ σ') (hs : ∀ j, j ∈ l → j ∈ vs) : wipe σ' vs = wipe σ vs := by
  refine List.ext_getElem? fun j => ?_
  rw [wipe_get, wipe_get, h.len]
  by_cases z : j ∈ vs ∧ j < σ.length
  · rw [if_pos z, if_pos z]
  · rw [if_neg z, if_neg z]
    by_cases y : j ∈ vs
    · have : ¬ j < σ.length := fun q => z ⟨y, q⟩
      rw [List.getElem?_eq_none (by rw [h.len]; omega), List.getElem?_eq_none (by omega)]
    · exact h.at_ j fun q => y (hs j q)
section
variable {K : PySem.W.Frag} {F H : Hp} {ι : List Addr} {S : Store} {ρ ρ' : EC.Env} {σ σ' : L2.St} {own : Nat → Option Addr}
theorem EnvR.set (en : EnvR K F H ι own ρ σ) {i : Nat} {d : D} {v : V} (r : Rep K F ι d v) : EnvR K F H ι own (ρ.set i (.v d)) (σ.set i (some v)) := by
  refine ⟨by rw [List.length_set, List.length_set]; exact en.len, fun j s h => ?_, en.off, en.inj⟩
  by_cases e : i = j
  · subst e
    by_cases hi : i < ρ.length
    · rw [List.getElem?_set_self hi] at h
      cases h
      rw [List.getElem?_set_self (by rw [← en.len]; exact hi)]
      exact ⟨v, rfl, r⟩
    · rw [List.getElem?_eq_none (by rw [List.length_set]; omega)] at h
      cases h
  · rw [List.getElem?_set_ne e] at h
    rw [List.getElem?_set_ne e]
    exact en.slot j s h
theorem off_set {i : Nat} {x : Option V} : Off [i] σ (σ.set i x) := ⟨List.length_set, fun j hj => by rw [List.getElem?_set_ne (fun e => hj (by rw [e]; exact List.mem_singleton.mpr rfl))]⟩
end
/-- the reading of a target -/
def gT (K : PySem.W.Frag) (t : Tg) : TG := fun v σ H Q => ∃ F ι S ρ own d ρ', Sto K F H ι S ∧ EnvR K F H ι own ρ σ ∧ Rep K F ι d v ∧ bindT t d ρ = some ρ' ∧ ∀ σ', EnvR K F H ι own ρ' σ' → Off (slotsT t) σ σ' → Q σ' H
def gTs (K : PySem.W.Frag) (ts : List Tg) : TGs := fun vs σ H Q => ∃ F ι S ρ own ds ρ', Sto K F H ι S ∧ EnvR K F H ι own ρ σ ∧ Reps K F ι ds vs ∧ bindTs ts ds ρ = some ρ' ∧ ∀ σ', EnvR K F H ι own ρ' σ' → Off (slotsTs ts) σ σ' → Q σ' H
theorem PG.weaken {X : Cx} {e : Expr} {t t' : TG} (h : PG X e t) (w : ∀ v σ H Q, t' v σ H Q → t v σ H Q) : PG X e t' := ⟨fun pins s σ H v u Q I r q => h.run pins s σ H v u Q I r (w v σ H Q q)⟩
theorem PGs.weaken {X : Cx} {e : List Expr} {t t' : TGs} (h : PGs X e t) (w : ∀ v σ H Q, t' v σ H Q → t v σ H Q) : PGs X e t' := ⟨fun pins s σ H v u Q I r q => h.run pins s σ H v u Q I r (w v σ H Q q)⟩
abbrev GG (X : Cx) (t : Tg) (e : Expr) : Prop := PG X e (gT X.K t)
abbrev GGs (X : Cx) (t : List Tg) (e : List Expr) : Prop := PGs X e (gTs X.K t)
section
variable {X : Cx} {pos : Pos}
theorem gg_nm {i : Nat} {x : Str} (hN : X.N.Nodup) (hi : X.N[i]? = some x) (hx : Loc X.env.scope x) (hf : X.fn x = true ∨ X.env.scope.names.lookup x = some .local := by first | exact .inl rfl | exact .inr rfl | assumption) : GG X (.nm i) (.Name x pos) := by
  refine PG.weaken (pg_name hN hi hx hf) fun v σ H Q ⟨F, ι, S, ρ, own, d, ρ', st, en, r, hb, q⟩ => ?_
  unfold bindT at hb
  split at hb
  · cases hb
    refine q _ (en.set r) ?_
    unfold slotsT
    exact off_set
  · cases hb
theorem bindTs_nil {ds : List D} {ρ ρ' : EC.Env} (h : bindTs [] ds ρ = some ρ') : ds = [] ∧ ρ' = ρ := by
  cases ds with
  | nil => unfold bindTs at h; cases h; exact ⟨rfl, rfl⟩
  | cons d r => unfold bindTs at h; cases h
theorem bindTs_cons {t : Tg} {ts : List Tg} {ds : List D} {ρ ρ' : EC.Env} (h : bindTs (t :: ts) ds ρ = some ρ') : ∃ d r ρ1, ds = d :: r ∧ bindT t d ρ = some ρ1 ∧ bindTs ts r ρ1 = some ρ' := by
  cases ds with
  | nil => unfold bindTs at h; cases h
  | cons d r =>
    unfold bindTs at h
    cases e : bindT t d ρ with
    | none => rw [e] at h; cases h
    | some ρ1 => rw [e] at h; exact ⟨d, r, ρ1, rfl, e, h⟩
theorem ggs_nil : GGs X [] [] := by
  refine PGs.weaken pgs_nil fun v σ H Q ⟨F, ι, S, ρ, own, d, ρ', st, en, r, hb, q⟩ => ?_
  obtain ⟨rfl, rfl⟩ := bindTs_nil hb
  exact ⟨reps_nil.mp r, q _ en Off.refl⟩
theorem ggs_cons {e : Expr} {es : List Expr} {t : Tg} {ts : List Tg} (h1 : GG X t e) (h2 : GGs X ts es) (hs : (assignEach (e :: es) X.env).map (·.2) = assign e X.env :: (assignEach es X.env).map (·.2) := by rfl) : GGs X (t :: ts) (e :: es) := by
  refine PGs.weaken (pgs_cons h1 h2 hs) fun vs σ H Q ⟨F, ι, S, ρ, own, ds, ρ', st, en, r, hb, q⟩ => ?_
  obtain ⟨d, ds0, ρ1, rfl, e1, hb⟩ := bindTs_cons hb
  obtain ⟨v, vr, rfl, r1, r2⟩ := reps_cons.mp r
  refine ⟨v, vr, rfl, F, ι, S, ρ, own, d, ρ1, st, en, r1, e1, fun σ1 en1 o1 => ?_⟩
  refine ⟨F, ι, S, ρ1, own, ds0, ρ', st, en1, r2, hb, fun σ2 en2 o2 => q σ2 en2 (o1.trans o2 fun j hj => ?_)⟩
  unfold slotsTs
  exact List.mem_append.mpr hj
theorem bindTs_len : ∀ {ts : List Tg} {ds : List D} {ρ ρ' : EC.Env}, bindTs ts ds ρ = some ρ' → ds.length = ts.length
  | [], [], _, _, _ => rfl
  | [], _ :: _, _, _, h => by unfold bindTs at h; cases h
  | _ :: _, [], _, _, h => by unfold bindTs at h; cases h
  | t :: ts, d :: ds, ρ, ρ', h => by
    unfold bindTs at h
    split at h
    · rw [List.length_cons, List.length_cons, bindTs_len h]
    · cases h
theorem gg_tup {es : List Expr} {k : Nat} {ts : List Tg} (hc : X.calm = true) (h : GGs X ts es) (hl : (assignEach es X.env).length = ts.length := by rfl) (hst : (assignEach es X.env).findIdx? (·.1) = none := by rfl) : GG X (.tup ts) (.Tuple es k pos) := by
  refine ⟨fun pins s σ H v u QQ I rv hh => ?_⟩
  obtain ⟨F, ι, S, ρ, own, d, ρ', st, en, r, hb, q⟩ := hh
  have q' : ∀ σ', EnvR X.K F H ι own ρ' σ' → Off (slotsTs ts) σ σ' → QQ σ' H := fun σ' e1 o1 => q σ' e1 (by unfold slotsT; exact o1)
  cases d with
  | p x =>
    cases x with
    | tuple xs =>
      have hb : bindTs ts (xs.map .p) ρ = some ρ' := by unfold bindT at hb; exact hb
      obtain ⟨a, vs, rfl, h1, g1, h2⟩ := repA_tuple st (.inl r)
      refine (pg_tup hc h hl hst).run pins s σ H _ u QQ I rv ⟨a, vs, rfl, h1, ?_, F, ι, S, ρ, own, _, ρ', st, en, reps_map.mpr h2, hb, q'⟩
      have := bindTs_len hb
      rw [List.length_map] at this
      rw [h2.len, this]
    | list xs =>
      have hb : bindTs ts (xs.map .p) ρ = some ρ' := by unfold bindT at hb; exact hb
      obtain ⟨a, vs, rfl, h1, h2⟩ := repA_list st (.inl r)
      refine (pg_lst hc h hl hst).run pins s σ H _ u QQ I rv ⟨a, vs, rfl, h1, ?_, F, ι, S, ρ, own, _, ρ', st, en, reps_map.mpr h2, hb, q'⟩
      have := bindTs_len hb
      rw [List.length_map] at this
      rw [h2.len, this]
    | _ => unfold bindT at hb; cases hb
  | tup ds =>
    have hb : bindTs ts ds ρ = some ρ' := by unfold bindT at hb; exact hb
    obtain ⟨a, vs, rfl, h1, h2⟩ := rep_tup.mp r
    refine (pg_tup hc h hl hst).run pins s σ H _ u QQ I rv ⟨a, vs, rfl, SqT.of (st.sub _ _ h1), ?_, F, ι, S, ρ, own, _, ρ', st, en, h2, hb, q'⟩
    rw [h2.len, bindTs_len hb]
  | _ => unfold bindT at hb; cases hb
end
end EC

namespace EC
open PySem PySem.Spec PyProof.Rows L2
variable [CA]
/-! ### comprehensions -/
def W0 : WX := fun _ _ _ _ => False
theorem noX_bind {α β : Type} (m : Out α) (k : α → Store → Out β) : noX (m.bind k) = (noX m).bind fun a S => noX (k a S) := by cases m <;> rfl
theorem PostG.noX_ {α β γ δ : Type} {ca : Nat → Addr} {K : PySem.W.Frag} {W : WX} {F1 H1 F H : Hp} {ι1 ι : List Addr} {σ σ2 : L2.St} {R : Hp → Hp → List Addr → γ → δ → Prop} {R' : Hp → Hp → List Addr → α → β → Prop} {Q : δ → Hp → Prop} {Q' : β → Hp → Prop} {m : Out α} {k : α → Store → Out γ}
    (h : PostG ca K W σ F1 H1 ι1 R Q ((noX m).bind k)) (g : ∀ d S' v F' H' ι', Stp F H ι F' H' ι' → Sto K F' H' ι' S' → R' F' H' ι' d v → PostG ca K W σ F1 H1 ι1 R Q (k d S') → Q' v H') : PostG ca K W0 σ2 F H ι R' Q' m := by
  cases m with
  | ok d S => exact fun v F2 H2 ι2 s2 st2 r => g d S v F2 H2 ι2 s2 st2 r h
  | exc e S => exact h.elim
  | bad => exact h.elim
/-- a fresh list that is not frozen yet: H0 the heap ahead of it -/
def RFr (K : PySem.W.Frag) (H0 : Hp) : Hp → Hp → List Addr → D → V → Prop := fun F' H' ι' d v => ∃ xs a vs, d = .p (.list xs) ∧ v = .ref a ∧ H0 a = none ∧ F' a = none ∧ a ∉ ι' ∧ H' a = some (.lst vs) ∧ DqAll K F' vs xs
section
variable {K : PySem.W.Frag} {F H F' H' : Hp} {ι ι' : List Addr} {S : Store}
theorem Stp.freeze (s : Stp F H ι F' H' ι') {a : Addr} (h0 : H a = none) (h1 : F' a = none) (o : HO) : Stp F H ι (upd F' a o) H' ι' := by
  refine ⟨fun b u q => ?_, s.pre, s.keep, fun b h h' => ?_, s.new, s.live⟩
  · have q := s.fr b u q
    rw [upd_ne (ne_of_none q h1)]
    exact q
  · by_cases e : b = a
    · rw [e]; exact h0
    · rw [upd_ne e] at h'
      exact s.frz b h h'
theorem RepO.fr {K : PySem.W.Frag} {F H F' H' Hx Hy : Hp} {ι ι' : List Addr} {a : Addr} {o : Ob} (st : Stp F Hx ι F' Hy ι') (hk : ∀ u, H a = some u → H' a = some u) (h : RepO K F H ι a o) : RepO K F' H' ι' a o := by
  cases o with
  | lst ds =>
    obtain ⟨vs, h1, h2⟩ := h
    exact ⟨vs, hk _ h1, Reps.mono st ds vs h2⟩
  | ins c fs =>
    obtain ⟨dx, vs, h1, h2⟩ := h
    exact ⟨dx, vs, hk _ h1, Reps.mono st _ vs h2⟩
  | dct ks ds =>
    obtain ⟨vs, h1, h2, h3⟩ := h
    exact ⟨vs, hk _ h1, Reps.mono st ds vs h2, h3⟩
  | dci ks ds =>
    obtain ⟨vs, h1, h2, h3⟩ := h
    exact ⟨vs, hk _ h1, Reps.mono st ds vs h2, h3⟩
theorem Sto.freeze (s : Sto K F H ι S) {a : Addr} {o : HO} (h : H a = some o) (h1 : F a = none) (hn : a ∉ ι) : Sto K (upd F a o) H ι S := by
  have mo : Same F (upd F a o) := fun b u q => by rw [upd_ne (ne_of_none q h1)]; exact q
  refine ⟨fun b u q => ?_, s.len, s.nd, fun b hb => ?_, fun i ob hi => ?_⟩
  · by_cases e : b = a
    · subst e
      rw [upd_same] at q
      cases q
      exact h
    · rw [upd_ne e] at q
      exact s.sub _ _ q
  · rw [upd_ne (fun e => hn (by rw [← e]; exact hb))]
    exact s.off b hb
  · obtain ⟨b, h2, h3⟩ := s.obj i ob hi
    refine ⟨b, h2, ?_⟩
    have st : Stp F (fun _ => none) ι (upd F a o) (fun _ => none) ι := ⟨mo, ⟨[], by simp⟩, (fun _ _ q => nomatch q), fun _ _ _ => rfl, fun _ h => .inl h, fun _ h => absurd rfl h⟩
    exact RepO.fr st (fun _ q => q) h3
/-- a list of one's own, not in the store, made or written -/
theorem Stp.ow (s : Stp F H ι F' H' ι') {a : Addr} (h0 : H a = none) (o : HO) : Stp F H ι F' (upd H' a o) ι' := by
  refine ⟨s.fr, s.pre, fun b u q hb => ?_, s.frz, s.new, fun b h => ?_⟩
  · rw [upd_ne (ne_of_none q h0)]
    exact s.keep b u q hb
  · by_cases e : b = a
    · rw [e, upd_same]; exact fun z => nomatch z
    · rw [upd_ne e]; exact s.live b h
theorem Sto.ow (s : Sto K F H ι S) {a : Addr} (h1 : F a = none) (hn : a ∉ ι) (o : HO) : Sto K F (upd H a o) ι S := by
  refine ⟨fun b u q => ?_, s.len, s.nd, s.off, fun i ob hi => ?_⟩
  · rw [upd_ne (ne_of_none q h1)]
    exact s.sub _ _ q
  · obtain ⟨b, h2, h3⟩ := s.obj i ob hi
    refine ⟨b, h2, ?_⟩
    refine RepO.fr (Stp.refl (H := fun _ => none)) (fun u q => ?_) h3
    have ne : b ≠ a := fun e => hn (by rw [← e]; exact ix_mem h2)
    rw [upd_ne ne]
    exact q
theorem Sto.not_in (s : Sto K F H ι S) {a : Addr} (h : H a = none) : a ∉ ι := fun z => s.there z h
theorem Sto.fnone (s : Sto K F H ι S) {a : Addr} (h : H a = none) : F a = none := Same.free s.sub h
theorem Stp.back (s : Stp F H ι F' H' ι') {a : Addr} (h : H' a = none) : H a = none := by
  cases q : H a with
  | none => rfl
  | some u => exact absurd h (s.live a (by rw [q]; exact fun z => nomatch z))
/-- a frozen list's data -/
theorem fr_dq {a : Addr} {vs : List V} {xs : List PyData} (h1 : F a = none) (h : DqAll K F vs xs) : Dq K (upd F a (.lst vs)) (.ref a) (.list xs) :=
  .lst (.inl rd_upd) (dqAll_mono (fun b u q => by rw [upd_ne (ne_of_none q h1)]; exact q) _ _ h)
end
abbrev GF (X : Cx) (ca : Nat → Addr) (W : WX) (G : Nat → D) (Fn : Nat → List D → Store → Out D) (e' : E) (e : Expr) : Prop := PE X e fun σ H Q => tG ca X.K W (RFr X.K H) (evE G Fn e') σ H Q
section
variable {X : Cx} {ca : Nat → Addr} {W : WX} {G : Nat → D} {Fn : Nat → List D → Store → Out D} {a b c e : Expr} {a' b' c' e' : E} {es : List Expr} {es' : List E} {pos p : Pos}
/-- frozen at once -/
theorem g_fr (h : GF X ca W G Fn e' e) : GE X ca W G Fn e' e := by
  refine PE.weaken h fun σ H Q ⟨F, ι, S, ρ, own, st, en, h⟩ => tG_ex st en ?_
  revert h
  cases evE G Fn e' ρ S with
  | bad => exact fun h => h
  | exc x S1 => exact fun h => h
  | ok d S1 =>
    intro h v F1 H1 ι1 s1 st1 ⟨xs, a, vs, e1, e2, h0, h1, h2, h3, h4⟩
    subst e1 e2
    exact h _ _ H1 ι1 (s1.freeze h0 h1 (.lst vs)) (st1.freeze h3 h1 h2) (rep_p.mpr (fr_dq h1 h4))
/-- kept in the store -/
theorem keep_step {F H F1 H1 : Hp} {ι ι1 : List Addr} {S1 : Store} {d : D} {v : V} (s1 : Stp F H ι F1 H1 ι1) (st1 : Sto X.K F1 H1 ι1 S1) (r : RFr X.K H F1 H1 ι1 d v) :
    ∃ xs ι2, d = .p (.list xs) ∧ Stp F H ι F1 H1 ι2 ∧ Sto X.K F1 H1 ι2 (S1 ++ [.lst (xs.map .p)]) ∧ Rep X.K F1 ι2 (.ref S1.length) v := by
  obtain ⟨xs, a, vs, e1, e2, h0, h1, h2, h3, h4⟩ := r
  subst e1 e2
  have s2 : Stp F H ι F1 H1 (ι1 ++ [a]) := by
    obtain ⟨τ, hτ⟩ := s1.pre
    refine ⟨s1.fr, ⟨τ ++ [a], by rw [hτ, List.append_assoc]⟩, s1.keep, s1.frz, fun b hb => ?_, s1.live⟩
    rcases List.mem_append.mp hb with hb | hb
    · exact s1.new b hb
    · rw [List.mem_singleton.mp hb]; exact .inr h0
  have mo : Stp F1 H1 ι1 F1 H1 (ι1 ++ [a]) → True := fun _ => True.intro
  have rm : ∀ (ds : List D) (vs : List V), Reps X.K F1 ι1 ds vs → Reps X.K F1 (ι1 ++ [a]) ds vs := fun ds vs r => by
    have st : Stp F1 (fun _ => none) ι1 F1 (fun _ => none) (ι1 ++ [a]) := ⟨Same.refl F1, ⟨[a], rfl⟩, (fun _ _ q => nomatch q), fun _ _ _ => rfl, fun _ h => .inr rfl, fun _ h => absurd rfl h⟩
    exact Reps.mono st _ _ r
  have st2 : Sto X.K F1 H1 (ι1 ++ [a]) (S1 ++ [.lst (xs.map .p)]) := by
    refine ⟨st1.sub, by rw [List.length_append, List.length_append, st1.len]; rfl, ?_, fun b hb => ?_, fun i o hi => ?_⟩
    · refine List.nodup_append.mpr ⟨st1.nd, List.nodup_cons.mpr ⟨by simp, List.nodup_nil⟩, fun x hx y hy z => ?_⟩
      rw [List.mem_singleton.mp hy] at z
      exact h2 (z ▸ hx)
    · rcases List.mem_append.mp hb with hb | hb
      · exact st1.off b hb
      · rw [List.mem_singleton.mp hb]; exact h1
    · by_cases z : i < S1.length
      · rw [List.getElem?_append_left z] at hi
        obtain ⟨b, g1, g2⟩ := st1.obj i o hi
        refine ⟨b, ?_, ?_⟩
        · rw [List.getElem?_append_left (List.getElem?_eq_some_iff.mp g1).1]; exact g1
        · have st : Stp F1 (fun _ => none) ι1 F1 (fun _ => none) (ι1 ++ [a]) := ⟨Same.refl F1, ⟨[a], rfl⟩, (fun _ _ q => nomatch q), fun _ _ _ => rfl, fun _ h => .inr rfl, fun _ h => absurd rfl h⟩
          exact RepO.fr st (fun _ q => q) g2
      · rw [List.getElem?_append_right (by omega)] at hi
        have ei : i - S1.length = 0 := by
          by_cases y : i - S1.length = 0
          · exact y
          · rw [List.getElem?_eq_none (by simp; omega)] at hi
            cases hi
        rw [ei] at hi
        cases hi
        refine ⟨a, ?_, vs, h3, rm _ _ (reps_map.mpr h4)⟩
        rw [List.getElem?_append_right (by rw [st1.len]; omega), st1.len, ei]
        rfl
  refine ⟨xs, ι1 ++ [a], rfl, s2, st2, rep_ref.mpr ⟨a, rfl, ?_⟩⟩
  rw [← st1.len, List.getElem?_append_right (Nat.le_refl _), Nat.sub_self]
  rfl
theorem g_keep (h : GF X ca W G Fn e' e) : GE X ca W G Fn (.keep e') e := by
  refine PE.weaken h fun σ H Q ⟨F, ι, S, ρ, own, st, en, h⟩ => tG_ex st en ?_
  rw [evE_keep] at h
  revert h
  cases evE G Fn e' ρ S with
  | bad => exact fun h => h
  | exc x S1 => exact fun h => h
  | ok d S1 =>
    intro h v F1 H1 ι1 s1 st1 r
    obtain ⟨xs, ι2, rfl, s2, st2, r2⟩ := keep_step s1 st1 r
    exact h _ F1 H1 ι2 s2 st2 r2
/-- a list display as a fresh list -/
theorem gf_lst (hl : GV X ca W G Fn es' es) : GF X ca W G Fn (.ef .mkl es') (.List es pos) := by
  refine PE.weaken (pe_lst hl) fun σ H Q ⟨F, ι, S, ρ, own, st, en, h⟩ => ?_
  rw [evE_ef] at h
  refine tG_ex st en (h.bind_ fun ds S1 vs F1 H1 ι1 s1 st1 r1 h1 => ?_)
  rw [kEf_eq, mutl_mkl] at h1
  obtain ⟨d, e, h1⟩ := PostG.of h1
  rw [p_mkl_0] at e
  split at e
  · rename_i hz
    refine ⟨fits_V hz r1, fun p hp => ?_⟩
    obtain ⟨xs, e2, rfl⟩ := map_some e
    exact h1 _ F1 _ ι1 (Stp.refl.ow hp _) (st1.ow (st1.fnone hp) (st1.not_in hp) _) ⟨xs, p, vs, rfl, rfl, s1.back hp, st1.fnone hp, st1.not_in hp, upd_same, reps_pures e2 r1⟩
  · cases e

/-! ### tests of a comprehension -/
abbrev GC (X : Cx) (ca : Nat → Addr) (W : WX) (G : Nat → D) (Fn : Nat → List D → Store → Out D) (cs : List E) (es : List Expr) : Prop := PTs X es (tG ca X.K W RBl (evC G Fn cs))
theorem PTs.weaken {X : Cx} {e : List Expr} {t t' : TT} (h : PTs X e t) (w : ∀ σ H Q, t' σ H Q → t σ H Q) : PTs X e t' := ⟨fun pins s σ H Q I q => h.run pins s σ H Q I (w σ H Q q)⟩
theorem gc_nil : GC X ca W G Fn [] [] := by
  refine PTs.weaken pts_nil fun σ H Q ⟨F, ι, S, ρ, own, st, en, h⟩ => ?_
  rw [evC] at h
  exact h true F H ι Stp.refl st rfl
theorem gc_one (h : GT X ca W G Fn c' c) : GC X ca W G Fn [c'] [c] := by
  refine PTs.weaken (pts_one h) fun σ H Q ⟨F, ι, S, ρ, own, st, en, h⟩ => tG_ex st en ?_
  rw [evC] at h
  show PostG ca X.K W σ F H ι RBl Q ((evE G Fn c' ρ S).bind tru)
  revert h
  cases evE G Fn c' ρ S with
  | bad => exact fun h => h
  | exc x S1 => exact fun h => h
  | ok d S1 =>
    intro h
    have h : PostG ca X.K W σ F H ι RBl Q ((Out.of (truth S1 d) S1).bind fun c S2 => if c = true then evC G Fn [] ρ S2 else .ok false S2) := h
    show PostG ca X.K W σ F H ι RBl Q (Out.of (truth S1 d) S1)
    cases q : truth S1 d with
    | none => rw [q] at h; exact h.elim
    | some k =>
      rw [q] at h
      cases k with
      | true =>
        have h : PostG ca X.K W σ F H ι RBl Q (evC G Fn [] ρ S1) := h
        rw [evC] at h
        exact h
      | false => exact h
end
mutual
theorem wipeT_get : ∀ (t : Tg) (ρ : EC.Env) (j : Nat), (wipeT t ρ)[j]? = if j ∈ slotsT t ∧ j < ρ.length then some .un else ρ[j]?
  | .nm i, ρ, j => by
    unfold wipeT slotsT
    by_cases e : i = j
    · subst e
      by_cases hl : i < ρ.length
      · rw [List.getElem?_set_self hl, if_pos ⟨List.mem_singleton.mpr rfl, hl⟩]
      · rw [List.getElem?_eq_none (by rw [List.length_set]; omega), if_neg (fun h => hl h.2), List.getElem?_eq_none (by omega)]
    · rw [List.getElem?_set_ne e, if_neg (fun h => e (List.mem_singleton.mp h.1).symm)]
  | .tup ts, ρ, j => by
    unfold wipeT slotsT
    exact wipeTs_get ts ρ j
theorem wipeTs_get : ∀ (ts : List Tg) (ρ : EC.Env) (j : Nat), (wipeTs ts ρ)[j]? = if j ∈ slotsTs ts ∧ j < ρ.length then some .un else ρ[j]?
  | [], ρ, j => by
    unfold wipeTs slotsTs
    rw [if_neg (fun h => nomatch h.1)]
  | t :: ts, ρ, j => by
    unfold wipeTs slotsTs
    rw [wipeTs_get ts, wipeT_get t, wipeT_len t]
    by_cases hl : j < ρ.length
    · by_cases h1 : j ∈ slotsT t
      · by_cases h2 : j ∈ slotsTs ts
        · simp [h1, h2, hl]
        · simp [h1, h2, hl]
      · by_cases h2 : j ∈ slotsTs ts
        · simp [h1, h2, hl]
        · simp [h1, h2, hl]
    · simp [hl]
theorem wipeT_len : ∀ (t : Tg) (ρ : EC.Env), (wipeT t ρ).length = ρ.length
  | .nm i, ρ => by unfold wipeT; rw [List.length_set]
  | .tup ts, ρ => by unfold wipeT; exact wipeTs_len ts ρ
theorem wipeTs_len : ∀ (ts : List Tg) (ρ : EC.Env), (wipeTs ts ρ).length = ρ.length
  | [], ρ => by unfold wipeTs; rfl
  | t :: ts, ρ => by unfold wipeTs; rw [wipeTs_len ts, wipeT_len t]
end
section
variable {K : PySem.W.Frag} {F H : Hp} {ι : List Addr} {ρ : EC.Env} {σ : L2.St} {own : Nat → Option Addr}
theorem EnvR.wipe (en : EnvR K F H ι own ρ σ) (t : Tg) : EnvR K F H ι own (wipeT t ρ) (L2.wipe σ (slotsT t)) := by
  refine ⟨by rw [wipeT_len, wipe_length]; exact en.len, fun j s h => ?_, en.off, en.inj⟩
  rw [wipeT_get] at h
  rw [wipe_get]
  by_cases z : j ∈ slotsT t ∧ j < ρ.length
  · rw [if_pos z] at h
    cases h
    exact True.intro
  · rw [if_neg z] at h
    rw [if_neg (by rw [← en.len]; exact z)]
    exact en.slot j s h
end
section
variable {K : PySem.W.Frag} {F H : Hp} {ι : List Addr} {ρ : EC.Env} {σ : L2.St} {own : Nat → Option Addr}
theorem EnvR.ow (en : EnvR K F H ι own ρ σ) {a : Addr} (hn : ∀ i b, own i = some b → b ≠ a) (o : HO) : EnvR K F (upd H a o) ι own ρ σ := by
  refine ⟨en.len, fun j s h => ?_, fun i b h => ?_, en.inj⟩
  · have q := en.slot j s h
    cases s with
    | un => exact q
    | v d => exact q
    | own xs =>
      obtain ⟨b, vs, h1, h2, h3, h4⟩ := q
      exact ⟨b, vs, h1, h2, by rw [upd_ne (hn j b h1)]; exact h3, h4⟩
  · obtain ⟨h1, h2, h3⟩ := en.off i b h
    exact ⟨h1, h2, by rw [upd_ne (hn i b h)]; exact h3⟩
end
theorem compL_nx {step : D → Store → Out (Option PyData)} : ∀ {l : List D} {S : Store} {x : Exc} {S' : Store}, compL step l S ≠ .exc x S'
  | [], _, _, _ => fun h => nomatch h
  | a :: r, S, x, S' => by
    rw [compL_cons]
    cases step a S with
    | bad => exact fun h => nomatch h
    | exc y S1 => exact fun h => nomatch h
    | ok y S1 =>
      show (compL step r S1).bind (kAddO y) ≠ _
      cases q : compL step r S1 with
      | bad => exact fun h => nomatch h
      | exc z S2 => exact absurd q compL_nx
      | ok zs S2 => exact fun h => nomatch h
section
variable {X : Cx} {ca : Nat → Addr} {W : WX} {G : Nat → D} {Fn : Nat → List D → Store → Out D} {e' : E} {es' cs : List E} {pos p : Pos}
theorem fits_acc {step : D → Store → Out (Option PyData)} {l : List D} {S : Store} {ys : List PyData} {σ : L2.St} {F H : Hp} {ι : List Addr} {R : Hp → Hp → List Addr → D → V → Prop} {Q : VK} (h : PostG ca X.K W σ F H ι R Q ((compL step l S).bind fun zs S' => kCmp3 (ys ++ zs) S')) : ys.length ≤ sizeLine := by
  revert h
  cases q : compL step l S with
  | bad => exact fun h => h.elim
  | exc x S1 => exact absurd q compL_nx
  | ok zs S1 =>
    intro h
    have h : PostG ca X.K W σ F H ι R Q (kCmp3 (ys ++ zs) S1) := h
    rw [kCmp3_eq] at h
    split at h
    · rename_i hz
      have := fits_le hz
      rw [List.length_append] at this
      omega
    · exact h.elim
/-- the reading of a comprehension -/
theorem lc_read {t : Tg} {k : Ik} {σ : L2.St} {H : Hp} {Q : VK} (hq : tG ca X.K W (RFr X.K H) (evE G Fn (.comp t k es' cs e')) σ H Q) :
    tLc (tG ca X.K W (RI X.K false) fun ρ S => (evB false G Fn es' ρ S).bind (kIt k)) (gT X.K t) (tG ca X.K W0 RBl (evC G Fn cs)) (tG ca X.K W0 (RV X.K) (evE G Fn e')) (slotsT t) σ H Q := by
  obtain ⟨F, ι, S, ρ, own, st, en, h⟩ := hq
  rw [evE_comp] at h
  have e0 : (evA G Fn es' ρ S).bind (kCmp G Fn t k cs e' ρ) = ((evA G Fn es' ρ S).bind (kIt k)).bind fun xs S1 => (compL (stepC G Fn t cs e' ρ) xs S1).bind kCmp3 := by
    rw [bind_assoc]
    congr
    funext ds S1
    rw [kCmp_eq]
    unfold kIt
    cases items S1 k ds <;> rfl
  rw [e0] at h
  refine tG_ex st en (h.bind_ fun xs S1 J F1 H1 ι1 s1 st1 wk h1 => ?_)
  have en1 := en.mono s1
  intro D hD
  obtain ⟨Gd, Y, w, hGd, hY⟩ := (show Wk X.K J xs (okD F1 H1 ι1) from wk).ex
  have od : ∀ i b, own i = some b → b ≠ D := fun i b hb e => (en1.off i b hb).2.2 (by rw [e]; exact hD)
  have f1 := st1.fnone hD
  have n1 := st1.not_in hD
  refine lc_it w (fun i H2 => ∃ F2 ι2 S2 ys vs, Stp F1 H1 ι1 F2 H2 ι2 ∧ Sto X.K F2 H2 ι2 S2 ∧ H2 D = some (.lst vs) ∧ F2 D = none ∧ D ∉ ι2 ∧ DqAll X.K F2 vs ys ∧ EnvR X.K F2 H2 ι2 own ρ σ ∧
    PostG ca X.K W σ F1 H1 ι1 (RFr X.K H) Q ((compL (stepC G Fn t cs e' ρ) (xs.drop i) S2).bind fun zs S' => kCmp3 (ys ++ zs) S')) ?_ (fun i H2 _ ⟨F2, ι2, S2, ys, vs, s2, st2, _⟩ => hGd F2 H2 ι2 S2 s2 st2) ?_ ?_
  · exact ⟨F1, ι1, S1, [], [], Stp.refl.ow hD _, st1.ow f1 n1 _, upd_same, f1, n1, .nil, en1.ow od _, h1⟩
  · rintro i x H2 H2' hi ⟨F2, ι2, S2, ys, vs, s2, st2, d2, f2, n2, dq2, en2, h2⟩ y
    obtain ⟨F3, s3, st3, r3⟩ := hY i x xs[i] F2 H2 H2' ι2 S2 s2 st2 (List.getElem?_eq_getElem hi) y
    have d3 : H2' D = some (.lst vs) := s3.keep D _ d2 n2
    have f3 : F3 D = none := by
      cases q : F3 D with
      | none => rfl
      | some u =>
        have := s3.frz D f2 (by rw [q]; exact fun z => nomatch z)
        rw [d2] at this
        cases this
    rw [List.drop_eq_getElem_cons hi, compL_cons, bind_assoc] at h2
    cases hb : bindT t xs[i] (wipeT t ρ) with
    | none =>
      rw [stepC_eq, hb] at h2
      exact h2.elim
    | some ρ' =>
      rw [stepC_eq, hb, stepC1_eq, noX_bind, bind_assoc] at h2
      refine ⟨F3, ι2, S2, wipeT t ρ, own, xs[i], ρ', st3, (en2.mono s3).wipe t, r3, hb, fun σ' en' off' => ⟨?_, ?_⟩⟩
      · rw [off'.wipe fun j hj => hj]
        refine List.ext_getElem? fun j => ?_
        rw [wipe_get, wipe_get, wipe_length]
        by_cases z : j ∈ slotsT t ∧ j < σ.length
        · rw [if_pos z, if_pos z]
        · rw [if_neg z, if_neg z]
      · refine tG_ex st3 en' (PostG.noX_ h2 fun c S4 v F4 H4 ι4 s4 st4 r4 h4 => ?_)
        have r4 : v = c := r4
        subst r4
        have d4 : H4 D = some (.lst vs) := s4.keep D _ d3 n2
        have keepF : ∀ {Fa Ha Fb Hb : Hp} {ιa ιb : List Addr}, Stp Fa Ha ιa Fb Hb ιb → Fa D = none → Ha D = some (.lst vs) → D ∉ ιa → Fb D = none ∧ D ∉ ιb := fun {Fa Ha Fb Hb ιa ιb} s fa ha na => by
          refine ⟨?_, fun z => ?_⟩
          · cases q : Fb D with
            | none => rfl
            | some u =>
              have := s.frz D fa (by rw [q]; exact fun z => nomatch z)
              rw [ha] at this
              cases this
          · rcases s.new D z with z | z
            · exact na z
            · rw [ha] at z; cases z
        obtain ⟨f4, n4⟩ := keepF s4 f3 d3 n2
        have s14 := (s2.trans s3).trans s4
        have en4 := (en2.mono s3).mono s4
        cases v with
        | false =>
          rw [kE2_f] at h4
          have h4 : PostG ca X.K W σ F1 H1 ι1 (RFr X.K H) Q (((compL (stepC G Fn t cs e' ρ) (xs.drop (i + 1)) S4).bind (kAddO none)).bind fun zs S' => kCmp3 (ys ++ zs) S') := h4
          rw [bind_assoc] at h4
          rw [if_neg Bool.false_ne_true]
          exact ⟨F4, ι4, S4, ys, vs, s14, st4, d4, f4, n4, dqAll_mono (s3.trans s4).fr _ _ dq2, en4, h4⟩
        | true =>
          rw [kE2_t, noX_bind, bind_assoc] at h4
          rw [if_pos rfl]
          refine tG_ex st4 (en'.mono s4) (PostG.noX_ h4 fun d S5 u F5 H5 ι5 s5 st5 r5 h5 => ?_)
          cases d with
          | p z =>
            have h5 : PostG ca X.K W σ F1 H1 ι1 (RFr X.K H) Q (((compL (stepC G Fn t cs e' ρ) (xs.drop (i + 1)) S5).bind (kAddO (some z))).bind fun zs S' => kCmp3 (ys ++ zs) S') := h5
            rw [bind_assoc] at h5
            have h6 : PostG ca X.K W σ F1 H1 ι1 (RFr X.K H) Q ((compL (stepC G Fn t cs e' ρ) (xs.drop (i + 1)) S5).bind fun zs S' => kCmp3 ((ys ++ [z]) ++ zs) S') := by
              have e6 : (fun (zs : List PyData) (S' : Store) => kCmp3 ((ys ++ [z]) ++ zs) S') = fun zs S' => (kAddO (some z) zs S').bind fun zs S' => kCmp3 (ys ++ zs) S' := by
                funext zs S'
                show kCmp3 ((ys ++ [z]) ++ zs) S' = kCmp3 (ys ++ (z :: zs)) S'
                rw [List.append_assoc]
                rfl
              rw [e6]
              exact h5
            have lz := fits_acc h6
            rw [List.length_append, List.length_singleton] at lz
            have dq5 := dqAll_mono ((s3.trans s4).trans s5).fr _ _ dq2
            obtain ⟨f5, n5⟩ := keepF s5 f4 d4 n4
            refine ⟨vs, s5.keep D _ d4 n4, by rw [dq5.len]; omega, F5, ι5, S5, ys ++ [z], vs ++ [u], (s14.trans s5).ow hD _, st5.ow f5 n5 _, upd_same, f5, n5, dq5.append (.cons (rep_p.mp r5) .nil), (en4.mono s5).ow od _, h6⟩
          | _ => exact h5.elim
  · rintro H2 ⟨F2, ι2, S2, ys, vs, s2, st2, d2, f2, n2, dq2, en2, h2⟩
    rw [List.drop_length] at h2
    have h2 : PostG ca X.K W σ F1 H1 ι1 (RFr X.K H) Q (kCmp3 (ys ++ []) S2) := h2
    rw [List.append_nil, kCmp3_eq] at h2
    split at h2
    · exact h2 _ F2 H2 ι2 s2 st2 ⟨ys, D, vs, rfl, rfl, s1.back hD, f2, n2, d2, dq2⟩
    · exact h2.elim
theorem gf_lc {elt tg iter : Expr} {ifs : List Expr} {scope : Scope} {own' : List (Str × Nat)} {t : Tg} {k : Ik} (hc : X.calm = true) (hN : X.N.Nodup) (hi : GI false X ca W G Fn k es' tg iter) (ok : BlkOk X.N X.env.scope scope own') (hv : own'.map (·.2) = slotsT t)
    (hg : ∀ (s : Shared) (H : Hp) (C : Addr) (cl : List (Str × Addr)) (fp : List Addr), GG (X.blk s H scope (compEnvC scope cl C X.env) fp) t tg) (ht : ∀ (s : Shared) (H : Hp) (C : Addr) (cl : List (Str × Addr)) (fp : List Addr), GC (X.blk s H scope (compEnvC scope cl C X.env) fp) ca W0 G Fn cs ifs)
    (he : ∀ (s : Shared) (H : Hp) (C : Addr) (cl : List (Str × Addr)) (fp : List Addr), GE (X.blk s H scope (compEnvC scope cl C X.env) fp) ca W0 G Fn e' elt) (hs : ∀ x, foldedSetIterable iter X.env x = pure x := by intro _; rfl) :
    GF X ca W G Fn (.comp t k es' cs e') (.ListComp elt [⟨tg, iter, ifs, 0⟩] scope pos) := by
  have hg' : ∀ (s : Shared) (H : Hp) (C : Addr) (cl : List (Str × Addr)) (fp : List Addr), PG (X.blk s H scope (compEnvC scope cl C X.env) fp) tg (gT X.K t) := hg
  have ht' : ∀ (s : Shared) (H : Hp) (C : Addr) (cl : List (Str × Addr)) (fp : List Addr), PTs (X.blk s H scope (compEnvC scope cl C X.env) fp) ifs (tG ca X.K W0 RBl (evC G Fn cs)) := ht
  have he' : ∀ (s : Shared) (H : Hp) (C : Addr) (cl : List (Str × Addr)) (fp : List Addr), PE (X.blk s H scope (compEnvC scope cl C X.env) fp) elt (tG ca X.K W0 (RV X.K) (evE G Fn e')) := he
  refine PE.weaken (pe_lc hc hN hi ok hg' ht' he' hs) fun σ H Q h => ?_
  rw [hv]
  exact lc_read h
end
end EC

namespace EC
open PySem PySem.Spec PyProof.Rows L2
variable [CA]
/-! ### statements -/
structure Ent (F0 H0 : Hp) (ι0 : List Addr) (F H : Hp) (ι : List Addr) (own : Nat → Option Addr) : Prop where
  st : Stp F0 H0 ι0 F H ι
  ow : ∀ i a, own i = some a → H0 a = none
def PostS (ca : Nat → Addr) (K : PySem.W.Frag) (W : WX) (F0 H0 : Hp) (ι0 : List Addr) (Fc : Hp) (D : Ends) : Out Fl → Prop
  | .ok (.nx ρ) S => ∀ σ F H ι own, Same Fc F → Sto K F H ι S → EnvR K F H ι own ρ σ → Ent F0 H0 ι0 F H ι own → D.nx σ H
  | .ok (.ct ρ) S => ∀ σ F H ι own, Same Fc F → Sto K F H ι S → EnvR K F H ι own ρ σ → Ent F0 H0 ι0 F H ι own → D.ct σ H
  | .ok (.bk ρ) S => ∀ σ F H ι own, Same Fc F → Sto K F H ι S → EnvR K F H ι own ρ σ → Ent F0 H0 ι0 F H ι own → D.bk σ H
  | .ok (.rt d) S => ∀ v F H ι, Stp F0 H0 ι0 F H ι → Sto K F H ι S → Rep K F ι d v → D.rt v H
  | .exc e S => ∀ σ cls dx F H ι, Stp F0 H0 ι0 F H ι → Sto K F H ι S → RepX ca K F H ι e cls dx → W cls dx σ H
  | .bad => False
def tS (ca : Nat → Addr) (K : PySem.W.Frag) (W : WX) (F0 H0 : Hp) (ι0 : List Addr) (m : EC.Env → Store → Out Fl) : TS := fun D σ H =>
  ∃ F ι S ρ own, Sto K F H ι S ∧ EnvR K F H ι own ρ σ ∧ Ent F0 H0 ι0 F H ι own ∧ PostS ca K W F0 H0 ι0 F D (m ρ S)
section
variable {ca : Nat → Addr} {K : PySem.W.Frag} {W : WX} {F0 H0 F H F' H' : Hp} {ι0 ι ι' : List Addr} {σ : L2.St} {D : Ends} {S S' : Store} {ρ ρ' : EC.Env} {own : Nat → Option Addr}
theorem PostS.mono {m : Out Fl} (h : PostS ca K W F0 H0 ι0 F D m) (e : Same F F') : PostS ca K W F0 H0 ι0 F' D m := by
  cases m with
  | bad => exact h
  | exc x S => exact h
  | ok f S =>
    cases f with
    | nx ρ => exact fun σ F2 H2 ι2 own2 s => h σ F2 H2 ι2 own2 (e.trans s)
    | ct ρ => exact fun σ F2 H2 ι2 own2 s => h σ F2 H2 ι2 own2 (e.trans s)
    | bk ρ => exact fun σ F2 H2 ι2 own2 s => h σ F2 H2 ι2 own2 (e.trans s)
    | rt d => exact h
theorem Ent.mono (e : Ent F0 H0 ι0 F H ι own) (s : Stp F H ι F' H' ι') : Ent F0 H0 ι0 F' H' ι' own := ⟨e.st.trans s, e.ow⟩
/-- a reading inside a statement -/
theorem PostS.bindE {α β : Type} {R : Hp → Hp → List Addr → α → β → Prop} {Q : β → Hp → Prop} {m : Out α} {k : α → Store → Out Fl} (h : PostS ca K W F0 H0 ι0 F D (m.bind k)) (en : Ent F0 H0 ι0 F H ι own)
    (g : ∀ d S' v F' H' ι', Stp F H ι F' H' ι' → Sto K F' H' ι' S' → R F' H' ι' d v → Ent F0 H0 ι0 F' H' ι' own → PostS ca K W F0 H0 ι0 F' D (k d S') → Q v H') : PostG ca K W σ F H ι R Q m := by
  cases m with
  | bad => exact h
  | exc x S => exact fun c d F2 H2 ι2 s2 st2 r2 => h σ c d F2 H2 ι2 (en.st.trans s2) st2 r2
  | ok d S =>
    have h : PostS ca K W F0 H0 ι0 F D (k d S) := h
    exact fun v F2 H2 ι2 s2 st2 r2 => g d S v F2 H2 ι2 s2 st2 r2 (en.mono s2) (h.mono s2.fr)
end
abbrev GS (X : Cx) (ca : Nat → Addr) (W : WX) (F0 H0 : Hp) (ι0 : List Addr) (G : Nat → D) (Fn : Nat → List D → Store → Out D) (s' : EC.S) (s : Stmt) : Prop := PS X s (tS ca X.K W F0 H0 ι0 (evS G Fn s'))
abbrev GSs (X : Cx) (ca : Nat → Addr) (W : WX) (F0 H0 : Hp) (ι0 : List Addr) (G : Nat → D) (Fn : Nat → List D → Store → Out D) (s' : List EC.S) (s : List Stmt) : Prop := PSs X s (tS ca X.K W F0 H0 ι0 (evSs G Fn s'))
section
variable {X : Cx} {ca : Nat → Addr} {W : WX} {F0 H0 : Hp} {ι0 : List Addr} {G : Nat → D} {Fn : Nat → List D → Store → Out D} {a b c e : Expr} {a' b' c' e' : E} {es : List Expr} {es' : List E} {pos p : Pos} {s : Stmt} {ss ss2 : List Stmt} {s' : EC.S} {ss' ss2' : List EC.S}
theorem tS_ex {K : PySem.W.Frag} {m : EC.Env → Store → Out Fl} {σ : L2.St} {F H : Hp} {ι : List Addr} {S : Store} {ρ : EC.Env} {own : Nat → Option Addr} {D : Ends} (st : Sto K F H ι S) (en : EnvR K F H ι own ρ σ) (et : Ent F0 H0 ι0 F H ι own) (h : PostS ca K W F0 H0 ι0 F D (m ρ S)) : tS ca K W F0 H0 ι0 m D σ H := ⟨F, ι, S, ρ, own, st, en, et, h⟩
theorem gss_nil : GSs X ca W F0 H0 ι0 G Fn [] [] := by
  refine PSs.weaken pss_nil fun D σ H ⟨F, ι, S, ρ, own, st, en, et, h⟩ => ?_
  rw [evSs_nil] at h
  exact h σ F H ι own (Same.refl F) st en et
/-- a statement, then the rest -/
theorem PostS.seq {F : Hp} {D : Ends} {m : Out Fl} {k : Fl → Store → Out Fl} {N : L2.St → Hp → Prop} (hk : ∀ f S, (∀ ρ, f ≠ .nx ρ) → k f S = .ok f S) (h : PostS ca X.K W F0 H0 ι0 F D (m.bind k))
    (g : ∀ ρ S' σ F' H' ι' own, Same F F' → Sto X.K F' H' ι' S' → EnvR X.K F' H' ι' own ρ σ → Ent F0 H0 ι0 F' H' ι' own → PostS ca X.K W F0 H0 ι0 F' D (k (.nx ρ) S') → N σ H') : PostS ca X.K W F0 H0 ι0 F { D with nx := N } m := by
  cases m with
  | bad => exact h
  | exc x S => exact h
  | ok f S =>
    have h : PostS ca X.K W F0 H0 ι0 F D (k f S) := h
    cases f with
    | nx ρ => exact fun σ F2 H2 ι2 own2 s st en et => g ρ S σ F2 H2 ι2 own2 s st en et (h.mono s)
    | ct ρ => rw [hk (.ct ρ) S (fun _ z => by cases z)] at h; exact h
    | bk ρ => rw [hk (.bk ρ) S (fun _ z => by cases z)] at h; exact h
    | rt d => rw [hk (.rt d) S (fun _ z => by cases z)] at h; exact h
theorem gss_cons (h1 : GS X ca W F0 H0 ι0 G Fn s' s) (h2 : GSs X ca W F0 H0 ι0 G Fn ss' ss) : GSs X ca W F0 H0 ι0 G Fn (s' :: ss') (s :: ss) := by
  refine PSs.weaken (pss_cons h1 h2) fun D σ H ⟨F, ι, S, ρ, own, st, en, et, h⟩ => ?_
  rw [evSs_cons] at h
  refine tS_ex st en et (PostS.seq (fun f S hf => ?_) h fun ρ' S' σ' F' H' ι' own' s1 st1 en1 et1 h1 => tS_ex st1 en1 et1 h1)
  cases f with
  | nx ρ => exact absurd rfl (hf ρ)
  | _ => rfl
theorem gs_ex (he : GE X ca W G Fn e' e) (hs : swapsWith e none pos.line X.env = pure false := by rfl) : GS X ca W F0 H0 ι0 G Fn (.ex e') (.Expr e pos) := by
  refine PS.weaken (ps_expr he hs) fun D σ H ⟨F, ι, S, ρ, own, st, en, et, h⟩ => ?_
  rw [evS_ex] at h
  exact tG_ex st en (h.bindE et fun d S1 v F1 H1 ι1 s1 st1 r1 et1 h1 => h1 σ F1 H1 ι1 own (Same.refl F1) st1 (en.mono s1) et1)
theorem gs_if (hc : GT X ca W G Fn c' c) (ha : GSs X ca W F0 H0 ι0 G Fn ss' ss) (hb : GSs X ca W F0 H0 ι0 G Fn ss2' ss2) : GS X ca W F0 H0 ι0 G Fn (.ifs c' ss' ss2') (.If c ss ss2 pos) := by
  refine PS.weaken (ps_if hc ha hb) fun D σ H ⟨F, ι, S, ρ, own, st, en, et, h⟩ => ?_
  rw [evS_ifs] at h
  have h : PostS ca X.K W F0 H0 ι0 F D (((evE G Fn c' ρ S).bind tru).bind fun k S1 => if k = true then evSs G Fn ss' ρ S1 else evSs G Fn ss2' ρ S1) := by
    rw [bind_assoc]
    have e0 : (fun (a : EC.D) (S1 : Store) => (tru a S1).bind fun k S1 => if k = true then evSs G Fn ss' ρ S1 else evSs G Fn ss2' ρ S1) = kIf G Fn ss' ss2' ρ := by
      funext x S1
      unfold kIf
      congr
      funext k S2
      cases k <;> rfl
    rw [e0]
    exact h
  refine tG_ex st en (h.bindE et fun k S1 v F1 H1 ι1 s1 st1 r1 et1 h1 => ?_)
  have r1 : v = k := r1
  subst r1
  cases v with
  | true => exact tS_ex st1 (en.mono s1) et1 h1
  | false => exact tS_ex st1 (en.mono s1) et1 h1
theorem gs_pass : GS X ca W F0 H0 ι0 G Fn .pass (.Pass pos) := by
  refine PS.weaken ps_pass fun D σ H ⟨F, ι, S, ρ, own, st, en, et, h⟩ => ?_
  rw [evS_pass] at h
  exact h σ F H ι own (Same.refl F) st en et
theorem gs_cont : GS X ca W F0 H0 ι0 G Fn .cont (.Continue pos) := by
  refine PS.weaken ps_continue fun D σ H ⟨F, ι, S, ρ, own, st, en, et, h⟩ => ?_
  rw [evS_cont] at h
  exact h σ F H ι own (Same.refl F) st en et

/-! ### names -/
/-- the end of an assignment -/
theorem asg_end {F H : Hp} {ι : List Addr} {S : Store} {ρ : EC.Env} {own : Nat → Option Addr} {σ : L2.St} {D : Ends} {t : Tg} {d : EC.D} {v : V} (st : Sto X.K F H ι S) (en : EnvR X.K F H ι own ρ σ) (et : Ent F0 H0 ι0 F H ι own) (r : Rep X.K F ι d v)
    (h : PostS ca X.K W F0 H0 ι0 F D (kAsg t ρ d S)) : gT X.K t v σ H D.nx := by
  unfold kAsg at h
  cases e : bindT t d ρ with
  | none => rw [e] at h; exact h.elim
  | some ρ' =>
    rw [e] at h
    exact ⟨F, ι, S, ρ, own, d, ρ', st, en, r, e, fun σ' en' _ => h σ' F H ι own (Same.refl F) st en' et⟩
theorem gs_asg {t : Tg} {tg : Expr} (hg : GG X t tg) (he : GE X ca W G Fn e' e) (hs : swapsWithSole [tg] e pos.line X.env = pure false := by rfl) (hw : swappedStores [tg] e X.env = pure none := by rfl)
    (h1 : (assignEach [tg] X.env).map (·.2) = [assign tg X.env] := by rfl) : GS X ca W F0 H0 ι0 G Fn (.asg t e') (.Assign [tg] e pos) := by
  refine PS.weaken (ps_asg he hg hs hw h1) fun D σ H ⟨F, ι, S, ρ, own, st, en, et, h⟩ => ?_
  rw [evS_asg] at h
  exact tG_ex st en (h.bindE et fun d S1 v F1 H1 ι1 s1 st1 r1 et1 h1 => asg_end st1 (en.mono s1) et1 r1 h1)
/-- x = e -/
theorem nm_end {F H : Hp} {ι : List Addr} {S : Store} {ρ : EC.Env} {own : Nat → Option Addr} {σ : L2.St} {D : Ends} {i : Nat} {d : EC.D} {v : V} (st : Sto X.K F H ι S) (en : EnvR X.K F H ι own ρ σ) (et : Ent F0 H0 ι0 F H ι own) (r : Rep X.K F ι d v)
    (h : PostS ca X.K W F0 H0 ι0 F D (kAsg (.nm i) ρ d S)) : gName i v σ H D.nx := by
  unfold kAsg at h
  unfold bindT at h
  split at h
  · exact h _ F H ι own (Same.refl F) st (en.set r) et
  · exact h.elim
theorem gs_set {i : Nat} {x : Str} {pos' : Pos} (hN : X.N.Nodup) (hi : X.N[i]? = some x) (hx : Loc X.env.scope x) (he : GE X ca W G Fn e' e) (hs : swapsWith e (some (.Name x pos')) pos.line X.env = pure false := by rfl) (hf : X.fn x = true ∨ X.env.scope.names.lookup x = some .local := by first | exact .inl rfl | exact .inr rfl | assumption) :
    GS X ca W F0 H0 ι0 G Fn (.asg (.nm i) e') (.Assign [.Name x pos'] e pos) := by
  refine PS.weaken (ps_set hN hi hx he hs hf) fun D σ H ⟨F, ι, S, ρ, own, st, en, et, h⟩ => ?_
  rw [evS_asg] at h
  exact tG_ex st en (h.bindE et fun d S1 v F1 H1 ι1 s1 st1 r1 et1 h1 => nm_end st1 (en.mono s1) et1 r1 h1)
end
end EC

namespace EC
open PySem PySem.Spec PyProof.Rows L2
variable [CA]
section
variable {K : PySem.W.Frag} {F0 H0 F H : Hp} {ι0 ι : List Addr} {σ : L2.St} {S : Store} {ρ ρ' : EC.Env} {own : Nat → Option Addr}
open Classical in
/-- the lists of one's own at the slots p are frozen -/
theorem freeze (st : Sto K F H ι S) (en : EnvR K F H ι own ρ σ) (et : Ent F0 H0 ι0 F H ι own) (p : Nat → Bool) (hl : ρ'.length = ρ.length) (hρ : ∀ j s', ρ'[j]? = some s' → ∃ s, ρ[j]? = some s ∧ s' = if p j = true then frz s else s) :
    ∃ F' own', Same F F' ∧ Sto K F' H ι S ∧ EnvR K F' H ι own' ρ' σ ∧ Ent F0 H0 ι0 F' H ι own' := by
  have Pd : ∀ b, (∃ i, p i = true ∧ own i = some b) ∨ ¬ (∃ i, p i = true ∧ own i = some b) := fun b => Classical.em _
  refine ⟨fun b => if (∃ i, p i = true ∧ own i = some b) then H b else F b, fun i => if p i = true then none else own i, ?_, ?_, ?_, ?_⟩
  · intro b u q
    show (if _ then _ else _) = _
    rw [if_neg]
    · exact q
    · rintro ⟨i, h1, h2⟩
      rw [(en.off i b h2).1] at q
      cases q
  · have mo : Same F (fun b => if (∃ i, p i = true ∧ own i = some b) then H b else F b) := fun b u q => by
      show (if _ then _ else _) = _
      rw [if_neg]
      · exact q
      · rintro ⟨i, h1, h2⟩
        rw [(en.off i b h2).1] at q
        cases q
    refine ⟨fun b u q => ?_, st.len, st.nd, fun b hb => ?_, fun i ob hi => ?_⟩
    · have q : (if (∃ i, p i = true ∧ own i = some b) then H b else F b) = some u := q
      split at q
      · exact q
      · exact st.sub _ _ q
    · show (if _ then _ else _) = _
      rw [if_neg]
      · exact st.off b hb
      · rintro ⟨i, h1, h2⟩
        exact (en.off i b h2).2.1 hb
    · obtain ⟨b, h2, h3⟩ := st.obj i ob hi
      refine ⟨b, h2, ?_⟩
      have s : Stp F (fun _ => none) ι (fun b => if (∃ i, p i = true ∧ own i = some b) then H b else F b) (fun _ => none) ι := ⟨mo, ⟨[], by simp⟩, (fun _ _ q => nomatch q), fun _ _ _ => rfl, fun _ h => .inl h, fun _ h => absurd rfl h⟩
      exact RepO.fr s (fun _ q => q) h3
  · have mo : Same F (fun b => if (∃ i, p i = true ∧ own i = some b) then H b else F b) := fun b u q => by
      show (if _ then _ else _) = _
      rw [if_neg]
      · exact q
      · rintro ⟨i, h1, h2⟩
        rw [(en.off i b h2).1] at q
        cases q
    have s : Stp F (fun _ => none) ι (fun b => if (∃ i, p i = true ∧ own i = some b) then H b else F b) (fun _ => none) ι := ⟨mo, ⟨[], by simp⟩, (fun _ _ q => nomatch q), fun _ _ _ => rfl, fun _ h => .inl h, fun _ h => absurd rfl h⟩
    refine ⟨hl.trans en.len, fun j s' h => ?_, fun i a h => ?_, fun i j a h1 h2 => ?_⟩
    · obtain ⟨s0, h1, rfl⟩ := hρ j s' h
      have q := en.slot j s0 h1
      by_cases z : p j = true
      · rw [if_pos z]
        cases s0 with
        | un => exact True.intro
        | v d =>
          obtain ⟨v, h2, h3⟩ := q
          exact ⟨v, h2, Rep.mono s _ _ h3⟩
        | own xs =>
          obtain ⟨a, vs, h2, h3, h4, h5⟩ := q
          refine ⟨.ref a, h3, rep_p.mpr (.lst (.inl (.inl ?_)) (dqAll_mono mo _ _ h5))⟩
          show (if _ then _ else _) = _
          rw [if_pos ⟨j, z, h2⟩]
          exact h4
      · rw [if_neg z]
        cases s0 with
        | un => exact True.intro
        | v d =>
          obtain ⟨v, h2, h3⟩ := q
          exact ⟨v, h2, Rep.mono s _ _ h3⟩
        | own xs =>
          obtain ⟨a, vs, h2, h3, h4, h5⟩ := q
          refine ⟨a, vs, ?_, h3, h4, dqAll_mono mo _ _ h5⟩
          show (if _ then _ else _) = _
          rw [if_neg z]
          exact h2
    · have h : (if p i = true then none else own i) = some a := h
      split at h
      · cases h
      · rename_i z
        obtain ⟨h1, h2, h3⟩ := en.off i a h
        refine ⟨?_, h2, h3⟩
        show (if _ then _ else _) = _
        rw [if_neg]
        · exact h1
        · rintro ⟨j, g1, g2⟩
          rw [en.inj j i a g2 h] at g1
          exact z g1
    · have h1 : (if p i = true then none else own i) = some a := h1
      have h2 : (if p j = true then none else own j) = some a := h2
      split at h1
      · cases h1
      · split at h2
        · cases h2
        · exact en.inj i j a h1 h2
  · refine ⟨⟨fun b u q => ?_, et.st.pre, et.st.keep, fun b h h' => ?_, et.st.new, et.st.live⟩, fun i a h => ?_⟩
    · have q := et.st.fr b u q
      show (if _ then _ else _) = _
      rw [if_neg]
      · exact q
      · rintro ⟨i, h1, h2⟩
        rw [(en.off i b h2).1] at q
        cases q
    · have h' : (if (∃ i, p i = true ∧ own i = some b) then H b else F b) ≠ none := h'
      split at h'
      · rename_i z
        obtain ⟨i, h1, h2⟩ := z
        exact et.ow i b h2
      · exact et.st.frz b h h'
    · have h : (if p i = true then none else own i) = some a := h
      split at h
      · cases h
      · exact et.ow i a h
end
section
variable {X : Cx} {ca : Nat → Addr} {W : WX} {F0 H0 : Hp} {ι0 : List Addr} {G : Nat → D} {Fn : Nat → List D → Store → Out D} {a b c e : Expr} {a' b' c' e' : E} {es : List Expr} {es' : List E} {pos p : Pos} {s : Stmt} {ss ss2 : List Stmt} {s' : EC.S} {ss' ss2' : List EC.S}
theorem gs_ret (he : GE X ca W G Fn e' e) : GS X ca W F0 H0 ι0 G Fn (.ret e') (.Return (some e) pos) := by
  refine PS.weaken (ps_ret he) fun D σ H ⟨F, ι, S, ρ, own, st, en, et, h⟩ => ?_
  rw [evS_ret] at h
  obtain ⟨F', own', sm, st', en', et'⟩ := freeze (ρ' := ρ.map frz) st en et (fun _ => true) (List.length_map _) (fun j s' hj => by
    rw [List.getElem?_map] at hj
    obtain ⟨s, h1, h2⟩ := map_some hj
    exact ⟨s, h1, by rw [if_pos rfl]; exact h2.symm⟩)
  exact tG_ex st' en' ((h.mono sm).bindE et' fun d S1 v F1 H1 ι1 s1 st1 r1 et1 h1 => h1 v F1 H1 ι1 et1.st st1 r1)
/-- a ghost: the list at i is not written any more -/
theorem gss_frz {i : Nat} (h : GSs X ca W F0 H0 ι0 G Fn ss' ss) : GSs X ca W F0 H0 ι0 G Fn (.frz i :: ss') ss := by
  refine PSs.weaken h fun D σ H ⟨F, ι, S, ρ, own, st, en, et, h⟩ => ?_
  rw [evSs_cons, evS_frz] at h
  obtain ⟨F', own', sm, st', en', et'⟩ := freeze (ρ' := ρ.modify i frz) st en et (fun j => decide (j = i)) (List.length_modify _ _ _) (fun j s' hj => by
    rw [List.getElem?_modify] at hj
    obtain ⟨s, h1, h2⟩ := map_some hj
    refine ⟨s, h1, ?_⟩
    by_cases z : i = j
    · subst z
      rw [if_pos (by simp)]
      simpa using h2.symm
    · rw [if_neg (by simpa using fun e => z e.symm)]
      rw [if_neg z] at h2
      exact h2.symm)
  have h : PostS ca X.K W F0 H0 ι0 F D (evSs G Fn ss' (ρ.modify i frz) S) := h
  exact tS_ex st' en' et' (h.mono sm)
/-- a new list of one's own at i -/
theorem own_end {F H F1 H1 : Hp} {ι ι1 : List Addr} {S1 : Store} {ρ : EC.Env} {own : Nat → Option Addr} {σ : L2.St} {D : Ends} {i : Nat} {d : EC.D} {v : V} (en : EnvR X.K F H ι own ρ σ) (s1 : Stp F H ι F1 H1 ι1) (st1 : Sto X.K F1 H1 ι1 S1) (et1 : Ent F0 H0 ι0 F1 H1 ι1 own) (et : Ent F0 H0 ι0 F H ι own)
    (r : RFr X.K H F1 H1 ι1 d v) (h : PostS ca X.K W F0 H0 ι0 F1 D (kOwn i ρ d S1)) : gName i v σ H1 D.nx := by
  obtain ⟨xs, a, vs, rfl, rfl, h0, h1, h2, h3, h4⟩ := r
  have h : PostS ca X.K W F0 H0 ι0 F1 D (if canSet ρ i then .ok (.nx (ρ.set i (.own xs))) S1 else .bad) := h
  split at h
  · rename_i hi
    have hi : i < ρ.length := of_decide_eq_true hi
    have en1 := en.mono s1
    have na : ∀ j b, own j = some b → b ≠ a := fun j b hb e => (en.off j b hb).2.2 (by rw [e]; exact h0)
    refine h _ F1 H1 ι1 (fun j => if j = i then some a else own j) (Same.refl F1) st1 ⟨by rw [List.length_set, List.length_set]; exact en1.len, fun j s hj => ?_, fun j b hj => ?_, fun j k b hj hk => ?_⟩ ⟨et1.st, fun j b hj => ?_⟩
    · by_cases e : i = j
      · subst e
        rw [List.getElem?_set_self hi] at hj
        cases hj
        exact ⟨a, vs, if_pos rfl, by rw [List.getElem?_set_self (by rw [← en1.len]; exact hi)], h3, h4⟩
      · rw [List.getElem?_set_ne e] at hj
        have q := en1.slot j s hj
        rw [List.getElem?_set_ne e]
        cases s with
        | un => exact q
        | v d => exact q
        | own ys =>
          obtain ⟨b, ws, g1, g2, g3, g4⟩ := q
          exact ⟨b, ws, (if_neg (fun z => e z.symm)).trans g1, g2, g3, g4⟩
    · have hj : (if j = i then some a else own j) = some b := hj
      split at hj
      · cases hj
        exact ⟨h1, h2, by rw [h3]; exact fun z => nomatch z⟩
      · exact en1.off j b hj
    · have hj : (if j = i then some a else own j) = some b := hj
      have hk : (if k = i then some a else own k) = some b := hk
      by_cases e1 : j = i
      · rw [if_pos e1] at hj
        cases hj
        by_cases e2 : k = i
        · rw [e1, e2]
        · rw [if_neg e2] at hk
          exact absurd rfl (na k a hk)
      · rw [if_neg e1] at hj
        by_cases e2 : k = i
        · rw [if_pos e2] at hk
          cases hk
          exact absurd rfl (na j a hj)
        · rw [if_neg e2] at hk
          exact en1.inj j k b hj hk
    · have hj : (if j = i then some a else own j) = some b := hj
      split at hj
      · cases hj
        exact et.st.back h0
      · exact et1.ow j b hj
  · exact h.elim
theorem gs_own {i : Nat} {x : Str} {pos' : Pos} (hN : X.N.Nodup) (hi : X.N[i]? = some x) (hx : Loc X.env.scope x) (he : GF X ca W G Fn e' e) (hs : swapsWith e (some (.Name x pos')) pos.line X.env = pure false := by rfl) (hf : X.fn x = true ∨ X.env.scope.names.lookup x = some .local := by first | exact .inl rfl | exact .inr rfl | assumption) :
    GS X ca W F0 H0 ι0 G Fn (.own i e') (.Assign [.Name x pos'] e pos) := by
  refine PS.weaken (ps_set hN hi hx he hs hf) fun D σ H ⟨F, ι, S, ρ, own, st, en, et, h⟩ => ?_
  rw [evS_own] at h
  exact tG_ex st en (h.bindE et fun d S1 v F1 H1 ι1 s1 st1 r1 et1 h1 => own_end en s1 st1 et1 et r1 h1)
/-- x.append(e), x a list of one's own -/
theorem gs_oapp {i : Nat} {x : Str} {p1 apos : Pos} {spos : Pos} (hx : PE X (.Name x p1) (tVar i)) (he' : GE X ca W G Fn e' e) (hbase : attributeBase (.Name x p1) "append" X.env (eval (.Name x p1) X.env) = eval (.Name x p1) X.env := by rfl)
    (hfew : ((backTo pos (starEach [e] X.env)).all (fun x => !x.1) && (backToKw pos (keywordEach [] X.env)).all (fun x => x.1.isSome)
      && decide (([e]).length + ([] : List Keyword).length + (if ([] : List Keyword).isEmpty then 0 else 1) < 30)) = true := by rfl)
    (hline : (apos.endLine == pos.line) = true := by rfl) (hs : starEach [e] X.env = [(false, eval e X.env)] := by rfl) (hsw : swapsWith (.Call (.Attribute (.Name x p1) "append" apos) [e] [] pos) none spos.line X.env = pure false := by rfl) :
    GS X ca W F0 H0 ι0 G Fn (.oapp i e') (.Expr (.Call (.Attribute (.Name x p1) "append" apos) [e] [] pos) spos) := by
  refine PS.weaken (ps_expr (pe_bm PySem.F.plainAttrs_list PySem.F.slot_list_append PySem.F.type_list_append mt_append hx (pa_cons he' pa_nil hs) hbase hfew hline hs) hsw) fun D σ H ⟨F, ι, S, ρ, own, st, en, et, h⟩ => ?_
  rw [evS_oapp] at h
  split at h
  · rename_i ho
    unfold isOwn at ho
    split at ho
    · rename_i xs hxs
      obtain ⟨a, vs, h1, h2, h3, h4⟩ := en.slot i _ hxs
      obtain ⟨o1, o2, _⟩ := en.off i a h1
      refine ⟨.ref a, h2, Or.inl ⟨rfl, _, Or.inl (Or.inl h3)⟩, tG_ex st en (h.bindE et fun d S1 v F1 H1 ι1 s1 st1 r1 et1 k1 => ?_)⟩
      have h3' := s1.keep a _ h3 o2
      have h4' := dqAll_mono s1.fr _ _ h4
      have en1 := en.mono s1
      obtain ⟨q1, q2, _⟩ := en1.off i a h1
      unfold kApp at k1
      rw [hxs] at k1
      cases d with
      | p z =>
        have k1 : PostS ca X.K W F0 H0 ι0 F1 D (if fitsL (xs.length + 1) then .ok (.nx (ρ.set i (.own (xs ++ [z])))) S1 else .bad) := k1
        split at k1
        · rename_i hz
          have hz := fits_le hz
          refine ⟨a, vs, v, rfl, rfl, h3', by rw [h4'.len]; omega, ?_⟩
          refine k1 σ F1 _ ι1 own (Same.refl F1) (st1.ow q1 q2 _) ⟨by rw [List.length_set]; exact en1.len, fun j s hj => ?_, fun j b hb => ?_, en1.inj⟩ ⟨et1.st.ow (et1.ow i a h1) _, et1.ow⟩
          · by_cases e : i = j
            · subst e
              have hi := (List.getElem?_eq_some_iff.mp hxs).1
              rw [List.getElem?_set_self hi] at hj
              cases hj
              exact ⟨a, _, h1, h2, upd_same, h4'.append (.cons (rep_p.mp r1) .nil)⟩
            · rw [List.getElem?_set_ne e] at hj
              have q := en1.slot j s hj
              cases s with
              | un => exact q
              | v d => exact q
              | own ys =>
                obtain ⟨b, ws, g1, g2, g3, g4⟩ := q
                exact ⟨b, ws, g1, g2, by rw [upd_ne (fun z => e (en.inj i j a h1 (by rw [← z]; exact g1)))]; exact g3, g4⟩
          · obtain ⟨w1, w2, w3⟩ := en1.off j b hb
            refine ⟨w1, w2, ?_⟩
            by_cases z : b = a
            · rw [z, upd_same]; exact fun z => nomatch z
            · rw [upd_ne z]; exact w3
        · exact k1.elim
      | _ => exact k1.elim
    · cases ho
  · exact h.elim
end
end EC

namespace EC
open PySem PySem.Spec PyProof.Rows L2
variable [CA]
section
variable {X : Cx} {ca : Nat → Addr} {W : WX} {F0 H0 : Hp} {ι0 : List Addr} {G : Nat → D} {Fn : Nat → List D → Store → Out D} {a b c e : Expr} {a' b' c' e' : E} {es : List Expr} {es' : List E} {pos p : Pos} {s : Stmt} {ss ss2 : List Stmt} {s' : EC.S} {ss' ss2' : List EC.S}
/-! ### x = [..] on one line -/
theorem lc_lift {t : Tg} {k : Ik} {cs : List E} {σ : L2.St} {F H : Hp} {ι : List Addr} {S : Store} {ρ : EC.Env} {own : Nat → Option Addr} {Q : VK} (st : Sto X.K F H ι S) (en : EnvR X.K F H ι own ρ σ) (h : PostG ca X.K W σ F H ι (RFr X.K H) Q (evE G Fn (.comp t k es' cs e') ρ S)) :
    tLc (tG ca X.K W (RI X.K false) fun ρ S => (evB false G Fn es' ρ S).bind (kIt k)) (gT X.K t) (tG ca X.K W0 RBl (evC G Fn cs)) (tG ca X.K W0 (RV X.K) (evE G Fn e')) (slotsT t) σ H Q := lc_read (tG_ex st en h)
theorem ps_lcG {i : Nat} {y : Str} {py spos : Pos} {elt tg iter : Expr} {ifs : List Expr} {scope : Scope} {own' : List (Str × Nat)} {t : Tg} {k : Ik} {cs : List E} (hc : X.calm = true) (hN : X.N.Nodup) (hy : X.N[i]? = some y) (hyl : X.env.scope.names.lookup y = some .local)
    (hsw : swapsWith (.ListComp elt [⟨tg, iter, ifs, 0⟩] scope pos) (some (.Name y py)) spos.line X.env = pure true) (hi : GI false X ca W G Fn k es' tg iter) (ok : BlkOk X.N X.env.scope scope own') (hv : own'.map (·.2) = slotsT t)
    (hg : ∀ (s : Shared) (H : Hp) (C : Addr) (cl : List (Str × Addr)) (fp : List Addr), GG (X.blk s H scope (compEnvC scope cl C X.env) fp) t tg) (ht : ∀ (s : Shared) (H : Hp) (C : Addr) (cl : List (Str × Addr)) (fp : List Addr), GC (X.blk s H scope (compEnvC scope cl C X.env) fp) ca W0 G Fn cs ifs)
    (he : ∀ (s : Shared) (H : Hp) (C : Addr) (cl : List (Str × Addr)) (fp : List Addr), GE (X.blk s H scope (compEnvC scope cl C X.env) fp) ca W0 G Fn e' elt) (hs : ∀ x, foldedSetIterable iter X.env x = pure x := by intro _; rfl) :
    PS X (.Assign [.Name y py] (.ListComp elt [⟨tg, iter, ifs, 0⟩] scope pos) spos) (fun D σ H => tG ca X.K W (RFr X.K H) (evE G Fn (.comp t k es' cs e')) σ H fun x H1 => gName i x σ H1 D.nx) := by
  have hg' : ∀ (s : Shared) (H : Hp) (C : Addr) (cl : List (Str × Addr)) (fp : List Addr), PG (X.blk s H scope (compEnvC scope cl C X.env) fp) tg (gT X.K t) := hg
  have ht' : ∀ (s : Shared) (H : Hp) (C : Addr) (cl : List (Str × Addr)) (fp : List Addr), PTs (X.blk s H scope (compEnvC scope cl C X.env) fp) ifs (tG ca X.K W0 RBl (evC G Fn cs)) := ht
  have he' : ∀ (s : Shared) (H : Hp) (C : Addr) (cl : List (Str × Addr)) (fp : List Addr), PE (X.blk s H scope (compEnvC scope cl C X.env) fp) elt (tG ca X.K W0 (RV X.K) (evE G Fn e')) := he
  refine PS.weaken (ps_setLc hc hN hy hyl hsw hi ok hg' ht' he' hs) fun D σ H h => ?_
  show tLc _ _ _ _ _ σ H _
  rw [hv]
  exact lc_read h
/-- .. whose list is one's own, or frozen at once, or kept in the store -/
theorem gs_lcOwn {i : Nat} {st : Stmt} (h : PS X st (fun D σ H => tG ca X.K W (RFr X.K H) (evE G Fn e') σ H fun x H1 => gName i x σ H1 D.nx)) : GS X ca W F0 H0 ι0 G Fn (.own i e') st := by
  refine PS.weaken h fun D σ H ⟨F, ι, S, ρ, own, st, en, et, h⟩ => ?_
  rw [evS_own] at h
  exact tG_ex st en (h.bindE et fun d S1 v F1 H1 ι1 s1 st1 r1 et1 h1 => own_end en s1 st1 et1 et r1 h1)
theorem fr_step {F H F1 H1 : Hp} {ι ι1 : List Addr} {S1 : Store} {own : Nat → Option Addr} {ρ : EC.Env} {σ : L2.St} {d : EC.D} {v : V} (en : EnvR X.K F H ι own ρ σ) (s1 : Stp F H ι F1 H1 ι1) (st1 : Sto X.K F1 H1 ι1 S1) (et : Ent F0 H0 ι0 F H ι own) (r : RFr X.K H F1 H1 ι1 d v) :
    ∃ F2, Same F1 F2 ∧ Sto X.K F2 H1 ι1 S1 ∧ Stp F H ι F2 H1 ι1 ∧ Rep X.K F2 ι1 d v := by
  obtain ⟨xs, a, vs, rfl, rfl, h0, h1, h2, h3, h4⟩ := r
  exact ⟨upd F1 a (.lst vs), fun b u q => by rw [upd_ne (ne_of_none q h1)]; exact q, st1.freeze h3 h1 h2, s1.freeze h0 h1 _, rep_p.mpr (fr_dq h1 h4)⟩
theorem gs_lcSet {i : Nat} {st : Stmt} (h : PS X st (fun D σ H => tG ca X.K W (RFr X.K H) (evE G Fn e') σ H fun x H1 => gName i x σ H1 D.nx)) : GS X ca W F0 H0 ι0 G Fn (.asg (.nm i) e') st := by
  refine PS.weaken h fun D σ H ⟨F, ι, S, ρ, own, st, en, et, h⟩ => ?_
  rw [evS_asg] at h
  refine tG_ex st en (h.bindE et fun d S1 v F1 H1 ι1 s1 st1 r1 et1 h1 => ?_)
  obtain ⟨F2, sm, st2, s2, r2⟩ := fr_step en s1 st1 et r1
  exact nm_end st2 (en.mono s2) (et.mono s2) r2 (h1.mono sm)

/-! ### loops -/
/-- one turn -/
theorem PostS.turn {F : Hp} {D : Ends} {m : Out Fl} {go : EC.Env → Store → Out Fl} {N : L2.St → Hp → Prop} (h : PostS ca X.K W F0 H0 ι0 F D (m.bind (kFor go)))
    (g : ∀ ρ S' σ F' H' ι' own, Same F F' → Sto X.K F' H' ι' S' → EnvR X.K F' H' ι' own ρ σ → Ent F0 H0 ι0 F' H' ι' own → PostS ca X.K W F0 H0 ι0 F' D (go ρ S') → N σ H') : PostS ca X.K W F0 H0 ι0 F { D with nx := N, ct := N, bk := D.nx } m := by
  cases m with
  | bad => exact h
  | exc x S => exact h
  | ok f S =>
    have h : PostS ca X.K W F0 H0 ι0 F D (kFor go f S) := h
    cases f with
    | nx ρ => exact fun σ F2 H2 ι2 own2 s st en et => g ρ S σ F2 H2 ι2 own2 s st en et (PostS.mono (m := go ρ S) h s)
    | ct ρ => exact fun σ F2 H2 ι2 own2 s st en et => g ρ S σ F2 H2 ι2 own2 s st en et (PostS.mono (m := go ρ S) h s)
    | bk ρ => exact h
    | rt d => exact h
theorem gs_for {t : Tg} {k : Ik} {tg iter : Expr} (hp : PassesOwn (model X.prog X.w) X.A X.env X.xe) (hc : X.calm = true) (hi : GI true X ca W G Fn k es' tg iter) (hg : GG X t tg) (hb : GSs X ca W F0 H0 ι0 G Fn ss' ss) (hs : ∀ x, foldedSetIterable iter X.env x = pure x := by intro _; rfl) :
    GS X ca W F0 H0 ι0 G Fn (.for_ t k es' ss') (.For tg iter ss [] pos) := by
  refine PS.weaken (ps_for hp hc hi hg hb hs) fun D σ H ⟨F, ι, S, ρ, own, st, en, et, h⟩ => ?_
  rw [evS_for] at h
  have e0 : (evEs G Fn es' ρ S).bind (kFor0 G Fn t k ss' ρ) = ((evEs G Fn es' ρ S).bind (kIt k)).bind fun xs S1 => forL (stepF G Fn t ss') xs ρ S1 := by
    rw [bind_assoc]
    congr
    funext ds S1
    rw [kFor0_eq]
    unfold kIt
    cases items S1 k ds <;> rfl
  rw [e0] at h
  refine tG_ex st en (h.bindE et fun xs S1 J F1 H1 ι1 s1 st1 wk et1 h1 => ?_)
  obtain ⟨Gd, Y, w, hGd, hY⟩ := (show Wk X.K J xs (okS F1) from wk).ex
  refine for_it w (fun i σ H2 => ∃ F2 ι2 S2 ρ2 own2, Same F1 F2 ∧ Sto X.K F2 H2 ι2 S2 ∧ EnvR X.K F2 H2 ι2 own2 ρ2 σ ∧ Ent F0 H0 ι0 F2 H2 ι2 own2 ∧ PostS ca X.K W F0 H0 ι0 F2 D (forL (stepF G Fn t ss') (xs.drop i) ρ2 S2)) ?_ ?_ ?_ ?_
  · exact ⟨F1, ι1, S1, ρ, own, Same.refl F1, st1, en.mono s1, et1, h1⟩
  · rintro i σ2 H2 _ ⟨F2, ι2, S2, ρ2, own2, sm, st2, _⟩
    exact hGd F2 H2 ι2 S2 sm st2
  · rintro i x σ2 H2 H2' hi ⟨F2, ι2, S2, ρ2, own2, sm, st2, en2, et2, h2⟩ y
    obtain ⟨F3, s3, st3, r3⟩ := hY i x xs[i] F2 H2 H2' ι2 S2 sm st2 (List.getElem?_eq_getElem hi) y
    rw [List.drop_eq_getElem_cons hi, forL_cons] at h2
    cases hb : bindT t xs[i] ρ2 with
    | none =>
      rw [stepF_eq, hb] at h2
      exact h2.elim
    | some ρ' =>
      rw [stepF_eq, hb, stepF1_eq] at h2
      refine ⟨F3, ι2, S2, ρ2, own2, xs[i], ρ', st3, en2.mono s3, r3, hb, fun σ' en' _ => ?_⟩
      exact tS_ex st3 en' (et2.mono s3) (PostS.turn (h2.mono s3.fr) fun ρ4 S4 σ4 F4 H4 ι4 own4 sm4 st4 en4 et4 h4 => ⟨F4, ι4, S4, ρ4, own4, (sm.trans s3.fr).trans sm4, st4, en4, et4, h4⟩)
  · rintro σ2 H2 ⟨F2, ι2, S2, ρ2, own2, sm, st2, en2, et2, h2⟩
    rw [List.drop_length, forL_nil] at h2
    exact h2 σ2 F2 H2 ι2 own2 (Same.refl F2) st2 en2 et2
theorem gs_while {n : Nat} (hp : PassesOwn (model X.prog X.w) X.A X.env X.xe) (hc : GT X ca W G Fn c' c) (hb : GSs X ca W F0 H0 ι0 G Fn ss' ss) : GS X ca W F0 H0 ι0 G Fn (.while_ n c' ss') (.While c ss [] pos) := by
  refine PS.weaken (ps_while hp hc hb) fun D σ H ⟨F, ι, S, ρ, own, st, en, et, h⟩ => ?_
  rw [evS_while] at h
  refine ⟨fun m σ H2 => ∃ F2 ι2 S2 ρ2 own2, Sto X.K F2 H2 ι2 S2 ∧ EnvR X.K F2 H2 ι2 own2 ρ2 σ ∧ Ent F0 H0 ι0 F2 H2 ι2 own2 ∧ PostS ca X.K W F0 H0 ι0 F2 D (whileL (cW G Fn c') (evSs G Fn ss') m ρ2 S2), ⟨n, F, ι, S, ρ, own, st, en, et, h⟩, ?_⟩
  rintro m σ2 H2 ⟨F2, ι2, S2, ρ2, own2, st2, en2, et2, h2⟩
  cases m with
  | zero => exact h2.elim
  | succ m =>
    rw [whileL_succ] at h2
    refine tG_ex st2 en2 (PostS.bindE (m := (evE G Fn c' ρ2 S2).bind tru) h2 et2 fun k S3 v F3 H3 ι3 s3 st3 r3 et3 h3 => ?_)
    have r3 : v = k := r3
    subst r3
    cases v with
    | true =>
      rw [kWh_t] at h3
      rw [if_pos rfl]
      exact ⟨fun σ' H' => ∃ F2 ι2 S2 ρ2 own2, Sto X.K F2 H' ι2 S2 ∧ EnvR X.K F2 H' ι2 own2 ρ2 σ' ∧ Ent F0 H0 ι0 F2 H' ι2 own2 ∧ PostS ca X.K W F0 H0 ι0 F2 D (whileL (cW G Fn c') (evSs G Fn ss') m ρ2 S2), fun σ' H' q => ⟨m, Nat.lt_succ_self m, q⟩,
        tS_ex st3 (en2.mono s3) et3 (PostS.turn h3 fun ρ4 S4 σ4 F4 H4 ι4 own4 sm4 st4 en4 et4 h4 => ⟨F4, ι4, S4, ρ4, own4, st4, en4, et4, h4⟩)⟩
    | false =>
      rw [kWh_f] at h3
      rw [if_neg Bool.false_ne_true]
      exact h3 σ2 F3 H3 ι3 own2 (Same.refl F3) st3 (en2.mono s3) et3

/-! ### o[i] = e, of a list of the store -/
theorem gs_seti {o i : Expr} {o' i' : E} {p2 : Pos} (he : GE X ca W G Fn e' e) (ho : GE X ca W G Fn o' o) (hi : GE X ca W G Fn i' i) (ha : ∀ v, assign (.Subscript o i p2) X.env v = (do
      let ov ← holding [v] (eval o X.env)
      let iv ← holding [v, ov] (eval i X.env)
      standAt p2
      holding [v, ov, iv] (setItem ov iv v)
      release [v, ov, iv] []) := by intro _; rfl)
    (hs : swapsWithSole [.Subscript o i p2] e pos.line X.env = pure false := by rfl) (hw : swappedStores [.Subscript o i p2] e X.env = pure none := by rfl) (h1 : (assignEach [.Subscript o i p2] X.env).map (·.2) = [assign (.Subscript o i p2) X.env] := by rfl) :
    GS X ca W F0 H0 ι0 G Fn (.seti o' i' e') (.Assign [.Subscript o i p2] e pos) := by
  refine PS.weaken (ps_asg he (pg_sub ho hi set_list ha) hs hw h1) fun D σ H ⟨F, ι, S, ρ, own, st, en, et, h⟩ => ?_
  rw [evS_seti] at h
  refine tG_ex st en (h.bindE et fun d S1 v F1 H1 ι1 s1 st1 r1 et1 h1 => ?_)
  rw [kSet0_eq] at h1
  refine tG_ex st1 (en.mono s1) (h1.bindE et1 fun x S2 ov F2 H2 ι2 s2 st2 r2 et2 h2 => ?_)
  rw [kSet1_eq] at h2
  refine tG_ex st2 ((en.mono s1).mono s2) (h2.bindE et2 fun y S3 iv F3 H3 ι3 s3 st3 r3 et3 h3 => ?_)
  rw [kSet2_eq] at h3
  have r1 := Rep.mono s3 _ _ (Rep.mono s2 _ _ r1)
  have r2 := Rep.mono s3 _ _ r2
  have en3 := ((en.mono s1).mono s2).mono s3
  unfold setSt at h3
  split at h3
  · rename_i k j d' e1
    cases e1
    split at h3
    · rename_i ds e2
      split at h3
      · rename_i hj
        have hj := of_decide_eq_true hj
        obtain ⟨pp, rfl, g1⟩ := rep_ref.mp r2
        obtain ⟨pp2, vs, g2, g3, g4⟩ := st3.lst e2
        rw [g1] at g2
        cases g2
        have q := rep_p.mp r3
        cases q
        refine ⟨pp, vs, j, j.toNat, rfl, rfl, g3, ?_, ?_⟩
        · unfold ixN
          rw [if_pos hj.1, if_pos (by rw [g4.len]; exact hj.2)]
        · have s4 := Stp.wr st3 (ix_mem g1) (.lst (vs.set j.toNat v))
          exact h3 σ F3 _ ι3 own (Same.refl F3) (st3.wr g1 (reps_set _ g4 r1)) (en3.mono s4) (et3.mono s4)
      · exact h3.elim
    · exact h3.elim
  · exact h3.elim
/-- a, b = x, y -/
theorem gs_par {i j : Nat} {x y : Str} {px py pt : Pos} {kt k2 pt2} (hc : X.calm = true) (hN : X.N.Nodup) (hi : X.N[i]? = some x) (hj : X.N[j]? = some y) (hij : i ≠ j)
    (hx : X.env.scope.names.lookup x = some .local) (hy : X.env.scope.names.lookup y = some .local) (ha : GE X ca W G Fn a' a) (hb : GE X ca W G Fn b' b)
    (hw : swappedStores [.Tuple [.Name x px, .Name y py] kt pt] (.Tuple [a, b] k2 pt2) X.env = pure (some [x, y]))
    (hs : swapsWithSole [.Tuple [.Name x px, .Name y py] kt pt] (.Tuple [a, b] k2 pt2) pos.line X.env = pure false := by rfl) (he1 : starEach [a, b] X.env = (false, eval a X.env) :: starEach [b] X.env := by rfl) (he2 : starEach [b] X.env = [(false, eval b X.env)] := by rfl) :
    GS X ca W F0 H0 ι0 G Fn (.par i j a' b') (.Assign [.Tuple [.Name x px, .Name y py] kt pt] (.Tuple [a, b] k2 pt2) pos) := by
  refine PS.weaken (ps_par hc hN hi hj hij hx hy (pa_cons ha (pa_cons hb pa_nil he2) he1) hw hs) fun D σ H ⟨F, ι, S, ρ, own, st, en, et, h⟩ => ?_
  rw [evS_par] at h
  refine tG_ex st en (h.bindE et fun d S1 v F1 H1 ι1 s1 st1 r1 et1 h1 => ?_)
  rw [kPar_eq] at h1
  refine tG_ex st1 (en.mono s1) (h1.bindE et1 fun d2 S2 v2 F2 H2 ι2 s2 st2 r2 et2 h2 => ?_)
  rw [kPar2_eq] at h2
  split at h2
  · exact ⟨v, v2, rfl, h2 _ F2 H2 ι2 own (Same.refl F2) st2 ((((en.mono s1).mono s2).set (Rep.mono s2 _ _ r1)).set r2) et2⟩
  · exact h2.elim
/-- raise C('m') -/
theorem gs_raise {C : Nat} {x m : Str} {j : Nat} {p1 p2 p3 spos : Pos} {bmB : List Value} {B newId initId : String} (hc : X.calm = true) (tk : Takes X W) (Fc : ExcBaseFacts B newId initId bmB) (q : PySem.W.excIn X.K (ca C) bmB newId = true) (gC : X.mg x = some (.ref (ca C))) (kC : PySem.W.keepIn X.K (.ref (ca C)) = true) (r : Raises X (.ref (ca C))) (hg : Gl X x)
    (hdb : (x == ("__debug__" : Str)) = false := by decide) : GS X ca W F0 H0 ι0 G Fn (.raise C [.c (.str m)]) (.Raise (some (.Call (.Name x p1) [.Constant (.str m) j p2] [] p3)) none spos) := by
  refine PS.weaken (ps_raise hc tk (pmk_own Fc q gC kC r hg hdb)) fun D σ H ⟨F, ι, S, ρ, own, st, en, et, h⟩ => ?_
  rw [evS_raise, evEs_cons, evE_c] at h
  have h : PostS ca X.K W F0 H0 ι0 F D (((evEs G Fn [] ρ S).bind (kCons (.p (.str m)))).bind (kRaise C)) := h
  rw [evEs_nil] at h
  exact h σ (.ref (ca C)) none F H ι et.st st ⟨rfl, rfl⟩
end
end EC

namespace EC
open PySem PySem.Spec PyProof.Rows L2
variable [CA]
/-! ### what zip and enumerate draw from: a list, a tuple, a text -/
inductive Sr where
  | l (a : Addr)
  | t (a : Addr)
  | s (x : Str) (t : Tok)
def Sr.ok (K : PySem.W.Frag) (H : Hp) : Sr → List V → Prop
  | .l a, xs => SqL K H a xs
  | .t a, xs => SqT K H a xs
  | .s x _, xs => xs = x.cps.toList.map fun c => V.str ⟨#[c]⟩
def Sr.st (it : Addr) (i : Nat) (h : Heap) : Sr → Prop
  | .l a => h.IsListIter it a i
  | .t a => h.IsTupleIter it a i
  | .s x k => h.IsStrIter it (strIterType x) x k i
def Sr.fp (it : Addr) : Sr → List Addr
  | .l a => [it, a]
  | .t a => [it, a]
  | .s _ _ => [it]
def Sr.src : Sr → List Addr
  | .l a => [a]
  | .t a => [a]
  | .s _ _ => []
def Sr.val : Sr → Value
  | .l a => .ref a
  | .t a => .ref a
  | .s x k => .str x k
def Sr.obj : Sr → Obj
  | .l q => { cls := .type "list_iterator", data := .fields #[.ref q, .int 0 0] }
  | .t q => { cls := .type "tuple_iterator", data := .fields #[.ref q, .int 0 0] }
  | .s x k => { cls := .type (strIterType x), data := .fields #[.str x k, .int 0 0] }
section
variable {X : Cx} {pins : List (Addr × Obj)} {s : Shared} {σ : L2.St} {H : Hp}
theorem Sr.len_inj {r : Sr} {xs ys : List V} (I : Inv X pins σ H s) (h1 : r.ok X.K H xs) (h2 : r.ok X.K H ys) : xs = ys := by
  cases r with
  | l a => exact I.list_inj h1 h2
  | t a => exact I.tuple_inj h1 h2
  | s x t =>
    have h1 : xs = _ := h1
    have h2 : ys = _ := h2
    rw [h1, h2]
/-- what such an iterator draws, at the heap as it stands -/
theorem Sr.draws {r : Sr} {xs : List V} (I : Inv X pins σ H s) (hq : r.ok X.K H xs) (A : Around) (hh : A.handled = none) (it : Addr) (hne : it ∉ r.src) {i : Nat} (hs : r.st it i s.heap) :
    ∃ (n : Nat) (P : Nat → Value → Prop) (St : Nat → Heap → Prop), Draws X.prog X.w A it (r.fp it) n P St ∧ St i s.heap ∧ (∀ j h', St j h' → r.st it j h') ∧ n = xs.length ∧ ∀ j u, P j u → ∃ v, xs[j]? = some v ∧ RelV v u := by
  cases r with
  | l a =>
    obtain ⟨its, rv, p, _⟩ := I.list hq
    refine ⟨_, _, _, Draws.list hh it a (fun e => hne (by rw [← e]; exact List.mem_singleton.mpr rfl)) its.toArray, ⟨hs, p.isList⟩, fun j h' h => h.1, by rw [List.size_toArray]; exact rv.length.symm, fun j u h => ?_⟩
    have h : its.toArray[j]? = some u := h
    have h : its[j]? = some u := by simpa using h
    have hj : j < xs.length := by rw [rv.length]; exact (List.getElem?_eq_some_iff.mp h).1
    obtain ⟨w, h1, h2⟩ := rv.get (List.getElem?_eq_getElem hj)
    rw [h] at h1
    cases h1
    exact ⟨_, List.getElem?_eq_getElem hj, h2⟩
  | t a =>
    obtain ⟨its, rv, p, _⟩ := I.tuple hq
    refine ⟨_, _, _, Draws.tuple hh it a (fun e => hne (by rw [← e]; exact List.mem_singleton.mpr rfl)) its.toArray, ⟨hs, p⟩, fun j h' h => h.1, by rw [List.size_toArray]; exact rv.length.symm, fun j u h => ?_⟩
    have h : its.toArray[j]? = some u := h
    have h : its[j]? = some u := by simpa using h
    have hj : j < xs.length := by rw [rv.length]; exact (List.getElem?_eq_some_iff.mp h).1
    obtain ⟨w, h1, h2⟩ := rv.get (List.getElem?_eq_getElem hj)
    rw [h] at h1
    cases h1
    exact ⟨_, List.getElem?_eq_getElem hj, h2⟩
  | s x t =>
    have hq : xs = _ := hq
    refine ⟨_, _, _, Draws.text hh it x t, hs, fun j h' h => h, by rw [hq, List.length_map, Array.length_toList], fun j u h => ?_⟩
    obtain ⟨c, k, h1, rfl⟩ := h
    refine ⟨.str ⟨#[c]⟩, ?_, ⟨k, rfl⟩⟩
    rw [hq, List.getElem?_map, Array.getElem?_toList, h1]
    rfl
theorem Sr.begins {r : Sr} {xs : List V} (I : Inv X pins σ H s) (hq : r.ok X.K H xs) : ∃ Hb : Heap → Prop, Begins r.val r.obj Hb ∧ Hb s.heap := by
  cases r with
  | l a =>
    obtain ⟨its, rv, p, _⟩ := I.list hq
    exact ⟨_, begins_list a its.toArray, p.isList⟩
  | t a =>
    obtain ⟨its, rv, p, _⟩ := I.tuple hq
    exact ⟨_, begins_tuple a its.toArray, p⟩
  | s x t => exact ⟨_, begins_text x t, True.intro⟩
theorem Sr.lt {r : Sr} {xs : List V} (I : Inv X pins σ H s) (hq : r.ok X.K H xs) : ∀ b ∈ r.src, b < s.heap.objs.size := by
  intro b hb
  cases r with
  | l a =>
    obtain ⟨its, rv, p, _⟩ := I.list hq
    rw [List.mem_singleton.mp hb]
    exact p.lt
  | t a =>
    obtain ⟨its, rv, p, _⟩ := I.tuple hq
    rw [List.mem_singleton.mp hb]
    obtain ⟨o, e, _⟩ := p
    exact Heap.lt_size e
  | s x t => cases hb
theorem Sr.fp_eq {r : Sr} {it : Addr} : r.fp it = it :: r.src := by cases r <;> rfl
theorem Sr.st_live {r : Sr} {it : Addr} {i : Nat} {h : Heap} (x : r.st it i h) : ∃ o, h.get? it = some o ∧ ∀ v, o.data ≠ .cell v := by
  cases r with
  | l a => obtain ⟨o, e, _, d⟩ := x; exact ⟨o, e, fun v q => by rw [d] at q; cases q⟩
  | t a => obtain ⟨o, e, _, d⟩ := x; exact ⟨o, e, fun v q => by rw [d] at q; cases q⟩
  | s z t => obtain ⟨o, e, _, d⟩ := x; exact ⟨o, e, fun v q => by rw [d] at q; cases q⟩
theorem Sr.st_at {r : Sr} {it : Addr} {i : Nat} {h h' : Heap} (x : r.st it i h) (k : ∀ o, h.get? it = some o → h'.get? it = some o) : r.st it i h' := by
  cases r with
  | l a => obtain ⟨o, e, c⟩ := x; exact ⟨o, k o e, c⟩
  | t a => obtain ⟨o, e, c⟩ := x; exact ⟨o, k o e, c⟩
  | s z t => obtain ⟨o, e, c⟩ := x; exact ⟨o, k o e, c⟩
theorem Sr.st0 {r : Sr} {it : Addr} {h : Heap} (e : h.get? it = some r.obj) : r.st it 0 h := by
  cases r with
  | l a => exact ⟨_, e, rfl, rfl⟩
  | t a => exact ⟨_, e, rfl, rfl⟩
  | s z t => exact ⟨_, e, rfl, rfl⟩
end
/-- zip of two such, the items in new pairs -/
def ItzM (K : PySem.W.Frag) (r1 r2 : Sr) : It :=
  ⟨fun i H => ∃ (xs ys : List V) (x y : V), r1.ok K H xs ∧ r2.ok K H ys ∧ xs[i]? = some x ∧ ys[i]? = some y,
    fun i H v H' => ∃ T x y, v = .ref T ∧ H T = none ∧ H' = upd H T (.tup [x, y]) ∧ (∀ xs, r1.ok K H xs → xs[i]? = some x) ∧ ∀ ys, r2.ok K H ys → ys[i]? = some y,
    fun i H => ∃ xs ys : List V, r1.ok K H xs ∧ r2.ok K H ys ∧ i = min xs.length ys.length⟩
theorem turn_zipM {P : Program} {w : World} {K : PySem.W.Frag} {elts : List Expr} {kk : Nat} {tpos : Pos} {r1 r2 : Sr} {z TI TO i1 i2 : Addr} (D : ZipSep2 z TI TO i1 i2 (r1.fp i1) (r2.fp i2)) (n1 : i1 ∉ r1.src) (n2 : i2 ∉ r2.src) :
    Turn P w K (.Tuple elts kk tpos) (ItzM K r1 r2) [z, TI, TO, i1, i2] z (fun i h => IsZip h z TI TO .none ∧ IsTupOf2 h TI (.ref i1) (.ref i2) ∧ (∃ x y, IsTupOf2 h TO x y) ∧ r1.st i1 i h ∧ r2.st i2 i h) where
  mem := by simp
  obj := fun i h st c hc => by
    obtain ⟨hz, hTI, ⟨x, y, hTO⟩, h1, h2⟩ := st
    have e' : c = z ∨ c = TI ∨ c = TO ∨ c = i1 ∨ c = i2 := by simpa using hc
    rcases e' with q | q | q | q | q
    · rw [q]; exact ⟨_, hz, fun v q => nomatch q⟩
    · rw [q]; exact ⟨_, hTI, fun v q => nomatch q⟩
    · rw [q]; exact ⟨_, hTO, fun v q => nomatch q⟩
    · rw [q]; exact Sr.st_live h1
    · rw [q]; exact Sr.st_live h2
  keep := fun i h h' st k => by
    obtain ⟨hz, hTI, ⟨x, y, hTO⟩, h1, h2⟩ := st
    exact ⟨k z (by simp) _ hz, k TI (by simp) _ hTI, ⟨x, y, k TO (by simp) _ hTO⟩, Sr.st_at h1 fun o q => k i1 (by simp) o q, Sr.st_at h2 fun o q => k i2 (by simp) o q⟩
  item := by
    intro X hP hw hK hc i pins s σ H E I hf st hg
    subst hP hw hK
    obtain ⟨hz, hTI, hTO, h1, h2⟩ := st
    obtain ⟨xs, ys, x, y, hqx, hqy, hx, hy⟩ := hg
    have hh : X.A.in1.handled = none := I.ok.hd hc
    obtain ⟨m1, P1, S1, D1, s1, b1, l1, p1⟩ := Sr.draws I hqx X.A.in1 hh i1 n1 h1
    obtain ⟨m2, P2, S2, D2, s2, b2, l2, p2⟩ := Sr.draws I hqy X.A.in1 hh i2 n2 h2
    have W := GoesN.zip2 (elts := elts) (x1 := kk) (pos := tpos) (prog := X.prog) (w := X.w) (A := X.A) D D1 D2
    have hi : i < min m1 m2 := by
      have := (List.getElem?_eq_some_iff.mp hx).1
      have := (List.getElem?_eq_some_iff.mp hy).1
      omega
    refine W.goes i s (fun u s2 => ∃ x H', Inv X pins σ H' s2 ∧ RelV x u ∧ (ItzM X.K r1 r2).yld i H x H' ∧ (IsZip s2.heap z TI TO .none ∧ IsTupOf2 s2.heap TI (.ref i1) (.ref i2) ∧ (∃ x y, IsTupOf2 s2.heap TO x y) ∧ r1.st i1 (i + 1) s2.heap ∧ r2.st i2 (i + 1) s2.heap) ∧ ∀ b ∈ [z, TI, TO, i1, i2], H' b = none) E hi ⟨hz, hTI, hTO, s1, s2⟩ fun v h' tk hY st' hk htk => ?_
    obtain ⟨T, a, b, rfl, hT, ha, hb, hTt⟩ := hY
    obtain ⟨va, ea, ra⟩ := p1 i a ha
    obtain ⟨vb, eb, rb⟩ := p2 i b hb
    have new : ObjOk X.prog X.w (upd H T (.tup [va, vb])) h' T (.tup [va, vb]) := ⟨by show 2 ≤ sizeLine; decide, [a, b], .cons ra (.cons rb .nil), hTt⟩
    have I1 : Inv X pins σ (upd H T (.tup [va, vb])) { s with heap := h', toks := tk } :=
      I.turnedNew (t' := tk) (ch := [z, TI, TO, i1, i2]) (fun c o hb q => hk c o (fun hm => hb (by
        rcases List.mem_cons.mp hm with e | hm
        · rw [e]; simp
        rcases List.mem_cons.mp hm with e | hm
        · rw [e]; simp
        rcases List.mem_cons.mp hm with e | hm
        · rw [e]; simp
        · rw [List.mem_singleton.mp hm]; simp)) q) hf hT new
    refine ⟨.ref T, _, I1, rfl, ⟨T, va, vb, rfl, I.hok.fresh hT, rfl, fun l hl => by rw [Sr.len_inj I hl hqx]; exact ea, fun l hl => by rw [Sr.len_inj I hl hqy]; exact eb⟩, ⟨st'.1, st'.2.1, st'.2.2.1, b1 _ _ st'.2.2.2.1, b2 _ _ st'.2.2.2.2⟩, fun c hcm => ?_⟩
    have hlt : c < s.heap.objs.size := by
      have e' : c = z ∨ c = TI ∨ c = TO ∨ c = i1 ∨ c = i2 := by simpa using hcm
      obtain ⟨_, _, hTO'⟩ := hTO
      rcases e' with q | q | q | q | q
      · rw [q]; exact Heap.lt_size hz
      · rw [q]; exact Heap.lt_size hTI
      · rw [q]; exact Heap.lt_size hTO'
      · rw [q]; obtain ⟨_, e1, _⟩ := Sr.st_live h1; exact Heap.lt_size e1
      · rw [q]; obtain ⟨_, e2, _⟩ := Sr.st_live h2; exact Heap.lt_size e2
    rw [upd_ne (Nat.ne_of_lt (Nat.lt_of_lt_of_le hlt hT))]
    exact (hf c hcm).1
  done := by
    intro X hP hw hK hc i pins s σ H E I hf st hg
    subst hP hw hK
    obtain ⟨hz, hTI, hTO, h1, h2⟩ := st
    obtain ⟨xs, ys, hqx, hqy, hend⟩ := hg
    have hh : X.A.in1.handled = none := I.ok.hd hc
    obtain ⟨m1, P1, S1, D1, s1, b1, l1, p1⟩ := Sr.draws I hqx X.A.in1 hh i1 n1 h1
    obtain ⟨m2, P2, S2, D2, s2, b2, l2, p2⟩ := Sr.draws I hqy X.A.in1 hh i2 n2 h2
    have W := GoesN.zip2 (elts := elts) (x1 := kk) (pos := tpos) (prog := X.prog) (w := X.w) (A := X.A) D D1 D2
    have ei : i = min m1 m2 := by omega
    subst ei
    exact W.stops s (fun s1 => Inv X pins σ H s1) E ⟨hz, hTI, hTO, s1, s2⟩ fun h' tk hk htk => I.turnedL (t' := tk) (ch := [z, TI, TO, i1, i2]) (fun c o hb q => hk c o (fun hm => hb (by
        rcases List.mem_cons.mp hm with e | hm
        · rw [e]; simp
        rcases List.mem_cons.mp hm with e | hm
        · rw [e]; simp
        rcases List.mem_cons.mp hm with e | hm
        · rw [e]; simp
        · rw [List.mem_singleton.mp hm]; simp)) q) hf
  self := fun A i s Q E st h => wpAny_pyIter_zip st.1 h
inductive Sk where
  | l (a : Addr)
  | t (a : Addr)
  | s (x : Str)
def Sk.v : Sk → V
  | .l a => .ref a
  | .t a => .ref a
  | .s x => .str x
def Sk.sr (k : Tok) : Sk → Sr
  | .l a => .l a
  | .t a => .t a
  | .s x => .s x k
def Sk.ok (K : PySem.W.Frag) (H : Hp) : Sk → List V → Prop
  | .l a, xs => SqL K H a xs
  | .t a, xs => SqT K H a xs
  | .s x, xs => xs = x.cps.toList.map fun c => V.str ⟨#[c]⟩
theorem Sk.ok_sr {q : Sk} {K : PySem.W.Frag} {H : Hp} {xs : List V} {k : Tok} : (q.sr k).ok K H xs ↔ q.ok K H xs := by cases q <;> exact Iff.rfl
theorem Sk.val_of {q : Sk} {u : Value} (h : RelV q.v u) : ∃ k, u = (q.sr k).val := by
  cases q with
  | l a => exact ⟨0, h⟩
  | t a => exact ⟨0, h⟩
  | s x => obtain ⟨k, rfl⟩ := h; exact ⟨k, rfl⟩
def iZipM (K : PySem.W.Frag) (ta : TA) : TI := fun σ H R => ta σ H fun vs H1 => ∃ q1 q2 : Sk, vs = [q1.v, q2.v] ∧ (∃ xs, q1.ok K H1 xs) ∧ (∃ xs, q2.ok K H1 xs) ∧ ∀ k1 k2, R (ItzM K (q1.sr k1) (q2.sr k2)) H1
theorem pi_zipM {X : Cx} {e e2 : Expr} {ta : TA} {p pos tpos : Pos} {elts : List Expr} {kk : Nat} (hg : Gl X "zip") (hm : X.mg "zip" = none) (ha : PA X [e, e2] ta)
    (hs : starEach [e, e2] X.env = (false, eval e X.env) :: starEach [e2] X.env := by rfl) (hpl : (backTo pos (starEach [e2] X.env)).any (·.1) = false := by rfl) :
    PI X (.Tuple elts kk tpos) (.Call (.Name "zip" p) [e, e2] [] pos) (iZipM X.K ta) := by
  refine ⟨fun pins s σ H R I h => ?_⟩
  refine Call_ (ld_blt I hg hm PyProof.Rows.boot_zip (PyProof.Rows.callWith_type1 (thn (ha.run pos pins s σ H _ I h) fun us s1 ⟨vs, H1, I1, r1, q1⟩ => ?_) hs hpl))
  obtain ⟨q1, q2, ex, ⟨xs, hqx⟩, ⟨ys, hqy⟩, q⟩ := q1
  subst ex
  cases r1 with
  | cons ra rr =>
    cases rr with
    | cons rb rr =>
      cases rr
      obtain ⟨k1, rfl⟩ := Sk.val_of ra
      obtain ⟨k2, rfl⟩ := Sk.val_of rb
      have hqx := (Sk.ok_sr (k := k1)).mpr hqx
      have hqy := (Sk.ok_sr (k := k2)).mpr hqy
      obtain ⟨B1, b1, c1⟩ := Sr.begins I1 hqx
      obtain ⟨B2, b2, c2⟩ := Sr.begins I1 hqy
      have lt1 := Sr.lt I1 hqx
      have lt2 := Sr.lt I1 hqy
      have fresh5 : ∀ c, c ∈ [s1.heap.objs.size + 4, s1.heap.objs.size + 2, s1.heap.objs.size + 3, s1.heap.objs.size, s1.heap.objs.size + 1] → FpOk X pins H1 c := fun c hcm => by
        have e' : c = s1.heap.objs.size + 4 ∨ c = s1.heap.objs.size + 2 ∨ c = s1.heap.objs.size + 3 ∨ c = s1.heap.objs.size ∨ c = s1.heap.objs.size + 1 := by simpa using hcm
        have hle : s1.heap.objs.size ≤ c := by
          rcases e' with z | z | z | z | z
          · rw [z]; exact Nat.le_add_right _ _
          · rw [z]; exact Nat.le_add_right _ _
          · rw [z]; exact Nat.le_add_right _ _
          · rw [z]; exact Nat.le_refl _
          · rw [z]; exact Nat.le_add_right _ _
        exact I1.fpOk hle (I1.hok.fresh hle)
      refine zip_begins2 b1 b2 c1 c2 fun h' hz hTI hTO g1 g2 hsz hk => wpAny_pyIter_zip hz ?_
      have I2 : Inv X pins σ H1 { s1 with heap := h' } := I1.kept (t' := s1.toks) hk
      have sep := zip_sep2 lt1 lt2
      rw [← Sr.fp_eq, ← Sr.fp_eq] at sep
      have nb : s1.heap.objs.size + 1 ∉ (q2.sr k2).src := fun z => by
        have := lt2 _ z
        exact absurd this (Nat.not_lt.mpr (Nat.le_succ _))
      exact ⟨s1.heap.objs.size + 4, [s1.heap.objs.size + 4, s1.heap.objs.size + 2, s1.heap.objs.size + 3, s1.heap.objs.size, s1.heap.objs.size + 1], _, _, H1, rfl, I2, turn_zipM sep (fun z => absurd (lt1 _ z) (Nat.lt_irrefl _)) nb, ⟨hz, hTI, ⟨_, _, hTO⟩, Sr.st0 g1, Sr.st0 g2⟩, fresh5, q k1 k2⟩
/-! ### zip in the evaluator -/
structure LwS (K : PySem.W.Frag) (ok : Hp → Hp → List Addr → Prop) (xs : List PyData) (q : Sk) (vs : List V) : Prop where
  len : vs.length = xs.length
  at_ : ∀ F H ι S, ok F H ι → Sto K F H ι S → q.ok K H vs ∧ DqAll K F vs xs
theorem chr_dq {K : PySem.W.Frag} {F : Hp} : ∀ (l : List Nat), DqAll K F (l.map fun c => V.str ⟨#[c]⟩) (l.map chr)
  | [] => .nil
  | c :: l => .cons (.str _) (chr_dq l)
theorem src_of {K : PySem.W.Frag} {bb : Bool} {F H : Hp} {ι : List Addr} {S : Store} {d : D} {v : V} {ds : List D} (st : Sto K F H ι S) (r : RX K bb F H ι d v) (h : items1 S d = some ds) : ∃ xs q vs, ds = xs.map D.p ∧ v = q.v ∧ LwS K (okB bb F H ι) xs q vs := by
  unfold items1 at h
  split at h
  · rename_i ys
    cases h
    cases bb with
    | true =>
      obtain ⟨a, vs, rfl, L⟩ := lwL_S (ι1 := ι) r
      exact ⟨ys, .l a, vs, rfl, rfl, L.len, L.at_⟩
    | false =>
      obtain ⟨a, vs, rfl, L⟩ := lwL_D st r
      exact ⟨ys, .l a, vs, rfl, rfl, L.len, L.at_⟩
  · rename_i ys
    cases h
    cases bb with
    | true =>
      obtain ⟨a, vs, rfl, L⟩ := lwT_S (ι1 := ι) r
      exact ⟨ys, .t a, vs, rfl, rfl, L.len, L.at_⟩
    | false =>
      obtain ⟨a, vs, rfl, L⟩ := lwT_D st r
      exact ⟨ys, .t a, vs, rfl, rfl, L.len, L.at_⟩
  · rename_i z
    cases h
    refine ⟨z.cps.toList.map chr, .s z, z.cps.toList.map fun c => V.str ⟨#[c]⟩, by rw [List.map_map]; rfl, repA_str r.a, by rw [List.length_map, List.length_map], fun F H ι S _ _ => ⟨rfl, chr_dq _⟩⟩
  · cases h
theorem wk_zipM {K : PySem.W.Frag} {ok : Hp → Hp → List Addr → Prop} {xs ys : List PyData} {q1 q2 : Sk} {vs ws : List V} (L : LwS K ok xs q1 vs) (M : LwS K ok ys q2 ws) {k1 k2 : Tok} : Wk K (ItzM K (q1.sr k1) (q2.sr k2)) (zipD (xs.map .p) (ys.map .p)) ok := by
  refine ⟨fun H => q1.ok K H vs ∧ q2.ok K H ws, fun i H v H' => ∃ T x y, v = .ref T ∧ H T = none ∧ H' = upd H T (.tup [x, y]) ∧ vs[i]? = some x ∧ ws[i]? = some y, ⟨fun i H hi hG => ?_, fun H hG => ?_, fun i H x H' hi hG hy => ?_⟩, fun F H ι S h st => ⟨(L.at_ F H ι S h st).1, (M.at_ F H ι S h st).1⟩, fun i v d F H H' ι S h st hi y => ?_⟩
  · rw [zipD_len, ← L.len, ← M.len] at hi
    exact ⟨vs, ws, vs[i]'(by omega), ws[i]'(by omega), Sk.ok_sr.mpr hG.1, Sk.ok_sr.mpr hG.2, List.getElem?_eq_getElem _, List.getElem?_eq_getElem _⟩
  · refine ⟨vs, ws, Sk.ok_sr.mpr hG.1, Sk.ok_sr.mpr hG.2, ?_⟩
    rw [zipD_len, ← L.len, ← M.len]
  · obtain ⟨T, x, y, h1, h2, h3, h4, h5⟩ := hy
    exact ⟨T, x, y, h1, h2, h3, h4 vs (Sk.ok_sr.mpr hG.1), h5 ws (Sk.ok_sr.mpr hG.2)⟩
  · obtain ⟨T, x, z, rfl, hT, e, ex, ez⟩ := y
    obtain ⟨u, w, h1, h2, rfl⟩ := zipD_get hi
    obtain ⟨v1, g1, g2⟩ := (L.at_ F H ι S h st).2.get h1
    obtain ⟨v2, g3, g4⟩ := (M.at_ F H ι S h st).2.get h2
    rw [g1] at ex
    rw [g3] at ez
    cases ex
    cases ez
    exact pair_rep st hT e g2 g4
section
variable {X : Cx} {ca : Nat → Addr} {W : WX} {G : Nat → D} {Fn : Nat → List D → Store → Out D} {a b c e tg : Expr} {a' b' c' e' : E} {pos p tpos : Pos} {bb : Bool} {elts : List Expr} {kk : Nat}
theorem okB_refl {F H : Hp} {ι : List Addr} : okB bb F H ι F H ι := by
  cases bb
  · exact Stp.refl
  · exact Same.refl F
theorem gi_zip (hg : Gl X "zip") (hm : X.mg "zip" = none) (ha : GX bb X ca W G Fn a' a) (hb : GX bb X ca W G Fn b' b) (hs : starEach [a, b] X.env = (false, eval a X.env) :: starEach [b] X.env := by rfl) (hs2 : starEach [b] X.env = [(false, eval b X.env)] := by rfl) (hpl : (backTo pos (starEach [b] X.env)).any (·.1) = false := by rfl) :
    GI bb X ca W G Fn .zip [a', b'] (.Tuple elts kk tpos) (.Call (.Name "zip" p) [a, b] [] pos) := by
  refine PI.weaken (pi_zipM hg hm (pa_cons ha (pa_cons hb pa_nil hs2) hs) hs hpl) fun σ H R ⟨F, ι, S, ρ, own, st, en, h⟩ => two_it h st en fun d d2 S1 v v2 F1 H1 ι1 st1 r1 r2 h1 => ?_
  obtain ⟨xs, hx, q⟩ := PostG.of h1
  have hx : (match items1 S1 d, items1 S1 d2 with
    | some xs, some ys => some (zipD xs ys)
    | _, _ => none) = some xs := hx
  cases e1 : items1 S1 d with
  | none => rw [e1] at hx; cases hx
  | some x1 =>
    cases e2 : items1 S1 d2 with
    | none => rw [e1, e2] at hx; cases hx
    | some x2 =>
      rw [e1, e2] at hx
      cases hx
      obtain ⟨y1, q1, vs, rfl, rfl, L⟩ := src_of st1 r1 e1
      obtain ⟨y2, q2, ws, rfl, rfl, M⟩ := src_of st1 r2 e2
      exact ⟨q1, q2, rfl, ⟨vs, (L.at_ F1 H1 ι1 S1 okB_refl st1).1⟩, ⟨ws, (M.at_ F1 H1 ι1 S1 okB_refl st1).1⟩, fun k1 k2 => q _ F1 H1 ι1 Stp.refl st1 (wk_zipM L M)⟩
end
end EC

namespace EC
open PySem PySem.Spec PyProof.Rows L2
variable [CA]
section
variable {X : Cx} {ca : Nat → Addr} {W : WX} {G : Nat → D} {Fn : Nat → List D → Store → Out D} {a b c e : Expr} {a' b' c' e' : E} {es : List Expr} {es' : List E} {pos p : Pos}
/-! ### a dict of the module -/
structure GdR (X : Cx) (G : Nat → D) (k : Nat) (x : Str) : Prop where
  r : ∃ d, X.mg x = some (.ref d) ∧ ∀ z data, dlook (G k) z = some data → ∃ v, KDct X.K X.w d z v ∧ ∀ F, Dq X.K F v data
theorem g_gget {k : Nat} {x : Str} {p1 : Pos} (hg : Gl X x) (hr : GdR X G k x) (he : GE X ca W G Fn e' e) (hs : PlainIx e) (hd : (x == ("__debug__" : Str)) = false := by decide) : GE X ca W G Fn (.gget k e') (.Subscript (.Name x p1) e pos) := by
  obtain ⟨d, hm, hv⟩ := hr.r
  refine PE.weaken (pe_ix ix_kdict (pe_glob (v := .ref d) hg hm rfl hd) he hs) fun σ H Q ⟨F, ι, S, ρ, own, st, en, h⟩ => ?_
  rw [evE_gget] at h
  refine tG_ex st en (h.bind_ fun y S1 v F1 H1 ι1 s1 st1 r1 h1 => ?_)
  cases y with
  | p y =>
    cases y with
    | str z =>
      rw [kGg_eq] at h1
      obtain ⟨w, e1, h1⟩ := PostG.of h1
      obtain ⟨data, e2, rfl⟩ := map_some e1
      obtain ⟨w, k1, k2⟩ := hv z data e2
      exact ⟨d, z, w, rfl, repA_str (F := F1) (H := H1) (ι := ι1) (K := X.K) (.inl r1), k1, h1 w F1 H1 ι1 Stp.refl st1 (rep_p.mpr (k2 F1))⟩
    | _ => exact h1.elim
  | _ => exact h1.elim

/-! ### {..}.get(key, d) -/
/-- the pairs of a display whose keys are texts -/
inductive KStr : List Str → List (Option Expr) → Prop where
  | nil : KStr [] []
  | cons {k : Str} {ks : List Str} {j : Nat} {p : Pos} {es : List (Option Expr)} : KStr ks es → KStr (k :: ks) (some (.Constant (.str k) j p) :: es)
def trsOf : List Str → List TE → List (TE × TE)
  | k :: ks, t :: ts => (tC (.str k), t) :: trsOf ks ts
  | _, _ => []
theorem merge_nd : ∀ (more : List (Key × V)) (kvs : List (Key × V)), ((kvs ++ more).map (·.1)).Nodup → mergeK kvs more = kvs ++ more
  | [], kvs, _ => by rw [List.append_nil]; rfl
  | p :: more, kvs, h => by
    have hn : valV kvs p.1 = none := by
      unfold valV
      rw [Option.map_eq_none_iff, List.find?_eq_none]
      intro q hq z
      have z := of_decide_eq_true z
      rw [List.map_append, List.nodup_append] at h
      exact h.2.2 q.1 (List.mem_map_of_mem hq) p.1 (List.mem_map_of_mem List.mem_cons_self) z
    have e : mergeK kvs (p :: more) = mergeK (putK kvs p.1 p.2) more := rfl
    rw [e, putK_new _ hn, merge_nd more (kvs ++ [(p.1, p.2)]) (by rw [List.append_assoc]; exact h), List.append_assoc]
    rfl
theorem valV_pick {F : Hp} {ι : List Addr} {K : PySem.W.Frag} {x : Str} {z : D} {w : V} (hz : Rep K F ι z w) : ∀ {ks : List Str} {ds : List D} {vs : List V}, ks.length = ds.length → Reps K F ι ds vs → Rep K F ι (dpick ks ds x z) ((valV ((ks.map Sum.inr).zip vs) (Sum.inr x : Key)).getD w)
  | [], [], vs, _, h => by
    rw [reps_nil.mp h]
    exact hz
  | [], _ :: _, _, hl, _ => nomatch hl
  | _ :: _, [], _, hl, _ => nomatch hl
  | k :: ks, d :: ds, vs, hl, h => by
    obtain ⟨v, r, rfl, h1, h2⟩ := reps_cons.mp h
    have ih := valV_pick (x := x) hz (ks := ks) (by simpa using hl) h2
    unfold dpick
    by_cases e : k = x
    · subst e
      rw [if_pos rfl]
      simpa [valV] using h1
    · rw [if_neg e]
      have ne : ¬ ((Sum.inr k : Key) = Sum.inr x) := fun q => e (Sum.inr.inj q)
      unfold valV at ih ⊢
      rw [List.map_cons, List.zip_cons_cons, List.find?_cons_of_neg (by simpa using ne)]
      exact ih
theorem PostG.bindB {α β γ δ : Type} {K : PySem.W.Frag} {F0 H0 F H : Hp} {ι0 ι : List Addr} {σ : L2.St} {R : Hp → Hp → List Addr → α → β → Prop} {R' : Hp → Hp → List Addr → γ → δ → Prop} {Q : β → Hp → Prop} {Q' : δ → Hp → Prop} {m : Out α} {k : α → Store → Out γ}
    (h : PostG ca K W σ F0 H0 ι0 R' Q' (m.bind k)) (b : Stp F0 H0 ι0 F H ι) (g : ∀ d S' v F' H' ι', Stp F H ι F' H' ι' → Sto K F' H' ι' S' → R F' H' ι' d v → PostG ca K W σ F0 H0 ι0 R' Q' (k d S') → Q v H') : PostG ca K W σ F H ι R Q m := by
  cases m with
  | ok d S => exact fun v F2 H2 ι2 s2 st2 r => g d S v F2 H2 ι2 s2 st2 r h
  | exc e S => exact fun c d F2 H2 ι2 s2 => h c d F2 H2 ι2 (b.trans s2)
  | bad => exact h
/-- the pairs of a display -/
def GP (X : Cx) (ca : Nat → Addr) (W : WX) (G : Nat → D) (Fn : Nat → List D → Store → Out D) (ks : List Str) (vs' : List E) (pos : Pos) (keys : List (Option Expr)) (values : List Expr) : Prop :=
  ∃ trs, PPs X pos keys values trs ∧ ∀ σ H (Q : List (V × V) → Hp → Prop), tG ca X.K W (RVs X.K) (evEs G Fn vs') σ H (fun vs H' => Q ((ks.map fun k => V.str k).zip vs) H') → tPairs trs σ H Q
theorem gp_nil : GP X ca W G Fn [] [] pos [] [] := by
  refine ⟨[], pps_nil, fun σ H Q ⟨F, ι, S, ρ, own, st, en, h⟩ => ?_⟩
  rw [evEs_nil] at h
  exact h [] F H ι Stp.refl st (reps_nil.mpr rfl)
theorem gp_cons {k : Str} {j : Nat} {p1 : Pos} {ks : List Str} {vs' : List E} {keys : List (Option Expr)} {values : List Expr} (ha : GE X ca W G Fn a' a) (hr : GP X ca W G Fn ks vs' pos keys values) : GP X ca W G Fn (k :: ks) (a' :: vs') pos (some (.Constant (.str k) j p1) :: keys) (a :: values) := by
  obtain ⟨trs, h1, h2⟩ := hr
  refine ⟨_, pps_cons pe_str ha h1, fun σ H Q ⟨F, ι, S, ρ, own, st, en, h⟩ => ?_⟩
  rw [evEs_cons] at h
  refine tG_ex st en (h.bind_ fun d S1 v F1 H1 ι1 s1 st1 r1 h1 => ?_)
  rw [kEs_eq] at h1
  refine h2 σ H1 _ (tG_ex st1 (en.mono s1) (h1.bind_ fun ds S2 vs F2 H2 ι2 s2 st2 r2 h2 => ?_))
  exact h2 _ F2 H2 ι2 Stp.refl st2 (reps_cons.mpr ⟨v, vs, rfl, Rep.mono s2 _ _ r1, r2⟩)
theorem evEs_len {ρ : EC.Env} : ∀ {es' : List EC.E} {S : Store} {ds : List D} {S' : Store}, evEs G Fn es' ρ S = .ok ds S' → ds.length = es'.length
  | [], S, ds, S', e => by rw [evEs_nil] at e; cases e; rfl
  | a :: r, S, ds, S', e => by
    rw [evEs_cons] at e
    cases q : evE G Fn a ρ S with
    | bad => rw [q] at e; cases e
    | exc x S1 => rw [q] at e; cases e
    | ok d S1 =>
      rw [q] at e
      have e : (evEs G Fn r ρ S1).bind (kCons d) = .ok ds S' := e
      cases q2 : evEs G Fn r ρ S1 with
      | bad => rw [q2] at e; cases e
      | exc x S1 => rw [q2] at e; cases e
      | ok ds2 S2 =>
        rw [q2] at e
        cases e
        rw [List.length_cons, List.length_cons, evEs_len q2]
theorem zip_kv : ∀ (ks : List Str) (vs : List V), (ks.map fun k => V.str k).zip vs = ((ks.map Sum.inr : List Key).zip vs).map fun kv => (kV kv.1, kv.2)
  | [], _ => rfl
  | _ :: _, [] => rfl
  | k :: ks, v :: vs => by
    rw [List.map_cons, List.map_cons, List.zip_cons_cons, List.zip_cons_cons, List.map_cons, zip_kv ks vs]
    rfl
theorem g_disp {ks : List Str} {vs' : List E} {keys : List (Option Expr)} {values : List Expr} {kp apos : Pos} {key dfl : Expr} {key' dfl' : E} (hu : X.A.units + 1 < cLine) (hp : GP X ca W G Fn ks vs' kp keys values) (hk : GE X ca W G Fn key' key) (hd : GE X ca W G Fn dfl' dfl) (m : M2 X (.Dict keys values kp) "get" apos key dfl pos)
    (hall : keys.all (·.isSome) = true := by rfl) (hl : keys.length = values.length := by rfl) (h0 : keys ≠ [] := by intro z; cases z) (h15 : keys.length ≤ 15 := by decide) (hn : ks.Nodup := by decide +kernel) (hl1 : ks.length = vs'.length := by rfl) (hl2 : ks.length ≤ 15 := by decide) :
    GE X ca W G Fn (.disp ks vs' key' dfl') (.Call (.Attribute (.Dict keys values kp) "get" apos) [key, dfl] [] pos) := by
  obtain ⟨trs, g1, g2⟩ := hp
  refine PE.weaken (pe_dget2 hu (pe_disp g1 hall hl h0 h15) hk hd m) fun σ H Q ⟨F, ι, S, ρ, own, st, en, h⟩ => ?_
  rw [evE_disp] at h
  intro p hp
  have b0 : Stp F H ι F (upd H p (.dK [])) ι := Stp.refl.ow hp _
  have od : ∀ i b, own i = some b → b ≠ p := fun i b hb e => (en.off i b hb).2.2 (by rw [e]; exact hp)
  have f0 := st.fnone hp
  have n0 := st.not_in hp
  have keepF : ∀ {Fa Ha Fb Hb : Hp} {ιa ιb : List Addr} {o : HO}, Stp Fa Ha ιa Fb Hb ιb → Fa p = none → Ha p = some o → p ∉ ιa → Fb p = none ∧ p ∉ ιb ∧ Hb p = some o := fun {Fa Ha Fb Hb ιa ιb o} s fa ha na => by
    refine ⟨?_, fun z => ?_, s.keep p _ ha na⟩
    · cases q : Fb p with
      | none => rfl
      | some u =>
        have := s.frz p fa (by rw [q]; exact fun z => nomatch z)
        rw [ha] at this
        cases this
    · rcases s.new p z with z | z
      · exact na z
      · rw [ha] at z; cases z
  have hlen : ∀ ds S1, evEs G Fn vs' ρ S = .ok ds S1 → ds.length = vs'.length := fun ds S1 e => evEs_len e
  refine g2 σ _ _ (tG_ex (st.ow f0 n0 _) (en.ow od _) ?_)
  revert h hlen
  cases evEs G Fn vs' ρ S with
  | bad => exact fun h _ => h
  | exc x S1 => exact fun h _ c d F2 H2 ι2 s2 => h c d F2 H2 ι2 (b0.trans s2)
  | ok ds S1 =>
    intro h hlen vs F1 H1 ι1 s1 st1 r1
    have ld := hlen ds S1 rfl
    obtain ⟨f1, n1, e1⟩ := keepF s1 f0 upd_same n0
    have lv := r1.len
    refine ⟨e1, (ks.map Sum.inr).zip vs, zip_kv ks vs, by rw [List.length_zip, List.length_map]; omega, ?_⟩
    have nd : (((ks.map Sum.inr : List Key).zip vs).map (·.1)).Nodup := by
      rw [List.map_fst_zip (by rw [List.length_map]; omega)]
      exact List.pairwise_map.mpr (List.Pairwise.imp (fun {a b} ne z => ne (Sum.inr.inj z)) hn)
    rw [merge_nd _ [] (by rw [List.nil_append]; exact nd), List.nil_append]
    have b1 := b0.trans s1
    have en1 := ((en.ow od (.dK [])).mono s1).ow od (.dK ((ks.map Sum.inr).zip vs))
    have st1' := st1.ow f1 n1 (.dK ((ks.map Sum.inr).zip vs))
    refine ⟨p, rfl, .inl ⟨_, .inl upd_same⟩, tG_ex st1' en1 (PostG.bindB (k := kDs2 G Fn ks dfl' ρ ds) h (b1.ow hp _) fun y S2 yv F2 H2 ι2 s2 st2 r2 h2 => ?_)⟩
    obtain ⟨f2, n2, e2⟩ := keepF s2 f1 upd_same n1
    have b2 := (b1.ow hp (.dK ((ks.map Sum.inr).zip vs))).trans s2
    refine tG_ex st2 (en1.mono s2) (PostG.bindB (k := kDs3 ks ds y) h2 b2 fun z S3 zv F3 H3 ι3 s3 st3 r3 h3 => ?_)
    obtain ⟨f3, n3, e3⟩ := keepF s3 f2 e2 n2
    cases y with
    | p y =>
      cases y with
      | str x =>
        rw [kDs3_eq] at h3
        split at h3
        · refine ⟨_, .inl ⟨_, .inr x, .inl e3, repA_str (F := F2) (H := H2) (ι := ι2) (K := X.K) (.inl r2), rfl⟩, ?_⟩
          have r1' : Reps X.K F3 ι3 ds vs := Reps.mono (s2.trans s3) _ _ (by
            have s : Stp F1 (fun _ => none) ι1 F1 (fun _ => none) ι1 := Stp.refl
            exact r1)
          exact h3 _ F3 H3 ι3 (b2.trans s3) st3 (valV_pick r3 (by omega) r1')
        · exact h3.elim
      | _ => exact h3.elim
    | _ => exact h3.elim
end
end EC

namespace EC
open PySem PySem.Spec PyProof.Rows L2
variable [CA]
theorem env_start {K : PySem.W.Frag} {F H : Hp} {ι : List Addr} {N : List Str} {ds : List D} {vs : List V} {nv : Nat} (r : Reps K F ι ds vs) (hN : N.length = ds.length + nv) : EnvR K F H ι (fun _ => none) (ds.map .v ++ List.replicate nv .un) (start N vs) := by
  have lv := r.len
  refine ⟨?_, fun i s h => ?_, fun i a h => (nomatch h), fun i j a h => (nomatch h)⟩
  · unfold L2.start
    rw [List.length_append, List.length_map, List.length_replicate, List.length_append, List.length_map, List.length_replicate]
    omega
  · by_cases hi : i < ds.length
    · rw [List.getElem?_append_left (by rw [List.length_map]; exact hi), List.getElem?_map] at h
      obtain ⟨d, h1, rfl⟩ := map_some h
      obtain ⟨v, h2, h3⟩ := r.get h1
      refine ⟨v, ?_, h3⟩
      unfold L2.start
      rw [List.getElem?_append_left (by rw [List.length_map]; omega), List.getElem?_map, h2]
      rfl
    · rw [List.getElem?_append_right (by rw [List.length_map]; omega), List.getElem?_replicate] at h
      split at h
      · cases h
        exact True.intro
      · cases h
/-- THE RULE: a def of the text keeps the evaluator's promise -/
theorem fnG_core {gb : Bool} {P : Program} {w : World} {K : PySem.W.Frag} {mg : Str → Option Value} {base : Heap} {ca : Nat → Addr} {G : Nat → D} {T : Nat → FD} {k n i np nv : Nat} {body' : List EC.S} {x qual : Str} {params : Arguments} {body : List Stmt} {scope : Scope} {f : Addr} {N ps : List Str} {dV kV doc pm cdv ct oc : Value} {an od : Option Addr} {osl : Array (Option Value)}
    (lk : K.lookup f = some ⟨oc, od, .func (PySem.W.fnOf x qual params body scope dV kV doc pm an cdv ct), osl⟩) (hcd : PySem.W.codeIn K cdv qual = true) (S : FnScope N ps scope) (hT : T i = ⟨np, nv, body'⟩) (hnp : ps.length = np) (hN : N.length = np + nv)
    (hbody : ∀ (A : Around) (outer : List PySem.Env) (s : Shared) (H : Hp) (E : XK) (F0 : Hp) (ι0 : List Addr), Room k (A.deeper (envOfC qual scope s.heap.objs.size f cdv)) → (gb = true → (A.deeper (envOfC qual scope s.heap.objs.size f cdv)).guards = some []) →
      GSs (cxOf (L2.CX P w) P w K mg base N qual scope f cdv A outer s H E) ca (fun c d _ H' => E c d H') F0 H ι0 G (run G T n) body' body) :
    FnG gb P w K mg base (L2.CX P w) (k + 1) f (PySem.W.fnOf x qual params body scope dV kV doc pm an cdv ct) ps (spG ca K np (run G T (n + 1) i)) := by
  refine fn_ofG lk hcd S (fun vs H Q E h => h.1.trans hnp.symm) fun A outer s H vs Q E hr hg hsp => ?_
  obtain ⟨hl, F0, ι0, S0, ds, st, r, h⟩ := hsp
  refine ⟨_, hbody A outer s H E F0 ι0 hr hg, ?_⟩
  have ld : ds.length = np := by rw [← r.len, hl]
  have e : run G T (n + 1) i ds S0 = (evSs G (run G T n) body' (ds.map .v ++ List.replicate nv .un) S0).bind fin := by
    have q := run_succ G T n i ds S0 (by rw [hT, ld]; exact beq_self_eq_true np)
    rw [hT] at q
    exact q
  rw [e] at h
  refine ⟨F0, ι0, S0, _, _, st, env_start r (by rw [ld]; exact hN), ⟨Stp.refl, fun _ _ h => (nomatch h)⟩, ?_⟩
  revert h
  cases evSs G (run G T n) body' (ds.map .v ++ List.replicate nv .un) S0 with
  | bad => exact fun h => h
  | exc x S1 => exact fun h σ c d F2 H2 ι2 s2 st2 r2 => h c d F2 H2 ι2 s2 st2 r2
  | ok fl S1 =>
    intro h
    cases fl with
    | nx ρ => exact fun σ F2 H2 ι2 own _ st2 _ et => h .non F2 H2 ι2 et.st st2 (rep_p.mpr .non)
    | ct ρ => exact h.elim
    | bk ρ => exact h.elim
    | rt d => exact fun v F2 H2 ι2 s2 st2 r2 => h v F2 H2 ι2 s2 st2 r2
theorem fnG_run {gb : Bool} {P : Program} {w : World} {K : PySem.W.Frag} {mg : Str → Option Value} {base : Heap} {ca : Nat → Addr} {G : Nat → D} {T : Nat → FD} {k n i np nv : Nat} {body' : List EC.S} {x qual : Str} {st : Stmt} {f : Addr} {fd : FuncData} {N ps : List Str}
    (F : Fun K x qual st f fd) (S : FnScope N ps (defScope st)) (hT : T i = ⟨np, nv, body'⟩) (hnp : ps.length = np) (hN : N.length = np + nv)
    (hbody : ∀ (cdv : Value) (A : Around) (outer : List PySem.Env) (s : Shared) (H : Hp) (E : XK) (F0 : Hp) (ι0 : List Addr), Room k (A.deeper (envOfC qual (defScope st) s.heap.objs.size f cdv)) → (gb = true → (A.deeper (envOfC qual (defScope st) s.heap.objs.size f cdv)).guards = some []) →
      GSs (cxOf (L2.CX P w) P w K mg base N qual (defScope st) f cdv A outer s H E) ca (fun c d _ H' => E c d H') F0 H ι0 G (run G T n) body' (defBody st)) :
    FnG gb P w K mg base (L2.CX P w) (k + 1) f fd ps (spG ca K np (run G T (n + 1) i)) := by
  obtain ⟨oc, od, kV, doc, pm, an, cdv, ct, osl, rfl, lk, hcd⟩ := F.ex
  exact fnG_core lk hcd S hT hnp hN fun A outer s H E F0 ι0 hr hg => hbody cdv A outer s H E F0 ι0 hr hg
/-- one row of the table: a def's name, parameters, their number -/
structure Row where
  x : Str
  ps : List Str
  np : Nat
  st : Stmt
  /-- a method: its class's number, its qualname -/
  cl : Option Nat := none
  q : Str := x
/-- where the def stands: a name of the module, or of a class -/
def Place (K : PySem.W.Frag) (mg : Str → Option Value) (f : Addr) (r : Row) : Prop := match r.cl with
  | none => mg r.x = some (.ref f) ∧ PySem.W.keepIn K (.ref f) = true
  | some c => Meth K (CA.cl c) r.x f
/-- every def of the table keeps its promise at level n -/
def Lvl (gb : Bool) (P : Program) (w : World) (K : PySem.W.Frag) (mg : Str → Option Value) (base : Heap) (ca : Nat → Addr) (G : Nat → D) (T : Nat → FD) (tab : List Row) (n : Nat) : Prop :=
  ∀ (i : Nat) (r : Row), tab[i]? = some r → ∃ (f : Addr) (fd : FuncData), FnG gb P w K mg base (L2.CX P w) (2 * n) f fd r.ps (spG ca K r.np (run G T n i)) ∧ Place K mg f r ∧ Binds K fd r.ps [] ∧ Fun K r.x r.q r.st f fd
theorem Lvl.c {gb : Bool} {X : Cx} {ca : Nat → Addr} {W : WX} {G : Nat → D} {T : Nat → FD} {tab : List Row} {n i : Nat} {r : Row} (L : Lvl gb X.prog X.w X.K X.mg X.base ca G T tab n) (hr : Room (2 * n + 1) X.A) (hg : gb = true → X.A.guards = some []) (tk : Takes X W) (h : tab[i]? = some r) (hc : r.cl = none := by rfl) : FnC X ca W (run G T n) r.np i r.x r.ps := by
  obtain ⟨f, fd, F, pl, b, _⟩ := L i r h
  unfold Place at pl
  rw [hc] at pl
  obtain ⟨m, k⟩ := pl
  exact ⟨gb, f, fd, 2 * n, F, hr.mono (Nat.le_succ _), hg, m, k, b, fun σ => passAt tk σ⟩
/-- the facts of a call by names -/
structure FnK (X : Cx) (ca : Nat → Addr) (W : WX) (Fn : Nat → List D → Store → Out D) (np : Nat) (i : Nat) (x : Str) (ps : List Str) (st : Stmt) : Prop where
  c : ∃ (gb : Bool) (f : Addr) (fd : FuncData) (k : Nat), FnG gb X.prog X.w X.K X.mg X.base (L2.CX X.prog X.w) k f fd ps (spG ca X.K np (Fn i)) ∧ Room k X.A ∧ (gb = true → X.A.guards = some []) ∧ X.mg x = some (.ref f) ∧ PySem.W.keepIn X.K (.ref f) = true ∧ Fun X.K x x st f fd ∧ ∀ σ, PassesAt (L2.CX X.prog X.w) X σ (WE W σ)
theorem Lvl.k {gb : Bool} {X : Cx} {ca : Nat → Addr} {W : WX} {G : Nat → D} {T : Nat → FD} {tab : List Row} {n i : Nat} {r : Row} (L : Lvl gb X.prog X.w X.K X.mg X.base ca G T tab n) (hr : Room (2 * n + 1) X.A) (hg : gb = true → X.A.guards = some []) (tk : Takes X W) (h : tab[i]? = some r) (hc : r.cl = none := by rfl) (hq : r.q = r.x := by rfl) : FnK X ca W (run G T n) r.np i r.x r.ps r.st := by
  obtain ⟨f, fd, F, pl, b, Fu⟩ := L i r h
  unfold Place at pl
  rw [hc] at pl
  rw [hq] at Fu
  obtain ⟨m, k⟩ := pl
  exact ⟨gb, f, fd, 2 * n, F, hr.mono (Nat.le_succ _), hg, m, k, Fu, fun σ => passAt tk σ⟩
/-- the facts of a call of a method -/
structure FnM (X : Cx) (ca : Nat → Addr) (W : WX) (Fn : Nat → List D → Store → Out D) (np : Nat) (i : Nat) (c : Nat) (m : Str) (ps : List Str) : Prop where
  c : ∃ (gb : Bool) (f : Addr) (fd : FuncData) (k : Nat), FnG gb X.prog X.w X.K X.mg X.base (L2.CX X.prog X.w) k f fd ps (spG ca X.K np (Fn i)) ∧ Room k X.A ∧ (gb = true → X.A.guards = some []) ∧ Meth X.K (CA.cl c) m f ∧ Binds X.K fd ps [] ∧ ∀ σ, PassesAt (L2.CX X.prog X.w) X σ (WE W σ)
theorem Lvl.m {gb : Bool} {X : Cx} {ca : Nat → Addr} {W : WX} {G : Nat → D} {T : Nat → FD} {tab : List Row} {n i : Nat} {r : Row} {c : Nat} (L : Lvl gb X.prog X.w X.K X.mg X.base ca G T tab n) (hr : Room (2 * n + 1) X.A) (hg : gb = true → X.A.guards = some []) (tk : Takes X W) (h : tab[i]? = some r) (hc : r.cl = some c := by rfl) : FnM X ca W (run G T n) r.np i c r.x r.ps := by
  obtain ⟨f, fd, F, pl, b, _⟩ := L i r h
  unfold Place at pl
  rw [hc] at pl
  exact ⟨gb, f, fd, 2 * n, F, hr.mono (Nat.le_succ _), hg, pl, b, fun σ => passAt tk σ⟩
/-- the facts of a class that is made -/
structure FnI (X : Cx) (ca : Nat → Addr) (W : WX) (Fn : Nat → List D → Store → Out D) (np : Nat) (i : Nat) (c : Nat) (ps : List Str) : Prop where
  c : ∃ (gb : Bool) (f : Addr) (fd : FuncData) (k : Nat), FnG gb X.prog X.w X.K X.mg X.base (L2.CX X.prog X.w) k f fd ps (spG ca X.K np (Fn i)) ∧ Room (k + 1) X.A ∧ (gb = true → X.A.guards = some []) ∧ Meth X.K (CA.cl c) "__init__" f ∧ Binds X.K fd ps [] ∧ ∀ σ, PassesAt (L2.CX X.prog X.w) X σ (WE W σ)
theorem Lvl.i {gb : Bool} {X : Cx} {ca : Nat → Addr} {W : WX} {G : Nat → D} {T : Nat → FD} {tab : List Row} {n i : Nat} {r : Row} {c : Nat} (L : Lvl gb X.prog X.w X.K X.mg X.base ca G T tab n) (hr : Room (2 * n + 1) X.A) (hg : gb = true → X.A.guards = some []) (tk : Takes X W) (h : tab[i]? = some r) (hc : r.cl = some c := by rfl) (hx : r.x = "__init__" := by rfl) : FnI X ca W (run G T n) r.np i c r.ps := by
  obtain ⟨f, fd, F, pl, b, _⟩ := L i r h
  unfold Place at pl
  rw [hc, hx] at pl
  exact ⟨gb, f, fd, 2 * n, F, hr, hg, pl, b, fun σ => passAt tk σ⟩
theorem FnG.zero {gb : Bool} {P : Program} {w : World} {K : PySem.W.Frag} {mg : Str → Option Value} {base : Heap} {ca : Nat → Addr} {G : Nat → D} {T : Nat → FD} {i np : Nat} {f : Addr} {fd : FuncData} {ps : List Str} (hnp : ps.length = np) : FnG gb P w K mg base (L2.CX P w) 0 f fd ps (spG ca K np (EC.run G T 0 i)) :=
  ⟨fun vs H Q E h => h.1.trans hnp.symm, fun A outer s H args us vs Q E _ _ _ _ _ h => by
    obtain ⟨_, F0, ι0, S0, ds, _, _, h⟩ := h
    exact h.elim⟩
theorem FnG.ok {P : Program} {w : World} {K : PySem.W.Frag} {mg : Str → Option Value} {base : Heap} {CX : CXT} {k : Nat} {f : Addr} {fd : FuncData} {ps : List Str} {sp : Sp} (F : FnG false P w K mg base CX k f fd ps sp) : FnOk P w K mg base CX k f fd ps sp :=
  ⟨F.len, fun A outer s H args us vs Q E hr e0 hb r h => F.run A outer s H args us vs Q E hr (fun z => nomatch z) e0 hb r h⟩
/-- the script, as data -/
theorem ints_dq {K : PySem.W.Frag} {F : Hp} : ∀ (ns : List Int), DqAll K F (ns.map V.int) (ns.map PyData.int)
  | [] => .nil
  | n :: ns => .cons (.int n) (ints_dq ns)
/-- what the law's def promises, of the script -/
theorem law_sp {w : World} {K : PySem.W.Frag} {ca : Nat → Addr} {m : List D → Store → Out D} {H : Hp} {a : Addr} {ns : List Int} (hO : Only H) (hS : SqL K H a (ns.map V.int)) (h : ∃ S, m [.p (.list (ns.map .int))] [] = .ok (.p (.bool true)) S) :
    spG ca K 1 m [.ref a] H (fun v _ => v = .bl true) fun _ _ _ => False := by
  obtain ⟨S, e⟩ := h
  refine ⟨rfl, H, [], [], [.p (.list (ns.map .int))], ⟨Same.refl H, rfl, List.nodup_nil, fun _ h => (nomatch h), fun i o h => by simp at h⟩, reps_cons.mpr ⟨_, _, rfl, rep_p.mpr (.lst hS (ints_dq ns)), reps_nil.mpr rfl⟩, ?_⟩
  rw [e]
  intro v F' H' ι' _ _ r
  have q := rep_p.mp r
  cases q
  rfl
end EC

namespace EC
open PySem PySem.Spec PyProof.Rows L2
variable [CA]
section
variable {X : Cx} {ca : Nat → Addr} {W : WX} {F0 H0 : Hp} {ι0 : List Addr} {G : Nat → D} {Fn : Nat → List D → Store → Out D} {e' : E} {pos : Pos}
theorem gs_lcKeep {i : Nat} {st : Stmt} (h : PS X st (fun D σ H => tG ca X.K W (RFr X.K H) (evE G Fn e') σ H fun x H1 => gName i x σ H1 D.nx)) : GS X ca W F0 H0 ι0 G Fn (.asg (.nm i) (.keep e')) st := by
  refine PS.weaken h fun D σ H ⟨F, ι, S, ρ, own, st, en, et, h⟩ => ?_
  rw [evS_asg, evE_keep, bind_assoc] at h
  refine tG_ex st en (h.bindE et fun d S1 v F1 H1 ι1 s1 st1 r1 et1 h1 => ?_)
  obtain ⟨xs, ι2, rfl, s2, st2, r2⟩ := keep_step s1 st1 r1
  have h1 : PostS ca X.K W F0 H0 ι0 F1 D (kAsg (.nm i) ρ (.ref S1.length) (S1 ++ [.lst (xs.map .p)])) := h1
  exact nm_end st2 (en.mono s2) (et.mono s2) r2 h1
/-- a name, by its slot -/
theorem n_ {i : Nat} {x : Str} (hN : X.N[i]? = some x := by rfl) (hv : Vis X.env.scope x := by first | exact Or.inl rfl | exact Or.inr (Or.inl rfl) | exact Or.inr (Or.inr rfl)) (hd : (x == ("__debug__" : Str)) = false := by decide) (hcd : (x == ("__classdict__" : Str)) = false := by decide) : GE X ca W G Fn (.v i) (.Name x pos) := g_v hN hv hd hcd
theorem na {i : Nat} {x : Str} (hN : X.N[i]? = some x := by rfl) (hv : Vis X.env.scope x := by first | exact Or.inl rfl | exact Or.inr (Or.inl rfl) | exact Or.inr (Or.inr rfl)) (hd : (x == ("__debug__" : Str)) = false := by decide) (hcd : (x == ("__classdict__" : Str)) = false := by decide) : GA X ca W G Fn (.v i) (.Name x pos) := ga_v hN hv hd hcd
/-- a target's name -/
theorem tn {i : Nat} {x : Str} (hN : X.N.Nodup) (hi : X.N[i]? = some x := by rfl) (hx : Loc X.env.scope x := by first | exact Or.inl rfl | exact Or.inr rfl) (hf : X.fn x = true ∨ X.env.scope.names.lookup x = some .local := by first | exact .inl rfl | exact .inr rfl | assumption) : GG X (.nm i) (.Name x pos) := gg_nm hN hi hx hf
end
theorem bt_len : bootBuiltins "len" = some (.builtin "len") := by decide +kernel
theorem bt_all : bootBuiltins "all" = some (.builtin "all") := by decide +kernel
theorem bt_any : bootBuiltins "any" = some (.builtin "any") := by decide +kernel
theorem bt_sum : bootBuiltins "sum" = some (.builtin "sum") := by decide +kernel
theorem bt_min : bootBuiltins "min" = some (.builtin "min") := by decide +kernel
theorem bt_max : bootBuiltins "max" = some (.builtin "max") := by decide +kernel
theorem bt_abs : bootBuiltins "abs" = some (.builtin "abs") := by decide +kernel
theorem bt_repr : bootBuiltins "repr" = some (.builtin "repr") := by decide +kernel
theorem bt_isinstance : bootBuiltins "isinstance" = some (.builtin "isinstance") := by decide +kernel
theorem bt_int : bootBuiltins "int" = some (.type "int") := by decide +kernel
theorem bt_bool : bootBuiltins "bool" = some (.type "bool") := by decide +kernel
theorem bt_str : bootBuiltins "str" = some (.type "str") := by decide +kernel
theorem bt_list : bootBuiltins "list" = some (.type "list") := by decide +kernel
theorem bt_tuple : bootBuiltins "tuple" = some (.type "tuple") := by decide +kernel
end EC

namespace EC
open PySem PySem.Spec PyProof.Rows L2
variable [CA]
/-! ### enumerate of a list, a tuple, a text -/
set_option maxHeartbeats 1000000 in
theorem enum_new1 {v : Value} {o : Obj} {Hb : Heap → Prop} (B : Begins v o Hb) :
    Meets (Builtin.«enumerate.__new__» ⟨[.type "enumerate", v], []⟩) (fun _ R s => Hb s.heap ∧
      R (.ok (.ret (.ref (s.heap.push o).objs.size))) { s with heap := (s.heap.push o).push { cls := .type "enumerate", data := .fields #[.none, .bool false, .ref s.heap.objs.size, rawInt 0, .none, .none] } }) :=
  .of_wp fun prog w A R s h => by
    obtain ⟨hp, g, d, tk, os⟩ := s
    obtain ⟨h1, h⟩ := h
    have hsub := sub_enumerate
    have it : ∀ {A' : Around} {E : Value → Shared → Prop} {Q : Value → Shared → Prop}, Q (.ref hp.objs.size) ⟨hp.push o, g, d, tk, os⟩ → wpAny (model prog w) A' (pyIter v) Q E ⟨hp, g, d, tk, os⟩ :=
      fun q => B.iter prog w _ _ ⟨hp, g, d, tk, os⟩ _ h1 q
    wp_walk using it
    refine wpAny_stack_any fun st => wpAny_pure ?_
    split
    · rename_i c _ _ _ _ _
      cases (c == Value.type "enumerate")
      · wp_walk using it
        exact ⟨_, rfl, h⟩
      · wp_walk using it
        exact ⟨_, rfl, h⟩
    · wp_walk using it
      exact ⟨_, rfl, h⟩
theorem enum_beg1 {prog : Program} {w : World} {A : Around} {E : Value → Shared → Prop} {s : Shared} {v : Value} {o : Obj} {Hb : Heap → Prop} {Q : Value → Shared → Prop} (B : Begins v o Hb) (h1 : Hb s.heap)
    (h : ∀ h', IsEnum h' (s.heap.objs.size + 1) s.heap.objs.size 0 .none → h'.get? s.heap.objs.size = some o → (∀ b o, s.heap.get? b = some o → h'.get? b = some o) → Q (.ref (s.heap.objs.size + 1)) { s with heap := h' }) :
    wpAny (model prog w) A (call (.type "enumerate") [v]) Q E s := by
  refine callType_new F.called_enumerate (by decide) (F.typeCall_enumerate_1 _) (F.newCall_enumerate_1 _) (fun obj => F.args_object_init_2 obj _) F.entry_enumerate_new (enum_new1 B) ⟨h1, ?_⟩
  have hz : (s.heap.push o).objs.size = s.heap.objs.size + 1 := Heap.size_push ..
  show _ ∧ _
  rw [hz]
  have en : IsEnum ((s.heap.push o).push { cls := .type "enumerate", data := .fields #[.none, .bool false, .ref s.heap.objs.size, rawInt 0, .none, .none] }) (s.heap.objs.size + 1) s.heap.objs.size 0 .none := by
    have q := Heap.get?_push_size (s.heap.push o) (o := { cls := .type "enumerate", data := .fields #[.none, .bool false, .ref s.heap.objs.size, rawInt 0, .none, .none] }) rfl
    rw [hz] at q
    exact q
  exact ⟨⟨_, en, rfl⟩, h _ en (Heap.get?_push_of_some _ (Heap.get?_push_size _ B.free)) fun b o x => Heap.get?_push_of_some _ (Heap.get?_push_of_some _ x)⟩
def IteM (K : PySem.W.Frag) (r : Sr) : It :=
  ⟨fun i H => ∃ (xs : List V) (x : V), r.ok K H xs ∧ xs[i]? = some x,
    fun i H v H' => ∃ T x, v = .ref T ∧ H T = none ∧ H' = upd H T (.tup [.int (i : Nat), x]) ∧ ∀ xs, r.ok K H xs → xs[i]? = some x,
    fun i H => ∃ xs : List V, r.ok K H xs ∧ i = xs.length⟩
theorem turn_enumM {P : Program} {w : World} {K : PySem.W.Frag} {elts : List Expr} {kk : Nat} {tpos : Pos} {r : Sr} {e it : Addr} (hei : e ≠ it) (hes : e ∉ r.src) (hn : it ∉ r.src) :
    Turn P w K (.Tuple elts kk tpos) (IteM K r) [e, it] e (fun i h => (∃ old, IsEnum h e it ((0 : Int) + ((i : Nat) : Int)) old) ∧ r.st it i h) where
  mem := by simp
  obj := fun i h st c hc => by
    obtain ⟨⟨old, he⟩, h1⟩ := st
    have e' : c = e ∨ c = it := by simpa using hc
    rcases e' with q | q
    · rw [q]; exact ⟨_, he, fun v q => nomatch q⟩
    · rw [q]; exact Sr.st_live h1
  keep := fun i h h' st k => by
    obtain ⟨⟨old, he⟩, h1⟩ := st
    exact ⟨⟨old, k e (by simp) _ he⟩, Sr.st_at h1 fun o q => k it (by simp) o q⟩
  item := by
    intro X hP hw hK hc i pins s σ H E I hf st hg
    subst hP hw hK
    obtain ⟨he, h1⟩ := st
    obtain ⟨xs, x, hq, hx⟩ := hg
    have hh : X.A.in1.handled = none := I.ok.hd hc
    obtain ⟨m1, P1, S1, D1, s1, b1, l1, p1⟩ := Sr.draws I hq X.A.in1 hh it hn h1
    have W := GoesN.enumFrom (elts := elts) (x1 := kk) (pos := tpos) (prog := X.prog) (w := X.w) (A := X.A) 0 D1 e hei (by rw [Sr.fp_eq]; exact fun z => (List.mem_cons.mp z).elim hei hes) (by rw [Sr.fp_eq]; exact List.mem_cons_self)
    have hi : i < m1 := by
      have := (List.getElem?_eq_some_iff.mp hx).1
      omega
    refine W.goes i s (fun u s2 => ∃ x H', Inv X pins σ H' s2 ∧ RelV x u ∧ (IteM X.K r).yld i H x H' ∧ ((∃ old, IsEnum s2.heap e it ((0 : Int) + (((i + 1 : Nat)) : Int)) old) ∧ r.st it (i + 1) s2.heap) ∧ ∀ b ∈ [e, it], H' b = none) E hi ⟨he, s1⟩ fun v h' tk hY st' hk htk => ?_
    obtain ⟨T, t, a, rfl, hT, ha, hTt⟩ := hY
    obtain ⟨va, ea, ra⟩ := p1 i a ha
    have new : ObjOk X.prog X.w (upd H T (.tup [.int (i : Nat), va])) h' T (.tup [.int (i : Nat), va]) := ⟨by show 2 ≤ sizeLine; decide, [.int ((0 : Int) + (i : Int)) t, a], .cons ⟨t, by rw [Int.zero_add]⟩ (.cons ra .nil), hTt⟩
    have I1 : Inv X pins σ (upd H T (.tup [.int (i : Nat), va])) { s with heap := h', toks := tk } := I.turnedNew (t' := tk) (ch := [e, it]) (fun c o hb q => hk c o hb q) hf hT new
    refine ⟨.ref T, _, I1, rfl, ⟨T, va, rfl, I.hok.fresh hT, rfl, fun l hl => by rw [Sr.len_inj I hl hq]; exact ea⟩, ⟨st'.1, b1 _ _ st'.2⟩, fun c hcm => ?_⟩
    have hlt : c < s.heap.objs.size := by
      have e' : c = e ∨ c = it := by simpa using hcm
      obtain ⟨_, he'⟩ := he
      rcases e' with q | q
      · rw [q]; exact Heap.lt_size he'
      · rw [q]; obtain ⟨_, e1, _⟩ := Sr.st_live h1; exact Heap.lt_size e1
    rw [upd_ne (Nat.ne_of_lt (Nat.lt_of_lt_of_le hlt hT))]
    exact (hf c hcm).1
  done := by
    intro X hP hw hK hc i pins s σ H E I hf st hg
    subst hP hw hK
    obtain ⟨he, h1⟩ := st
    obtain ⟨xs, hq, hend⟩ := hg
    have hh : X.A.in1.handled = none := I.ok.hd hc
    obtain ⟨m1, P1, S1, D1, s1, b1, l1, p1⟩ := Sr.draws I hq X.A.in1 hh it hn h1
    have W := GoesN.enumFrom (elts := elts) (x1 := kk) (pos := tpos) (prog := X.prog) (w := X.w) (A := X.A) 0 D1 e hei (by rw [Sr.fp_eq]; exact fun z => (List.mem_cons.mp z).elim hei hes) (by rw [Sr.fp_eq]; exact List.mem_cons_self)
    have ei : i = m1 := by omega
    subst ei
    exact W.stops s (fun s1 => Inv X pins σ H s1) E ⟨he, s1⟩ fun h' tk hk htk => I.turnedL (t' := tk) (ch := [e, it]) (fun c o hb q => hk c o hb q) hf
  self := fun A i s Q E st h => let ⟨⟨_, he⟩, _⟩ := st; wpAny_pyIter_enum he h
def iEnumM (K : PySem.W.Frag) (ta : TA) : TI := fun σ H R => ta σ H fun vs H1 => ∃ q : Sk, vs = [q.v] ∧ (∃ xs, q.ok K H1 xs) ∧ ∀ k, R (IteM K (q.sr k)) H1
theorem pi_enumM {X : Cx} {e : Expr} {ta : TA} {p pos tpos : Pos} {elts : List Expr} {kk : Nat} (hg : Gl X "enumerate") (hm : X.mg "enumerate" = none) (ha : PA X [e] ta) (hs : starEach [e] X.env = [(false, eval e X.env)] := by rfl) :
    PI X (.Tuple elts kk tpos) (.Call (.Name "enumerate" p) [e] [] pos) (iEnumM X.K ta) := by
  refine ⟨fun pins s σ H R I h => ?_⟩
  refine Call_ (ld_blt I hg hm boot_enumerate (PyProof.Rows.callWith_type1 (thn (ha.run pos pins s σ H _ I h) fun us s1 ⟨vs, H1, I1, r1, q1⟩ => ?_) hs rfl))
  obtain ⟨q, ex, ⟨xs, hq⟩, hR⟩ := q1
  subst ex
  cases r1 with
  | cons ra rr =>
    cases rr
    obtain ⟨k, rfl⟩ := Sk.val_of ra
    have hq := (Sk.ok_sr (k := k)).mpr hq
    obtain ⟨B1, b1, c1⟩ := Sr.begins I1 hq
    have lt1 := Sr.lt I1 hq
    refine enum_beg1 b1 c1 fun h' he g1 hk => wpAny_pyIter_enum he ?_
    have I2 : Inv X pins σ H1 { s1 with heap := h' } := I1.kept (t' := s1.toks) hk
    have n1 : s1.heap.objs.size ∉ (q.sr k).src := fun z => absurd (lt1 _ z) (Nat.lt_irrefl _)
    have n2 : s1.heap.objs.size + 1 ∉ (q.sr k).src := fun z => absurd (lt1 _ z) (Nat.not_lt.mpr (Nat.le_succ _))
    refine ⟨s1.heap.objs.size + 1, [s1.heap.objs.size + 1, s1.heap.objs.size], _, _, H1, rfl, I2, turn_enumM (Nat.succ_ne_self _) n2 n1, ⟨⟨.none, he⟩, Sr.st0 g1⟩, fun b hb => ?_, hR k⟩
    have e' : b = s1.heap.objs.size + 1 ∨ b = s1.heap.objs.size := by simpa using hb
    have hle : s1.heap.objs.size ≤ b := by
      rcases e' with z | z
      · rw [z]; exact Nat.le_succ _
      · rw [z]; exact Nat.le_refl _
    exact I1.fpOk hle (I1.hok.fresh hle)
theorem wk_enumM {K : PySem.W.Frag} {ok : Hp → Hp → List Addr → Prop} {xs : List PyData} {q : Sk} {vs : List V} (L : LwS K ok xs q vs) {k : Tok} : Wk K (IteM K (q.sr k)) (enumD 0 (xs.map .p)) ok := by
  refine ⟨fun H => q.ok K H vs, fun i H v H' => ∃ T x, v = .ref T ∧ H T = none ∧ H' = upd H T (.tup [.int (i : Nat), x]) ∧ vs[i]? = some x, ⟨fun i H hi hG => ?_, fun H hG => ?_, fun i H x H' hi hG hy => ?_⟩, fun F H ι S h st => (L.at_ F H ι S h st).1, fun i v d F H H' ι S h st hi y => ?_⟩
  · rw [enumD_len, ← L.len] at hi
    exact ⟨vs, vs[i]'(by omega), Sk.ok_sr.mpr hG, List.getElem?_eq_getElem _⟩
  · exact ⟨vs, Sk.ok_sr.mpr hG, by rw [enumD_len, ← L.len]⟩
  · obtain ⟨T, x, h1, h2, h3, h4⟩ := hy
    exact ⟨T, x, h1, h2, h3, h4 vs (Sk.ok_sr.mpr hG)⟩
  · obtain ⟨T, x, rfl, hT, e, ex⟩ := y
    obtain ⟨w, h1, rfl⟩ := enumD_get hi
    obtain ⟨v1, g1, g2⟩ := (L.at_ F H ι S h st).2.get h1
    rw [g1] at ex
    cases ex
    rw [Int.zero_add]
    exact pair_rep st hT e (.int _) g2
theorem gi_enum {X : Cx} {ca : Nat → Addr} {W : WX} {G : Nat → D} {Fn : Nat → List D → Store → Out D} {a : Expr} {a' : E} {pos p tpos : Pos} {bb : Bool} {elts : List Expr} {kk : Nat} (hg : Gl X "enumerate") (hm : X.mg "enumerate" = none) (ha : GX bb X ca W G Fn a' a) (hs : starEach [a] X.env = [(false, eval a X.env)] := by rfl) :
    GI bb X ca W G Fn .enum [a'] (.Tuple elts kk tpos) (.Call (.Name "enumerate" p) [a] [] pos) := by
  refine PI.weaken (pi_enumM hg hm (pa_cons ha pa_nil hs) hs) fun σ H R ⟨F, ι, S, ρ, own, st, en, h⟩ => one_it h st en fun d S1 v F1 H1 ι1 st1 r1 h1 => ?_
  obtain ⟨xs, hx, q⟩ := PostG.of h1
  have hx : (items1 S1 d).map (enumD 0) = some xs := hx
  obtain ⟨x1, e1, rfl⟩ := map_some hx
  obtain ⟨y1, q1, vs, rfl, rfl, L⟩ := src_of st1 r1 e1
  exact ⟨q1, rfl, ⟨vs, (L.at_ F1 H1 ι1 S1 okB_refl st1).1⟩, fun k => q _ F1 H1 ι1 Stp.refl st1 (wk_enumM L)⟩
end EC

namespace EC
open PySem PySem.Spec PyProof.Rows L2
variable [CA]
/-! ### calls by names -/
def pmt {α : Type} (pm : List Nat) (l : List α) : List α := pm.filterMap fun i => l[i]?
theorem permute_pmt {pm : List Nat} {ds ds' : List D} (h : permute pm ds = some ds') (hp : pm ≠ []) : ds.length = pm.length ∧ ds' = pmt pm ds := by
  unfold permute at h
  cases pm with
  | nil => exact absurd rfl hp
  | cons a r =>
    dsimp only at h
    split at h
    · rename_i e
      refine ⟨(beq_iff_eq.mp e).symm, ?_⟩
      have key : ∀ (l : List Nat) (o : List D), l.mapM (fun i => ds[i]?) = some o → o = pmt l ds := by
        intro l
        induction l with
        | nil => intro o ho; simp at ho; subst ho; rfl
        | cons b l ih =>
          intro o ho
          rw [List.mapM_cons] at ho
          cases e1 : ds[b]? with
          | none => simp [e1] at ho
          | some d =>
            cases e2 : l.mapM (fun i => ds[i]?) with
            | none => simp [e1, e2] at ho
            | some o2 =>
              simp [e1, e2] at ho
              subst ho
              unfold pmt
              rw [List.filterMap_cons, e1]
              have := ih o2 e2
              unfold pmt at this
              rw [← this]
      exact key _ _ h
    · cases h
theorem Reps.nth {K : PySem.W.Frag} {F : Hp} {ι : List Addr} {ds : List D} {vs : List V} (r : Reps K F ι ds vs) (i : Nat) : (ds[i]? = none ∧ vs[i]? = none) ∨ ∃ d v, ds[i]? = some d ∧ vs[i]? = some v ∧ Rep K F ι d v := by
  cases e : ds[i]? with
  | none =>
    refine .inl ⟨rfl, ?_⟩
    rw [List.getElem?_eq_none_iff] at e ⊢
    rw [r.len]
    exact e
  | some d =>
    obtain ⟨v, h1, h2⟩ := Reps.get r e
    exact .inr ⟨d, v, rfl, h1, h2⟩
theorem Reps.pmt {K : PySem.W.Frag} {F : Hp} {ι : List Addr} {ds : List D} {vs : List V} (r : Reps K F ι ds vs) : ∀ pm : List Nat, Reps K F ι (pmt pm ds) (pmt pm vs)
  | [] => reps_nil.mpr rfl
  | i :: pm => by
    unfold EC.pmt
    rw [List.filterMap_cons, List.filterMap_cons]
    rcases r.nth i with ⟨h1, h2⟩ | ⟨d, v, h1, h2, h3⟩
    · rw [h1, h2]; exact Reps.pmt r pm
    · rw [h1, h2]; exact reps_cons.mpr ⟨v, _, rfl, h3, Reps.pmt r pm⟩
theorem Vals.nth {vs : List V} {us : List Value} (r : Vals vs us) : ∀ i : Nat, (vs[i]? = none ∧ us[i]? = none) ∨ ∃ v u, vs[i]? = some v ∧ us[i]? = some u ∧ RelV v u := by
  induction r with
  | nil => exact fun i => .inl ⟨by simp, by simp⟩
  | cons h _ ih =>
    intro i
    cases i with
    | zero => exact .inr ⟨_, _, rfl, rfl, h⟩
    | succ i => simpa using ih i
theorem Vals.pmt {vs : List V} {us : List Value} (r : Vals vs us) : ∀ pm : List Nat, Vals (pmt pm vs) (pmt pm us)
  | [] => .nil
  | i :: pm => by
    unfold EC.pmt
    rw [List.filterMap_cons, List.filterMap_cons]
    rcases Vals.nth r i with ⟨h1, h2⟩ | ⟨v, u, h1, h2, h3⟩
    · rw [h1, h2]; exact Vals.pmt r pm
    · rw [h1, h2]; exact .cons h3 (Vals.pmt r pm)
section
variable {X : Cx} {ca : Nat → Addr} {W : WX} {G : Nat → D} {Fn : Nat → List D → Store → Out D} {a : Expr} {a' : E} {es' : List E} {kws : List Keyword} {pos p kpos : Pos} {x nm : Str}
abbrev GK (X : Cx) (ca : Nat → Addr) (W : WX) (G : Nat → D) (Fn : Nat → List D → Store → Out D) (es' : List E) (kws : List Keyword) : Prop := PK X kws (tG ca X.K W (RVs X.K) (evEs G Fn es'))
theorem PK.weaken {t u : TA} (h : PK X kws t) (hu : ∀ σ H Q, u σ H Q → t σ H Q) : PK X kws u := ⟨fun pos pins s σ H Q I z => h.run pos pins s σ H Q I (hu _ _ _ z)⟩
theorem gk_nil : GK X ca W G Fn [] [] := by
  refine PK.weaken pk_nil fun σ H Q ⟨F, ι, S, ρ, own, st, en, h⟩ => ?_
  rw [evEs] at h
  exact h [] F H ι Stp.refl st (reps_nil.mpr rfl)
theorem gk_cons (ha : GE X ca W G Fn a' a) (hs : GK X ca W G Fn es' kws) : GK X ca W G Fn (a' :: es') (⟨nm, a, kpos⟩ :: kws) := by
  refine PK.weaken (pk_cons ha hs) fun σ H Q ⟨F, ι, S, ρ, own, st, en, h⟩ => ?_
  rw [evEs] at h
  refine ⟨F, ι, S, ρ, own, st, en, h.bind_ fun d S1 v F1 H1 ι1 s1 st1 r1 h1 => ?_⟩
  refine ⟨F1, ι1, S1, ρ, own, st1, en.mono s1, h1.bind_ fun ds S2 vs F2 H2 ι2 s2 st2 r2 h2 => ?_⟩
  exact h2 _ F2 H2 ι2 Stp.refl st2 (reps_cons.mpr ⟨v, vs, rfl, Rep.mono s2 _ _ r1, r2⟩)
/-- f(k = e, ..), nothing by position -/
theorem g_callK {np i : Nat} {ps ks : List Str} {st : Stmt} {pm : List Nat} (C : FnK X ca W Fn np i x ps st) (hg : Gl X x) (hp : pm ≠ [])
    (hb : ∀ (kV doc pm' : Value) (an : Option Addr) (cdv ct : Value) (us : List Value), us.length = pm.length → bindArgs (PySem.W.fnOf x x (defArgs st) (defBody st) (defScope st) .none kV doc pm' an cdv ct) ⟨[], ks.zip us⟩ = pure (ps.zip (pmt pm us)))
    (ha : GK X ca W G Fn es' kws) (hall : (backToKw pos (keywordEach kws X.env)).all (·.1.isSome) = true := by rfl) (hks : (backToKw pos (keywordEach kws X.env)).filterMap (·.1) = ks := by rfl)
    (hdb : (x == ("__debug__" : Str)) = false := by decide) (hpl : ((backTo pos (starEach [] X.env)).any (·.1) || (backToKw pos (keywordEach kws X.env)).any (·.1.isNone)) = false := by rfl)
    (hnp : ∀ {α : Type} (l : List α), l.length = pm.length → (pmt pm l).length = np) : GE X ca W G Fn (.call i pm es') (.Call (.Name x p) [] kws pos) := by
  obtain ⟨gb, f, fd, k, F, hr, hgd, hm, hk, hF, hx⟩ := C.c
  refine ⟨fun pins s σ H Q I h => ?_⟩
  refine wpAny_Call_Name_kw (ld_glob I hg hm ?_ hdb)
  obtain ⟨F0, ι, S, ρ, own, st0, en, h⟩ := h
  rw [evE_call] at h
  refine PySem.W.callWith_KW0 (h₀ := X.base) I.ok.mod.kin hk hall (thn (ha.run pos pins s σ H (fun zs H2 => ∃ vs, vs = pmt pm zs ∧ zs.length = pm.length ∧ spG ca X.K np (Fn i) vs H2 Q (WE W σ)) I ?_) fun ws s2 ⟨zs, H2, I2, rz, vs, ev, el, q⟩ => ⟨I2.kIn, ?_⟩) hpl
  · refine tG_ex st0 en (h.bind_ fun ds S1 zs F1 H1 ι1 s1 st1 r1 h1 => ?_)
    have h1 : PostG ca X.K W σ F1 H1 ι1 (RV X.K) Q (kCall Fn i pm ds S1) := h1
    unfold kCall at h1
    cases e : permute pm ds with
    | none => rw [e] at h1; exact h1.elim
    | some ds' =>
      rw [e] at h1
      obtain ⟨l, rfl⟩ := permute_pmt e hp
      have lz : zs.length = pm.length := by rw [r1.len, l]
      exact ⟨_, rfl, lz, hnp zs lz, F1, ι1, S1, pmt pm ds, st1, r1.pmt pm, h1.at_⟩
  · subst ev
    rw [hks]
    have lw : ws.length = pm.length := by rw [← rz.length, el]
    have b : BindsTo s2 fd ⟨[], ks.zip ws⟩ (ps.zip (pmt pm ws)) := by
      obtain ⟨oc, od, kV, doc, pm', an, cdv, ct, osl, rfl, lk, hcd⟩ := hF.ex
      exact .of_eq (hb kV doc pm' an cdv ct ws lw)
    exact run_fnG (args := ⟨[], ks.zip ws⟩) F hr hgd b (hx σ) I2 (Vals.pmt rz pm) q
/-- o.append(e), of a list of the store -/
theorem g_append {o e : Expr} {o' e' : E} {apos : Pos} (ho : GE X ca W G Fn o' o) (he : GE X ca W G Fn e' e) (hbase : attributeBase o "append" X.env (eval o X.env) = eval o X.env := by rfl)
    (hfew : ((backTo pos (starEach [e] X.env)).all (fun x => !x.1) && (backToKw pos (keywordEach [] X.env)).all (fun x => x.1.isSome)
      && decide (([e]).length + ([] : List Keyword).length + (if ([] : List Keyword).isEmpty then 0 else 1) < 30)) = true := by rfl)
    (hline : (apos.endLine == pos.line) = true := by rfl) (hs : starEach [e] X.env = [(false, eval e X.env)] := by rfl) :
    GE X ca W G Fn (.app o' e') (.Call (.Attribute o "append" apos) [e] [] pos) := by
  refine PE.weaken (pe_bm PySem.F.plainAttrs_list PySem.F.slot_list_append PySem.F.type_list_append mt_append ho (pa_cons he pa_nil hs) hbase hfew hline hs) fun σ H Q ⟨F, ι, S, ρ, own, st, en, h⟩ => ?_
  rw [evE_app] at h
  refine tG_ex st en (h.bind_ fun d S1 v F1 H1 ι1 s1 st1 r1 h1 => ?_)
  rw [kApp0_eq] at h1
  split at h1
  · rename_i hl
    unfold isL at hl
    split at hl
    · rename_i k
      split at hl
      · rename_i ds0 e0
        obtain ⟨pp, rfl, g1⟩ := rep_ref.mp r1
        obtain ⟨pp2, vs, g2, g3, g4⟩ := st1.lst e0
        rw [g1] at g2
        cases g2
        refine ⟨Or.inl ⟨rfl, _, Or.inl (Or.inl g3)⟩, tG_ex st1 (en.mono s1) (h1.bind_ fun x S2 w F2 H2 ι2 s2 st2 r2 h2 => ?_)⟩
        rw [kApp1_eq, mutl_append] at h2
        split at h2
        · rename_i ds e1
          split at h2
          · rename_i hz
            obtain ⟨pp2, vs, g2, g3, g4⟩ := st2.lst e1
            have g1 := s2.ix g1
            rw [g1] at g2
            cases g2
            have hz : ds.length + 1 ≤ 16777216 := of_decide_eq_true hz
            refine ⟨pp, vs, w, rfl, rfl, g3, ?_, ?_⟩
            · rw [g4.len]
              have : sizeLine = 16777216 := rfl
              omega
            · exact h2 .non F2 _ ι2 (Stp.wr st2 (ix_mem g1) _) (st2.wr g1 (reps_append g4 (reps_cons.mpr ⟨w, [], rfl, r2, reps_nil.mpr rfl⟩))) (rep_p.mpr .non)
          · exact h2.elim
        · exact h2.elim
      · cases hl
    · cases hl
  · exact h1.elim
end
section
variable {X : Cx} {ca : Nat → Addr} {W : WX} {G : Nat → D} {Fn : Nat → List D → Store → Out D} {a b : Expr} {a' b' : E} {pos : Pos} {F0 H0 : Hp} {ι0 : List Addr}
/-- a, b = x, [..]: the second one a list of one's own -/
theorem gs_parO {i j : Nat} {x y : Str} {px py pt : Pos} {kt k2 pt2} (hc : X.calm = true) (hN : X.N.Nodup) (hi : X.N[i]? = some x) (hj : X.N[j]? = some y) (hij : i ≠ j)
    (hx : X.env.scope.names.lookup x = some .local) (hy : X.env.scope.names.lookup y = some .local) (ha : GE X ca W G Fn a' a) (hb : GF X ca W G Fn b' b)
    (hw : swappedStores [.Tuple [.Name x px, .Name y py] kt pt] (.Tuple [a, b] k2 pt2) X.env = pure (some [x, y]))
    (hs : swapsWithSole [.Tuple [.Name x px, .Name y py] kt pt] (.Tuple [a, b] k2 pt2) pos.line X.env = pure false := by rfl) (he1 : starEach [a, b] X.env = (false, eval a X.env) :: starEach [b] X.env := by rfl) (he2 : starEach [b] X.env = [(false, eval b X.env)] := by rfl) :
    GS X ca W F0 H0 ι0 G Fn (.parO i j a' b') (.Assign [.Tuple [.Name x px, .Name y py] kt pt] (.Tuple [a, b] k2 pt2) pos) := by
  refine PS.weaken (ps_par hc hN hi hj hij hx hy (pa_cons ha (pa_cons hb pa_nil he2) he1) hw hs) fun D σ H ⟨F, ι, S, ρ, own, st, en, et, h⟩ => ?_
  rw [evS_parO] at h
  refine tG_ex st en (h.bindE et fun d S1 v F1 H1 ι1 s1 st1 r1 et1 h1 => ?_)
  rw [kParO_eq] at h1
  refine tG_ex st1 (en.mono s1) (h1.bindE et1 fun d2 S2 v2 F2 H2 ι2 s2 st2 r2 et2 h2 => ?_)
  rw [kParO2_eq] at h2
  split at h2
  · exact ⟨v, v2, rfl, own_end (i := j) ((en.mono s1).set r1) s2 st2 et2 et1 r2 h2⟩
  · exact h2.elim
end
end EC

namespace EC
open PySem PySem.Spec PyProof.Rows L2
variable [CA]
/-! ### set(xs) of a list or a tuple, for any law of its fill -/
def eset (w : World) : Obj := { cls := .type "set", dict := none, data := .set #[] 0 (.fresh 0 0 (!w.params.followText "set-order")) }
section
variable {P : Program} {w : World} {A : Around} {E : Value → Shared → Prop} {s : Shared}
/-- what the fill of the set at S leaves -/
def Fills (P : Program) (w : World) (items : Array Value) (Z : Addr → Heap → Prop) : Prop :=
  ∀ (A : Around) (I S : Addr) (fp wr : List Addr) (G : Array GenState → Array GenState → Prop) (St : Nat → Shared → Prop) (s : Shared) (R : Result → Shared → Prop),
    WalksS P w A.in1 I fp wr G items.size (fun i v => items[i]? = some v) St → S ∉ fp → St 0 s → s.heap.get? S = some (eset w) →
    (∀ s', Moved (S :: wr) G s s' → Z S s'.heap → R (.ok (.ret .none)) s') → codeAny (model P w) A (.builtin "set.update.loop" ⟨[.ref S, .ref I], []⟩) R s
structure Box (p : Prop) : Prop where
  get : p
structure Box2 (p : Prop) : Prop where
  get : p
/-- the fill of the set at S, by its __init__ -/
theorem set_init {S l : Addr} {items : Array Value} {Z : Addr → Heap → Prop} (hh : A.handled = none) (hS : s.heap.get? S = some (eset w)) (hl : s.heap.IsList l items ∨ s.heap.IsTuple l items) (ne : S ≠ l) (fill : Fills P w items Z) :
    codeAny (model P w) A.in1 (.call (.builtin "set.__init__") ⟨[.ref S, .ref l], []⟩) (wants (fun v s2 => v = .none ∧ ∃ h' tk, s2 = { s with heap := h', toks := tk } ∧ Z S h' ∧ ∀ b o, b ≠ S → s.heap.get? b = some o → h'.get? b = some o) E) s := by
  have isS : s.TypeIs (.ref S) "set" := ⟨_, hS, rfl⟩
  refine codeAny_call_builtin F.called_set.init.plain F.entry_set_init (check_set_init_1 isS ?_)
  have hh3 : A.in1.in1.in1.handled = none := by simp [hh]
  have ltS := Heap.lt_size hS
  have ltl : l < s.heap.objs.size := by
    rcases hl with ⟨o, e, _⟩ | ⟨o, e, _⟩ <;> exact Heap.lt_size e
  have neI : l ≠ s.heap.objs.size := Nat.ne_of_lt ltl
  have offS : S ∉ [s.heap.objs.size, l] := fun z => by
    rcases List.mem_cons.mp z with z | z
    · exact Nat.ne_of_lt ltS z
    · exact ne (List.mem_singleton.mp z)
  have kept : ∀ {G : Array GenState → Array GenState → Prop} {wr : List Addr} {a b : Shared}, (∀ c ∈ wr, c = s.heap.objs.size) → Moved (S :: wr) G a b → (∀ c o, s.heap.get? c = some o → a.heap.get? c = some o) →
      ∀ c o, c ≠ S → s.heap.get? c = some o → b.heap.get? c = some o := fun hw m hk c o nc e => by
    refine m.heap c o (fun z => ?_) (hk c o e)
    rcases List.mem_cons.mp z with z | z
    · exact nc z
    · exact Nat.ne_of_lt (Heap.lt_size e) (hw c z)
  obtain ⟨hp, gn, dn, tk0, os0⟩ := s
  have fin : ∀ (X : Shared), X.gens = gn → X.drawn = dn → X.os = os0 → Z S X.heap → (∀ b o, b ≠ S → hp.get? b = some o → X.heap.get? b = some o) →
      ∃ h' tk, X = { heap := h', gens := gn, drawn := dn, toks := tk, os := os0 } ∧ Z S h' ∧ ∀ b o, b ≠ S → hp.get? b = some o → h'.get? b = some o := by
    rintro ⟨h', g', d', tk', os'⟩ eg ed eo hz ho
    simp only at eg ed eo
    subst eg ed eo
    exact ⟨h', tk', rfl, hz, ho⟩
  rcases hl with hl | hl
  · obtain ⟨ol, hol, hcl, nl, hdl⟩ := hl
    obtain ⟨ocls, odict, odata, oslots⟩ := ol
    simp only at hcl hdl
    subst hcl hdl
    have isl : hp.IsList l items := ⟨_, hol, rfl, nl, rfl⟩
    have b1 := F.sub_list_set
    have b2 := F.sub_list_frozenset
    have b3 : (Value.type "list" == Value.type "dict") = false := by decide
    have box := Box.mk (And.intro fin (And.intro offS (And.intro neI (And.intro hh3 (And.intro isl fill)))))
    have box2 := Box2.mk @kept
    clear fin kept offS neI hh3 isl fill
    unfold Builtin.«set.__init__» noKeywords Builtin.Frozenset.updateFrom
    generalize epi : pyIter = pit
    wp_walk
    subst epi
    obtain ⟨⟨fin, offS, neI, hh3, isl, fill⟩⟩ := box
    obtain ⟨kept⟩ := box2
    refine wpAny_pyIter_list isl ?_
    refine wpAny_bind (wpAny_runValue ?_)
    refine fill A.in1.in1 _ _ _ _ _ _ _ _ (Walks.list hh3 _ l neI items).toS offS ?_ (Heap.get?_push_of_some _ hS) fun s3 m hz => ?_
    · exact ⟨⟨_, Heap.get?_push_size _ rfl, rfl, rfl⟩, isl.push _⟩
    show wpAny _ _ (pure ()) _ _ s3
    refine wpAny_pure (?_ : wpAny _ _ (ret Value.none) _ _ s3)
    exact wpAny_pure ⟨rfl, fin s3 m.gens m.drawn m.os hz (kept (fun c hc => List.mem_singleton.mp hc) m fun c o e => Heap.get?_push_of_some _ e)⟩
  · obtain ⟨ol, hol, hcl, nl, hdl⟩ := hl
    obtain ⟨ocls, odict, odata, oslots⟩ := ol
    simp only at hcl hdl
    subst hcl hdl
    have isl : hp.IsTuple l items := ⟨_, hol, rfl, nl, rfl⟩
    have b1 := F.sub_tuple_set
    have b2 := F.sub_tuple_frozenset
    have b3 : (Value.type "tuple" == Value.type "dict") = false := by decide
    have box := Box.mk (And.intro fin (And.intro offS (And.intro neI (And.intro hh3 (And.intro isl fill)))))
    have box2 := Box2.mk @kept
    clear fin kept offS neI hh3 isl fill
    unfold Builtin.«set.__init__» noKeywords Builtin.Frozenset.updateFrom
    generalize epi : pyIter = pit
    wp_walk
    subst epi
    obtain ⟨⟨fin, offS, neI, hh3, isl, fill⟩⟩ := box
    obtain ⟨kept⟩ := box2
    refine wpAny_pyIter_tuple isl ?_
    refine wpAny_bind (wpAny_runValue ?_)
    refine fill A.in1.in1 _ _ _ _ _ _ _ _ (Walks.tuple hh3 _ l neI items).toS offS ?_ (Heap.get?_push_of_some _ hS) fun s3 m hz => ?_
    · exact ⟨⟨_, Heap.get?_push_size _ rfl, rfl, rfl⟩, isl.push _⟩
    show wpAny _ _ (pure ()) _ _ s3
    refine wpAny_pure (?_ : wpAny _ _ (ret Value.none) _ _ s3)
    exact wpAny_pure ⟨rfl, fin s3 m.gens m.drawn m.os hz (kept (fun c hc => List.mem_singleton.mp hc) m fun c o e => Heap.get?_push_of_some _ e)⟩
theorem set_call {l : Addr} {items : Array Value} {Z : Addr → Heap → Prop} {Q : Value → Shared → Prop} (hh : A.handled = none) (hl : s.heap.IsList l items ∨ s.heap.IsTuple l items) (fill : Fills P w items Z)
    (h : ∀ h' tk, Z s.heap.objs.size h' → (∀ b o, s.heap.get? b = some o → h'.get? b = some o) → Q (.ref s.heap.objs.size) { s with heap := h', toks := tk }) :
    wpAny (model P w) A (call (.type "set") [.ref l]) Q E s := by
  -- the empty set, behind all that there is, and its fill
  have new := code_set_led1 (P := P) (w := w) (A := A.in1) (E := E) (s := s) (.ref l) (Q₁ := fun v s2 => v = .ref s.heap.objs.size ∧ s2 = { s with heap := s.heap.push (eset w) }) ⟨rfl, rfl⟩
  have init : ∀ s1 : Shared, s1 = { s with heap := s.heap.push (eset w) } → codeAny (model P w) A.in1 (.call (.builtin "set.__init__") ⟨[.ref s.heap.objs.size, .ref l], []⟩) (wants (fun v s2 => v = .none ∧ ∃ h' tk, s2 = { s with heap := h', toks := tk } ∧ Z s.heap.objs.size h' ∧ ∀ b o, s.heap.get? b = some o → h'.get? b = some o) E) s1 := by
    rintro s1 rfl
    have ll : l < s.heap.objs.size := by
      rcases hl with ⟨o, e, _⟩ | ⟨o, e, _⟩ <;> exact Heap.lt_size e
    refine codeAny_mono (set_init (E := E) hh (Heap.get?_push_size _ rfl) (hl.imp (fun x => x.push _) fun x => x.push _) (Nat.ne_of_gt ll) fill) fun r s2 hr => ?_
    match r, hr with
    | .error e, hr => exact hr
    | .ok (.ret v), ⟨e1, h', tk, e2, hz, ho⟩ => exact ⟨e1, h', tk, e2, hz, fun b o e => ho b o (Nat.ne_of_lt (Heap.lt_size e)) (Heap.get?_push_of_some _ e)⟩
  have box := Box.mk (And.intro fill (And.intro hl hh))
  have box2 := Box2.mk h
  have box3 := Box.mk init
  have box4 := Box.mk new
  clear fill hl hh h init new
  obtain ⟨c, tl, mr⟩ := F.called_set.mro
  have made := F.called_set.made
  have isub := F.called_set.sub
  have nty := F.called_set.notType
  have ccr := F.called_set.canCreate
  have tc1 := F.typeCall_set_1 (.ref l)
  refine wpAny_call (codeAny_of_tree (?_ : wpAny _ _ (callAny (.type "set") _) _ _ _))
  refine wpAny_pure ⟨Code.quiet_builtin _ (by decide +kernel), codeAny_builtin F.entry_type_call ?_⟩
  rw [Around.under_plain (weight_type_call_type "set" [.ref l] []) rfl]
  repeat (any_goals (first
    | assumption
    | wp_step))
  refine codeAny_mono box4.get fun r s2 hr => ?_
  match r, hr with
  | .error e, hr => exact hr
  | .ok (.ret v), hr =>
    obtain ⟨rfl, e2⟩ := hr
    have li := F.called_set.init.lookup
    have bi := F.called_set.init.bind (.ref s.heap.objs.size)
    have isS : s2.TypeIs (.ref s.heap.objs.size) "set" := by
      rw [e2]
      exact ⟨_, Heap.get?_push_size _ rfl, rfl⟩
    repeat (any_goals (first
      | assumption
      | wp_step))
    refine codeAny_mono (box3.get s2 e2) fun r s2 hr => ?_
    match r, hr with
    | .error e, hr => exact hr
    | .ok (.ret v), ⟨e1, h', tk, e2, hz, ho⟩ =>
      subst e1 e2
      have box5 := Box.mk (And.intro hz ho)
      clear hz ho box3 box4 box li bi mr made isub nty ccr tc1
      repeat (any_goals (first
        | assumption
        | wp_step))
      exact box2.get h' tk box5.get.1 box5.get.2
theorem strs_get : ∀ {us : List Value} {xs : List Str}, StrsAre us xs → ∀ (i : Nat) (v : Value), us[i]? = some v → ∃ x t, xs[i]? = some x ∧ v = .str x t
  | _, _, .nil, i, v, h => by simp at h
  | _, _, .cons x t hr, 0, v, h => ⟨x, t, rfl, by simpa using h.symm⟩
  | _, _, .cons x t hr, i + 1, v, h => by
    obtain ⟨y, u, e1, e2⟩ := strs_get hr i v (by simpa using h)
    exact ⟨y, u, by simpa using e1, e2⟩
theorem num_le (xs : List Str) : ∀ n, num xs n ≤ n
  | 0 => Nat.le_refl 0
  | n + 1 => by
    have ih := num_le xs n
    unfold num
    split
    · split <;> omega
    · omega
/-- texts -/
theorem fills_strs {items : Array Value} {xs : List Str} (hi : StrsAre items.toList xs) (hb : xs.length ≤ 4000) : Fills P w items fun S h => h.SetOf (strKind P w) S (fun z => decide (z ∈ xs)) (num xs xs.length) := by
  intro A I S fp wr G St s R W offS h0 hat hR
  have sz : items.size = xs.length := by rw [← StrsAre.len_eq hi, Array.length_toList]
  have offW : S ∉ wr := fun z => offS (W.sub _ z)
  have up : ∀ b ∈ wr, b ∈ S :: wr := fun b hb => List.mem_cons_of_mem _ hb
  have key : ∀ (k i : Nat) (s : Shared), items.size - i = k → i ≤ items.size → St i s → s.heap.SetOf (strKind P w) S (fun z => decide (z ∈ xs.take i)) (num xs i) →
      (∀ s', Moved (S :: wr) G s s' → s'.heap.SetOf (strKind P w) S (fun z => decide (z ∈ xs)) (num xs xs.length) → R (.ok (.ret .none)) s') → codeAny (model P w) A (.builtin "set.update.loop" ⟨[.ref S, .ref I], []⟩) R s := by
    intro k
    induction k with
    | zero =>
      intro i s hk hle hst hset hR
      obtain rfl : i = items.size := by omega
      refine codeAny_builtin F.entry_set_update_loop ?_
      rw [Around.under_plainId F.plain_set_update_loop _]
      refine (wpAny_bind (W.done s _ _ hst fun s' m => ?_) : wpAny _ A.in1 (pyNext (.ref I) >>= _) _ _ s)
      rw [sz, List.take_length] at hset
      refine (?_ : wpAny _ A.in1 (ret .none) _ _ s')
      refine wpAny_pure (hR s' (m.mono up) ?_)
      obtain ⟨o, es, ep, t, ho, more⟩ := hset
      exact ⟨o, es, ep, t, m.heap S _ offW ho, more⟩
    | succ k ih =>
      intro i s hk hle hst hset hR
      have lt : i < items.size := by omega
      refine codeAny_builtin F.entry_set_update_loop ?_
      rw [Around.under_plainId F.plain_set_update_loop _]
      refine (wpAny_bind (W.item i s _ _ lt hst fun v s' pv hst' m => ?_) : wpAny _ A.in1 (pyNext (.ref I) >>= _) _ _ s)
      obtain ⟨x, t, ex, rfl⟩ := strs_get hi i v (by rw [Array.getElem?_toList]; exact pv)
      have hset' : s'.heap.SetOf (strKind P w) S (fun z => decide (z ∈ xs.take i)) (num xs i) := by
        obtain ⟨o, es, ep, tb, ho, more⟩ := hset
        exact ⟨o, es, ep, tb, m.heap S _ offW ho, more⟩
      refine (wpAny_bind (wpAny_holding ?_) : wpAny _ A.in1 (holding [Value.str x t] (setAdd S (.str x t)) >>= _) _ _ s')
      unfold setAdd
      refine wpAny_holding (wpAny_bind ((strKind P w).pyHash (k := x) (strKind_is _ _ _ _) ?_))
      have hn := num_le xs i
      refine wpAny_setAddHashed_of (knd := strKind P w) (s := { s' with toks := s'.toks + 1 }) (strKind_is _ _ _ _) rfl hset' (by unfold scanBound; omega) fun h' sb hnew => ?_
      have next : h'.SetOf (strKind P w) S (fun z => decide (z ∈ xs.take (i + 1))) (num xs (i + 1)) := by
        refine SetOf_congr hnew (fun z => ?_) ?_
        · rw [List.take_add_one, ex]
          simp [List.mem_append]
        · simp only [num, ex]
          by_cases c : x ∈ xs.take i <;> simp [c]
      refine wpAny_pure ⟨plainId_quiet F.plain_set_update_loop _, ih (i + 1) _ (by omega) lt (W.frame _ s' _ _ hst' (Nat.le_succ _) fun b hb o e => ?_) next fun s'' m2 hset2 => ?_⟩
      · rw [sb.2 b (fun h : b = S => offS (h ▸ hb))]
        exact e
      · refine hR s'' (Moved.trans W.gtrans ((m.mono up).then_heap (Nat.le_succ _) fun b o hb e => ?_) m2) hset2
        rw [sb.2 b (fun h : b = S => hb (h ▸ List.mem_cons_self))]
        exact e
  refine key (items.size - 0) 0 s (by omega) (Nat.zero_le _) h0 ?_ hR
  exact SetOf_congr ((setObjOf_fresh (knd := strKind P w) _).setOf hat (by unfold scanBound; omega)) (fun _ => rfl) rfl
end
/-! ### len(set(xs)) -/
section
variable {X : Cx} {ca : Nat → Addr} {W : WX} {G : Nat → D} {Fn : Nat → List D → Store → Out D}
def tLenSetS (K : PySem.W.Frag) (ta : TE) : TE := fun σ H Q => ta σ H fun x H1 => ∃ (l : Addr) (xs : List Str), x = .ref l ∧ (SqL K H1 l (xs.map V.str) ∨ SqT K H1 l (xs.map V.str)) ∧ xs.length ≤ 4000 ∧ Q (.int (num xs xs.length : Nat)) H1
theorem pe_lenSetS {a : Expr} {ta : TE} {p p2 q pos : Pos} (hc : X.calm = true) (hg : Gl X "len") (hm : X.mg "len" = none) (hg2 : Gl X "set") (hm2 : X.mg "set" = none) (ha : PE X a ta)
    (na : starEach [a] X.env = (false, eval a X.env) :: starEach [] X.env := by rfl) : PE X (.Call (.Name "len" p) [.Call (.Name "set" p2) [a] [] q] [] pos) (tLenSetS X.K ta) := by
  refine ⟨fun pins s σ H Q I h => ?_⟩
  refine Call_ (ld_blt I hg hm boot_len (callWith_builtin1 (args_cons ?_ rfl) rfl rfl))
  refine Call_ (ld_blt I hg2 hm2 boot_set ?_)
  refine callWith_type1 (args_cons (thn (ha.run pins s σ H _ I h) fun v s1 ⟨x, H1, I1, r1, q1⟩ => args_nil ?_) na) na rfl
  obtain ⟨l, xs, rfl, hq, hl, q1⟩ := q1
  cases r1
  have num0 := num_le xs xs.length
  have last : ∀ (h' : Heap) (tk : Nat), h'.SetOf (strKind X.prog X.w) s1.heap.objs.size (fun z => decide (z ∈ xs)) (num xs xs.length) → (∀ b o, s1.heap.get? b = some o → h'.get? b = some o) →
      wpAny (model X.prog X.w) X.A (spliced (backTo pos (starEach [] X.env))) (fun vs s₂ => wpAny (model X.prog X.w) X.A (call (.builtin "len") (Value.ref s1.heap.objs.size :: vs)) (EP X pins σ Q) X.xe s₂) X.xe { s1 with heap := h', toks := tk } := by
    intro h' tk hset ho
    obtain ⟨o, es, ep, t, h1, h2, h3, _, _, _, h7, h8⟩ := hset
    have I2 : Inv X pins σ H1 { s1 with heap := h', toks := tk } := I1.kept ho
    exact args_nil (call_len_set h1 h2 h3 h7 (by rw [h8] <;> omega) ⟨.int (num xs xs.length : Nat), H1, I2.tok _, ⟨_, by rw [h8]⟩, q1⟩)
  rcases hq with hq | hq
  · obtain ⟨its, r, pl, hz⟩ := I1.list hq
    exact set_call (I1.ok.hd hc) (.inl pl.isList) (fills_strs (by simpa using strsAre_of r) hl) last
  · obtain ⟨its, r, pl, hz⟩ := I1.tuple hq
    exact set_call (I1.ok.hd hc) (.inr pl) (fills_strs (by simpa using strsAre_of r) hl) last
variable {a : Expr} {a' : E}
theorem PostG.wish {α β : Type} {K : PySem.W.Frag} {σ : L2.St} {F H : Hp} {ι : List Addr} {R : Hp → Hp → List Addr → α → β → Prop} {Q Q' : β → Hp → Prop} {m : Out α} (h : PostG ca K W σ F H ι R Q m) (hq : ∀ x H, Q x H → Q' x H) : PostG ca K W σ F H ι R Q' m := by
  cases m with
  | ok d S => exact fun v F' H' ι' a b c => hq _ _ (h v F' H' ι' a b c)
  | exc e S => exact h
  | bad => exact h
theorem g_lenset {p p2 q pos : Pos} (hc : X.calm = true) (hg : Gl X "len") (hm : X.mg "len" = none) (hg2 : Gl X "set") (hm2 : X.mg "set" = none) (ha : GA X ca W G Fn a' a)
    (na : starEach [a] X.env = (false, eval a X.env) :: starEach [] X.env := by rfl) : GE X ca W G Fn (.pr .lenset [a']) (.Call (.Name "len" p) [.Call (.Name "set" p2) [a] [] q] [] pos) := by
  refine PE.weaken (pe_lenSetS hc hg hm hg2 hm2 ha na) fun σ H Q ⟨F, ι, S, ρ, own, st, en, h⟩ => ?_
  obtain ⟨F, ι, S, ρ, own, st, en, h⟩ := one_end h st en
  refine ⟨F, ι, S, ρ, own, st, en, ?_⟩
  have conv : ∀ x H1, rP1 X.K .lenset x H1 Q → ∃ (l : Addr) (xs : List Str), x = .ref l ∧ (SqL X.K H1 l (xs.map V.str) ∨ SqT X.K H1 l (xs.map V.str)) ∧ xs.length ≤ 4000 ∧ Q (.int (num xs xs.length : Nat)) H1 := by
    intro x H1 ⟨F, ι, S, ds, d, st, ra, hp, q⟩
    rw [prim_lenset] at hp
    have core : ∀ (ys : List PyData), lensetS ys = some d → ∃ xs : List Str, strsOf ys = some xs ∧ xs.length ≤ 4000 ∧ d = .p (.int (num xs xs.length : Nat)) := by
      intro ys e
      unfold lensetS at e
      split at e
      · rename_i xs ex
        split at e
        · rename_i hl
          cases e
          exact ⟨xs, ex, of_decide_eq_true hl, rfl⟩
        · cases e
      · cases e
    unfold p_lenset at hp
    split at hp
    · obtain ⟨v, w, e1, r1, r2⟩ := repAs_cons ra
      obtain rfl := repAs_nil r2
      cases e1
      obtain ⟨p, vs, rfl, h1, h2⟩ := repA_list st r1
      obtain ⟨xs, ex, hl, rfl⟩ := core _ hp
      rw [strs_V ex h2] at h1
      exact ⟨p, xs, rfl, .inl h1, hl, i2 st q rfl⟩
    · obtain ⟨v, w, e1, r1, r2⟩ := repAs_cons ra
      obtain rfl := repAs_nil r2
      cases e1
      obtain ⟨p, vs, rfl, h1, _, h2⟩ := repA_tuple st r1
      obtain ⟨xs, ex, hl, rfl⟩ := core _ hp
      rw [strs_V ex h2] at h1
      exact ⟨p, xs, rfl, .inr h1, hl, i2 st q rfl⟩
    · cases hp
  exact h.wish conv
/-! ### repr -/
theorem o_repr (hgd : X.A.guards = some []) (hu : X.A.units + 64 < cLine) : CallR X (.builtin "repr") (rP X.K .repr) := by
  intro pins s σ H xs us Q I r h
  obtain ⟨F, ι, S, ds, d, st, ra, hp, q⟩ := h
  rw [prim_repr] at hp
  have core : ∀ (x : PyData) (v : V) (u : Value), Dp X.K H v x → RelV v u → (∃ b, u = .ref b) → (if reprOk x then some (D.p (.str x.shown)) else none) = some d → wpAny (model X.prog X.w) X.A (call (.builtin "repr") [u]) (EP X pins σ Q) X.xe s := by
    intro x v u hdp hrv ⟨b, hb⟩ e
    subst hb
    split at e
    · rename_i ok
      cases e
      simp only [reprOk, Bool.and_eq_true, decide_eq_true_eq, Bool.not_eq_true'] at ok
      obtain ⟨as, hr⟩ := Dp.reads I x v _ hdp hrv
      refine repr_of_reads' hr ok.1.1.1 (fun z => ?_) hgd (by omega) (fun _ _ e => e) (fun h' u tk hk => ?_) (by unfold sizeLine; omega)
      · rw [ok.1.1.2] at z; cases z
      · have I2 : Inv X pins σ H { s with heap := h', toks := tk } := I.kept hk
        exact ⟨.str x.shown, H, I2, ⟨u, rfl⟩, s2 st q rfl⟩
    · cases e
  unfold p_repr at hp
  split at hp
  · obtain ⟨v, w, e1, r1, r2⟩ := repAs_cons ra
    obtain rfl := repAs_nil r2
    cases e1
    have hdp := repA_dp (x := .list _) st r1 rfl
    obtain ⟨p, vs, rfl, h1, h2⟩ := repA_list st r1
    cases r with
    | cons ra rn =>
      cases rn
      exact core _ _ _ hdp ra ⟨p, ra⟩ hp
  · obtain ⟨v, w, e1, r1, r2⟩ := repAs_cons ra
    obtain rfl := repAs_nil r2
    cases e1
    have hdp := repA_dp (x := .tuple _) st r1 rfl
    obtain ⟨p, vs, rfl, h1, _, h2⟩ := repA_tuple st r1
    cases r with
    | cons ra rn =>
      cases rn
      exact core _ _ _ hdp ra ⟨p, ra⟩ hp
  · cases hp
/-! ### a statement that is never reached -/
abbrev dead : EC.S := .ret (.pr .len [.c .none])
theorem evS_dead (ρ : EC.Env) (S : Store) : evS G Fn dead ρ S = .bad := by
  rw [evS_ret, evE_pr, evA_c]
  rfl
theorem gs_dead {F0 H0 : Hp} {ι0 : List Addr} {st : Stmt} : GS X ca W F0 H0 ι0 G Fn dead st := ⟨fun pins s σ H D I h => by
  obtain ⟨F, ι, S, ρ, own, sto, en, et, h⟩ := h
  rw [evS_dead] at h
  exact h.elim⟩
end
end EC

namespace EC
open PySem PySem.Spec PyProof.Rows L2
variable [CA]
/-! ### the law's call, of a def that keeps its promise where no repr is open -/
section
variable {P : Program} {w : World} {K : PySem.W.Frag} {mg mb : Str → Option Value} {CX : CXT} {k : Nat} {fa a : Addr} {fd : FuncData} {x : Str} {sp : Sp} {s : Shared} {vs : List Value} {ns : List Int}
def Told (s : Shared) (r : Result) (s' : Shared) : Prop := r = .ok (.ret (.bool true)) ∧ OldK s.heap s'.heap ∧ s'.os = s.os ∧ AllBare s'.gens
theorem law_from {gb : Bool} {H : Hp} (KX : K.In s.heap) (gNs : s.heap.Ns mainGlobals mg) (gB : s.heap.Ns builtinsNs mb) (gBB : ∀ x : Str, x ≠ "__name__" → mb x = bootBuiltins x) (gL : s.heap.NoLimit) (gG : s.gens = #[])
    (at_ : s.heap.get? a = some { cls := .type "list", data := .seq vs.toArray }) (room : Room k callerA) (F : ∀ base : Heap, K.In base → base.Ns mainGlobals mg → FnG gb P w K mg base CX k fa fd [x] sp)
    (binds : ∀ (s : Shared) (u : Value), BindsTo s fd ⟨[u], []⟩ [(x, u)]) (hsp : sp [.ref a] H (fun v _ => v = .bl true) fun _ _ _ => False) (noX : ∀ e s', CX [] H s (fun _ _ _ => False) e s' → False)
    (hO : Only H) (hok : HOk P w H s.heap) (one : ∀ b, H b ≠ none → b = a) (out : H a ≠ none → K.lookup a = none) :
    codeAny (model P w) callerA (.call (.ref fa) ⟨[.ref a], []⟩) (Told s) s := by
  -- what is no list is not tracked
  have free : ∀ {b : Addr} {o : Obj}, s.heap.get? b = some o → (∀ xs n, o.data ≠ .seq xs n) → H b = none := fun {b o} e no => by
    rcases q : H b with _ | u
    · rfl
    · obtain rfl := one b (by rw [q]; exact fun z => nomatch z)
      rw [at_] at e
      cases e
      exact (no _ _ rfl).elim
  have ns2 : ∀ {b : Addr} {m : Str → Option Value}, s.heap.Ns b m → (hidT s.heap H).Ns b m := fun {b m} ⟨o, es, ep, e, d, more⟩ =>
    ⟨o, es, ep, hidT_get e (free e fun xs n z => by rw [d] at z; cases z), d, more⟩
  have kin : K.In (hidT s.heap H) := fun b o e => hidT_get (KX b o e) (by
    rcases q : H b with _ | u
    · rfl
    · obtain rfl := one b (by rw [q]; exact fun z => nomatch z)
      rw [out (by rw [q]; exact fun z => nomatch z)] at e
      cases e)
  have mod : Mod K mg (hidT s.heap H) := ⟨kin, ns2 gNs, ⟨mb, ns2 gB, gBB⟩, by
    obtain ⟨mc, h1, h2⟩ := gL
    exact ⟨mc, ns2 h1, h2⟩⟩
  have env : Env0 P w K mg (hidT s.heap H) callerA [] s H := ⟨rfl, mod, fun b o e => of_hidT e, Nat.le_of_eq (hidT_size _ _), trivial, (fun b hb => absurd (show b ∈ ([] : List Addr) from hb) List.not_mem_nil), hok, .of_eq gG⟩
  refine codeAny_mono ((F _ kin (ns2 gNs)).run callerA [] s H ⟨[.ref a], []⟩ [.ref a] [.ref a] _ _ room (fun _ => rfl) env (binds s (.ref a)) (.cons rfl .nil) hsp) fun r s' h => ?_
  match r, h with
  | .error e, h => exact (noX e s' h).elim
  | .ok (.ret u), ⟨v, H', os, bare, un, hok', rel, (tv : v = .bl true)⟩ =>
    subst tv
    obtain rfl : u = Value.bool true := rel
    refine ⟨rfl, OldK.of_keep fun b o e => ?_, os, bare⟩
    rcases q : H b with _ | u
    · exact un.keep b o e q (fun z => nomatch z) (fun z => nomatch z)
    · rcases hO b with z | ⟨ob, xs, z⟩
      · rw [q] at z
        cases z
      · obtain ⟨e1, _⟩ := hok b _ z
        obtain ⟨e2, _⟩ := hok' b _ (un.frzs b ob _ z)
        rw [e] at e1
        cases e1
        exact e2
theorem law_callG {gb : Bool} (KX : K.In s.heap) (gNs : s.heap.Ns mainGlobals mg) (gB : s.heap.Ns builtinsNs mb) (gBB : ∀ x : Str, x ≠ "__name__" → mb x = bootBuiltins x) (gL : s.heap.NoLimit) (gG : s.gens = #[])
    (at_ : s.heap.get? a = some { cls := .type "list", data := .seq vs.toArray }) (allI : IntsAre vs ns) (few : ns.length ≤ sizeLine) (room : Room k callerA)
    (F : ∀ base : Heap, K.In base → base.Ns mainGlobals mg → FnG gb P w K mg base CX k fa fd [x] sp) (binds : ∀ (s : Shared) (u : Value), BindsTo s fd ⟨[u], []⟩ [(x, u)])
    (hsp : ∀ H : Hp, Only H → SqL K H a (ns.map V.int) → sp [.ref a] H (fun v _ => v = .bl true) fun _ _ _ => False) (noX : ∀ H e s', CX [] H s (fun _ _ _ => False) e s' → False) :
    codeAny (model P w) callerA (.call (.ref fa) ⟨[.ref a], []⟩) (Told s) s := by
  have rv := vals_ints allI
  have len := allI.length
  rcases q : K.lookup a with _ | o
  · -- a list of its own, known to the object
    let H : Hp := fun b => if b = a then some (.frz { cls := .type "list", data := .seq vs.toArray } (.lst (ns.map V.int))) else none
    have ha : H a = some (.frz { cls := .type "list", data := .seq vs.toArray } (.lst (ns.map V.int))) := if_pos rfl
    have hb : ∀ b, b ≠ a → H b = none := fun b n => if_neg n
    have hO : Only H := fun b => by
      by_cases n : b = a
      · subst n; exact .inr ⟨_, _, ha⟩
      · exact .inl (hb b n)
    refine law_from KX gNs gB gBB gL gG at_ room F binds (hsp H hO (.inl (.inr ⟨_, ha⟩))) (noX H) hO (fun b u z => ?_) (fun b z => ?_) fun _ => q
    · by_cases n : b = a
      · subst n
        rw [ha] at z
        cases z
        exact ⟨at_, by rw [List.length_map]; exact few, vs, _, rv, at_⟩
      · rw [hb b n] at z
        cases z
    · exact Classical.byContradiction fun n => z (hb b n)
  · -- the script is one of the module's own objects
    have e := KX a o q
    rw [at_] at e
    cases e
    have hO : Only fun _ => none := fun _ => .inl rfl
    refine law_from KX gNs gB gBB gL gG at_ room F binds (hsp _ hO (.inr ⟨_, vs.toArray, _, q, rfl, rfl, rfl, by rw [List.size_toArray, len]; exact few, by simpa using rv⟩)) (noX _) hO (fun b u z => nomatch (z : (none : Option HO) = some u)) (fun b z => absurd rfl z) fun z => absurd rfl z
end
theorem walk_ofG {gb : Bool} {l : PySem.W.OpenLaw} {n k : Nat} {q : Program} {loose : List Str} {XP : (Str → Option Value) → Heap → Prop} {YP : World → Heap → Prop} {d : DefRec} {K : Params → PySem.W.Frag} {CX : World → CXT} {sp : World → Sp} {x : Str}
    (hn : l.most = some n) (hn2 : n ≤ sizeLine) (hdf : d.params.defaults = []) (room : Room k callerA) (hY : ∀ (w : World) (h : Heap), YP w h → (K w.params).In h)
    (F : ∀ (w : World) (mg : Str → Option Value) (fa : Addr) (h : Heap), (K w.params).In h → h.Ns mainGlobals mg → mg d.name = some (.ref fa) →
      ∃ fd : FuncData, (∀ (s : Shared) (u : Value), BindsTo s fd ⟨[u], []⟩ [(x, u)]) ∧ ∀ base : Heap, (K w.params).In base → base.Ns mainGlobals mg → FnG gb l.prog w (K w.params) mg base (CX w) k fa fd [x] (sp w))
    (hsp : ∀ (w : World) (H : Hp) (a : Addr) (ns : List Int), ns.length ≤ n → Only H → SqL (K w.params) H a (ns.map V.int) → sp w [.ref a] H (fun v _ => v = .bl true) fun _ _ _ => False)
    (noX : ∀ (w : World) (H : Hp) (s : Shared) (e : Value) (s' : Shared), CX w [] H s (fun _ _ _ => False) e s' → False) : PySem.W.WalkO q loose XP YP l.row.toRowW d [] (fun f vs => PySem.call f vs) := by
  refine Att.attach_call hn hdf fun w s₀ s₁ mg mb fa o pm cd doc a vs ns T Y ho hd hcd hmg hobj hints hlen hg => ?_
  have KX := hY w _ Y
  obtain ⟨fd, binds, hF⟩ := F w mg fa _ KX T.T.g hmg
  exact law_callG KX T.T.g T.T.b T.T.builtins T.T.nolimit hg hobj hints (Nat.le_trans hlen hn2) room hF binds (fun H hO hS => hsp w H a ns hlen hO hS) fun H e s' => noX w H s₁ e s'
end EC

namespace EC
open PySem PySem.Spec PyProof.Rows L2
variable [CA]
/-! ### sorted(set(xs)) of whole numbers -/
theorem asc_uniq : ∀ (l m : List Int), l.Pairwise (· < ·) → m.Pairwise (· < ·) → (∀ k, k ∈ l ↔ k ∈ m) → l = m
  | [], [], _, _, _ => rfl
  | [], b :: m, _, _, h => absurd ((h b).mpr List.mem_cons_self) List.not_mem_nil
  | a :: l, [], _, _, h => absurd ((h a).mp List.mem_cons_self) List.not_mem_nil
  | a :: l, b :: m, hl, hm, h => by
    have l1 := List.pairwise_cons.mp hl
    have m1 := List.pairwise_cons.mp hm
    have ab : a = b := by
      rcases List.mem_cons.mp ((h a).mp List.mem_cons_self) with e | e
      · exact e
      · rcases List.mem_cons.mp ((h b).mpr List.mem_cons_self) with e' | e'
        · exact e'.symm
        · have := m1.1 a e
          have := l1.1 b e'
          omega
    subst ab
    rw [asc_uniq l m l1.2 m1.2 fun k => ?_]
    constructor
    · intro hk
      rcases List.mem_cons.mp ((h k).mp (List.mem_cons_of_mem _ hk)) with e | e
      · have := l1.1 k hk; omega
      · exact e
    · intro hk
      rcases List.mem_cons.mp ((h k).mpr (List.mem_cons_of_mem _ hk)) with e | e
      · have := m1.1 k hk; omega
      · exact e
theorem ascD_mem {ns : List Int} (hn : ∀ n ∈ ns, 0 ≤ n ∧ n < 60) (k : Int) : k ∈ ascD ns ↔ k ∈ ns := by
  unfold ascD
  rw [List.mem_filterMap]
  constructor
  · rintro ⟨a, _, e⟩
    split at e
    · cases e; assumption
    · cases e
  · intro hk
    have := hn k hk
    refine ⟨k.toNat, List.mem_range.mpr (by omega), ?_⟩
    have e : ((k.toNat : Nat) : Int) = k := by omega
    rw [e, if_pos hk]
theorem ascD_asc (ns : List Int) : (ascD ns).Pairwise (· < ·) := by
  unfold ascD
  refine List.Pairwise.filterMap _ ?_ List.pairwise_lt_range
  intro a b h x hx y hy
  split at hx
  · split at hy
    · cases hx; cases hy; omega
    · cases hy
  · cases hx
section
variable {P : Program} {w : World} {A : Around} {E : Value → Shared → Prop} {s : Shared}
theorem fills_ints {items : Array Value} {ns : List Int} (hi : IntsAre items.toList ns) (hb : ns.length ≤ 4000) : Fills P w items fun S h => ∃ c, SetR w h S (fun j => decide (j ∈ ns)) c := by
  intro A I S fp wr G St s R W offS h0 hat hR
  have sz : items.size = ns.length := by
    have q := IntsAre.length hi
    rw [Array.length_toList] at q
    exact q
  refine set_update_ints W S offS ns sz (by unfold scanBound; omega) (fun i v hv => ?_) (items.size - 0) 0 s (by omega) (Nat.zero_le _) h0 ⟨0, Nat.le_refl 0, setR_new_at hat⟩ fun s' c m _ hS => hR s' m ⟨c, hS⟩
  have lt : i < ns.length := by rw [← sz]; exact (Array.getElem?_eq_some_iff.mp hv).1
  obtain ⟨t, e⟩ := IntsAre.int_at hi i v (by rw [Array.getElem?_toList]; exact hv)
  refine ⟨ns[i], t, List.getElem?_eq_getElem lt, ?_⟩
  rw [e, List.getD_eq_getElem?_getD, List.getElem?_eq_getElem lt]
  rfl
theorem setR_few {h : Heap} {a : Addr} {ns : List Int} {c : Nat} (R : SetR w h a (fun j => decide (j ∈ ns)) c) (hn : ∀ n ∈ ns, 0 ≤ n ∧ n < 60) : c < 64 := by
  obtain ⟨o, es, ep, t, ho, hex, hd, g, nd, hm, hb, hf, hc, hr, hl⟩ := R
  have inR : ∀ k ∈ es.toList.map keyOf, 0 ≤ k ∧ k < 60 := fun k hk => hn k (of_decide_eq_true ((hm k).mpr hk))
  have key := nat_nodup_len ((es.toList.map keyOf).map Int.toNat) (List.range 60) ?_ ?_
  · rw [List.length_map, List.length_map, List.length_range, Array.length_toList] at key
    omega
  · refine List.pairwise_map.mpr (List.Pairwise.imp_of_mem (fun {a b} ha hb hab e => ?_) nd)
    have := inR a ha
    have := inR b hb
    omega
  · intro x hx
    obtain ⟨k, hk, rfl⟩ := List.mem_map.mp hx
    have := inR k hk
    exact List.mem_range.mpr (by omega)
end
section
variable {X : Cx} {ca : Nat → Addr} {W : WX} {G : Nat → D} {Fn : Nat → List D → Store → Out D}
def tSortSet (K : PySem.W.Frag) (ta : TE) : TE := fun σ H Q => ta σ H fun x H1 => ∃ (l : Addr) (ns : List Int), x = .ref l ∧ SqL K H1 l (ns.map V.int) ∧ ns.length ≤ 4000 ∧ (∀ n ∈ ns, 0 ≤ n ∧ n < 60) ∧ ∀ p, H1 p = none → Q (.ref p) (upd H1 p (.lst ((ascD ns).map V.int)))
theorem pe_sortSet {a : Expr} {ta : TE} {p p2 q pos : Pos} (hc : X.calm = true) (hg : Gl X "sorted") (hm : X.mg "sorted" = none) (hg2 : Gl X "set") (hm2 : X.mg "set" = none) (ha : PE X a ta)
    (na : starEach [a] X.env = (false, eval a X.env) :: starEach [] X.env := by rfl) : PE X (.Call (.Name "sorted" p) [.Call (.Name "set" p2) [a] [] q] [] pos) (tSortSet X.K ta) := by
  refine ⟨fun pins s σ H Q I h => ?_⟩
  refine Call_ (ld_blt I hg hm boot_sorted (callWith_builtin1 (args_cons ?_ rfl) rfl rfl))
  refine Call_ (ld_blt I hg2 hm2 boot_set ?_)
  refine callWith_type1 (args_cons (thn (ha.run pins s σ H _ I h) fun v s1 ⟨x, H1, I1, r1, q1⟩ => args_nil ?_) na) na rfl
  obtain ⟨l, ns, rfl, hq, hl, hn, q1⟩ := q1
  cases r1
  obtain ⟨its, r, pl, hz⟩ := I1.list hq
  refine set_call (I1.ok.hd hc) (.inl pl.isList) (fills_ints (by simpa using intsAre_of r) hl) fun h' tk ⟨c, hset⟩ ho => ?_
  have I2 : Inv X pins σ H1 { s1 with heap := h', toks := tk } := I1.kept ho
  obtain ⟨s2, e2⟩ : ∃ s2 : Shared, s2 = { s1 with heap := h', toks := tk } := ⟨_, rfl⟩
  have hset : SetR X.w s2.heap s1.heap.objs.size (fun j => decide (j ∈ ns)) c := by rw [e2]; exact hset
  rw [← e2] at I2 ⊢
  refine args_nil (sorted_set hset (I2.ok.hd hc) (setR_few hset hn) fun s3 p out c3 ms keep gg go hp hat hints asc hmem hlen => ?_)
  have ems : ms = ascD ns := asc_uniq _ _ asc (ascD_asc ns) fun k => by
    rw [hmem k, ascD_mem hn k]
    exact decide_eq_true_iff
  subst ems
  have free : H1 p = none := I2.hok.fresh hp
  have small : ((ascD ns).map V.int).length ≤ sizeLine := by
    rw [List.length_map, sizeLine_eq]
    have := List.length_filterMap_le (fun (k : Nat) => if (k : Int) ∈ ns then some (k : Int) else none) (List.range 60)
    rw [List.length_range] at this
    have e : (ascD ns).length ≤ 60 := this
    omega
  have J : Inv X pins σ (upd H1 p (.lst ((ascD ns).map V.int))) { s2 with heap := s3.heap, gens := s3.gens, drawn := s3.drawn, toks := s3.toks } :=
    I2.call (ch := []) (Un.laid keep hp free) (I2.hok.laid keep hp ⟨small, out.toList, c3, vals_of_ints hints, hat⟩) (by rw [gg]; exact I2.bare) fun _ z => nomatch z
  have e3 : s3 = { s2 with heap := s3.heap, gens := s3.gens, drawn := s3.drawn, toks := s3.toks } := by
    rcases s3 with ⟨_, _, _, _, _⟩
    rcases s2 with ⟨_, _, _, _, _⟩
    cases go
    rfl
  rw [e3]
  exact ⟨.ref p, _, J, rfl, q1 p free⟩
end
end EC

namespace EC
open PySem PySem.Spec PyProof.Rows L2
variable [CA]
/-! ### xs.extend(t) of a tuple -/
set_option maxRecDepth 8000 in
theorem ext_meets (l b : Addr) (xs ys : Array Value) (n m : Nat) (od : Option Addr) (sl : Array (Option Value)) (h0 : ¬(!xs.isEmpty && Builtin.List.listTooLong (xs.size + ys.size)) = true) (h1 : xs.size ≤ sizeLine) (h2 : xs.size + ys.size ≤ sizeLine + 1) :
    Meets (Builtin.«list.extend» ⟨[.ref l, .ref b], []⟩) fun _ R s =>
      s.heap.get? l = some { cls := .type "list", dict := none, data := .seq xs n, slots := #[] } ∧
      s.heap.get? b = some { cls := .type "tuple", dict := od, data := .seq ys m, slots := sl } ∧
      R (.ok (.ret Value.none)) { s with heap := s.heap.update l (Obj.mapSeq fun x => x ++ ys), toks := s.toks } := by
  refine .of_wp fun prog w A R s h => ?_
  obtain ⟨hp, g, d, tk, os⟩ := s
  obtain ⟨hl, hb, h⟩ := h
  have f1 := AutoSeq1.idx_int
  have f2 := AutoSeq1.sub_tuple_tuple
  have f3 := AutoSeq1.sub_list_list
  have f4 := AutoSeq1.sub_tuple_list
  have f5 := AutoSeq1.sub_list_tuple
  have sz : (xs ++ ys).size ≤ sizeLine + 1 := by rw [Array.size_append]; exact h2
  wp_walk using (wpAny_updateSeq hl rfl (hz := h1) (_hz' := sz)), AutoSeq1.wpAny_loadPart' hl, AutoSeq1.wpAny_loadPart' hb
  exact ⟨_, rfl, h⟩
set_option maxRecDepth 8000 in
theorem ext_meetsL (l b : Addr) (xs ys : Array Value) (n m : Nat) (od : Option Addr) (sl : Array (Option Value)) (h0 : ¬(!xs.isEmpty && Builtin.List.listTooLong (xs.size + ys.size)) = true) (h1 : xs.size ≤ sizeLine) (h2 : xs.size + ys.size ≤ sizeLine + 1) :
    Meets (Builtin.«list.extend» ⟨[.ref l, .ref b], []⟩) fun _ R s =>
      s.heap.get? l = some { cls := .type "list", dict := none, data := .seq xs n, slots := #[] } ∧
      s.heap.get? b = some { cls := .type "list", dict := od, data := .seq ys m, slots := sl } ∧
      R (.ok (.ret Value.none)) { s with heap := s.heap.update l (Obj.mapSeq fun x => x ++ ys), toks := s.toks } := by
  refine .of_wp fun prog w A R s h => ?_
  obtain ⟨hp, g, d, tk, os⟩ := s
  obtain ⟨hl, hb, h⟩ := h
  have f1 := AutoSeq1.idx_int
  have f2 := AutoSeq1.sub_tuple_tuple
  have f3 := AutoSeq1.sub_list_list
  have f4 := AutoSeq1.sub_tuple_list
  have f5 := AutoSeq1.sub_list_tuple
  have sz : (xs ++ ys).size ≤ sizeLine + 1 := by rw [Array.size_append]; exact h2
  wp_walk using (wpAny_updateSeq hl rfl (hz := h1) (_hz' := sz)), AutoSeq1.wpAny_loadPart' hl, AutoSeq1.wpAny_loadPart' hb
  exact ⟨_, rfl, h⟩
section
variable {X : Cx} {ca : Nat → Addr} {W : WX} {G : Nat → D} {Fn : Nat → List D → Store → Out D} {F0 H0 : Hp} {ι0 : List Addr}
def rExtG (K : PySem.W.Frag) : V → List V → Hp → VK → Prop := fun x vs H Q => ∃ l b xs zs, x = .ref l ∧ vs = [.ref b] ∧ H l = some (.lst xs) ∧ (SqT K H b zs ∨ SqL K H b zs) ∧ xs.length + zs.length ≤ sizeLine ∧ Q .non (upd H l (.lst (xs ++ zs)))
theorem mt_extG : MtM X "list.extend" (rExtG X.K) := by
  intro pins s σ H x vs v us Q I rx rv h
  obtain ⟨l, b, xs, zs, rfl, rfl, hH, hB, hz, q⟩ := h
  cases rx
  obtain ⟨u, rfl, ru⟩ := rv.one
  cases ru
  obtain ⟨z, its, n, r, hl, e⟩ := I.lstM hH
  have door : ∀ its2 : List Value, its2.length = zs.length → ¬ (!its.toArray.isEmpty && Builtin.List.listTooLong (its.toArray.size + its2.toArray.size)) = true := fun its2 h2 => by
    rw [notLongL (by rw [List.size_toArray, List.size_toArray]; omega), Bool.and_false]
    exact Bool.false_ne_true
  rcases hB with hB | hB
  · obtain ⟨its2, r2, ⟨o2, g2, c2, n2, d2⟩, _⟩ := I.tuple hB
    have l2 : its2.length = zs.length := r2.length.symm
    obtain ⟨oc, od, odt, os⟩ := o2
    simp only at c2 d2
    subst c2 d2
    refine call_meets F.slot_list_extend ⟨_, e, rfl⟩ F.entry_list_extend (F.args_list_extend_2 _ _) (ext_meets l b its.toArray its2.toArray n n2 od os (door its2 l2) (by rw [List.size_toArray]; omega) (by rw [List.size_toArray, List.size_toArray]; omega)) ⟨e, g2, .non, _, I.lset (its' := its ++ its2) hH e (by simp) (r.append r2) (by rw [List.length_append]; omega), rfl, q⟩
  · obtain ⟨its2, r2, pl, _⟩ := I.list hB
    obtain ⟨o2, g2, c2, n2, d2⟩ := pl.isList
    have l2 : its2.length = zs.length := r2.length.symm
    obtain ⟨oc, od, odt, os⟩ := o2
    simp only at c2 d2
    subst c2 d2
    refine call_meets F.slot_list_extend ⟨_, e, rfl⟩ F.entry_list_extend (F.args_list_extend_2 _ _) (ext_meetsL l b its.toArray its2.toArray n n2 od os (door its2 l2) (by rw [List.size_toArray]; omega) (by rw [List.size_toArray, List.size_toArray]; omega)) ⟨e, g2, .non, _, I.lset (its' := its ++ its2) hH e (by simp) (r.append r2) (by rw [List.length_append]; omega), rfl, q⟩
variable {e : Expr} {e' : E} {pos : Pos}
theorem gs_oext {i : Nat} {x : Str} {p1 apos : Pos} {spos : Pos} (hx : PE X (.Name x p1) (tVar i)) (he' : GE X ca W G Fn e' e) (hbase : attributeBase (.Name x p1) "extend" X.env (eval (.Name x p1) X.env) = eval (.Name x p1) X.env := by rfl)
    (hfew : ((backTo pos (starEach [e] X.env)).all (fun x => !x.1) && (backToKw pos (keywordEach [] X.env)).all (fun x => x.1.isSome) && decide (([e]).length + ([] : List Keyword).length + (if ([] : List Keyword).isEmpty then 0 else 1) < 30)) = true := by rfl)
    (hline : (apos.endLine == pos.line) = true := by rfl) (hs : starEach [e] X.env = [(false, eval e X.env)] := by rfl) (hsw : swapsWith (.Call (.Attribute (.Name x p1) "extend" apos) [e] [] pos) none spos.line X.env = pure false := by rfl) :
    GS X ca W F0 H0 ι0 G Fn (.oext i e') (.Expr (.Call (.Attribute (.Name x p1) "extend" apos) [e] [] pos) spos) := by
  refine PS.weaken (ps_expr (pe_bm PySem.F.plainAttrs_list PySem.F.slot_list_extend PySem.F.type_list_extend mt_extG hx (pa_cons he' pa_nil hs) hbase hfew hline hs) hsw) fun D σ H ⟨F, ι, S, ρ, own, st, en, et, h⟩ => ?_
  rw [evS_oext] at h
  split at h
  · rename_i ho
    unfold isOwn at ho
    split at ho
    · rename_i xs hxs
      obtain ⟨a, vs, h1, h2, h3, h4⟩ := en.slot i _ hxs
      obtain ⟨o1, o2, _⟩ := en.off i a h1
      refine ⟨.ref a, h2, Or.inl ⟨rfl, _, Or.inl (Or.inl h3)⟩, tG_ex st en (h.bindE et fun d S1 v F1 H1 ι1 s1 st1 r1 et1 k1 => ?_)⟩
      have kp := s1.keep a _ h3 o2
      have dq := dqAll_mono s1.fr _ _ h4
      have en1 := en.mono s1
      obtain ⟨q1, q2, _⟩ := en1.off i a h1
      -- the list, longer by what there is in the other one
      have grow : ∀ (zs : List PyData) (ws : List V) (b : Addr), v = .ref b → (SqT X.K H1 b ws ∨ SqL X.K H1 b ws) → DqAll X.K F1 ws zs → PostS ca X.K W F0 H0 ι0 F1 D (if fitsL (xs.length + zs.length) then .ok (.nx (ρ.set i (.own (xs ++ zs)))) S1 else .bad) →
          rExtG X.K (.ref a) [v] H1 fun _ H2 => D.nx σ H2 := by
        intro zs ws b ev sq dz k2
        split at k2
        · rename_i hz
          have hz := fits_le hz
          refine ⟨a, b, vs, ws, rfl, by rw [ev], kp, sq, by rw [dq.len, dz.len]; exact hz, ?_⟩
          refine k2 σ F1 _ ι1 own (Same.refl F1) (st1.ow q1 q2 _) ⟨by rw [List.length_set]; exact en1.len, fun j s hj => ?_, fun j b hb => ?_, en1.inj⟩ ⟨et1.st.ow (et1.ow i a h1) _, et1.ow⟩
          · rcases Nat.decEq i j with ne | eq
            · rw [List.getElem?_set_ne ne] at hj
              have q := en1.slot j s hj
              match s, q with
              | .un, q => exact q
              | .v d, q => exact q
              | .own ys, ⟨b2, ws2, g1, g2, g3, g4⟩ => exact ⟨b2, ws2, g1, g2, by rw [upd_ne (fun z => ne (en.inj i j a h1 (by rw [← z]; exact g1)))]; exact g3, g4⟩
            · subst eq
              rw [List.getElem?_set_self (List.getElem?_eq_some_iff.mp hxs).1] at hj
              cases hj
              exact ⟨a, _, h1, h2, upd_same, dq.append dz⟩
          · obtain ⟨w1, w2, w3⟩ := en1.off j b hb
            refine ⟨w1, w2, ?_⟩
            by_cases z : b = a
            · rw [z, upd_same]; exact fun z => nomatch z
            · rw [upd_ne z]; exact w3
        · exact k2.elim
      unfold kExt at k1
      rw [hxs] at k1
      match d, r1, k1 with
      | .p (.list zs), r1, k1 =>
        obtain ⟨b, ws, ev, sq, dz⟩ := repA_list st1 (Or.inl r1)
        exact grow zs ws b ev (.inr sq) dz k1
      | .p (.tuple zs), r1, k1 =>
        obtain ⟨b, ws, ev, sq, _, dz⟩ := repA_tuple st1 (Or.inl r1)
        exact grow zs ws b ev (.inl sq) dz k1
      | .p .none, _, k1 => exact k1.elim
      | .p (.bool _), _, k1 => exact k1.elim
      | .p (.int _), _, k1 => exact k1.elim
      | .p (.str _), _, k1 => exact k1.elim
      | .p (.dict _), _, k1 => exact k1.elim
      | .ref _, _, k1 => exact k1.elim
      | .tup _, _, k1 => exact k1.elim
      | .fn _, _, k1 => exact k1.elim
    · cases ho
  · exact h.elim
end
/-! ### a fresh list of one of two displays -/
section
variable {X : Cx} {ca : Nat → Addr} {W : WX} {G : Nat → D} {Fn : Nat → List D → Store → Out D} {a b c : Expr} {a' b' c' : E} {pos : Pos}
theorem PostG.rel {α β : Type} {K : PySem.W.Frag} {σ : L2.St} {F H : Hp} {ι : List Addr} {R R' : Hp → Hp → List Addr → α → β → Prop} {Q : β → Hp → Prop} {m : Out α} (h : PostG ca K W σ F H ι R Q m) (hr : ∀ F' H' ι' d v, R' F' H' ι' d v → R F' H' ι' d v) : PostG ca K W σ F H ι R' Q m := by
  cases m with
  | ok d S => exact fun v F' H' ι' s1 s2 r => h v F' H' ι' s1 s2 (hr _ _ _ _ _ r)
  | exc e S => exact h
  | bad => exact h
theorem gf_ite (hc : GT X ca W G Fn c' c) (ha : GF X ca W G Fn a' a) (hb : GF X ca W G Fn b' b) : GF X ca W G Fn (.ite c' a' b') (.IfExp c a b pos) := by
  refine PE.weaken (pe_ifExp hc ha hb) fun σ H Q ⟨F, ι, S, ρ, own, st, en, h⟩ => ?_
  rw [evE_ite] at h
  refine tG_ex st en ?_
  have h : PostG ca X.K W σ F H ι (RFr X.K H) Q (((evE G Fn c' ρ S).bind tru).bind (kIte2 G Fn a' b' ρ)) := by
    rw [bind_assoc]
    exact h
  refine h.bind_ fun k S1 v F1 H1 ι1 s1 st1 r1 h1 => ?_
  have r1 : v = k := r1
  subst r1
  have h1 : PostG ca X.K W σ F1 H1 ι1 (RFr X.K H1) Q (kIte2 G Fn a' b' ρ v S1) := PostG.rel h1 fun F' H' ι' d v ⟨xs, a, vs, e1, e2, e3, more⟩ => ⟨xs, a, vs, e1, e2, s1.back e3, more⟩
  cases v with
  | true => exact tG_ex st1 (en.mono s1) h1
  | false => exact tG_ex st1 (en.mono s1) h1
end
end EC

namespace EC
open PySem PySem.Spec PyProof.Rows L2
variable [CA]
/-! ### sorted(xs) of whole numbers -/
theorem up_uniq : ∀ (l m : List Int), l.Pairwise (· ≤ ·) → m.Pairwise (· ≤ ·) → l.Perm m → l = m
  | [], m, _, _, h => (List.Perm.nil_eq h)
  | a :: l, [], _, _, h => absurd h.length_eq (by simp)
  | a :: l, b :: m, hl, hm, h => by
    have l1 := List.pairwise_cons.mp hl
    have m1 := List.pairwise_cons.mp hm
    have ab : a = b := by
      have h1 : a ∈ b :: m := h.mem_iff.mp List.mem_cons_self
      have h2 : b ∈ a :: l := h.mem_iff.mpr List.mem_cons_self
      rcases List.mem_cons.mp h1 with e | e
      · exact e
      · rcases List.mem_cons.mp h2 with e' | e'
        · exact e'.symm
        · have := m1.1 a e
          have := l1.1 b e'
          omega
    subst ab
    rw [up_uniq l m l1.2 m1.2 (List.Perm.cons_inv h)]
/-! ### texts in their order -/
theorem strs_dq {K : PySem.W.Frag} {F : Hp} : ∀ (ss : List Str), DqAll K F (ss.map V.str) (ss.map PyData.str)
  | [] => .nil
  | s :: ss => .cons (.str s) (strs_dq ss)
def leS (a b : Str) : Prop := ¬ b.cps.toList < a.cps.toList
theorem leS_trans {a b c : Str} (h : leS a b) (h' : leS b c) : leS a c := fun z => by
  have := List.le_trans (l₁ := a.cps.toList) (l₂ := b.cps.toList) (l₃ := c.cps.toList) (List.not_lt.mp h) (List.not_lt.mp h')
  exact absurd z (List.not_lt.mpr this)
theorem leS_anti {a b : Str} (h : leS a b) (h' : leS b a) : a = b := by
  have e := List.le_antisymm (as := a.cps.toList) (bs := b.cps.toList) (List.not_lt.mp h) (List.not_lt.mp h')
  obtain ⟨a⟩ := a
  obtain ⟨b⟩ := b
  have e : a = b := Array.toList_inj.mp e
  rw [e]
theorem upS_uniq : ∀ (l m : List Str), l.Pairwise leS → m.Pairwise leS → l.Perm m → l = m
  | [], m, _, _, h => (List.nil_perm.mp h).symm ▸ rfl
  | a :: l, [], _, _, h => by have := h.length_eq; simp at this
  | a :: l, b :: m, h1, h2, h => by
    have q1 := List.pairwise_cons.mp h1
    have q2 := List.pairwise_cons.mp h2
    have e : a = b := by
      rcases List.mem_cons.mp (h.mem_iff.mp List.mem_cons_self) with e | e
      · exact e
      · rcases List.mem_cons.mp (h.mem_iff.mpr List.mem_cons_self) with e2 | e2
        · exact e2.symm
        · exact leS_anti (q1.1 b e2) (q2.1 a e)
    subst e
    rw [upS_uniq l m q1.2 q2.2 (List.Perm.cons_inv h)]
theorem rising_pw : ∀ (p : Str) (l : List Str), risingS p l = true → (p :: l).Pairwise leS
  | p, [], _ => List.pairwise_singleton _ _
  | p, x :: r, h => by
    rw [risingS, Bool.and_eq_true] at h
    have ih := rising_pw x r h.2
    have h1 : leS p x := by
      have := h.1
      rw [ltCps_eq] at this
      simpa [leS] using this
    refine List.pairwise_cons.mpr ⟨fun y hy => ?_, ih⟩
    rcases List.mem_cons.mp hy with rfl | hy
    · exact h1
    · exact leS_trans h1 ((List.pairwise_cons.mp ih).1 y hy)
theorem sortS_uniq {ys ss : List Str} (hp : ys.Perm ss) (hs : sortedS ys = true) : ys = sortS ss := by
  refine upS_uniq _ _ ?_ ?_ (hp.trans (List.mergeSort_perm ss _).symm)
  · cases ys with
    | nil => exact List.Pairwise.nil
    | cons y ys => exact rising_pw y ys hs
  · have := List.pairwise_mergeSort (le := fun (a b : Str) => !decide (b.cps.toList < a.cps.toList)) (fun a b c h h' => by
      have : leS a c := leS_trans (a := a) (b := b) (c := c) (by simpa [leS] using h) (by simpa [leS] using h')
      simpa [leS] using this) (fun a b => by
      rcases List.le_total a.cps.toList b.cps.toList with q | q
      · have : leS a b := List.not_lt.mpr q
        have : (!decide (b.cps.toList < a.cps.toList)) = true := by simpa [leS] using this
        rw [this]; rfl
      · have : leS b a := List.not_lt.mpr q
        have : (!decide (a.cps.toList < b.cps.toList)) = true := by simpa [leS] using this
        rw [this]; simp) ss
    exact this.imp fun h => by simpa [leS] using h
section
variable {X : Cx} {ca : Nat → Addr} {W : WX} {G : Nat → D} {Fn : Nat → List D → Store → Out D}
theorem bt_sorted : bootBuiltins "sorted" = some (.builtin "sorted") := by decide +kernel
theorem each_zip {K : PySem.W.Frag} {F : Hp} : ∀ {vs : List V} {xs : List PyData} {its : List Value}, Vals vs its → DqAll K F vs xs → PySem.W.EachIs (fun (u : Value) (b : V × PyData) => RelV b.1 u ∧ Dq K F b.1 b.2) its (vs.zip xs)
  | _, _, _, .nil, .nil => .nil
  | _, _, _, .cons r rs, .cons d ds => .cons ⟨r, d⟩ (each_zip rs ds)
theorem each_back {K : PySem.W.Frag} {F : Hp} : ∀ {bs : List (V × PyData)} {us : List Value}, PySem.W.EachIs (fun (u : Value) (b : V × PyData) => RelV b.1 u ∧ Dq K F b.1 b.2) us bs → Vals (bs.map Prod.fst) us ∧ DqAll K F (bs.map Prod.fst) (bs.map Prod.snd)
  | _, _, .nil => ⟨.nil, .nil⟩
  | _, _, .cons h t => ⟨.cons h.1 (each_back t).1, .cons h.2 (each_back t).2⟩
theorem o_sorted (hu : X.A.units + 64 < cLine) : CallR X (.builtin "sorted") (rP X.K .sorted) := by
  intro pins s σ H xs us Q I r h
  obtain ⟨F, ι, S, ds, d, st, ra, hp, q⟩ := h
  rw [prim_sorted] at hp
  unfold p_sorted at hp
  split at hp
  · obtain ⟨v, w, e1, r1, r2⟩ := repAs_cons ra
    obtain rfl := repAs_nil r2
    cases e1
    rename_i xs
    have hdp : Dp X.K H v (.list xs) := repA_dp (x := .list _) st r1 rfl
    obtain ⟨p, vs, rfl, h1, h2⟩ := repA_list st r1
    split at hp
    · rename_i ns ens
      cases hp
      rw [ints_V ens h2] at h1
      refine cr_sortedI pins s σ H _ us Q I r ⟨p, ns, rfl, h1, fun ms p2 perm up hp2 => ?_⟩
      have e : ms = ns.mergeSort (fun a b => decide (a ≤ b)) := by
        refine up_uniq _ _ up ?_ (perm.trans (List.mergeSort_perm ns _).symm)
        have := List.pairwise_mergeSort (le := fun (a b : Int) => decide (a ≤ b)) (by intro a b c; simp; omega) (by intro a b; simp; omega) ns
        exact this.imp fun h => of_decide_eq_true h
      subst e
      exact fin_lst st q (ints_dq _) hp2
    · split at hp
      · rename_i ss ess
        split at hp
        · rename_i h64
          cases hp
          rw [strs_V ess h2] at h1
          refine cr_sortedS pins s σ H _ us Q I r ⟨p, ss, rfl, h1, of_decide_eq_true h64, fun ms p2 perm up hp2 => ?_⟩
          rw [sortS_uniq perm up]
          exact fin_lst st q (strs_dq _) hp2
        · cases hp
      split at hp
      · rename_i ok
        cases hp
        simp only [sortOkB, Bool.and_eq_true, decide_eq_true_eq, List.all_eq_true] at ok
        obtain ⟨⟨hlen, htup⟩, hal⟩ := ok
        obtain ⟨its, rv, hl, hz⟩ := I.list h1
        rw [Vals.ref1 r]
        have el : vs.length = xs.length := h2.len
        have esnd : (vs.zip xs).map Prod.snd = xs := List.map_snd_zip (by omega)
        have hdpA : ∀ b ∈ vs.zip xs, Dp X.K H b.1 b.2 := by
          have key : ∀ {vs : List V} {xs : List PyData}, DqAll X.K F vs xs → ∀ b ∈ vs.zip xs, Dq X.K F b.1 b.2 := by
            intro vs xs h
            induction xs generalizing vs with
            | nil => cases h; intro b hb; simp at hb
            | cons x xs ih =>
              cases h with
              | cons h1 h2 =>
                intro b hb
                rcases List.mem_cons.mp hb with rfl | hb
                · exact h1
                · exact ih h2 b hb
          intro b hb
          exact Dq.dp _ _ (dq_mono st.sub _ _ (key h2 b hb))
        have tl : ∀ x ∈ xs, (∃ y r, x = PyData.tuple (y :: r)) ∧ x.depth ≤ 60 := by
          intro x hx
          have := htup x hx
          split at this
          · rename_i y r
            exact ⟨⟨y, r, rfl⟩, of_decide_eq_true this⟩
          · cases this
        refine PySem.W.sorted_data (bs := vs.zip xs) (enc := Prod.snd) hl.isList (each_zip rv h2) ?_ (by rw [esnd]; exact fun a ha b hb => hal a ha b hb) (by rw [esnd]; exact .inl fun a ha => (tl a ha).1) ?_ ?_ fun out ho eo => ?_
        · have e := each_zip rv h2
          refine (PySem.W.each_mem e).mono fun u b ⟨⟨hr, _⟩, hb⟩ => ?_
          exact Dp.reads I b.2 b.1 u (hdpA b hb) hr
        · rw [List.length_zip, sizeLine_eq]; omega
        · intro b hb
          have := (tl b.2 (by have := List.mem_map_of_mem (f := Prod.snd) hb; rw [esnd] at this; exact this)).2
          omega
        · obtain ⟨e1, e2⟩ := each_back eo
          have em : ((vs.zip xs).mergeSort (PySem.W.dataLe false Prod.snd)).map Prod.snd = xs.mergeSort (PySem.W.dataLe false id) := by
            exact (List.map_mergeSort (f := Prod.snd) (r := PySem.W.dataLe false Prod.snd) (s := PySem.W.dataLe false id) (fun a _ b _ => rfl)).trans (by rw [esnd])
          rw [em] at e2
          obtain ⟨ep, he'⟩ := PyProof.Rows.sortedAll_at s.heap its out.toArray
          have hlen2 : (((vs.zip xs).mergeSort (PySem.W.dataLe false Prod.snd)).map Prod.fst).length ≤ sizeLine := by
            rw [List.length_map, List.length_mergeSort, List.length_zip, sizeLine_eq]; omega
          exact ⟨.ref _, upd H (s.heap.objs.size + 1) (.lst (((vs.zip xs).mergeSort (PySem.W.dataLe false Prod.snd)).map Prod.fst)),
            I.laid (t' := s.toks) (fun _ _ => PyProof.Rows.sortedAll_old) (Nat.le_succ _) ⟨hlen2, out, ep, e1, he'⟩, rfl, fin_lst st q e2 (I.hok.fresh (Nat.le_succ _))⟩
      · cases hp
  · cases hp
/-! ### list(range(a, b)) -/
variable {a b : Expr} {a' b' : E}
theorem g_lstrng2 {p p2 q pos : Pos} (hc : X.calm = true) (hg : Gl X "list") (hm : X.mg "list" = none) (hg2 : Gl X "range") (hm2 : X.mg "range" = none) (ha : GA X ca W G Fn a' a) (hb : GA X ca W G Fn b' b)
    (na : starEach [a, b] X.env = (false, eval a X.env) :: starEach [b] X.env := by rfl) (nb : starEach [b] X.env = (false, eval b X.env) :: starEach [] X.env := by rfl)
    (ne : starEach [Expr.Call (.Name "range" p2) [a, b] [] q] X.env = (false, eval (Expr.Call (.Name "range" p2) [a, b] [] q) X.env) :: starEach [] X.env := by rfl) (hp2 : (backTo q (starEach [b] X.env)).any (·.1) = false := by rfl) :
    GE X ca W G Fn (.pr .lstrng [a', b']) (.Call (.Name "list" p) [.Call (.Name "range" p2) [a, b] [] q] [] pos) := by
  refine PE.weaken (pe_listRg hc hg hm (prg_2 hg2 hm2 ha hb na nb hp2) ne) fun σ H Q ⟨F, ι, S, ρ, own, st, en, h⟩ => ?_
  have q := two_end h st en
  obtain ⟨F, ι, S, ρ, own, st, en, h⟩ := q
  refine ⟨F, ι, S, ρ, own, st, en, h.wish ?_⟩
  intro x H1 h1
  obtain ⟨F, ι, S, ρ, own, st, en, h⟩ := h1
  refine ⟨F, ι, S, ρ, own, st, en, h.wish ?_⟩
  intro y H2 ⟨F, ι, S, ds, d, st, ra, hp, q⟩
  rw [prim_lstrng] at hp
  unfold p_lstrng at hp
  split at hp
  · obtain ⟨d1, d2, z, r1, r2⟩ := two ra
    simp at z
  · rename_i i j
    split at hp
    · rename_i ok
      simp only [decide_eq_true_eq] at ok
      cases hp
      obtain ⟨d1, d2, z, r1, r2⟩ := two ra
      injection z with z1 z2
      injection z2 with z2 z3
      subst z1 z2
      refine ⟨i, j, repA_int r1, repA_int r2, ⟨by omega, by omega, by omega, by omega, by omega⟩, fun p hp => ?_⟩
      refine fin_lst st q ?_ hp
      have key : ∀ ks : List Nat, DqAll X.K F (ks.map fun k => V.int (i + (k : Nat))) (ks.map fun (k : Nat) => PyData.int (i + (k : Int))) := by
        intro ks
        induction ks with
        | nil => exact .nil
        | cons k ks ih => exact .cons (.int _) ih
      exact key _
    · cases hp
  · cases hp
end
end EC

namespace EC
open PySem PySem.Spec PyProof.Rows L2
variable [CA]
/-! ### reversed(xs): walks from behind -/
section
variable {K : PySem.W.Frag} {xs : List PyData} {ok : Hp → Hp → List Addr → Prop} {a : Addr} {vs : List V}
theorem walk_rt {ys : List V} : Walk (RT.ItvT K a ys.length) ys.length (fun H => SqT K H a ys) (fun i H x H' => H' = H ∧ ys[ys.length - 1 - i]? = some x) :=
  ⟨fun i _ hi q => ⟨hi, ys, ys[ys.length - 1 - i]'(by omega), q, by simp [show ys.length - 1 - i < ys.length by omega]⟩, fun _ _ => Nat.le_refl _, fun _ _ _ _ _ q y => ⟨y.1, y.2 ys q⟩⟩
theorem get_rev {d : D} {i : Nat} (h : (xs.map D.p).reverse[i]? = some d) : ∃ x, xs[xs.length - 1 - i]? = some x ∧ d = .p x := by
  have hi : i < (xs.map D.p).reverse.length := (List.getElem?_eq_some_iff.mp h).1
  rw [List.getElem?_reverse (by simpa using hi), List.length_map] at h
  exact get_map h
theorem wk_revL (L : LwL K ok xs a vs) : Wk K (Itv K a vs.length) (xs.map .p).reverse ok := by
  refine ⟨_, _, (by rw [List.length_reverse, List.length_map, ← L.len]; exact walk_rev (K := K) (a := a) (xs := vs)), fun F H ι S h st => (L.at_ F H ι S h st).1, fun i v d F H H' ι S h st hi y => ?_⟩
  obtain ⟨e, y⟩ := y
  subst e
  obtain ⟨x, h1, rfl⟩ := get_rev hi
  rw [← L.len] at h1
  obtain ⟨w, h2, h3⟩ := (L.at_ F H' ι S h st).2.get h1
  rw [h2] at y
  cases y
  exact ⟨F, Stp.refl, st, rep_p.mpr h3⟩
theorem wk_revT (L : LwT K ok xs a vs) : Wk K (RT.ItvT K a vs.length) (xs.map .p).reverse ok := by
  refine ⟨_, _, (by rw [List.length_reverse, List.length_map, ← L.len]; exact walk_rt (K := K) (a := a) (ys := vs)), fun F H ι S h st => (L.at_ F H ι S h st).1, fun i v d F H H' ι S h st hi y => ?_⟩
  obtain ⟨e, y⟩ := y
  subst e
  obtain ⟨x, h1, rfl⟩ := get_rev hi
  rw [← L.len] at h1
  obtain ⟨w, h2, h3⟩ := (L.at_ F H' ι S h st).2.get h1
  rw [h2] at y
  cases y
  exact ⟨F, Stp.refl, st, rep_p.mpr h3⟩
end
section
variable {X : Cx} {ca : Nat → Addr} {W : WX} {G : Nat → D} {Fn : Nat → List D → Store → Out D} {bb : Bool} {a tg : Expr} {a' : E} {p p2 pos pos2 : Pos}
theorem items_rev {S : Store} {d : D} {xs : List D} (h : items S .rev [d] = some xs) : (∃ ys, d = .p (.list ys) ∧ xs = (ys.map D.p).reverse) ∨ ∃ ys, d = .p (.tuple ys) ∧ xs = (ys.map D.p).reverse := by
  match d, h with
  | .p (.list ys), h => exact .inl ⟨ys, rfl, by cases h; rfl⟩
  | .p (.tuple ys), h => exact .inr ⟨ys, rfl, by cases h; rfl⟩
theorem rev_end {σ : L2.St} {F H : Hp} {ι : List Addr} {S : Store} {R : It → Hp → Prop} {d : D} {v : V} (h : PostG ca X.K W σ F H ι (RI X.K bb) R (kIt .rev [d] S)) (st : Sto X.K F H ι S) (r : if bb = true then Rep X.K F ι d v else RepA X.K F H ι d v) :
    ∃ (b : Addr) (xs : List V), v = .ref b ∧ ((SqL X.K H b xs ∧ R (Itv X.K b xs.length) H) ∨ (SqT X.K H b xs ∧ R (RT.ItvT X.K b xs.length) H)) := by
  obtain ⟨xs, hx, q⟩ := PostG.of h
  rcases items_rev hx with ⟨ys, rfl, rfl⟩ | ⟨ys, rfl, rfl⟩
  · cases bb with
    | true =>
      obtain ⟨b, vs, rfl, L⟩ := lwL_S (ι1 := ι) r
      exact ⟨b, vs, rfl, .inl ⟨(L.at_ F H ι S (Same.refl F) st).1, q _ F H ι Stp.refl st (wk_revL L)⟩⟩
    | false =>
      obtain ⟨b, vs, rfl, L⟩ := lwL_D st r
      exact ⟨b, vs, rfl, .inl ⟨(L.at_ F H ι S Stp.refl st).1, q _ F H ι Stp.refl st (wk_revL L)⟩⟩
  · cases bb with
    | true =>
      obtain ⟨b, vs, rfl, L⟩ := lwT_S (ι1 := ι) r
      exact ⟨b, vs, rfl, .inr ⟨(L.at_ F H ι S (Same.refl F) st).1, q _ F H ι Stp.refl st (wk_revT L)⟩⟩
    | false =>
      obtain ⟨b, vs, rfl, L⟩ := lwT_D st r
      exact ⟨b, vs, rfl, .inr ⟨(L.at_ F H ι S Stp.refl st).1, q _ F H ι Stp.refl st (wk_revT L)⟩⟩
theorem gi_rev (hg : Gl X "reversed") (hm : X.mg "reversed" = none) (ha : GX bb X ca W G Fn a' a) (hs : starEach [a] X.env = (false, eval a X.env) :: starEach [] X.env := by rfl) : GI bb X ca W G Fn .rev [a'] tg (.Call (.Name "reversed" p) [a] [] pos) :=
  PI.weaken (RT.pi_revA hg hm ha hs) fun σ H R ⟨F, ι, S, ρ, own, st, en, h⟩ => one_it h st en fun d S1 v F1 H1 ι1 st1 r1 h1 => rev_end (bb := bb) h1 st1 r1
theorem dqAll_rev {K : PySem.W.Frag} {F : Hp} : ∀ {vs : List V} {ds : List PyData}, DqAll K F vs ds → DqAll K F vs.reverse ds.reverse
  | _, _, .nil => .nil
  | _, _, .cons h t => by
    rw [List.reverse_cons, List.reverse_cons]
    exact (dqAll_rev t).append (.cons h .nil)
/-- tuple(reversed(xs)) -/
theorem g_tuprev (hc : X.calm = true) (hg : Gl X "tuple") (hm : X.mg "tuple" = none) (hg2 : Gl X "reversed") (hm2 : X.mg "reversed" = none) (ha : GA X ca W G Fn a' a) (hs : starEach [a] X.env = (false, eval a X.env) :: starEach [] X.env := by rfl) : GE X ca W G Fn (.pr .tuprev [a']) (.Call (.Name "tuple" p) [.Call (.Name "reversed" p2) [a] [] pos2] [] pos) := by
  refine PE.weaken (RT.pe_tupRev hc hg hm hg2 hm2 ha hs) fun σ H Q ⟨F, ι, S, ρ, own, st, en, h⟩ => ?_
  obtain ⟨F, ι, S, ρ, own, st, en, h⟩ := one_end h st en
  refine ⟨F, ι, S, ρ, own, st, en, h.wish ?_⟩
  intro x H1 ⟨F, ι, S, ds, d, st, ra, hp, q⟩
  rw [prim_tuprev] at hp
  unfold p_tuprev at hp
  split at hp
  · cases hp
    obtain ⟨v, w, e1, r1, r2⟩ := repAs_cons ra
    obtain rfl := repAs_nil r2
    cases e1
    obtain ⟨b, vs, rfl, h1, h2⟩ := repA_list st r1
    exact ⟨b, vs, rfl, h1, fun t ht => fin_tup st q (dqAll_rev h2) ht⟩
  · cases hp
/-! ### x -= e, of whole numbers -/
theorem gs_sub1 {F0 H0 : Hp} {ι0 : List Addr} {i : Nat} {x : Str} {pos' : Pos} (hN : X.N.Nodup) (hi : X.N[i]? = some x) (hx : Loc X.env.scope x) (ha : GA X ca W G Fn a' a) (hf : X.fn x = true ∨ X.env.scope.names.lookup x = some .local := by first | exact .inl rfl | exact .inr rfl | assumption) :
    GS X ca W F0 H0 ι0 G Fn (.asg (.nm i) (.pr .sub [.v i, a'])) (.AugAssign (.Name x pos') .Sub a pos) := by
  refine PS.weaken (ps_aug hN hi hx ha ip_sub hf) fun D σ H ⟨F, ι, S, ρ, own, st, en, et, h⟩ => ?_
  rw [evS_asg, evE_pr, evA_v] at h
  cases hb : lookB ρ i with
  | none =>
    rw [hb] at h
    exact h.elim
  | some d =>
    rw [hb, of_some, bind_ok, kA_eq, evA_one] at h
    -- what the name holds
    have at_i : ∃ v, σ[i]? = some (some v) ∧ ∀ n, d = .p (.int n) → v = .int n := by
      unfold lookB at hb
      split at hb
      · rename_i d' hd
        cases hb
        obtain ⟨v, h1, h2⟩ := en.slot i _ hd
        refine ⟨v, h1, fun n e => ?_⟩
        subst e
        have q := rep_p.mp h2
        cases q
        rfl
      · rename_i xs hd
        cases hb
        obtain ⟨b, vs, _, h2, _⟩ := en.slot i _ hd
        exact ⟨_, h2, fun n e => by cases e⟩
      · cases hb
    obtain ⟨v, hv, hint⟩ := at_i
    have h2 : PostS ca X.K W F0 H0 ι0 F D ((evA1 G Fn a' ρ S).bind fun d2 S2 => (kPr .sub [d, d2] S2).bind (kAsg (.nm i) ρ)) := by
      simp only [bind_assoc] at h
      have e : ∀ d2 S2, (kA G Fn [] ρ d2 S2).bind (fun a S => (kCons d a S).bind fun a S => (kPr .sub a S).bind (kAsg (.nm i) ρ)) = (kPr .sub [d, d2] S2).bind (kAsg (.nm i) ρ) := fun d2 S2 => by
        rw [kA_eq, evA_nil, bind_ok, kCons_eq, bind_ok, kCons_eq, bind_ok]
      simp only [e] at h
      exact h
    refine ⟨v, hv, tG_ex st en (h2.bindE et fun d2 S1 y F1 H1 ι1 s1 st1 r1 et1 k1 => ?_)⟩
    rw [kPr_eq, prim_sub] at k1
    unfold p_sub at k1
    split at k1
    · rename_i m n em
      cases em
      have ey : y = .int n := repA_int r1
      rw [of_some, bind_ok, kAsg_eq] at k1
      refine ⟨m, n, hint m rfl, ey, ?_⟩
      unfold bindT at k1
      split at k1
      · rename_i hc
        exact k1 (σ.set i (some (.int (m - n)))) F1 H1 ι1 own (Same.refl F1) st1 ((en.mono s1).set (rep_p.mpr (.int (m - n)))) et1
      · exact k1.elim
    · exact k1.elim
end
end EC

namespace EC
open PySem PySem.Spec PyProof.Rows L2
variable [CA]
section
variable {X : Cx} {ca : Nat → Addr} {W : WX} {G : Nat → D} {Fn : Nat → List D → Store → Out D} {a b c e : Expr} {a' b' c' e' : E} {es : List Expr} {es' : List E} {pos p p1 p2 : Pos}
/-! ### key in DICT -/
structure GdM (X : Cx) (G : Nat → D) (k : Nat) (x : Str) : Prop where
  r : ∃ d es n, X.mg x = some (.ref d) ∧ KDict X.K X.w d es n ∧ ∀ z, ∃ r, PySem.W.nsIn X.K d z = some r ∧ r.isSome = (dlook (G k) z).isSome
theorem g_gmem {k : Nat} {x : Str} (hg : Gl X x) (hr : GdM X G k x) (he : GE X ca W G Fn e' e) (hd : (x == ("__debug__" : Str)) = false := by decide) (hm : behindInMarks .In (.Name x p1) = false := by rfl) : GE X ca W G Fn (.gmem k e') (.Compare e [.In] [.Name x p1] pos) := by
  obtain ⟨d, es, n, hm1, kd, hv⟩ := hr.r
  refine PE.weaken (pe_cmpR (op_in_kd kd) he (pe_glob (v := .ref d) hg hm1 rfl hd) hm) fun σ H Q ⟨F, ι, S, ρ, own, st, en, h⟩ => ?_
  rw [evE_gmem] at h
  refine tG_ex st en (h.bind_ fun y S1 v F1 H1 ι1 s1 st1 r1 h1 => ?_)
  match y, r1, h1 with
  | .p (.str z), r1, h1 =>
    obtain ⟨r, e1, e2⟩ := hv z
    exact ⟨z, r, repA_str (F := F1) (H := H1) (ι := ι1) (K := X.K) (.inl r1), rfl, e1, h1 _ F1 H1 ι1 Stp.refl st1 (by rw [e2]; exact rep_p.mpr (.bl _))⟩
theorem g_ngmem {k : Nat} {x : Str} (hg : Gl X x) (hr : GdM X G k x) (he : GE X ca W G Fn e' e) (hd : (x == ("__debug__" : Str)) = false := by decide) (hm : behindInMarks .NotIn (.Name x p1) = false := by rfl) : GE X ca W G Fn (.not (.gmem k e')) (.Compare e [.NotIn] [.Name x p1] pos) := by
  obtain ⟨d, es, n, hm1, kd, hv⟩ := hr.r
  refine PE.weaken (pe_cmpR (op_notIn_kd kd) he (pe_glob (v := .ref d) hg hm1 rfl hd) hm) fun σ H Q ⟨F, ι, S, ρ, own, st, en, h⟩ => ?_
  rw [evE_not, evE_gmem, bind_assoc] at h
  refine tG_ex st en (h.bind_ fun y S1 v F1 H1 ι1 s1 st1 r1 h1 => ?_)
  match y, r1, h1 with
  | .p (.str z), r1, h1 =>
    obtain ⟨r, e1, e2⟩ := hv z
    exact ⟨z, r, repA_str (F := F1) (H := H1) (ι := ι1) (K := X.K) (.inl r1), rfl, e1, h1 _ F1 H1 ι1 Stp.refl st1 (by rw [e2]; exact rep_p.mpr (.bl _))⟩
theorem gt_gmem {k : Nat} {x : Str} (hg : Gl X x) (hr : GdM X G k x) (he : GE X ca W G Fn e' e) (hd : (x == ("__debug__" : Str)) = false := by decide) (hm : behindInMarks .In (.Name x p1) = false := by rfl) : GT X ca W G Fn (.gmem k e') (.Compare e [.In] [.Name x p1] pos) := by
  obtain ⟨d, es, n, hm1, kd, hv⟩ := hr.r
  refine PT.weaken (pt_cmpR (op_in_kd kd) he (pe_glob (v := .ref d) hg hm1 rfl hd) hm) fun σ H Q ⟨F, ι, S, ρ, own, st, en, h⟩ => ?_
  have h : PostG ca X.K W σ F H ι RBl Q ((evE G Fn _ ρ S).bind tru) := h
  rw [evE_gmem, bind_assoc] at h
  refine tG_ex st en (h.bind_ fun y S1 v F1 H1 ι1 s1 st1 r1 h1 => ?_)
  match y, r1, h1 with
  | .p (.str z), r1, h1 =>
    obtain ⟨r, e1, e2⟩ := hv z
    exact ⟨z, r, repA_str (F := F1) (H := H1) (ι := ι1) (K := X.K) (.inl r1), rfl, e1, _, rfl, h1 _ F1 H1 ι1 Stp.refl st1 e2⟩
theorem gt_ngmem {k : Nat} {x : Str} (hg : Gl X x) (hr : GdM X G k x) (he : GE X ca W G Fn e' e) (hd : (x == ("__debug__" : Str)) = false := by decide) (hm : behindInMarks .NotIn (.Name x p1) = false := by rfl) : GT X ca W G Fn (.not (.gmem k e')) (.Compare e [.NotIn] [.Name x p1] pos) := by
  obtain ⟨d, es, n, hm1, kd, hv⟩ := hr.r
  refine PT.weaken (pt_cmpR (op_notIn_kd kd) he (pe_glob (v := .ref d) hg hm1 rfl hd) hm) fun σ H Q ⟨F, ι, S, ρ, own, st, en, h⟩ => ?_
  have h : PostG ca X.K W σ F H ι RBl Q ((evE G Fn _ ρ S).bind tru) := h
  rw [evE_not, evE_gmem, bind_assoc, bind_assoc] at h
  refine tG_ex st en (h.bind_ fun y S1 v F1 H1 ι1 s1 st1 r1 h1 => ?_)
  match y, r1, h1 with
  | .p (.str z), r1, h1 =>
    obtain ⟨r, e1, e2⟩ := hv z
    exact ⟨z, r, repA_str (F := F1) (H := H1) (ι := ι1) (K := X.K) (.inl r1), rfl, e1, _, rfl, h1 _ F1 H1 ι1 Stp.refl st1 (by show (!r.isSome) = !_; rw [e2])⟩
/-- what a written dict of the module answers, where its keys are known -/
theorem nsIn_keys {K : PySem.W.Frag} {d : Addr} {es : Array DictEntry} {n : Nat} (lk : K.lookup d = some ⟨.type "dict", none, .dict es n, #[]⟩) (ks : List Str) (hk : es.toList.map (fun e => match e.key with | .str x _ => some x | _ => none) = ks.map some) (z : Str) :
    ∃ r, PySem.W.nsIn K d z = some r ∧ r.isSome = ks.contains z := by
  have key : ∀ (l : List DictEntry) (ks : List Str), l.map (fun e => match e.key with | .str x _ => some x | _ => none) = ks.map some →
      (l.find? (·.key.isStr z)).isSome = ks.contains z ∧ l.any (·.refKey) = false := by
    intro l
    induction l with
    | nil => intro ks h; cases ks with
      | nil => exact ⟨rfl, rfl⟩
      | cons => cases h
    | cons e l ih =>
      intro ks h
      cases ks with
      | nil => cases h
      | cons k ks =>
        rw [List.map_cons, List.map_cons] at h
        injection h with h1 h2
        obtain ⟨i1, i2⟩ := ih ks h2
        obtain ⟨hh, key, val⟩ := e
        cases key with
        | str x t =>
          have h1 : x = k := Option.some.inj h1
          subst h1
          refine ⟨?_, ?_⟩
          · rw [List.contains_cons]
            by_cases q : x = z
            · subst q
              rw [List.find?_cons_of_pos (by simp [Value.isStr]), beq_self_eq_true]
              rfl
            · rw [List.find?_cons_of_neg (by simpa [Value.isStr] using q), i1, show (z == x) = false from by simpa using fun w => q w.symm]
              rfl
          · rw [List.any_cons, i2]
            rfl
        | _ => cases h1
  obtain ⟨k1, k2⟩ := key es.toList ks hk
  unfold PySem.W.nsIn
  rw [lk]
  simp only
  cases q : es.toList.find? (·.key.isStr z) with
  | some e => exact ⟨_, rfl, by rw [← k1, q]; rfl⟩
  | none => exact ⟨none, by simp [k2], by rw [← k1, q]; rfl⟩
/-! ### [f, g][i](..) -/
def tPick (f1 f2 : Addr) (sp1 sp2 : Sp) (E : L2.St → XK) (tf : TE) (t : TA) : TE := fun σ H Q => tf σ H fun y H1 => (y = .ref f1 ∧ t σ H1 fun vs H2 => sp1 vs H2 Q (E σ)) ∨ (y = .ref f2 ∧ t σ H1 fun vs H2 => sp2 vs H2 Q (E σ))
theorem pe_pick {CX : CXT} {k1 k2 : Nat} {f1 f2 : Addr} {fd1 fd2 : FuncData} {ps1 ps2 : List Str} {sp1 sp2 : Sp} {gb1 gb2 : Bool} {E : L2.St → XK} {fe : Expr} {tf : TE} {t : TA} (F1 : FnG gb1 X.prog X.w X.K X.mg X.base CX k1 f1 fd1 ps1 sp1) (F2 : FnG gb2 X.prog X.w X.K X.mg X.base CX k2 f2 fd2 ps2 sp2)
    (hr1 : Room k1 X.A) (hr2 : Room k2 X.A) (hg1 : gb1 = true → X.A.guards = some []) (hg2 : gb2 = true → X.A.guards = some []) (hk1 : PySem.W.keepIn X.K (.ref f1) = true) (hk2 : PySem.W.keepIn X.K (.ref f2) = true) (hb1 : Binds X.K fd1 ps1 []) (hb2 : Binds X.K fd2 ps2 []) (hx : ∀ σ, PassesAt CX X σ (E σ))
    (hf : PE X fe tf) (ha : PA X (e :: es) t) (ht : eval (.Call fe (e :: es) [] pos) X.env = (do callWith pos (← eval fe X.env) [] (backTo pos (starEach (e :: es) X.env)) (backToKw pos (keywordEach [] X.env))) := by rfl)
    (he : starEach (e :: es) X.env = (false, eval e X.env) :: starEach es X.env := by rfl) (hpl : (backTo pos (starEach es X.env)).any (·.1) = false := by rfl) :
    PE X (.Call fe (e :: es) [] pos) (tPick f1 f2 sp1 sp2 E tf t) := by
  refine ⟨fun pins s σ H Q I h => ?_⟩
  refine Call_ (thn (hf.run pins s σ H _ I h) fun u s1 ⟨y, H1, I1, ry, q⟩ => ?_) ht
  rcases q with ⟨ey, q⟩ | ⟨ey, q⟩
  · subst ey
    obtain rfl : u = Value.ref f1 := ry
    refine PySem.W.callWith_K (h₀ := X.base) I.ok.mod.kin hk1 (thn (ha.run pos pins s1 σ H1 _ I1 q) fun us s2 ⟨vs, H2, I2, r, q⟩ => ⟨I2.kIn, ?_⟩) he hpl
    have hl : us.length = ps1.length := by rw [← r.length]; exact F1.len _ _ _ _ q
    have b := hb1 s2 us I2.kIn (by rw [List.append_nil]; exact hl)
    rw [List.append_nil] at b
    exact run_fnG (args := ⟨us, []⟩) F1 hr1 hg1 b (hx σ) I2 r q
  · subst ey
    obtain rfl : u = Value.ref f2 := ry
    refine PySem.W.callWith_K (h₀ := X.base) I.ok.mod.kin hk2 (thn (ha.run pos pins s1 σ H1 _ I1 q) fun us s2 ⟨vs, H2, I2, r, q⟩ => ⟨I2.kIn, ?_⟩) he hpl
    have hl : us.length = ps2.length := by rw [← r.length]; exact F2.len _ _ _ _ q
    have b := hb2 s2 us I2.kIn (by rw [List.append_nil]; exact hl)
    rw [List.append_nil] at b
    exact run_fnG (args := ⟨us, []⟩) F2 hr2 hg2 b (hx σ) I2 r q
theorem g_pick {np i j : Nat} {x1 x2 : Str} {ps1 ps2 : List Str} {ix : Expr} {ix' : E} {pl pc : Pos} (C1 : FnC X ca W Fn np i x1 ps1) (C2 : FnC X ca W Fn np j x2 ps2) (hg1 : Gl X x1) (hg2 : Gl X x2) (hix : GE X ca W G Fn ix' ix) (hn : (e :: es).length = np) (ha : GV X ca W G Fn es' (e :: es)) (hs : PlainIx ix)
    (hd1 : (x1 == ("__debug__" : Str)) = false := by decide) (hd2 : (x2 == ("__debug__" : Str)) = false := by decide)
    (ht : eval (.Call (.Subscript (.List [.Name x1 p1, .Name x2 p2] pl) ix pc) (e :: es) [] pos) X.env = (do callWith pos (← eval (.Subscript (.List [.Name x1 p1, .Name x2 p2] pl) ix pc) X.env) [] (backTo pos (starEach (e :: es) X.env)) (backToKw pos (keywordEach [] X.env))) := by rfl)
    (he : starEach (e :: es) X.env = (false, eval e X.env) :: starEach es X.env := by rfl) (hpl : (backTo pos (starEach es X.env)).any (·.1) = false := by rfl)
    (hs2 : starEach [.Name x1 p1, .Name x2 p2] X.env = (false, eval (.Name x1 p1) X.env) :: starEach [.Name x2 p2] X.env := by rfl) (hs3 : starEach [.Name x2 p2] X.env = (false, eval (.Name x2 p2) X.env) :: starEach [] X.env := by rfl)
    (hl : es'.length = np := by rfl) : GE X ca W G Fn (.pick i j ix' es') (.Call (.Subscript (.List [.Name x1 p1, .Name x2 p2] pl) ix pc) (e :: es) [] pos) := by
  obtain ⟨gb1, f1, fd1, k1, F1, hr1, hgd1, hm1, hk1, hb1, hx⟩ := C1.c
  obtain ⟨gb2, f2, fd2, k2, F2, hr2, hgd2, hm2, hk2, hb2, _⟩ := C2.c
  refine PE.weaken (pe_pick F1 F2 hr1 hr2 hgd1 hgd2 hk1 hk2 hb1 hb2 hx (pe_ix ix_list (pe_lst (pa_cons (pe_glob (v := .ref f1) hg1 hm1 rfl hd1) (pa_cons (pe_glob (v := .ref f2) hg2 hm2 rfl hd2) pa_nil hs3) hs2)) hix hs) ha ht he hpl) fun σ H Q ⟨F, ι, S, ρ, own, st, en, h⟩ => ?_
  rw [evE_pick] at h
  refine ⟨by simp [sizeLine], fun q hq => ?_⟩
  have st0 := st.laid hq (.lst [V.ref f1, V.ref f2])
  have s0 := Stp.laid st hq (.lst [V.ref f1, V.ref f2])
  refine tG_ex st0 (en.mono s0) ((h.mono s0).bind_ fun y S1 v F1' H1 ι1 s1 st1 r1 h1 => ?_)
  rw [kPick_eq] at h1
  match y, r1, h1 with
  | .p (.int n), r1, h1 =>
    have hv : v = .int n := repA_int (F := F1') (H := H1) (ι := ι1) (K := X.K) (.inl r1)
    have sq : SqL X.K H1 q [V.ref f1, V.ref f2] := by
      have e1 : upd F q (.lst [V.ref f1, V.ref f2]) q = some (.lst [V.ref f1, V.ref f2]) := upd_same
      exact .inl (.inl (st1.sub _ _ (s1.fr _ _ e1)))
    have fin : ∀ (f : Nat), PostG ca X.K W σ F1' H1 ι1 (RV X.K) Q ((evEs G Fn es' ρ S1).bind (kCall Fn f [])) → tG ca X.K W (RVs X.K) (evEs G Fn es') σ H1 fun vs H2 => spG ca X.K np (Fn f) vs H2 Q (WE W σ) := by
      intro f h2
      refine tG_ex st1 ((en.mono s0).mono s1) ?_
      have hlen : ∀ ds S2, evEs G Fn es' ρ S1 = .ok ds S2 → ds.length = es'.length := fun ds S2 => evEs_len
      revert h2 hlen
      cases evEs G Fn es' ρ S1 with
      | bad => exact fun h _ => h
      | exc x S2 => exact fun h _ => h
      | ok ds S2 =>
        intro h2 hlen v F2 H2 ι2 s2 st2 r2
        have h2 : PostG ca X.K W σ F1' H1 ι1 (RV X.K) Q (Fn f ds S2) := h2
        exact ⟨by rw [Reps.len r2, hlen ds S2 rfl, hl], F2, ι2, S2, ds, st2, r2, (h2.mono s2).at_⟩
    rw [pickN_eq] at h1
    split at h1
    · rename_i hn0
      subst hn0
      exact ⟨q, _, 0, _, rfl, hv, sq, rfl, .inl ⟨rfl, fin i h1⟩⟩
    · split at h1
      · rename_i hn1
        subst hn1
        exact ⟨q, _, 1, _, rfl, hv, sq, rfl, .inr ⟨rfl, fin j h1⟩⟩
      · exact h1.elim
end
end EC

namespace EC
open PySem PySem.Spec PyProof.Rows L2
variable [CA]
/-! ### except clauses, with and without a name -/
abbrev SuiteT := Addr → Value → Option Addr → TS
/-- a clause catches: b says whether it is the one -/
def wCl (K : PySem.W.Frag) (c : Value) (go : Value → Option Addr → L2.St → Hp → Prop) (next : WX) : WX := fun k d σ H =>
  ∃ b, PySem.W.exmOne K k c = some b ∧ (b = true → go k d σ H) ∧ (b = false → next k d σ H)
/-- the ends behind a suite whose name goes -/
def unEnds (i : Nat) (D : Ends) : Ends := { nx := fun σ H => D.nx (σ.set i none) H, rt := D.rt, bk := fun σ H => D.bk (σ.set i none) H, ct := fun σ H => D.ct (σ.set i none) H }
inductive ClsOk (X : Cx) : List ExceptHandler → (Ends → WX → WX) → Prop
  | nil : ClsOk X [] fun _ o => o
  | plain {x : Str} {c : Value} {ts : SuiteT} {st₀ : Stmt} {sts : List Stmt} {q1 q2 : Pos} {more : List ExceptHandler} {V : Ends → WX → WX} (hc : Names X x c)
      (hz : ∀ a oe k d pn, Zc k d oe → (∃ vs, oe.data = .fields vs) → PSs (X.suite a ((a, oe) :: pn)) (st₀ :: sts) (ts a k d)) (hm : ClsOk X more V) :
      ClsOk X (.ExceptHandler (some (.Name x q1)) none (st₀ :: sts) q2 :: more) fun D o => wCl X.K c (fun k d σ H => ∀ a, H a = none → ts a k d D σ H) (V D o)
  | named {x n : Str} {i : Nat} {c : Value} {ts : SuiteT} {st₀ : Stmt} {sts : List Stmt} {q1 q2 : Pos} {more : List ExceptHandler} {V : Ends → WX → WX} (hc : Names X x c) (nd : X.N.Nodup) (hi : X.N[i]? = some n) (hl : X.env.kindOf n = some .local)
      (hz : ∀ a oe k d pn, Zc k d oe → (∃ vs, oe.data = .fields vs) → PSs (X.suite a ((a, oe) :: pn)) (st₀ :: sts) (ts a k d)) (hm : ClsOk X more V) :
      ClsOk X (.ExceptHandler (some (.Name x q1)) (some n) (st₀ :: sts) q2 :: more) fun D o => wCl X.K c (fun k d σ H => ∀ a, H a = none → ts a k d (unEnds i D) (σ.set i (some (.ref a))) H) (V D o)
section
variable {X : Cx} {body : List Stmt} {hd : ExceptHandler} {tl : List ExceptHandler} {V : Ends → WX → WX} {pos : Pos} {tb : WX → TS} {Wo : WX}
/-- what the end of a suite says, said of the try -/
theorem sp_unsuite {pins : List (Addr × Obj)} {a : Addr} {oe : Obj} {D : Ends} {f : PySem.Flow} {s : Shared} (ok : X.Ok) (h : SP (X.suite a ((a, oe) :: (X.pn ++ pins))) [] D f s) : SP X pins D f s := by
  cases f with
  | ret u => obtain ⟨v, σ1, H1, J, rv, q⟩ := h; exact ⟨v, σ1, H1, J.unsuite ok, rv, q⟩
  | next => obtain ⟨σ1, H1, J, q⟩ := h; exact ⟨σ1, H1, J.unsuite ok, q⟩
  | brk => obtain ⟨σ1, H1, J, q⟩ := h; exact ⟨σ1, H1, J.unsuite ok, q⟩
  | cont => obtain ⟨σ1, H1, J, q⟩ := h; exact ⟨σ1, H1, J.unsuite ok, q⟩
/-- .. and the name gone -/
theorem sp_gone {pins : List (Addr × Obj)} {a : Addr} {oe : Obj} {D : Ends} {i : Nat} {n : Str} {p : Pos} {f : PySem.Flow} {s : Shared} (ok : X.Ok) (nd : X.N.Nodup) (hi : X.N[i]? = some n) (hl : X.env.kindOf n = some .local)
    (h : SP (X.suite a ((a, oe) :: (X.pn ++ pins))) [] (unEnds i D) f s) {R : Shared → Prop} (hR : ∀ s', SP X pins D f s' → R s') : wpAny (model X.prog X.w) X.A (do bindName X.env n .none; unbindBehindTheSuite X.env n p) (fun _ s' => R s') X.xe s := by
  cases f with
  | ret u => obtain ⟨v, σ1, H1, J, rv, q⟩ := h; exact gone_ok (J.unsuite ok) nd hi hl fun s' J' => hR s' ⟨v, _, H1, J', rv, q⟩
  | next => obtain ⟨σ1, H1, J, q⟩ := h; exact gone_ok (J.unsuite ok) nd hi hl fun s' J' => hR s' ⟨_, H1, J', q⟩
  | brk => obtain ⟨σ1, H1, J, q⟩ := h; exact gone_ok (J.unsuite ok) nd hi hl fun s' J' => hR s' ⟨_, H1, J', q⟩
  | cont => obtain ⟨σ1, H1, J, q⟩ := h; exact gone_ok (J.unsuite ok) nd hi hl fun s' J' => hR s' ⟨_, H1, J', q⟩
theorem sp_oftry {pins : List (Addr × Obj)} {xe : Value → Shared → Prop} {D : Ends} {f : PySem.Flow} {s : Shared} (ok : X.Ok) (h : SP (X.tr (X.pn ++ pins) xe) [] D f s) : SP X pins D f s := by
  cases f with
  | ret u => obtain ⟨v, σ1, H1, J, rv, q⟩ := h; exact ⟨v, σ1, H1, J.ofTry ok, rv, q⟩
  | next => obtain ⟨σ1, H1, J, q⟩ := h; exact ⟨σ1, H1, J.ofTry ok, q⟩
  | brk => obtain ⟨σ1, H1, J, q⟩ := h; exact ⟨σ1, H1, J.ofTry ok, q⟩
  | cont => obtain ⟨σ1, H1, J, q⟩ := h; exact ⟨σ1, H1, J.ofTry ok, q⟩
/-- try: body / except ..: .., any clauses -/
theorem ps_try_cl (hstk : X.stack = X.env :: X.outer) (hfr : X.env.frame = some X.env.locals) (tk : Takes X Wo)
    (hb : ∀ (W : WX) pn xe, Takes (X.tr pn xe) W → PSs (X.tr pn xe) body (tb W)) (hcl : ClsOk X (hd :: tl) V) :
    PS X (.Try body (hd :: tl) [] [] pos) fun D σ H => tb (V D Wo) D σ H := by
  refine ⟨fun pins s σ H D I h => wpAny_Try_except ?_⟩
  have ok := I.ok
  have frames : X.A.frames = some (X.env :: X.outer) := ok.frames.trans (congrArg some hstk)
  refine wpAny_mono ((hb (V D Wo) (X.pn ++ pins) (fun e z => wpAny (model X.prog X.w) X.A (noteFrame e X.env) (fun _ z => wpAny (model X.prog X.w) X.A (setFlight e none) (fun _ z => wpAny (model X.prog X.w) X.A (handleBy e X.env (hd :: tl)) (SP X pins D) X.xe z) X.xe z) X.xe z) ?caught).run [] s σ H D (I.toTry _) h) ?done fun _ _ z => z
  case done =>
    intro f z hz
    cases f with
    | next => exact wpAny_execs_nil (sp_oftry (f := .next) ok hz)
    | _ => exact sp_oftry ok hz
  case caught =>
    rintro u z ⟨a, B, z0, pins0, σ1, H1, k, d, rfl, J0, nb, up, sky, na, os, ag, w⟩
    have J := J0.ofTry ok
    rw [show (X.tr (X.pn ++ pins) _).stack = X.env :: X.outer from hstk] at sky
    show wpAny (model X.prog X.w) X.A (noteFrame (.ref a) X.env) _ _ _
    refine Sky.land Zc.steady frames hfr sky fun g1 fly up1 => ?_
    have J1 : Inv X pins σ1 H1 { z with heap := g1 } := J.landed nb fly.1 (up.trans up1) os ag
    obtain ⟨o1, v1, e1, z1, d1⟩ := fly.there
    have off : a ∉ frs (X.env :: X.outer) := fun m => by
      obtain ⟨_, o2, e2, nf⟩ := fly.2.2.1.mem m
      exact nf v1 (by rw [e1] at e2; cases e2; exact d1)
    have offL : a ≠ X.env.locals := fun e => off (List.mem_filterMap.mpr ⟨X.env, by simp, by rw [hfr, e]⟩)
    have offF : a ∉ X.fs := fun m => by
      obtain ⟨e, m1, m2⟩ := List.mem_filterMap.mp m
      exact off (List.mem_filterMap.mpr ⟨e, by simp [m1], m2⟩)
    have SU := J1.suite e1 d1 na offL offF
    have look : PySem.W.Looks (model X.prog X.w) g1 (typeOf (.ref a)) k := fun A Q E s kk q => wpAny_typeOf_ref (kk _ _ e1) (z1.1.symm ▸ q)
    have nameIt : ∀ {x : Str} {c : Value} {q : Pos}, Names X x c → ∀ {Q : Value → Shared → Prop} {E : Value → Shared → Prop}, Q c { z with heap := g1 } → wpAny (model X.prog X.w) (X.A.mark (some (.ref a))) (eval (.Name x q) X.env) Q E { z with heap := g1 } := by
      intro x c q ⟨gl, db, nm⟩ Q E hq
      rcases nm with m | ⟨m, bb, ne⟩
      · exact ld_glob (X := X.suite a ((a, o1) :: (X.pn ++ pins))) SU gl m hq db
      · exact ld_blt (X := X.suite a ((a, o1) :: (X.pn ++ pins))) SU gl m bb hq ne db
    suffices walk : ∀ {hs : List ExceptHandler} {U : Ends → WX → WX}, ClsOk X hs U → U D Wo k d σ1 H1 → wpAny (model X.prog X.w) X.A (handleBy (.ref a) X.env hs) (SP X pins D) X.xe { z with heap := g1 } from walk hcl w
    intro hs U hk
    induction hk with
    | nil =>
      intro w
      refine wpAny_handleBy_nil ?_
      obtain ⟨_, _, _, o3, v3, t3, _, _, e3, _, d3, f3, _⟩ := id fly
      unfold PySem.passOn
      refine wpAny_bind (wpAny_field e3 d3 f3 ?_)
      rw [if_neg (by simp : ¬ (Value.ref t3 == Value.none) = true)]
      have out : wpAny (model X.prog X.w) X.A (setFlight (.ref a) X.env.frame) (fun _ y => wpAny (model X.prog X.w) X.A (throw (.ref a) : Sem PySem.Flow) (SP X pins D) X.xe y) X.xe { z with heap := g1 } := by
        rw [hfr]
        exact HandSPX.setFlight_upZ fly fun g2 fly2 up2 => wpAny_throw (tk _ _ ⟨a, B, z0, pins, σ1, H1, k, d, rfl, J, nb, (up.trans up1).trans up2, .inr (.inr (hstk.symm ▸ fly2)), na, os, ag, w⟩)
      first | exact wpAny_bind (wpAny_pure (wpAny_bind out)) | exact wpAny_bind out
    | plain hc hz hm ih =>
      rintro ⟨b, eb, yes, no⟩
      have M1 := PySem.W.exm_one (M := model X.prog X.w) J1.kIn look eb
      refine wpAny_handleBy_cons (codeAny_handlers_test (nameIt hc (M1.here ?_))) fun q => nomatch q
      cases b with
      | false => exact ih (no rfl)
      | true =>
        refine codeAny_handlers_suite (HandSPX.lands_againZ fly fun g2 fly2 up2 => ?_)
        obtain ⟨o2, v2, e2, z2, d2⟩ := fly2.there
        have S2 := (J.landed (s' := { z with heap := g2 }) nb fly2.1 ((up.trans up1).trans up2) os ag).suite e2 d2 na offL offF
        exact wpAny_mono ((hz a o2 k d (X.pn ++ pins) z2 ⟨_, d2⟩).run [] _ _ H1 _ S2 (yes rfl a na)) (fun f y hy => sp_unsuite ok hy) fun _ _ q => q.elim
    | named hc nd hi hl hz hm ih =>
      rintro ⟨b, eb, yes, no⟩
      have M1 := PySem.W.exm_one (M := model X.prog X.w) J1.kIn look eb
      refine wpAny_handleBy_cons (codeAny_handlers_test (nameIt hc (M1.here ?_))) fun q => nomatch q
      cases b with
      | false => exact ih (no rfl)
      | true =>
        refine codeAny_handlers_suite_as (HandSPX.lands_againZ fly fun g2 fly2 up2 => ?_)
        obtain ⟨o2, v2, e2, z2, d2⟩ := fly2.there
        have S2 := (J.landed (s' := { z with heap := g2 }) nb fly2.1 ((up.trans up1).trans up2) os ag).suite e2 d2 na offL offF
        refine store_ok (X := X.suite a ((a, o2) :: (X.pn ++ pins))) (v := .ref a) S2 nd hi (.inl hl) rfl (fun y0 S3 => ?_) (.inr hl)
        exact wpAny_mono ((hz a o2 k d (X.pn ++ pins) z2 ⟨_, d2⟩).run [] y0 _ H1 _ S3 (yes rfl a na)) (fun f y hy => sp_gone ok nd hi hl hy fun s' q => q) fun _ _ q => q.elim
end
end EC

namespace EC
open PySem PySem.Spec PyProof.Rows L2
variable [CA]
theorem slots_none {K : PySem.W.Frag} {F H : Hp} {ι : List Addr} {own : Nat → Option Addr} : ∀ {ρ : EC.Env}, noOwn ρ = true → ∀ (i : Nat) s, ρ[i]? = some s → ∀ o, SlotR K F H ι own i o s → SlotR K F H ι (fun _ => none) i o s
  | [], _, i, s, h, _, _ => by simp at h
  | x :: r, hn, 0, s, h, o, hs => by
    cases h
    cases x with
    | un => exact hs
    | v d => exact hs
    | own xs => exact absurd hn (by simp [noOwn])
  | x :: r, hn, i + 1, s, h, o, hs => by
    have hr : noOwn r = true := by
      cases x with
      | un => exact hn
      | v d => exact hn
      | own xs => exact absurd hn (by simp [noOwn])
    have e : ∀ (own : Nat → Option Addr), SlotR K F H ι own (i+1) o s = SlotR K F H ι (fun j => own (j+1)) i o s := fun own => by cases s <;> rfl
    rw [e] at hs ⊢
    exact slots_none hr i s h o hs
theorem env_none {K : PySem.W.Frag} {F H : Hp} {ι : List Addr} {own : Nat → Option Addr} {ρ : EC.Env} {σ : L2.St} (en : EnvR K F H ι own ρ σ) (hn : noOwn ρ = true) : EnvR K F H ι (fun _ => none) ρ σ :=
  ⟨en.len, fun i s h => slots_none hn i s h _ (en.slot i s h), fun i a h => (nomatch h), fun i j a h => (nomatch h)⟩
/-- nothing is known of the names -/
theorem env_wiped {K : PySem.W.Frag} {F H : Hp} {ι : List Addr} {ρ : EC.Env} {σ : L2.St} (hl : ρ.length = σ.length) : EnvR K F H ι (fun _ => none) (ρ.map fun _ => Slot.un) σ :=
  ⟨by rw [List.length_map]; exact hl, fun i s h => by
    rw [List.getElem?_map] at h
    cases e : ρ[i]? with
    | none => rw [e] at h; cases h
    | some x => rw [e] at h; cases h; exact True.intro, fun i a h => (nomatch h), fun i j a h => (nomatch h)⟩
/-- a name that is not looked at any more may be anything -/
theorem env_off {K : PySem.W.Frag} {F H : Hp} {ι : List Addr} {own : Nat → Option Addr} {ρ : EC.Env} {σ : L2.St} {i : Nat} {o : Option V} (en : EnvR K F H ι own ρ σ) (hi : ρ[i]? = none ∨ ρ[i]? = some .un) : EnvR K F H ι own ρ (σ.set i o) :=
  ⟨by rw [List.length_set]; exact en.len, fun j s h => by
    by_cases e : i = j
    · subst e
      rcases hi with hi | hi
      · rw [hi] at h; cases h
      · rw [hi] at h; cases h; exact True.intro
    · rw [List.getElem?_set_ne e]; exact en.slot j s h, en.off, en.inj⟩
section
variable {X : Cx} {ca : Nat → Addr} {W : WX} {F0 H0 : Hp} {ι0 : List Addr} {G : Nat → D} {Fn : Nat → List D → Store → Out D}
/-- what a clause wishes, by the evaluator: n names -/
def GoOk (X : Cx) (ca : Nat → Addr) (h : Hn) (go : Ends → Value → Option Addr → L2.St → Hp → Prop) : Prop :=
  ∀ (F0 H0 : Hp) (ι0 : List Addr) (Fc : Hp) (D : Ends) (W : WX) (ρ : EC.Env) (e : Exc) (S : Store) (F H : Hp) (ι : List Addr) (σ : L2.St) (k : Value) (d : Option Addr), Stp F0 H0 ι0 F H ι → Same Fc F → Sto X.K F H ι S → RepX ca X.K F H ι e k d → ρ.length = σ.length → σ.length = X.N.length → h.subs[e.cls]? = some true →
    PostS ca X.K W F0 H0 ι0 Fc D (kTry2 ρ h S (hval h e)) → go D k d σ H
inductive Hds (X : Cx) (ca : Nat → Addr) : List Hn → List ExceptHandler → (Ends → WX → WX) → Prop
  | nil : Hds X ca [] [] fun _ o => o
  | cons {h : Hn} {hs : List Hn} {hd : ExceptHandler} {hds : List ExceptHandler} {c : Value} {go : Ends → Value → Option Addr → L2.St → Hp → Prop} {V : Ends → WX → WX} (hx : ∀ i b, h.subs[i]? = some b → PySem.W.exmOne X.K (.ref (ca i)) c = some b) (hg : GoOk X ca h go)
      (hc : ∀ more V, ClsOk X more V → ClsOk X (hd :: more) fun D o => wCl X.K c (go D) (V D o)) (r : Hds X ca hs hds V) : Hds X ca (h :: hs) (hd :: hds) fun D o => wCl X.K c (go D) (V D o)
theorem Hds.cls {hs : List Hn} {hds : List ExceptHandler} {V : Ends → WX → WX} (h : Hds X ca hs hds V) : ClsOk X hds V := by
  induction h with
  | nil => exact .nil
  | cons hx hg hc r ih => exact hc _ _ ih
theorem Hds.wish {hs : List Hn} {hds : List ExceptHandler} {V : Ends → WX → WX} (h : Hds X ca hs hds V) {Fc : Hp} {D : Ends} {ρ : EC.Env} {e : Exc} {S : Store} {F H : Hp} {ι : List Addr} {σ : L2.St} {k : Value} {d : Option Addr} (st : Stp F0 H0 ι0 F H ι) (sm : Same Fc F) (so : Sto X.K F H ι S) (rx : RepX ca X.K F H ι e k d) (hl : ρ.length = σ.length) (hn : σ.length = X.N.length)
    (p : PostS ca X.K W F0 H0 ι0 Fc D (kTry1 hs ρ e S)) : V D W k d σ H := by
  induction h with
  | nil => exact p σ k d F H ι st so rx
  | @cons h hs hd hds c go V hx hg hc r ih =>
    unfold kTry1 at p
    have ek : k = .ref (ca e.cls) := rx.1
    cases q : h.subs[e.cls]? with
    | none => rw [q] at p; exact p.elim
    | some b =>
      rw [q] at p
      refine ⟨b, by rw [ek]; exact hx _ _ q, fun hb => ?_, fun hb => ?_⟩
      · subst hb
        exact hg F0 H0 ι0 Fc D W ρ e S F H ι σ k d st sm so rx hl hn q p
      · subst hb
        exact ih p
/-- the wish at states with all names -/
def lenW (X : Cx) (W : WX) : WX := fun k d σ H => σ.length = X.N.length → W k d σ H
theorem takes_len {W : WX} {pn : List (Addr × Obj)} {xe : Value → Shared → Prop} (tk : Takes (X.tr pn xe) W) : Takes (X.tr pn xe) (lenW X W) := fun u s' ⟨a, B, sI, pins, σ, H, cls, d, e, I, nb, up, sky, na, os, ag, w⟩ =>
  tk u s' ⟨a, B, sI, pins, σ, H, cls, d, e, I, nb, up, sky, na, os, ag, w I.len⟩
/-- try: .. except ..: .. -/
theorem gs_try {body : List Stmt} {body' : List EC.S} {hd : ExceptHandler} {tl : List ExceptHandler} {hs : List Hn} {V : Ends → WX → WX} {pos : Pos} (hstk : X.stack = X.env :: X.outer) (hfr : X.env.frame = some X.env.locals) (tk : Takes X W) (hh : Hds X ca hs (hd :: tl) V)
    (hb : ∀ (W' : WX) pn xe (F1 H1 : Hp) (ι1 : List Addr), Takes (X.tr pn xe) W' → GSs (X.tr pn xe) ca W' F1 H1 ι1 G Fn body' body) : GS X ca W F0 H0 ι0 G Fn (.try_ body' hs) (.Try body (hd :: tl) [] [] pos) := by
  refine ⟨fun pins s σ H D I ⟨F, ι, S, ρ, own, st, en, et, h⟩ => (ps_try_cl (Wo := W) (tb := fun W' D σ H => ∃ F ι S ρ, Sto X.K F H ι S ∧ EnvR X.K F H ι (fun _ => none) ρ σ ∧ PostS ca X.K (lenW X W') F H ι F D (evSs G Fn body' ρ S)) hstk hfr tk (fun W' pn xe tk' => ⟨fun pins s σ H D I ⟨F, ι, S, ρ, st, en, h⟩ =>
    (hb (lenW X W') pn xe F H ι (takes_len tk')).run pins s σ H D I ⟨F, ι, S, ρ, _, st, en, ⟨Stp.refl, fun i a h => nomatch h⟩, h⟩⟩) hh.cls).run pins s σ H D I ?_⟩
  rw [evS_try] at h
  split at h
  · rename_i hn
    have en1 := env_none en hn
    refine ⟨F, ι, S, ρ, st, en1, ?_⟩
    have up : ∀ {F' H' : Hp} {ι' : List Addr} {own' : Nat → Option Addr}, Ent F H ι F' H' ι' own' → Ent F0 H0 ι0 F' H' ι' own' := fun {F' H' ι' own'} e => ⟨et.st.trans e.st, fun i a ha => by
      have := e.ow i a ha
      cases q : H0 a with
      | none => rfl
      | some u => exact absurd this (et.st.live a (by rw [q]; simp))⟩
    cases hm : evSs G Fn body' ρ S with
    | bad => rw [hm] at h; exact h.elim
    | ok f S1 =>
      rw [hm, kTry_ok] at h
      cases f with
      | nx ρ' => exact fun σ' F' H' ι' own' sm so e n => h σ' F' H' ι' own' sm so e (up n)
      | ct ρ' => exact fun σ' F' H' ι' own' sm so e n => h σ' F' H' ι' own' sm so e (up n)
      | bk ρ' => exact fun σ' F' H' ι' own' sm so e n => h σ' F' H' ι' own' sm so e (up n)
      | rt d => exact fun v F' H' ι' s so r => h v F' H' ι' (et.st.trans s) so r
    | exc e S1 =>
      rw [hm, kTry_exc] at h
      exact fun σ' k d F' H' ι' s so rx hl => hh.wish (et.st.trans s) s.fr so rx (by rw [hl, en.len]; exact I.len) hl h
  · exact h.elim
/-! ### what a clause says: a constant, a field, both in a tuple or a list -/
structure VRead (X : Cx) (ca : Nat → Addr) (h : Hn) (i : Option Nat) (e : Expr) (te : Addr → Value → Option Addr → TE) : Prop where
  pe : ∀ a oe k d pn, Zc k d oe → (∃ vs, oe.data = .fields vs) → PE (X.suite a ((a, oe) :: pn)) e (te a k d)
  ok : ∀ (F H : Hp) (ι : List Addr) (S : Store) (x : Exc) (k : Value) (d : Option Addr) (σ : L2.St) (a : Addr) (dv : EC.D) (Q : VK), Sto X.K F H ι S → RepX ca X.K F H ι x k d → h.subs[x.cls]? = some true → (∀ j, i = some j → σ[j]? = some (some (.ref a))) → hval h x = some dv →
    (∀ v F' H', Stp F H ι F' H' ι → Sto X.K F' H' ι S → Rep X.K F' ι dv v → Q v H') → te a k d σ H Q
theorem vr_const {h : Hn} {i : Option Nat} {e : Expr} {v : V} (h0 : h.how = 0) (he : ∀ X' : Cx, PE X' e (tC v)) (hv : ∀ F, Dq X.K F v h.pre) : VRead X ca h i e fun _ _ _ => tC v :=
  ⟨fun a oe k d pn _ _ => he _, fun F H ι S x k d σ a dv Q so rx sb hi hd q => by
    unfold hval at hd
    rw [if_pos h0] at hd
    cases hd
    exact q v F H Stp.refl so (rep_p.mpr (hv F))⟩
theorem one_true {l : List Bool} {j0 : Nat} (h : (List.range l.length).all (fun i => l[i]? != some true || i == j0) = true) : ∀ i, l[i]? = some true → i = j0 := fun i hi => by
  have lt := (List.getElem?_eq_some_iff.mp hi).1
  have := List.all_eq_true.mp h i (List.mem_range.mpr lt)
  rw [hi] at this
  simpa using this
/-- the field's value is there -/
theorem fld_there {h : Hn} {F H : Hp} {ι : List Addr} {x : Exc} {k : Value} {d : Option Addr} {dv : EC.D} (n0 : h.how ≠ 0) (rx : RepX ca X.K F H ι x k d) (hd : hval h x = some dv) : ∃ y dd v, hval1 h y h.how = some dv ∧ d = some dd ∧ H dd = some (.xd [(h.fld, v)]) ∧ Dq X.K F v y := by
  unfold hval at hd
  rw [if_neg n0] at hd
  obtain ⟨_, r2⟩ := rx
  cases q : x.arg with
  | none => rw [q] at hd; cases hd
  | some fd =>
    obtain ⟨f, d1⟩ := fd
    rw [q] at hd r2
    cases d1 with
    | p y =>
      simp only at hd
      split at hd
      · rename_i ef
        subst ef
        obtain ⟨dd, v, e1, e2, e3⟩ := r2
        exact ⟨y, dd, v, hd, e1, e2, rep_p.mp e3⟩
      · cases hd
    | ref _ => cases hd
    | tup _ => cases hd
    | fn _ => cases hd
section
variable {h : Hn} {i j0 : Nat} {n f : Str} {p q : Pos} {C : Addr}
/-- e.f, C the one class that is caught -/
theorem pe_field (T : XfC X.K C) (hno : PySem.W.findIn X.K (.ref C) f = some none) (hi : X.N[i]? = some n) (hv : Vis X.env.scope n) (hd : (n == ("__debug__" : Str)) = false := by decide) (hcd : (n == ("__classdict__" : Str)) = false := by decide) (hb : ∀ env, attributeBase (.Name n p) f env (eval (.Name n p) env) = eval (.Name n p) env := by intro _; rfl) :
    ∀ a oe k d pn, Zc k d oe → (∃ vs, oe.data = .fields vs) → PE (X.suite a ((a, oe) :: pn)) (.Attribute (.Name n p) f q) (tXf a k d C f (tVar i)) := fun a oe k d pn hz hf =>
  pe_xf (X := X) T hno hz hf (pe_var hi hv hd hcd) (hb _)
theorem fld_read {F H : Hp} {ι : List Addr} {x : Exc} {k : Value} {d : Option Addr} {σ : L2.St} {a : Addr} {v : V} {dd : Addr} {Q : VK} (eC : ca x.cls = C) (rx : RepX ca X.K F H ι x k d) (hs : σ[i]? = some (some (.ref a))) (e1 : d = some dd) (e2 : H dd = some (.xd [(f, v)])) (hq : Q v H) : tXf a k d C f (tVar i) σ H Q :=
  ⟨.ref a, hs, rfl, by rw [rx.1, eC], dd, _, v, e1, e2, by simp [List.lookup], hq⟩
theorem vr_fld (h1 : h.how = 1) (ef : h.fld = f) (hC : ∀ i, h.subs[i]? = some true → ca i = C) (T : XfC X.K C) (hno : PySem.W.findIn X.K (.ref C) f = some none) (hi : X.N[i]? = some n) (hv : Vis X.env.scope n) (hd : (n == ("__debug__" : Str)) = false := by decide) (hcd : (n == ("__classdict__" : Str)) = false := by decide) (hb : ∀ env, attributeBase (.Name n p) f env (eval (.Name n p) env) = eval (.Name n p) env := by intro _; rfl) :
    VRead X ca h (some i) (.Attribute (.Name n p) f q) fun a k d => tXf a k d C f (tVar i) :=
  ⟨pe_field T hno hi hv hd hcd hb, fun F H ι S x k d σ a dv Q so rx sb hs hdv hq => by
    obtain ⟨y, dd, v, g1, g2, g3, g4⟩ := fld_there (X := X) (by rw [h1]; decide) rx hdv
    rw [h1] at g1
    cases g1
    rw [ef] at g3
    exact fld_read (hC _ sb) rx (hs i rfl) g2 g3 (hq v F H Stp.refl so (rep_p.mpr g4))⟩
variable {c0 : Expr} {v0 : V} {x1 : Nat} {pos : Pos}
/-- (constant, e.f) -/
theorem vr_tup (h1 : h.how = 2) (ef : h.fld = f) (he : ∀ X' : Cx, PE X' c0 (tC v0)) (hv0 : ∀ F, Dq X.K F v0 h.pre) (hC : ∀ i, h.subs[i]? = some true → ca i = C) (T : XfC X.K C) (hno : PySem.W.findIn X.K (.ref C) f = some none) (hi : X.N[i]? = some n) (hv : Vis X.env.scope n) (hd : (n == ("__debug__" : Str)) = false := by decide) (hcd : (n == ("__classdict__" : Str)) = false := by decide)
    (hb : ∀ env, attributeBase (.Name n p) f env (eval (.Name n p) env) = eval (.Name n p) env := by intro _; rfl) (s1 : ∀ env, starEach [c0, .Attribute (.Name n p) f q] env = (false, eval c0 env) :: starEach [.Attribute (.Name n p) f q] env := by intro _; rfl) (s2 : ∀ env, starEach [.Attribute (.Name n p) f q] env = (false, eval (.Attribute (.Name n p) f q) env) :: starEach [] env := by intro _; rfl) :
    VRead X ca h (some i) (.Tuple [c0, .Attribute (.Name n p) f q] x1 pos) fun a k d => tTup (tCons (tC v0) (tCons (tXf a k d C f (tVar i)) tNil)) :=
  ⟨fun a oe k d pn hz hf => pe_tup (pa_cons (he _) (pa_cons (pe_field T hno hi hv hd hcd hb a oe k d pn hz hf) pa_nil (s2 _)) (s1 _)), fun F H ι S x k d σ a dv Q so rx sb hs hdv hq => by
    obtain ⟨y, dd, v, g1, g2, g3, g4⟩ := fld_there (X := X) (by rw [h1]; decide) rx hdv
    rw [h1] at g1
    cases g1
    rw [ef] at g3
    exact fld_read (hC _ sb) rx (hs i rfl) g2 g3 ⟨by simp [sizeLine], fun r hr => hq _ _ _ (Stp.laid so hr _) (so.laid hr _) (rep_p.mpr (.tup (.inl rd_upd) (.cons (hv0 _) (.cons (dq_mono (Stp.laid so hr _).fr _ _ g4) .nil))))⟩⟩
/-- [constant, e.f] -/
theorem vr_lst (h1 : h.how = 3) (ef : h.fld = f) (he : ∀ X' : Cx, PE X' c0 (tC v0)) (hv0 : ∀ F, Dq X.K F v0 h.pre) (hC : ∀ i, h.subs[i]? = some true → ca i = C) (T : XfC X.K C) (hno : PySem.W.findIn X.K (.ref C) f = some none) (hi : X.N[i]? = some n) (hv : Vis X.env.scope n) (hd : (n == ("__debug__" : Str)) = false := by decide) (hcd : (n == ("__classdict__" : Str)) = false := by decide)
    (hb : ∀ env, attributeBase (.Name n p) f env (eval (.Name n p) env) = eval (.Name n p) env := by intro _; rfl) (s1 : ∀ env, starEach [c0, .Attribute (.Name n p) f q] env = (false, eval c0 env) :: starEach [.Attribute (.Name n p) f q] env := by intro _; rfl) (s2 : ∀ env, starEach [.Attribute (.Name n p) f q] env = (false, eval (.Attribute (.Name n p) f q) env) :: starEach [] env := by intro _; rfl) :
    VRead X ca h (some i) (.List [c0, .Attribute (.Name n p) f q] pos) fun a k d => tLst (tCons (tC v0) (tCons (tXf a k d C f (tVar i)) tNil)) :=
  ⟨fun a oe k d pn hz hf => pe_lst (pa_cons (he _) (pa_cons (pe_field T hno hi hv hd hcd hb a oe k d pn hz hf) pa_nil (s2 _)) (s1 _)), fun F H ι S x k d σ a dv Q so rx sb hs hdv hq => by
    obtain ⟨y, dd, v, g1, g2, g3, g4⟩ := fld_there (X := X) (by rw [h1]; decide) rx hdv
    rw [h1] at g1
    cases g1
    rw [ef] at g3
    exact fld_read (hC _ sb) rx (hs i rfl) g2 g3 ⟨by simp [sizeLine], fun r hr => hq _ _ _ (Stp.laid so hr _) (so.laid hr _) (rep_p.mpr (.lst (.inl rd_upd) (.cons (hv0 _) (.cons (dq_mono (Stp.laid so hr _).fr _ _ g4) .nil))))⟩⟩
end
/-! ### the clauses -/
section
variable {h : Hn} {hs : List Hn} {hds : List ExceptHandler} {V : Ends → WX → WX} {x y n : Str} {c : Value} {i j : Nat} {e : Expr} {te : Addr → Value → Option Addr → TE} {q1 q2 q3 q4 : Pos}
/-- the end of a clause that sets a name -/
theorem set_wiped {K : PySem.W.Frag} {Fc F0 H0 : Hp} {ι0 : List Addr} {D : Ends} {ρ : EC.Env} {S : Store} {F H F' H' : Hp} {ι : List Addr} {σ σ' : L2.St} {v : L2.V} {dv : EC.D} {e1 : Exc} (hj : h.j = some j) (st : Stp F0 H0 ι0 F H ι) (sm : Same Fc F) (hl : ρ.length = σ.length) (hd : hval h e1 = some dv) (p : PostS ca K W F0 H0 ι0 Fc D (kTry2 ρ h S (hval h e1)))
    (s' : Stp F H ι F' H' ι) (so : Sto K F' H' ι S) (r : Rep K F' ι dv v) (en : EnvR K F' H' ι (fun _ => none) ((ρ.map fun _ => Slot.un).set j (.v dv)) σ') : D.nx σ' H' := by
  rw [hd] at p
  unfold kTry2 at p
  rw [hj] at p
  simp only at p
  split at p
  · exact p σ' F' H' ι _ (sm.trans s'.fr) so en ⟨st.trans s', fun i a z => (nomatch z)⟩
  · exact p.elim
/-- except x: y = e -/
theorem hd_set (hj : h.j = some j) (vr : VRead X ca h none e te) (hx : ∀ i b, h.subs[i]? = some b → PySem.W.exmOne X.K (.ref (ca i)) c = some b) (hc : Names X x c) (nd : X.N.Nodup) (ji : X.N[j]? = some y) (jl : Loc X.env.scope y) (r : Hds X ca hs hds V)
    (hf : X.fn y = true ∨ X.env.scope.names.lookup y = some .local := by first | exact .inl rfl | exact .inr rfl | assumption) (hw : ∀ env, swapsWith e (some (.Name y q3)) q4.line env = pure false := by intro _; rfl) :
    Hds X ca (h :: hs) (.ExceptHandler (some (.Name x q1)) none [.Assign [.Name y q3] e q4] q2 :: hds) fun D o => wCl X.K c (fun k d σ H => ∀ a, H a = none → tAsg (te a k d) (gName j) D σ H) (V D o) := by
  refine .cons hx (fun F0 H0 ι0 Fc D W ρ e1 S F H ι σ k d st sm so rx hl hn sb p a na => ?_) (fun more V hm => .plain (ts := fun a k d => tAsg (te a k d) (gName j)) hc (fun a oe k d pn hz hv => pss_one (ps_set nd ji jl (vr.pe a oe k d pn hz hv) (hw _) hf)) hm) r
  cases hd : hval h e1 with
  | none => rw [hd] at p; exact p.elim
  | some dv =>
    exact vr.ok F H ι S e1 k d σ a dv _ so rx sb (fun _ z => (nomatch z)) hd fun v F' H' s' so' r => set_wiped (ca := ca) (W := W) hj st sm hl hd p s' so' r ((env_wiped hl).set r)
/-- except x as n: y = e -/
theorem hd_setAs (hj : h.j = some j) (vr : VRead X ca h (some i) e te) (hx : ∀ i b, h.subs[i]? = some b → PySem.W.exmOne X.K (.ref (ca i)) c = some b) (hc : Names X x c) (nd : X.N.Nodup) (ni : X.N[i]? = some n) (nl : X.env.kindOf n = some .local) (ji : X.N[j]? = some y) (jl : Loc X.env.scope y) (r : Hds X ca hs hds V) (hij : i ≠ j := by decide)
    (hf : X.fn y = true ∨ X.env.scope.names.lookup y = some .local := by first | exact .inl rfl | exact .inr rfl | assumption) (hw : ∀ env, swapsWith e (some (.Name y q3)) q4.line env = pure false := by intro _; rfl) :
    Hds X ca (h :: hs) (.ExceptHandler (some (.Name x q1)) (some n) [.Assign [.Name y q3] e q4] q2 :: hds) fun D o => wCl X.K c (fun k d σ H => ∀ a, H a = none → tAsg (te a k d) (gName j) (unEnds i D) (σ.set i (some (.ref a))) H) (V D o) := by
  refine .cons hx (fun F0 H0 ι0 Fc D W ρ e1 S F H ι σ k d st sm so rx hl hn sb p a na => ?_) (fun more V hm => .named (ts := fun a k d => tAsg (te a k d) (gName j)) hc nd ni nl (fun a oe k d pn hz hv => pss_one (ps_set nd ji jl (vr.pe a oe k d pn hz hv) (hw _) hf)) hm) r
  cases hd : hval h e1 with
  | none => rw [hd] at p; exact p.elim
  | some dv =>
    have un : ∀ (s : Slot), ((ρ.map fun _ => Slot.un).set j s)[i]? = none ∨ ((ρ.map fun _ => Slot.un).set j s)[i]? = some .un := fun s => by
      rw [List.getElem?_set_ne (Ne.symm hij), List.getElem?_map]
      cases ρ[i]? <;> simp
    have un0 : (ρ.map fun _ => Slot.un)[i]? = none ∨ (ρ.map fun _ => Slot.un)[i]? = some .un := by
      rw [List.getElem?_map]
      cases ρ[i]? <;> simp
    have lt : i < σ.length := by rw [hn]; exact (List.getElem?_eq_some_iff.mp ni).1
    refine vr.ok F H ι S e1 k d (σ.set i (some (.ref a))) a dv _ so rx sb (fun z hz => by cases hz; rw [List.getElem?_set_self lt]) hd fun v F' H' s' so' r => ?_
    exact set_wiped (ca := ca) (W := W) (D := D) (σ' := ((σ.set i (some (.ref a))).set j (some v)).set i none) hj st sm hl hd p s' so' r (env_off ((env_off (env_wiped hl) un0).set r) (un _))
/-- except x as n: return e -/
theorem hd_retAs (hj : h.j = none) (vr : VRead X ca h (some i) e te) (hx : ∀ i b, h.subs[i]? = some b → PySem.W.exmOne X.K (.ref (ca i)) c = some b) (hc : Names X x c) (nd : X.N.Nodup) (ni : X.N[i]? = some n) (nl : X.env.kindOf n = some .local) (r : Hds X ca hs hds V) :
    Hds X ca (h :: hs) (.ExceptHandler (some (.Name x q1)) (some n) [.Return (some e) q4] q2 :: hds) fun D o => wCl X.K c (fun k d σ H => ∀ a, H a = none → tRet (te a k d) (unEnds i D) (σ.set i (some (.ref a))) H) (V D o) := by
  refine .cons hx (fun F0 H0 ι0 Fc D W ρ e1 S F H ι σ k d st sm so rx hl hn sb p a na => ?_) (fun more V hm => .named (ts := fun a k d => tRet (te a k d)) hc nd ni nl (fun a oe k d pn hz hv => pss_one (ps_ret (vr.pe a oe k d pn hz hv))) hm) r
  cases hd : hval h e1 with
  | none => rw [hd] at p; exact p.elim
  | some dv =>
    have lt : i < σ.length := by rw [hn]; exact (List.getElem?_eq_some_iff.mp ni).1
    rw [hd] at p
    unfold kTry2 at p
    rw [hj] at p
    exact vr.ok F H ι S e1 k d (σ.set i (some (.ref a))) a dv _ so rx sb (fun z hz => by cases hz; rw [List.getElem?_set_self lt]) hd fun v F' H' s' so' r => p v F' H' ι (st.trans s') so' r
end
end
end EC

namespace EC
open PySem PySem.Spec PyProof.Rows L2
variable [CA]
/-! ### an own exception whose __init__ says super().__init__('..') and keeps one field -/
def spI (C : Addr) (f : Str) : Sp := fun vs H Q _ => ∃ a v, vs = [.ref a, v] ∧ H a = some (exo a C none) ∧ ∀ dx, H dx = none → dx ≠ a → Q .non (upd (upd H dx (exd dx [(f, v)])) a (exo a C (some dx)))
section
variable {P : Program} {w : World} {K : PySem.W.Frag} {mg : Str → Option Value} {base : Heap} {CX : CXT} {k : Nat} {C fI cc cda : Addr} {qual : Str} {params : Arguments} {scope : Scope} {dV kV doc pm ct oc ccl cl : Value} {an od cdd cld : Option Addr} {osl ccs csl : Array (Option Value)} {fs : Array Value} {file : Str} {tf : Tok} {f y m : Str} {ar0 : Arg}
  {jj : Nat} {p0 p1 p2 p3 p4 p5 p6 p7 p8 p9 : Pos}
/-- the built-in __init__, bound to an exception that is being made, called -/
theorem call_mw {P : Program} {w : World} {A : Around} {E : Value → Shared → Prop} {h : Heap} {g : Array GenState} {dr : Drawn} {t : Nat} {os : OsState} {u a C N t1 : Addr} {nm q : Str} {bs bm : List Value} {sn : List Str} {sub : List Value} {ab : Bool} {col : Option Bool} {dd : Option Addr} {k0 k1 k2 k3 k5 : Option Value} {rest : List Value} {Q : Value → Shared → Prop}
    (hC : h.get? C = some (excClassObj nm q C N bs bm true sn sub ab col dd k0 k1 k2 k3 k5 "ValueError.__new__")) (hu : h.get? u = some (PySem.W.kxs_mw "ValueError.__init__" a)) (he : h.get? a = some ({ cls := .ref C, dict := none, data := .fields #[.ref t1, .none, .none, .none, .bool false, .none] } : Obj)) (hz : rest.length ≤ sizeLine)
    (hq : ∀ h' t', (∀ b o, b ≠ a → h.get? b = some o → h'.get? b = some o) → h'.get? a = some ({ cls := .ref C, dict := none, data := .fields #[.ref t', .none, .none, .none, .bool false, .none] } : Obj) → Q .none ⟨h', g, dr, t, os⟩) : wpAny (model P w) A (call (.ref u) rest) Q E ⟨h, g, dr, t, os⟩ := by
  refine wpAny_call (codeAny_of_tree (wpAny_bind (wpAny_load hu ?_)))
  have FB := PySem.F.excBase_ValueError
  simp only [PySem.W.kxs_mw]
  rw [if_pos (by decide)]
  simp only [show ((#[Value.builtin "ValueError.__init__", Value.ref a] : Array Value)[0]?) = some (Value.builtin "ValueError.__init__") from rfl, show ((#[Value.builtin "ValueError.__init__", Value.ref a] : Array Value)[1]?) = some (Value.ref a) from rfl]
  rw [if_pos (by decide)]
  refine wpAny_bind (PySem.W.check_bound_init FB.toExcCallFacts hC he rfl ?_)
  refine wpAny_bind (wpAny_pure (wpAny_pure ⟨PySem.plainId_quiet FB.init.plain _, codeAny_builtin FB.initEntry ?_⟩))
  exact PySem.W.exc_init_tree (dv := none) (c2 := .none) (c3 := .none) (b4 := .bool false) he hz fun h' k1 e1 _ => hq h' _ k1 e1
abbrev initBody (m f y : Str) (jj : Nat) (p0 p1 p2 p3 p4 p5 p6 p7 p8 p9 : Pos) : List Stmt := [.Expr (.Call (.Attribute (.Call (.Name "super" p0) [] [] p1) "__init__" p2) [.Constant (.str m) jj p3] [] p4) p5, .Assign [.Attribute (.Name "self" p6) f p7] (.Name y p8) p9]
theorem init_sf (T : OexC K C) (lk : K.lookup fI = some ⟨oc, od, .func (PySem.W.ksFn "__init__" qual params (initBody m f y jj p0 p1 p2 p3 p4 p5 p6 p7 p8 p9) scope dV kV doc pm an (.ref cda) ct cc), osl⟩) (hcd : PySem.W.codeIn K (.ref cda) qual = true)
    (hcode : K.lookup cda = some ⟨ccl, cdd, .fields fs, ccs⟩) (hvs : fs[2]? = some (.str file tf)) (hfile : ((P.main.file : Str) == file) = true) (hcell : K.lookup cc = some ⟨cl, cld, .cell (some (.ref C)), csl⟩)
    (hpar : (params.posonlyargs ++ params.args).head? = some ar0) (har : ar0.arg = "self") (hno : PySem.W.findIn K (.ref C) f = some none) (hsu : PySem.W.ks_superIn K C C "__init__" = some (some (.builtin "ValueError.__init__")))
    (hve : PySem.W.subIn K (.ref C) (.type "ValueError") = some true) (hmc : PySem.W.mroIn K C (.ref C) = some true) (hop : PySem.W.nsIn K cStatics "thirdparty.any" = some none) (hsm : mg "super" = none) (htop : (P.main.scope.names.lookup ("super" : Str)).isSome = false)
    (hks : scope.names.lookup ("super" : Str) = some .globalImplicit) (hkc : scope.names.lookup ("__class__" : Str) = some .free) (hka : scope.names.lookup ("self" : Str) = some .local) (hky : scope.names.lookup y = some .local) (hk : scope.kind = .function) (hcf : ∀ x ∈ scope.names, x.2 ≠ .cell) (hco : scope.isCoroutine = false) (hge : scope.isGenerator = false) (hys : (y == ("self" : Str)) = false) (hyd : (y == ("__debug__" : Str)) = false) (hyc : (y == ("__classdict__" : Str)) = false)
    {pl : PySem.Env → Sem Bool}
    (x1 : ∀ L, interactive (PySem.W.ksEnv qual scope L fI (.ref cda) cc) = false) (x2 : ∀ env, swapsWith (.Call (.Attribute (.Call (.Name "super" p0) [] [] p1) "__init__" p2) [.Constant (.str m) jj p3] [] p4) none p5.line env = pure false)
    (x3 : ∀ env, eval (.Call (.Attribute (.Call (.Name "super" p0) [] [] p1) "__init__" p2) [.Constant (.str m) jj p3] [] p4) env = (do
      let ov ← attributeBase (.Call (.Name "super" p0) [] [] p1) "__init__" env (eval (.Call (.Name "super" p0) [] [] p1) env)
      standAt p2.atName
      let (f, first) ← holding [ov] (getMethod ov "__init__" (pl env))
      callWith p4 f first (backTo p4 (starEach [.Constant (.str m) jj p3] env)) []))
    (x4 : ∀ env, starEach [.Constant (.str m) jj p3] env = (false, eval (.Constant (.str m) jj p3) env) :: starEach [] env) (x5 : ∀ env, swapsWith (.Name y p8) (some (.Attribute (.Name "self" p6) f p7)) p9.line env = pure false) :
    FnOk P w K mg base CX k fI (PySem.W.ksFn "__init__" qual params (initBody m f y jj p0 p1 p2 p3 p4 p5 p6 p7 p8 p9) scope dV kV doc pm an (.ref cda) ct cc) [("self" : Str), y] (spI C f) := by
  refine ⟨fun vs H Q E ⟨a, v, e, _⟩ => by rw [e]; rfl, fun A outer s H args us vs Q E hr e0 hb r ⟨a, v, ev, ea, hq⟩ => ?_⟩
  subst ev
  obtain ⟨nm, q, N, bs, bm, sn, sub, ab, col, dd, k0, k1, k2, k3, k5, hC, hbm⟩ := T.cls
  cases r with
  | @cons _ u0 _ ur ra rr =>
  cases rr with
  | @cons _ u1 _ ur2 rv rn =>
  cases rn
  obtain rfl : u0 = Value.ref a := ra
  have KX : K.In s.heap := e0.mod.kin.keeps fun b o e => (e0.bs b o e).1
  have lim : s.heap.NoLimit := e0.mod.nolimit.keeps fun b o e => (e0.bs b o e).1
  obtain ⟨mb, hb1, hb2⟩ := e0.mod.blt
  obtain ⟨t1, hoe⟩ := exo_at e0.hok ea
  refine PySem.ks_codeAny_call_defAt (body := initBody m f y jj p0 p1 p2 p3 p4 p5 p6 p7 p8 p9) hr.depth (KX _ _ lk) rfl lim (PySem.W.codeRec_of KX hcd) rfl hb hcf (fun z hz => ?_) (fun h0 hns keep0 => ?_) hco hge hk
  · simp only [List.zip_cons_cons, List.zip_nil_right, List.mem_cons, List.not_mem_nil, or_false] at hz
    rcases hz with rfl | rfl
    · exact hka
    · exact hky
  obtain ⟨hp, g, dr, tk, os⟩ := s
  have X0 : K.In h0 := KX.keeps keep0
  have hselfv : (fun x => (List.reverse (List.zip [("self" : Str), y] [Value.ref a, u1])).lookup x) ("self" : Str) = some (.ref a) := by
    show (List.lookup ("self" : Str) [(y, u1), ("self", Value.ref a)]) = _
    rw [List.lookup_cons, show (("self" : Str) == y) = false from by rw [beq_eq_false_iff_ne] at hys ⊢; exact fun z => hys z.symm]
    simp [List.lookup]
  have hyv : (fun x => (List.reverse (List.zip [("self" : Str), y] [Value.ref a, u1])).lookup x) y = some u1 := by
    show (List.lookup y [(y, u1), (("self" : Str), Value.ref a)]) = _
    simp [List.lookup]
  refine PySem.ks_wpAt_execs_cons (PySem.ks_wpAt_Expr_any (PySem.ks_wpAt_MethodCall ?_ (x3 _)) (x1 _) (x2 _))
  refine PySem.ks_wpAt_super_base hks hkc (by decide) rfl (X0 _ _ lk) rfl hpar rfl (X0 _ _ hcode) rfl hvs hfile htop ?_
  have bk : ∀ b o, base.get? b = some o → h0.get? b = some o := fun b o e => keep0 b o (e0.bs b o e).1
  refine PySem.W.ks_loadName_global hk hks (Calls.loadGlobal_builtin (env := PySem.W.ksEnv qual scope hp.objs.size fI (.ref cda) cc) (e0.mod.glob.keeps bk) hsm (hb1.keeps bk) (show mb "super" = some (.type "super") from (hb2 _ (by decide)).trans (by kernel_rfl)) ⟨rfl, ?_⟩)
  refine wpAny_loadName_free hk hkc rfl ⟨_, X0 _ _ hcell, rfl⟩ ?_
  rw [har]
  refine wpAny_loadName_local hk hka hns hselfv ?_
  have hC0 := X0 _ _ hC
  have hoe0 := keep0 _ _ hoe
  refine PySem.ks_wpAny_isType_cls hC0 rfl ⟨rfl, ?_⟩
  refine PySem.ks_wpAny_call_super hC0 rfl hoe0 rfl (fun c e => by cases e) (PySem.W.looks_mroIn X0 hmc) (fun h1 e1 k1 => ?_)
  have X1 : K.In h1 := X0.keeps k1
  have hcl : PySem.W.clsIn K C = some { name := nm, bases := bs, mro := .ref C :: bm, ns := N, qualname := q, hasDict := true, slotNames := sn, subclasses := sub, abstract := ab, collection := col, hasDel := false } := by unfold PySem.W.clsIn; rw [hC] <;> rfl
  have hoe1 := k1 _ _ hoe0
  have aC : a ≠ C := fun z => by
    rw [z, hC0] at hoe0
    cases hoe0
  have I1 : PySem.W.InstAt h1 a { cls := .ref C, dict := none, data := .fields #[.ref t1, .none, .none, .none, .bool false, .none] } C none := ⟨hoe1, rfl, rfl, trivial⟩
  unfold PySem.W.ks_superIn at hsu
  rw [hcl] at hsu
  refine PySem.W.kxs_getMethod PySem.W.kxs_ValueError e1 (PySem.W.looks_opaque X1 hop) (l₀ := .ref C :: bm) (fun A Q E s k q => wpAny_bind ((PySem.W.looks_clsIn X1 hcl) A _ E s k (wpAny_pure q))) rfl X1 hsu (I1.type.andThen (PySem.W.looks_subIn X1 hve)) aC (by decide) ?_
  show wpAny _ _ (callWith p4 _ [] (backTo p4 (starEach [.Constant (.str m) jj p3] _)) []) _ _ _
  rw [x4]
  refine PySem.W.kxs_callWith (i := "ValueError.__init__") (x := a) rfl (Calls.evalArgs_plain ?_)
  refine Calls.spliced_cons (Calls.Constant_str (k := jj) (pos := p3) (Calls.spliced_nil ?_))
  have e2 : (h1.push (PySem.W.kxs_mw "ValueError.__init__" a)).get? h1.objs.size = some (PySem.W.kxs_mw "ValueError.__init__" a) := Heap.get?_push_at rfl rfl
  refine ⟨e2, ?_⟩
  have k2 : ∀ b o, h1.get? b = some o → (h1.push (PySem.W.kxs_mw "ValueError.__init__" a)).get? b = some o := fun b o e => Heap.get?_push_of_some _ e
  obtain ⟨h2, eh2⟩ : ∃ h2, h2 = h1.push (PySem.W.kxs_mw "ValueError.__init__" a) := ⟨_, rfl⟩
  rw [← eh2] at e2 k2 ⊢
  have hoe2 := k2 _ _ hoe1
  have hC2 := k2 _ _ (k1 _ _ hC0)
  refine call_mw hC2 e2 hoe2 (by simp [sizeLine]) fun h3 t3 k3 e3 => ?_
  have all3 : ∀ b o, b ≠ a → hp.get? b = some o → h3.get? b = some o := fun b o hb e => k3 b o hb (k2 b o (k1 b o (keep0 b o e)))
  have La : hp.objs.size ≠ a := fun z => by
    have : a < hp.objs.size := Heap.lt_size hoe
    exact absurd this (by rw [← z]; exact Nat.lt_irrefl _)
  have hns3 : h3.Ns hp.objs.size _ := hns.at fun o e => k3 _ _ La (k2 _ _ (k1 _ _ e))
  have X3 : K.In h3 := fun b o e => by
    refine k3 b o (fun z => ?_) (k2 b o (k1 b o (X0 b o e)))
    subst z
    have := e0.bs b o (e0.mod.kin b o e)
    rw [ea] at this
    cases this.2
  refine PySem.ks_wpAt_execs_cons (wpAt_of_wpAny (plainObj_wpAny_Assign_Attribute ?_ (x5 _)))
  refine wpAny_Name (wpAny_loadName_local hk hky hns3 hyv ?_) hyd
  refine wpAny_Name (wpAny_loadName_local hk hka hns3 hselfv ?_) (by decide)
  refine PySem.W.set_plain X3 (ox := { cls := .ref C, dict := none, data := .fields #[.ref t3, .none, .none, .none, .bool false, .none] }) (od := none) ⟨e3, rfl, rfl, trivial⟩ T.sa ?_
  refine PySem.HandSPX.exc_osa X3 e3 hcl (show PySem.HandSPX.refsVE (.ref C :: bm) = true from hbm) rfl hno (fun h4 tk4 dx k4 dn dne hx hn => ?_)
  have Llt : hp.objs.size < h3.objs.size := by
    obtain ⟨o, _, _, eo, _⟩ := hns3
    exact Heap.lt_size eo
  have hnd : H dx = none := e0.hok.fresh (Nat.le_of_lt (Nat.lt_of_lt_of_le Llt dn))
  have all4 : ∀ b o, b ≠ a → hp.get? b = some o → h4.get? b = some o := fun b o hb e => k4 b o hb (all3 b o hb e)
  have old : ∀ {b : Addr} {o : Obj}, hp.get? b = some o → b ≠ dx := fun {b o} z e => by
    have : b < hp.objs.size := Heap.lt_size z
    exact absurd (Nat.lt_of_lt_of_le (Nat.lt_trans this Llt) dn) (by rw [e]; exact Nat.lt_irrefl _)
  have notA : ∀ {b : Addr}, H b = none → b ≠ a := fun {b} n z => by
    rw [z, ea] at n
    cases n
  refine wpAt_of_wpAny (wpAny_execs_nil ?_)
  refine ⟨.non, upd (upd H dx (exd dx [(f, v)])) a (exo a C (some dx)), rfl, e0.bare, ?un, ?ok, rfl, hq dx hnd dne⟩
  case un =>
    exact {
      keep := fun b o z n _ _ => all4 b o (notA n) z
      slot := fun b o z n _ _ => ⟨o.slots, all4 b o (notA n) z⟩
      free := fun b o z n _ => by rw [upd_ne (notA n), upd_ne (old z)]; exact n
      there := fun b o z _ => (Classical.em (b = a)).elim (fun e => ⟨_, e.symm ▸ hx⟩) fun e => ⟨o, all4 b o e z⟩
      tups := fun b xs z => by rw [upd_ne (at_ne ea z exo_tup), upd_ne (ne_of_none z hnd)]; exact z
      frzs := fun b o u z => by rw [upd_ne (at_ne ea z exo_frz), upd_ne (ne_of_none z hnd)]; exact z
      tbls := fun b ps z => ⟨#[], by rw [upd_ne (at_ne ea z exo_tbl), upd_ne (ne_of_none z hnd), z]; simp⟩ }
  case ok =>
    intro b o z
    rcases Classical.em (b = a) with e | e
    · subst e
      rw [upd_same] at z
      cases z
      exact exo_ok hx
    · rw [upd_ne e] at z
      rcases Classical.em (b = dx) with e2 | e2
      · subst e2
        rw [upd_same] at z
        cases z
        exact exd_ok hn (relO_put (fs := []) rv fun g => True.intro)
      · rw [upd_ne e2] at z
        have own_ne : ∀ {c x : Addr}, H c = some (.own x) → c ≠ a := fun {c x} hc => at_ne ea hc exo_own
        refine (e0.hok b o z).stay (fun c u hc hu => all4 c u ?_ hu) (fun c hc => ?_) fun c xs hc => ?_
        · rcases hc with hc | hc
          · rw [hc]; exact e
          · exact own_ne hc
        · rw [upd_ne (own_ne hc), upd_ne (ne_of_none hc hnd)]; exact hc
        · rw [upd_ne (at_ne ea hc exo_tup), upd_ne (ne_of_none hc hnd)]; exact hc
end
end EC

namespace EC
open PySem PySem.Spec PyProof.Rows L2
variable [CA]
/-! ### raise C(e) -/
/-- what the module's top says of a class with one field -/
structure SfX (P : Program) (w : World) (K : PySem.W.Frag) (mg : Str → Option Value) (C : Addr) (x f : Str) : Prop where
  oe : OexC K C
  m : mg x = some (.ref C)
  fn : ∃ (fI : Addr) (fd : FuncData) (y : Str), PySem.W.findIn K (.ref C) "__init__" = some (some (.ref fI)) ∧ PySem.W.typeIn K (.ref fI) = some (.type "function") ∧ (∀ base CX k, FnOk P w K mg base CX k fI fd ["self", y] (spI C f)) ∧ Binds K fd ["self", y] []
/-- .. of one without -/
structure SnX (K : PySem.W.Frag) (mg : Str → Option Value) (C : Addr) (x : Str) : Prop where
  q : PySem.W.excIn K C PySem.HandSPX.veTail "ValueError.__new__" = true
  m : mg x = some (.ref C)
  k : PySem.W.keepIn K (.ref C) = true
  exC : PySem.W.subIn K (.ref C) (.type "BaseException") = some true
  tyC : PySem.W.typeIn K (.ref C) = some (.type "type")
section
variable {X : Cx} {ca : Nat → Addr} {W : WX} {F0 H0 : Hp} {ι0 : List Addr} {G : Nat → D} {T : Nat → FD} {n : Nat} {e : Expr} {e' : E} {p1 p3 pos : Pos}
theorem upd_xd {H1 : Hp} {a dx : Addr} {C : Addr} {f : Str} {v : V} (na : H1 a = none) (nd : dx ≠ a) : upd (del (upd (upd (upd H1 a (exo a C none)) dx (exd dx [(f, v)])) a (exo a C (some dx))) a) dx (.xd [(f, v)]) = upd H1 dx (.xd [(f, v)]) := by
  funext b
  by_cases e : b = dx
  · rw [e, upd_same, upd_same]
  · rw [upd_ne e, upd_ne e]
    by_cases e2 : b = a
    · rw [e2, del_same, na]
    · rw [del_ne e2, upd_ne e2, upd_ne e, upd_ne e2]
theorem gs_raisf {C : Nat} {x f : Str} (hc : X.calm = true) (tk : Takes X W) (S : SfX X.prog X.w X.K X.mg (ca C) x f) (hr : Room n X.A) (hT : T 1000 = ⟨0, 0, []⟩) (hg : Gl X x) (he : GE X ca W G (run G T n) e' e)
    (hdb : (x == ("__debug__" : Str)) = false := by decide) (hst : starEach [e] X.env = (false, eval e X.env) :: starEach [] X.env := by rfl) : GS X ca W F0 H0 ι0 G (run G T n) (.raisf C f e') (.Raise (some (.Call (.Name x p1) [e] [] p3)) none pos) := by
  cases n with
  | zero =>
    refine PS.weaken (ps_raise hc tk (t := fun σ H Q => (tCons (tG ca X.K W (RV X.K) (evE G (run G T 0) e')) tNil) σ H fun _ _ => False) fun pins s σ H Q I h => wpAny_Call_Name_kw (ld_glob I hg S.m (PySem.W.callWith_K (h₀ := X.base) I.ok.mod.kin S.oe.kC
      (thn ((pa_cons he pa_nil hst).run p3 pins s σ H _ I h) fun us s1 ⟨vs, H1, I1, r1, z⟩ => z.elim) hst rfl) hdb)) fun D σ H ⟨F, ι, S, ρ, own, st, en, et, h⟩ => ?_
    rw [evS_raisf] at h
    refine tG_ex st en (h.bindE et fun d S1 v F1 H1 ι1 s1 st1 r1 et1 h1 => ?_)
    rw [kRaisf_eq] at h1
    exact h1.elim
  | succ n =>
    obtain ⟨fI, fd, y, iC, tI, F1, hb⟩ := S.fn
    refine PS.weaken (ps_raise hc tk (pmk_oex (dvs := []) (ds := []) S.oe iC tI (F1 X.base (L2.CX X.prog X.w) 0) (hr.mono (by omega)) hb .nil (passes_call tk fun _ _ _ _ z => z.elim) hg S.m (pa_cons he pa_nil hst) hdb hst)) fun D σ H ⟨F, ι, S, ρ, own, st, en, et, h⟩ => ?_
    rw [evS_raisf] at h
    refine tG_ex st en (h.bindE et fun d S1 v F1 H1 ι1 s1 st1 r1 et1 h1 => ?_)
    refine ⟨by simp, fun a na => ⟨a, v, rfl, upd_same, fun dx hdx nd => ⟨rfl, dx, [(f, v)], upd_same, by rw [upd_ne nd, upd_same], by rw [upd_ne nd] at hdx; exact hdx, ?_⟩⟩⟩
    have ndx : H1 dx = none := by rw [upd_ne nd] at hdx; exact hdx
    rw [upd_xd na nd]
    have hrun : run G T (n+1) 1000 [] S1 = .ok (.p .none) S1 := by
      rw [run_succ _ _ _ _ _ _ (by rw [hT]; rfl), hT]
      simp
    rw [kRaisf_eq, hrun] at h1
    exact h1 σ _ _ _ _ ι1 (et1.st.trans (Stp.laid st1 ndx _)) (st1.laid ndx _) ⟨rfl, dx, v, rfl, upd_same, Rep.mono (Stp.laid st1 ndx _) d v r1⟩
theorem gs_raiseN {C : Nat} {x m : Str} {j : Nat} {p2 : Pos} (hc : X.calm = true) (tk : Takes X W) (S : SnX X.K X.mg (ca C) x) (hg : Gl X x) (hdb : (x == ("__debug__" : Str)) = false := by decide) :
    GS X ca W F0 H0 ι0 G (run G T n) (.raise C [.c (.str m)]) (.Raise (some (.Call (.Name x p1) [.Constant (.str m) j p2] [] p3)) none pos) := gs_raise hc tk PySem.F.excBase_ValueError S.q S.m S.k (raises_own S.exC S.tyC) hg hdb
end
def caL (l : List Addr) : Nat → Addr := fun i => l.getD i 0
/-- all that a class with one field must have, by the written part -/
theorem sf_mk {P : Program} {w : World} {K : PySem.W.Frag} {mg : Str → Option Value} {h : Heap} {C fI cc cda N : Addr} {x f y m nm q qual : Str} {bs bm : List Value} {sn : List Str} {sub : List Value} {ab : Bool} {col : Option Bool} {dd : Option Addr} {k0 k1 k2 k3 k5 : Option Value} {params : Arguments} {scope : Scope} {dV kV doc pm ct oc ccl cl : Value} {an od cdd cld : Option Addr} {osl ccs csl : Array (Option Value)} {fs : Array Value} {file : Str} {tf : Tok} {ar0 : Arg}
    {jj : Nat} {p0 p1 p2 p3 p4 p5 p6 p7 p8 p9 : Pos} {pl : PySem.Env → Sem Bool} (X : K.In h) (G0 : h.Ns mainGlobals mg) (aC : PySem.W.nsIn K mainGlobals x = some (some (.ref C)))
    (lC : K.lookup C = some (excClassObj nm q C N bs bm true sn sub ab col dd k0 k1 k2 k3 k5 "ValueError.__new__")) (hbm : PySem.HandSPX.refsVE bm = true) (sa : PySem.W.findIn K (.ref C) "__setattr__" = some (some (.builtin "object.__setattr__"))) (exC : PySem.W.subIn K (.ref C) (.type "BaseException") = some true) (tyC : PySem.W.typeIn K (.ref C) = some (.type "type")) (kC : PySem.W.keepIn K (.ref C) = true)
    (iC : PySem.W.findIn K (.ref C) "__init__" = some (some (.ref fI))) (tI : PySem.W.typeIn K (.ref fI) = some (.type "function"))
    (lI : K.lookup fI = some ⟨oc, od, .func (PySem.W.ksFn "__init__" qual params (initBody m f y jj p0 p1 p2 p3 p4 p5 p6 p7 p8 p9) scope dV kV doc pm an (.ref cda) ct cc), osl⟩) (hcd : PySem.W.codeIn K (.ref cda) qual = true)
    (hcode : K.lookup cda = some ⟨ccl, cdd, .fields fs, ccs⟩) (hvs : fs[2]? = some (.str file tf)) (hfile : ((P.main.file : Str) == file) = true) (hcell : K.lookup cc = some ⟨cl, cld, .cell (some (.ref C)), csl⟩)
    (hpar : (params.posonlyargs ++ params.args).head? = some ar0) (har : ar0.arg = "self") (hno : PySem.W.findIn K (.ref C) f = some none) (hsu : PySem.W.ks_superIn K C C "__init__" = some (some (.builtin "ValueError.__init__")))
    (hve : PySem.W.subIn K (.ref C) (.type "ValueError") = some true) (hmc : PySem.W.mroIn K C (.ref C) = some true) (hop : PySem.W.nsIn K cStatics "thirdparty.any" = some none) (hsm : PySem.W.nsIn K mainGlobals "super" = some none) (htop : (P.main.scope.names.lookup ("super" : Str)).isSome = false)
    (hks : scope.names.lookup ("super" : Str) = some .globalImplicit) (hkc : scope.names.lookup ("__class__" : Str) = some .free) (hka : scope.names.lookup ("self" : Str) = some .local) (hky : scope.names.lookup y = some .local) (hk : scope.kind = .function) (hcf : ∀ x ∈ scope.names, x.2 ≠ .cell) (hco : scope.isCoroutine = false) (hge : scope.isGenerator = false) (hys : (y == ("self" : Str)) = false) (hyd : (y == ("__debug__" : Str)) = false) (hyc : (y == ("__classdict__" : Str)) = false)
    (x1 : ∀ L, interactive (PySem.W.ksEnv qual scope L fI (.ref cda) cc) = false) (x2 : ∀ env, swapsWith (.Call (.Attribute (.Call (.Name "super" p0) [] [] p1) "__init__" p2) [.Constant (.str m) jj p3] [] p4) none p5.line env = pure false)
    (x3 : ∀ env, eval (.Call (.Attribute (.Call (.Name "super" p0) [] [] p1) "__init__" p2) [.Constant (.str m) jj p3] [] p4) env = (do
      let ov ← attributeBase (.Call (.Name "super" p0) [] [] p1) "__init__" env (eval (.Call (.Name "super" p0) [] [] p1) env)
      standAt p2.atName
      let (f, first) ← holding [ov] (getMethod ov "__init__" (pl env))
      callWith p4 f first (backTo p4 (starEach [.Constant (.str m) jj p3] env)) []))
    (x4 : ∀ env, starEach [.Constant (.str m) jj p3] env = (false, eval (.Constant (.str m) jj p3) env) :: starEach [] env) (x5 : ∀ env, swapsWith (.Name y p8) (some (.Attribute (.Name "self" p6) f p7)) p9.line env = pure false)
    (hb : Binds K (PySem.W.ksFn "__init__" qual params (initBody m f y jj p0 p1 p2 p3 p4 p5 p6 p7 p8 p9) scope dV kV doc pm an (.ref cda) ct cc) ["self", y] []) : SfX P w K mg C x f :=
  have T : OexC K C := ⟨⟨nm, q, N, bs, bm, sn, sub, ab, col, dd, k0, k1, k2, k3, k5, lC, hbm⟩, sa, exC, tyC, kC⟩
  ⟨T, PySem.W.mg_of X G0 aC, fI, _, y, iC, tI, fun base CX k => init_sf T lI hcd hcode hvs hfile hcell hpar har hno hsu hve hmc hop (PySem.W.mg_none_of X G0 hsm) htop hks hkc hka hky hk hcf hco hge hys hyd hyc x1 x2 x3 x4 x5, hb⟩
end EC

namespace EC
open PySem PySem.Spec PyProof.Rows L2
variable [CA]
/-! ### the store: any object written, any object new -/
section
variable {K : PySem.W.Frag} {F H : Hp} {ι : List Addr} {S : Store}
theorem Sto.wrO (s : Sto K F H ι S) {k : Nat} {a : Addr} {o : HO} {ob : Ob} (ha : ι[k]? = some a) (r : RepO K F (upd H a o) ι a ob) : Sto K F (upd H a o) ι (S.set k ob) := by
  have st := Stp.wr s (ix_mem ha) o
  have fa := s.off a (ix_mem ha)
  refine ⟨fun b u q => ?_, by rw [List.length_set]; exact s.len, s.nd, s.off, fun i o2 h => ?_⟩
  · rw [upd_ne (ne_of_none q fa)]
    exact s.sub _ _ q
  · by_cases e : k = i
    · subst e
      by_cases hk : k < S.length
      · rw [List.getElem?_set_self hk] at h
        cases h
        exact ⟨a, ha, r⟩
      · rw [List.getElem?_eq_none (by rw [List.length_set]; omega)] at h
        cases h
    · rw [List.getElem?_set_ne e] at h
      obtain ⟨b, h1, h2⟩ := s.obj i o2 h
      refine ⟨b, h1, RepO.mono st (fun ws q => ?_) h2⟩
      rw [upd_ne (fun z => e ?_)]
      · exact q
      · subst z
        have i1 := (List.getElem?_eq_some_iff.mp ha)
        have i2 := (List.getElem?_eq_some_iff.mp h1)
        obtain ⟨l1, g1⟩ := i1
        obtain ⟨l2, g2⟩ := i2
        exact (List.getElem_inj s.nd).mp (g1.trans g2.symm)
theorem Sto.nwO (s : Sto K F H ι S) {p : Addr} (hp : H p = none) {o : HO} {ob : Ob} (r : RepO K F (upd H p o) (ι ++ [p]) p ob) : Sto K F (upd H p o) (ι ++ [p]) (S ++ [ob]) := by
  have st := Stp.nw s hp o
  have pn : p ∉ ι := fun h => s.there h hp
  refine ⟨fun b u q => ?_, by rw [List.length_append, List.length_append, s.len]; rfl, ?_, fun a h => ?_, fun i o2 h => ?_⟩
  · rw [upd_ne (ne_of_none q (Same.free s.sub hp))]
    exact s.sub _ _ q
  · refine List.nodup_append.mpr ⟨s.nd, List.nodup_cons.mpr ⟨by simp, List.nodup_nil⟩, fun a h b hb e => ?_⟩
    rw [List.mem_singleton.mp hb] at e
    exact pn (e ▸ h)
  · rcases List.mem_append.mp h with h | h
    · exact s.off a h
    · rw [List.mem_singleton.mp h]
      exact Same.free s.sub hp
  · by_cases e : i < S.length
    · rw [List.getElem?_append_left e] at h
      obtain ⟨b, h1, h2⟩ := s.obj i o2 h
      refine ⟨b, st.ix h1, RepO.mono st (fun ws q => ?_) h2⟩
      rw [upd_ne (ne_of_none q hp)]
      exact q
    · rw [List.getElem?_append_right (by omega)] at h
      have ei : i - S.length = 0 := by
        by_cases z : i - S.length = 0
        · exact z
        · rw [List.getElem?_eq_none (by simp; omega)] at h
          cases h
      rw [ei] at h
      cases h
      refine ⟨p, ?_, r⟩
      rw [List.getElem?_append_right (by rw [s.len]; omega), s.len, ei]
      rfl
theorem nw_ix (s : Sto K F H ι S) (p : Addr) : (ι ++ [p])[S.length]? = some p := by
  rw [← s.len, List.getElem?_append_right (Nat.le_refl _), Nat.sub_self]
  rfl
theorem Sto.ins {S : Store} (s : Sto K F H ι S) {i c : Nat} {fs : List (Str × D)} (h : S[i]? = some (.ins c fs)) : ∃ a dx vs, ι[i]? = some a ∧ H a = some (.ins (CA.cl c) dx ((fs.map (·.1)).zip vs)) ∧ Reps K F ι (fs.map (·.2)) vs := by
  obtain ⟨a, h1, dx, vs, h2, h3⟩ := s.obj i _ h
  exact ⟨a, dx, vs, h1, h2, h3⟩
theorem Sto.dct {S : Store} (s : Sto K F H ι S) {i : Nat} {ks : List Str} {ds : List D} (h : S[i]? = some (.dct ks ds)) : ∃ a vs, ι[i]? = some a ∧ H a = some (.dK ((ks.map Sum.inr).zip vs)) ∧ Reps K F ι ds vs ∧ ks.length = ds.length ∧ ks.Nodup := by
  obtain ⟨a, h1, vs, h2, h3, h4⟩ := s.obj i _ h
  exact ⟨a, vs, h1, h2, h3, h4⟩
theorem Sto.dci {S : Store} (s : Sto K F H ι S) {i : Nat} {ks : List Int} {ds : List D} (h : S[i]? = some (.dci ks ds)) : ∃ a vs, ι[i]? = some a ∧ H a = some (.dK ((ks.map Sum.inl).zip vs)) ∧ Reps K F ι ds vs ∧ ks.length = ds.length ∧ ks.Nodup := by
  obtain ⟨a, h1, vs, h2, h3, h4⟩ := s.obj i _ h
  exact ⟨a, vs, h1, h2, h3, h4⟩
/-! ### fields -/
theorem fs_lookup {f : Str} : ∀ {fs : List (Str × D)} {vs : List V}, Reps K F ι (fs.map (·.2)) vs → (∀ d, fs.lookup f = some d → ∃ v, (((fs.map (·.1)).zip vs) : List (Str × V)).lookup f = some v ∧ Rep K F ι d v) ∧ (fs.lookup f = none → (((fs.map (·.1)).zip vs) : List (Str × V)).lookup f = none)
  | [], vs, h => ⟨fun d e => by simp at e, fun _ => rfl⟩
  | (g, x) :: r, vs, h => by
    obtain ⟨v, t, rfl, h1, h2⟩ := reps_cons.mp h
    obtain ⟨i1, i2⟩ := fs_lookup (f := f) h2
    simp only [List.map_cons, List.zip_cons_cons, List.lookup_cons]
    by_cases e : (f == g) = true
    · rw [e]
      exact ⟨fun d q => by cases q; exact ⟨v, rfl, h1⟩, fun q => by cases q⟩
    · have e : (f == g) = false := by simpa using e
      rw [e]
      exact ⟨i1, i2⟩
theorem putD_len (f : Str) (d : D) : ∀ fs : List (Str × D), (putD f d fs).length ≤ fs.length + 1
  | [] => by simp [putD]
  | (g, x) :: r => by
    have := putD_len f d r
    unfold putD
    split <;> simp <;> omega
theorem fs_put {f : Str} {d : D} {y : V} (hd : Rep K F ι d y) : ∀ {fs : List (Str × D)} {vs : List V}, Reps K F ι (fs.map (·.2)) vs → ∃ vs', L2.putF f y ((fs.map (·.1)).zip vs) = ((putD f d fs).map (·.1)).zip vs' ∧ Reps K F ι ((putD f d fs).map (·.2)) vs'
  | [], vs, h => by
    rw [reps_nil.mp h]
    exact ⟨[y], rfl, reps_cons.mpr ⟨y, [], rfl, hd, reps_nil.mpr rfl⟩⟩
  | (g, x) :: r, vs, h => by
    obtain ⟨v, t, rfl, h1, h2⟩ := reps_cons.mp h
    obtain ⟨t', i1, i2⟩ := fs_put (f := f) hd h2
    simp only [List.map_cons, List.zip_cons_cons]
    unfold L2.putF putD
    by_cases e : g = f
    · rw [if_pos e, if_pos e]
      exact ⟨y :: t, rfl, reps_cons.mpr ⟨y, t, rfl, hd, h2⟩⟩
    · rw [if_neg e, if_neg e, i1]
      exact ⟨v :: t', rfl, reps_cons.mpr ⟨v, t', rfl, h1, i2⟩⟩
end
section
variable {X : Cx} {ca : Nat → Addr} {W : WX} {G : Nat → D} {Fn : Nat → List D → Store → Out D} {a b c e o : Expr} {a' b' c' e' o' : E} {es : List Expr} {es' : List E} {pos p apos : Pos} {f m x : Str} {cn i np : Nat} {ps : List Str}
/-- o.f -/
theorem g_fld (hC : Cls X.K (CA.cl cn)) (hn : NoAttr X.K (CA.cl cn) f) (he : GE X ca W G Fn e' e) (hb : attributeBase e f X.env (eval e X.env) = eval e X.env := by rfl) : GE X ca W G Fn (.fld cn e' f) (.Attribute e f pos) := by
  refine PE.weaken (pe_fld he hb) fun σ H Q ⟨F, ι, S, ρ, own, st, en, h⟩ => ?_
  rw [evE_fld] at h
  refine tG_ex st en (h.bind_ fun d S1 v F1 H1 ι1 s1 st1 r1 h1 => ?_)
  cases d with
  | ref k =>
    rw [kFld_eq] at h1
    split at h1
    · rename_i c' fs hs
      split at h1
      · rename_i hc
        obtain rfl := of_decide_eq_true hc
        obtain ⟨pp, rfl, g1⟩ := rep_ref.mp r1
        obtain ⟨pp2, dx, vs, g2, g3, g4⟩ := st1.ins hs
        rw [g1] at g2
        cases g2
        cases q : fs.lookup f with
        | none => rw [q] at h1; exact h1.elim
        | some d2 =>
          rw [q] at h1
          obtain ⟨v2, l1, l2⟩ := (fs_lookup (f := f) g4).1 d2 q
          exact ⟨pp, _, dx, _, v2, rfl, g3, hC, hn, l1, h1 v2 F1 H1 ι1 Stp.refl st1 l2⟩
      · exact h1.elim
    · exact h1.elim
  | _ => exact h1.elim
end
section
variable {X : Cx} {ca : Nat → Addr} {W : WX} {G : Nat → D} {Fn : Nat → List D → Store → Out D} {a b c e o : Expr} {a' b' c' e' o' : E} {es : List Expr} {es' : List E} {pos pos' p apos : Pos} {f m x : Str} {cn i np : Nat} {ps : List Str} {F0 H0 : Hp} {ι0 : List Addr}
/-- o.f = e -/
theorem gs_setf (hC : Cls X.K (CA.cl cn)) (hn : NoAttr X.K (CA.cl cn) f) (ho : GE X ca W G Fn o' o) (he : GE X ca W G Fn e' e) (hs : swapsWith e (some (.Attribute o f pos')) pos.line X.env = pure false := by rfl) : GS X ca W F0 H0 ι0 G Fn (.setf cn o' f e') (.Assign [.Attribute o f pos'] e pos) := by
  refine PS.weaken (ps_fld ho he hs) fun D σ H ⟨F, ι, S, ρ, own, st, en, et, h⟩ => ?_
  rw [evS_setf] at h
  refine tG_ex st en (h.bindE et fun d S1 v F1 H1 ι1 s1 st1 r1 et1 h1 => ?_)
  rw [kSetf0_eq] at h1
  refine tG_ex st1 (en.mono s1) (h1.bindE et1 fun x S2 ov F2 H2 ι2 s2 st2 r2 et2 h2 => ?_)
  rw [kSetf2_eq] at h2
  have r1 := Rep.mono s2 _ _ r1
  have en2 := (en.mono s1).mono s2
  cases x with
  | ref k =>
    rw [setFd_eq] at h2
    split at h2
    · rename_i c' fs hs
      split at h2
      · rename_i hc
        obtain ⟨rfl, hl⟩ := of_decide_eq_true hc
        obtain ⟨pp, rfl, g1⟩ := rep_ref.mp r2
        obtain ⟨pp2, dx, vs, g2, g3, g4⟩ := st2.ins hs
        rw [g1] at g2
        cases g2
        obtain ⟨vs', p1, p2⟩ := fs_put (f := f) r1 g4
        refine ⟨pp, _, dx, _, rfl, g3, hC, hn, ?_, ?_⟩
        · rw [List.length_zip, List.length_map]
          omega
        · rw [p1]
          have s3 := Stp.wr st2 (ix_mem g1) (.ins (CA.cl c') dx (((putD f d fs).map (·.1)).zip vs'))
          exact h2 σ F2 _ ι2 own (Same.refl F2) (st2.wrO g1 ⟨dx, vs', upd_same, p2⟩) (en2.mono s3) (et2.mono s3)
      · exact h2.elim
    · exact h2.elim
  | _ => exact h2.elim
end
end EC

namespace EC
open PySem PySem.Spec PyProof.Rows L2
variable [CA]
/-! ### calls of methods, classes made -/
def tMethS (C : Addr) (m : Str) (sp : Sp) (E : L2.St → XK) (ta : TE) (t : TA) : TE := fun σ H Q => ta σ H fun x H1 => ∃ a dx fs, x = .ref a ∧ H1 a = some (.ins C dx fs) ∧ fs.lookup m = none ∧ t σ H1 fun vs H2 => sp (x :: vs) H2 Q (E σ)
section
variable {X : Cx} {CX : CXT} {k : Nat} {f C : Addr} {fd : FuncData} {ps : List Str} {sp : Sp} {E : L2.St → XK} {x m : Str} {p pos apos : Pos} {e o : Expr} {es : List Expr} {ta : TE} {t : TA} {gb : Bool}
theorem pe_methG {pl : Sem Bool} (he : PE X o ta) (c : Cls X.K C) (hm : Meth X.K C m f) (F : FnG gb X.prog X.w X.K X.mg X.base CX k f fd ps sp) (hr : Room k X.A) (hgd : gb = true → X.A.guards = some []) (hb : Binds X.K fd ps []) (hx : ∀ σ, PassesAt CX X σ (E σ)) (ha : PA X (e :: es) t)
    (hst : starEach (e :: es) X.env = (false, eval e X.env) :: starEach es X.env := by rfl) (hpl : (backTo pos (starEach es X.env)).any (·.1) = false := by rfl)
    (ht : eval (.Call (.Attribute o m apos) (e :: es) [] pos) X.env = (do
      let ov ← eval o X.env
      standAt apos.atName
      let (f, first) ← holding [ov] (getMethod ov m pl)
      callWith pos f first (backTo pos (starEach (e :: es) X.env)) (backToKw pos (keywordEach [] X.env))) := by rfl) :
    PE X (.Call (.Attribute o m apos) (e :: es) [] pos) (tMethS C m sp E ta t) := by
  refine ⟨fun pins s σ H Q I h => ?_⟩
  refine PySem.W.methodCall_KW (pl := pl) (thn (he.run pins s σ H _ I h) fun u s1 ⟨x, H1, I1, rx, a, dx, fs, ex, ea, l, q⟩ => ?_) ht
  subst ex
  obtain rfl : u = Value.ref a := rx
  refine getmeth_ok I1 ea c hm l ?_
  refine PySem.W.callWith_K (first := [.ref a]) (h₀ := X.base) I.ok.mod.kin hm.kp (thn (ha.run pos pins s1 σ H1 _ I1 q) fun us s2 ⟨vs, H2, I2, r, q2⟩ => ⟨I2.kIn, ?_⟩) hst hpl
  have r2 : Vals (V.ref a :: vs) (Value.ref a :: us) := .cons rfl r
  have hl : (Value.ref a :: us).length = ps.length := by rw [← r2.length]; exact F.len _ _ _ _ q2
  have b := hb s2 (Value.ref a :: us) I2.kIn (by rw [List.append_nil]; exact hl)
  rw [List.append_nil] at b
  exact run_fnG (args := ⟨Value.ref a :: us, []⟩) F hr hgd b (hx σ) I2 r2 q2
theorem pe_methG0 {pl : Sem Bool} (he : PE X o ta) (c : Cls X.K C) (hm : Meth X.K C m f) (F : FnG gb X.prog X.w X.K X.mg X.base CX k f fd ps sp) (hr : Room k X.A) (hgd : gb = true → X.A.guards = some []) (hb : Binds X.K fd ps []) (hx : ∀ σ, PassesAt CX X σ (E σ))
    (ht : eval (.Call (.Attribute o m apos) [] [] pos) X.env = (do
      let ov ← eval o X.env
      standAt apos.atName
      let (f, first) ← holding [ov] (getMethod ov m pl)
      callWith pos f first (backTo pos (starEach [] X.env)) (backToKw pos (keywordEach [] X.env))) := by rfl) :
    PE X (.Call (.Attribute o m apos) [] [] pos) (tMethS C m sp E ta tNil) := by
  refine ⟨fun pins s σ H Q I h => ?_⟩
  refine PySem.W.methodCall_KW (pl := pl) (thn (he.run pins s σ H _ I h) fun u s1 ⟨x, H1, I1, rx, a, dx, fs, ex, ea, l, q⟩ => ?_) ht
  subst ex
  obtain rfl : u = Value.ref a := rx
  refine getmeth_ok I1 ea c hm l ?_
  have r2 : Vals [V.ref a] [Value.ref a] := .cons rfl .nil
  have hl : [Value.ref a].length = ps.length := by rw [← r2.length]; exact F.len _ _ _ _ q
  have b := hb s1 [Value.ref a] I1.kIn (by rw [List.append_nil]; exact hl)
  rw [List.append_nil] at b
  exact PySem.W.callWith_K0 (first := [.ref a]) I1.kIn hm.kp (run_fnG (args := ⟨[Value.ref a], []⟩) F hr hgd b (hx σ) I1 r2 q)
/-- C(..) -/
def tMakeS (C : Addr) (sp : Sp) (E : L2.St → XK) (t : TA) : TE := fun σ H Q => t σ H fun vs H1 => ∀ x dx, H1 x = none → H1 dx = none → dx ≠ x →
  sp (.ref x :: vs) (upd (upd H1 dx (.own x)) x (.ins C dx [])) (fun v H2 => v = .non ∧ Q (.ref x) H2) (E σ)
theorem run_makeG {pins : List (Addr × Obj)} {σ : L2.St} {H : Hp} {s : Shared} {Q : VK} {us : List Value} {vs : List V} (M : Mk X.K C f) (F : FnG gb X.prog X.w X.K X.mg X.base CX k f fd ps sp) (hr : Room (k + 1) X.A) (hgd : gb = true → X.A.guards = some []) (hb : Binds X.K fd ps [])
    (hx : ∀ pins H s e s', Inv X pins σ H s → CX X.stack H s (E σ) e s' → X.xe e s') (I : Inv X pins σ H s) (r : Vals vs us)
    (h : ∀ x dx, H x = none → H dx = none → dx ≠ x → sp (.ref x :: vs) (upd (upd H dx (.own x)) x (.ins C dx [])) (fun v H2 => v = .non ∧ Q (.ref x) H2) (E σ)) :
    wpAny (model X.prog X.w) X.A (call (.ref C) us) (EP X pins σ Q) X.xe s := by
  have hq := h (s.heap.objs.size + 1) s.heap.objs.size (I.hok.fresh (Nat.le_succ _)) (I.hok.fresh (Nat.le_refl _)) (Nat.ne_of_lt (Nat.lt_succ_self _))
  have I2 := Inv.made (C := C) I
  have r2 : Vals (V.ref (s.heap.objs.size + 1) :: vs) (Value.ref (s.heap.objs.size + 1) :: us) := .cons rfl r
  have hl : (Value.ref (s.heap.objs.size + 1) :: us).length = ps.length := by
    have e := r2.length
    rw [F.len _ _ _ _ hq] at e
    exact e.symm
  have b := hb _ (Value.ref (s.heap.objs.size + 1) :: us) I2.kIn (by rw [List.append_nil]; exact hl)
  rw [List.append_nil] at b
  refine wpAny_call (make_map (f := f) I.kIn M.makes M.init (beq_iff_eq.mp M.fn) (codeAny_mono (F.run _ X.stack _ _ ⟨Value.ref (s.heap.objs.size + 1) :: us, []⟩ (Value.ref (s.heap.objs.size + 1) :: us) _ _ (E σ) (hr.make C us [])
    (fun z => hgd z) (I2.env0.make C us []) b r2 hq) fun r s' hq' => ?_))
  cases r with
  | error e => exact hx pins _ _ e s' I2 hq'
  | ok fl =>
    cases fl with
    | ret u =>
      obtain ⟨v, H', I3, rv, ev, q3⟩ := I2.after hq'
      subst ev
      exact ⟨rv, ⟨V.ref (s.heap.objs.size + 1), H', I3, rfl, q3⟩⟩
    | next => exact False.elim hq'
    | brk => exact False.elim hq'
    | cont => exact False.elim hq'
theorem pe_makeG (M : Mk X.K C f) (F : FnG gb X.prog X.w X.K X.mg X.base CX k f fd ps sp) (hr : Room (k + 1) X.A) (hgd : gb = true → X.A.guards = some []) (hg : Gl X x) (hm : X.mg x = some (.ref C)) (hb : Binds X.K fd ps []) (hx : ∀ σ, PassesAt CX X σ (E σ))
    (ha : PA X (e :: es) t) (hdb : (x == ("__debug__" : Str)) = false := by decide) (he : starEach (e :: es) X.env = (false, eval e X.env) :: starEach es X.env := by rfl) (hpl : (backTo pos (starEach es X.env)).any (·.1) = false := by rfl) :
    PE X (.Call (.Name x p) (e :: es) [] pos) (tMakeS C sp E t) := by
  refine ⟨fun pins s σ H Q I h => ?_⟩
  refine wpAny_Call_Name_kw (ld_glob I hg hm ?_ hdb)
  refine PySem.W.callWith_K (h₀ := X.base) I.ok.mod.kin M.kp (thn (ha.run pos pins s σ H _ I h) fun us s1 ⟨vs, H1, I1, r, q⟩ => ⟨I1.kIn, ?_⟩) he hpl
  exact run_makeG M F hr hgd hb (fun pins H s e s' I c => hx σ pins H s e s' I c) I1 r q
end
section
variable {X : Cx} {ca : Nat → Addr} {W : WX} {G : Nat → D} {Fn : Nat → List D → Store → Out D} {a b c e o : Expr} {a' b' c' e' o' : E} {es : List Expr} {es' : List E} {pos p apos : Pos} {f m x : Str} {cn i np : Nat} {ps : List Str}
theorem evEs_lens {ρ : EC.Env} (es' : List EC.E) (S : Store) (ds : List D) (S' : Store) (e : evEs G Fn es' ρ S = .ok ds S') : ds.length = es'.length := evEs_len e
theorem isI_inv {S : Store} {d : D} (h : isI S cn m d = true) : ∃ k fs, d = .ref k ∧ S[k]? = some (.ins cn fs) ∧ fs.lookup m = none := by
  cases d with
  | ref k =>
    rw [isI_ref] at h
    split at h
    · rename_i c' fs hs
      simp only [Bool.and_eq_true, decide_eq_true_eq, Option.isNone_iff_eq_none] at h
      obtain ⟨rfl, h2⟩ := h
      exact ⟨k, fs, rfl, hs, h2⟩
    · cases h
  | _ => cases h
theorem g_meth (C : FnM X ca W Fn np i cn m ps) (hC : Cls X.K (CA.cl cn)) (ho : GE X ca W G Fn o' o) (hn : (e :: es).length + 1 = np) (ha : GV X ca W G Fn es' (e :: es)) {pl : Sem Bool}
    (he : starEach (e :: es) X.env = (false, eval e X.env) :: starEach es X.env := by rfl) (hpl : (backTo pos (starEach es X.env)).any (·.1) = false := by rfl)
    (ht : eval (.Call (.Attribute o m apos) (e :: es) [] pos) X.env = (do
      let ov ← eval o X.env
      standAt apos.atName
      let (f, first) ← holding [ov] (getMethod ov m pl)
      callWith pos f first (backTo pos (starEach (e :: es) X.env)) (backToKw pos (keywordEach [] X.env))) := by rfl)
    (hl : es'.length + 1 = np := by rfl) : GE X ca W G Fn (.meth cn m i o' es') (.Call (.Attribute o m apos) (e :: es) [] pos) := by
  obtain ⟨gb, f, fd, k, F, hr, hgd, hm, hb, hx⟩ := C.c
  refine PE.weaken (pe_methG ho hC hm F hr hgd hb hx ha he hpl ht) fun σ H Q ⟨F, ι, S, ρ, own, st, en, h⟩ => ?_
  rw [evE_meth] at h
  refine tG_ex st en (h.bind_ fun d S1 v F1 H1 ι1 s1 st1 r1 h1 => ?_)
  rw [kMeth_eq] at h1
  split at h1
  · rename_i hI
    obtain ⟨kk, fs, rfl, hs, hlk⟩ := isI_inv hI
    obtain ⟨pp, rfl, g1⟩ := rep_ref.mp r1
    obtain ⟨pp2, dx, vs, g2, g3, g4⟩ := st1.ins hs
    rw [g1] at g2
    cases g2
    refine ⟨pp, dx, _, rfl, g3, (fs_lookup (f := m) g4).2 hlk, tG_ex st1 (en.mono s1) ?_⟩
    have hlen := evEs_lens (G := G) (Fn := Fn) (ρ := ρ) es' S1
    revert h1 hlen
    cases evEs G Fn es' ρ S1 with
    | bad => exact fun h _ => h
    | exc x S2 => exact fun h _ => h
    | ok ds S2 =>
      intro h1 hlen vs2 F2 H2 ι2 s2 st2 r2
      have h1 : PostG ca X.K W σ F1 H1 ι1 (RV X.K) Q (Fn i (.ref kk :: ds) S2) := h1
      refine ⟨?_, F2, ι2, S2, .ref kk :: ds, st2, reps_cons.mpr ⟨_, vs2, rfl, Rep.mono s2 _ _ r1, r2⟩, (h1.mono s2).at_⟩
      rw [List.length_cons, Reps.len r2, hlen ds S2 rfl, hl]
  · exact h1.elim
theorem g_meth0 (C : FnM X ca W Fn np i cn m ps) (hC : Cls X.K (CA.cl cn)) (ho : GE X ca W G Fn o' o) {pl : Sem Bool}
    (ht : eval (.Call (.Attribute o m apos) [] [] pos) X.env = (do
      let ov ← eval o X.env
      standAt apos.atName
      let (f, first) ← holding [ov] (getMethod ov m pl)
      callWith pos f first (backTo pos (starEach [] X.env)) (backToKw pos (keywordEach [] X.env))) := by rfl)
    (hl : 1 = np := by rfl) : GE X ca W G Fn (.meth cn m i o' []) (.Call (.Attribute o m apos) [] [] pos) := by
  obtain ⟨gb, f, fd, k, F, hr, hgd, hm, hb, hx⟩ := C.c
  refine PE.weaken (pe_methG0 ho hC hm F hr hgd hb hx ht) fun σ H Q ⟨F, ι, S, ρ, own, st, en, h⟩ => ?_
  rw [evE_meth] at h
  refine tG_ex st en (h.bind_ fun d S1 v F1 H1 ι1 s1 st1 r1 h1 => ?_)
  rw [kMeth_eq] at h1
  split at h1
  · rename_i hI
    obtain ⟨kk, fs, rfl, hs, hlk⟩ := isI_inv hI
    obtain ⟨pp, rfl, g1⟩ := rep_ref.mp r1
    obtain ⟨pp2, dx, vs, g2, g3, g4⟩ := st1.ins hs
    rw [g1] at g2
    cases g2
    refine ⟨pp, dx, _, rfl, g3, (fs_lookup (f := m) g4).2 hlk, ?_⟩
    rw [evEs_nil] at h1
    have h1 : PostG ca X.K W σ F1 H1 ι1 (RV X.K) Q (Fn i [.ref kk] S1) := h1
    exact ⟨hl, F1, ι1, S1, [.ref kk], st1, reps_cons.mpr ⟨_, [], rfl, r1, reps_nil.mpr rfl⟩, h1.at_⟩
  · exact h1.elim
/-- what a class must have to be made -/
structure MkF (K : PySem.W.Frag) (mg : Str → Option Value) (C : Addr) (x : Str) : Prop where
  makes : PySem.W.makesIn K C = true
  kp : PySem.W.keepIn K (.ref C) = true
  mg : mg x = some (.ref C)
theorem g_make (C : FnI X ca W Fn np i cn ps) (M : MkF X.K X.mg (CA.cl cn) x) (hg : Gl X x) (ha : GV X ca W G Fn es' (e :: es)) (hdb : (x == ("__debug__" : Str)) = false := by decide) (he : starEach (e :: es) X.env = (false, eval e X.env) :: starEach es X.env := by rfl) (hpl : (backTo pos (starEach es X.env)).any (·.1) = false := by rfl)
    (hl : es'.length + 1 = np := by rfl) : GE X ca W G Fn (.make cn i es') (.Call (.Name x p) (e :: es) [] pos) := by
  obtain ⟨gb, f, fd, k, F, hr, hgd, hm, hb, hx⟩ := C.c
  refine PE.weaken (pe_makeG ⟨M.makes, hm.at_, hm.fn, M.kp⟩ F hr hgd hg M.mg hb hx ha hdb he hpl) fun σ H Q ⟨F, ι, S, ρ, own, st, en, h⟩ => ?_
  rw [evE_make] at h
  refine tG_ex st en ?_
  have hlen := evEs_lens (G := G) (Fn := Fn) (ρ := ρ) es' S
  revert h hlen
  cases evEs G Fn es' ρ S with
  | bad => exact fun h _ => h
  | exc x S2 => exact fun h _ => h
  | ok ds S1 =>
    intro h hlen vs F1 H1 ι1 s1 st1 r1 x dx hx0 hd0 hne
    have h : PostG ca X.K W σ F H ι (RV X.K) Q ((Fn i (.ref S1.length :: ds) (S1 ++ [.ins cn []])).bind (kMake3 S1.length)) := h
    have hx1 : (upd H1 dx (.own x)) x = none := by rw [upd_ne (fun z => hne z.symm)]; exact hx0
    have f1 := st1.fnone hd0
    have n1 := st1.not_in hd0
    have sa : Stp F1 H1 ι1 F1 (upd H1 dx (.own x)) ι1 := Stp.refl.ow hd0 _
    have ta := st1.ow f1 n1 (.own x)
    have sb := Stp.nw ta hx1 (.ins (CA.cl cn) dx [])
    have tb : Sto X.K F1 (upd (upd H1 dx (.own x)) x (.ins (CA.cl cn) dx [])) (ι1 ++ [x]) (S1 ++ [.ins cn []]) := ta.nwO hx1 ⟨dx, [], upd_same, reps_nil.mpr rfl⟩
    have s2 := (s1.trans sa).trans sb
    refine ⟨by rw [List.length_cons, Reps.len r1, hlen ds S1 rfl, hl], F1, ι1 ++ [x], _, .ref S1.length :: ds, tb, reps_cons.mpr ⟨_, vs, rfl, rep_ref.mpr ⟨x, rfl, nw_ix st1 x⟩, Reps.mono (sa.trans sb) _ _ r1⟩, ?_⟩
    have h2 := (h.mono s2).at_
    revert h2
    cases Fn i (.ref S1.length :: ds) (S1 ++ [.ins cn []]) with
    | bad => exact fun h => h
    | exc y S2 => exact fun h => h
    | ok d S2 =>
      intro h2 v F3 H3 ι3 s3 st3 r3
      cases d with
      | p y =>
        cases y with
        | none =>
          have q := rep_p.mp r3
          cases q
          refine ⟨rfl, ?_⟩
          have h2 : PostG ca X.K (fun c d _ H' => W c d σ H') [] F1 _ (ι1 ++ [x]) (RV X.K) Q (.ok (.ref S1.length) S2) := h2
          exact h2 _ F3 H3 ι3 s3 st3 (rep_ref.mpr ⟨x, rfl, s3.ix (nw_ix st1 x)⟩)
        | _ => exact h2.elim
      | _ => exact h2.elim
end
end EC

namespace EC
open PySem PySem.Spec PyProof.Rows L2
variable [CA]
/-! ### dicts of the store: keys are texts -/
section
variable {K : PySem.W.Frag} {F H : Hp} {ι : List Addr} {S : Store}
theorem Sto.nwP (s : Sto K F H ι S) {p : Addr} (hf : F p = none) (hn : p ∉ ι) {o : HO} {ob : Ob} (r : RepO K F (upd H p o) (ι ++ [p]) p ob) : Sto K F (upd H p o) (ι ++ [p]) (S ++ [ob]) := by
  have st : Stp F (fun _ => none) ι F (fun _ => none) (ι ++ [p]) := ⟨Same.refl F, ⟨[p], rfl⟩, (fun _ _ q => nomatch q), fun _ _ _ => rfl, fun _ h => .inr rfl, fun _ h => absurd rfl h⟩
  refine ⟨fun b u q => ?_, by rw [List.length_append, List.length_append, s.len]; rfl, ?_, fun a h => ?_, fun i o2 h => ?_⟩
  · rw [upd_ne (ne_of_none q hf)]
    exact s.sub _ _ q
  · refine List.nodup_append.mpr ⟨s.nd, List.nodup_cons.mpr ⟨by simp, List.nodup_nil⟩, fun a h b hb e => ?_⟩
    rw [List.mem_singleton.mp hb] at e
    exact hn (e ▸ h)
  · rcases List.mem_append.mp h with h | h
    · exact s.off a h
    · rw [List.mem_singleton.mp h]
      exact hf
  · by_cases e : i < S.length
    · rw [List.getElem?_append_left e] at h
      obtain ⟨b, h1, h2⟩ := s.obj i o2 h
      refine ⟨b, st.ix h1, RepO.fr st (fun ws q => ?_) h2⟩
      rw [upd_ne (fun z => hn (by rw [← z]; exact ix_mem h1))]
      exact q
    · rw [List.getElem?_append_right (by omega)] at h
      have ei : i - S.length = 0 := by
        by_cases z : i - S.length = 0
        · exact z
        · rw [List.getElem?_eq_none (by simp; omega)] at h
          cases h
      rw [ei] at h
      cases h
      refine ⟨p, ?_, r⟩
      rw [List.getElem?_append_right (by rw [s.len]; omega), s.len, ei]
      rfl
theorem valV_find {x : Str} : ∀ {ks : List Str} {ds : List D} {vs : List V}, ks.length = ds.length → Reps K F ι ds vs →
    (∀ d, dfind ks ds x = some d → ∃ v, valV ((ks.map Sum.inr).zip vs) (Sum.inr x : Key) = some v ∧ Rep K F ι d v) ∧ (dfind ks ds x = none → valV ((ks.map Sum.inr).zip vs) (Sum.inr x : Key) = none)
  | [], [], vs, _, h => by
    rw [reps_nil.mp h]
    exact ⟨fun d e => by simp [dfind] at e, fun _ => rfl⟩
  | [], _ :: _, _, hl, _ => nomatch hl
  | _ :: _, [], _, hl, _ => nomatch hl
  | k :: ks, d :: ds, vs, hl, h => by
    obtain ⟨v, r, rfl, h1, h2⟩ := reps_cons.mp h
    obtain ⟨i1, i2⟩ := valV_find (x := x) (ks := ks) (by simpa using hl) h2
    unfold dfind
    rw [List.map_cons, List.zip_cons_cons]
    by_cases e : k = x
    · subst e
      rw [if_pos rfl, valV_pos (by rfl)]
      exact ⟨fun d e => by cases e; exact ⟨v, rfl, h1⟩, fun e => by cases e⟩
    · rw [if_neg e, valV_neg (fun q => e (Sum.inr.inj q))]
      exact ⟨i1, i2⟩
theorem valV_findI {x : Int} : ∀ {ks : List Int} {ds : List D} {vs : List V}, ks.length = ds.length → Reps K F ι ds vs →
    (∀ d, dfindI ks ds x = some d → ∃ v, valV ((ks.map Sum.inl).zip vs) (Sum.inl x : Key) = some v ∧ Rep K F ι d v) ∧ (dfindI ks ds x = none → valV ((ks.map Sum.inl).zip vs) (Sum.inl x : Key) = none)
  | [], [], vs, _, h => by
    rw [reps_nil.mp h]
    exact ⟨fun d e => by simp [dfindI] at e, fun _ => rfl⟩
  | [], _ :: _, _, hl, _ => nomatch hl
  | _ :: _, [], _, hl, _ => nomatch hl
  | k :: ks, d :: ds, vs, hl, h => by
    obtain ⟨v, r, rfl, h1, h2⟩ := reps_cons.mp h
    obtain ⟨i1, i2⟩ := valV_findI (x := x) (ks := ks) (by simpa using hl) h2
    unfold dfindI
    rw [List.map_cons, List.zip_cons_cons]
    by_cases e : k = x
    · subst e
      rw [if_pos rfl, valV_pos (by rfl)]
      exact ⟨fun d e => by cases e; exact ⟨v, rfl, h1⟩, fun e => by cases e⟩
    · rw [if_neg e, valV_neg (fun q => e (Sum.inl.inj q))]
      exact ⟨i1, i2⟩
end
section
variable {X : Cx} {ca : Nat → Addr} {W : WX} {G : Nat → D} {Fn : Nat → List D → Store → Out D} {a b c e o k z : Expr} {a' b' c' e' o' k' z' : E} {es : List Expr} {es' : List E} {pos p apos : Pos}
theorem g_newd {ks : List Str} {vs' : List E} {keys : List (Option Expr)} {values : List Expr} (hp : GP X ca W G Fn ks vs' pos keys values)
    (hall : keys.all (·.isSome) = true := by rfl) (hl : keys.length = values.length := by rfl) (h0 : keys ≠ [] := by intro z; cases z) (h15 : keys.length ≤ 15 := by decide) :
    GE X ca W G Fn (.newd ks vs') (.Dict keys values pos) := by
  obtain ⟨trs, g1, g2⟩ := hp
  refine PE.weaken (pe_disp g1 hall hl h0 h15) fun σ H Q ⟨F, ι, S, ρ, own, st, en, h⟩ => ?_
  rw [evE_newd] at h
  intro p hp
  have b0 : Stp F H ι F (upd H p (.dK [])) ι := Stp.refl.ow hp _
  have od : ∀ i b, own i = some b → b ≠ p := fun i b hb e => (en.off i b hb).2.2 (by rw [e]; exact hp)
  have f0 := st.fnone hp
  have n0 := st.not_in hp
  have keepF : ∀ {Fa Ha Fb Hb : Hp} {ιa ιb : List Addr} {o : HO}, Stp Fa Ha ιa Fb Hb ιb → Fa p = none → Ha p = some o → p ∉ ιa → Fb p = none ∧ p ∉ ιb ∧ Hb p = some o := fun {Fa Ha Fb Hb ιa ιb o} s fa ha na => by
    refine ⟨?_, fun z => ?_, s.keep p _ ha na⟩
    · cases q : Fb p with
      | none => rfl
      | some u =>
        have := s.frz p fa (by rw [q]; exact fun z => nomatch z)
        rw [ha] at this
        cases this
    · rcases s.new p z with z | z
      · exact na z
      · rw [ha] at z; cases z
  refine g2 σ _ _ (tG_ex (st.ow f0 n0 _) (en.ow od _) ?_)
  revert h
  cases evEs G Fn vs' ρ S with
  | bad => exact fun h => h
  | exc x S1 => exact fun h c d F2 H2 ι2 s2 => h c d F2 H2 ι2 (b0.trans s2)
  | ok ds S1 =>
    intro h vs F1 H1 ι1 s1 st1 r1
    have h : PostG ca X.K W σ F H ι (RV X.K) Q (kNewd ks ds S1) := h
    rw [kNewd_eq] at h
    split at h
    · rename_i ok
      obtain ⟨hn, ld, l15, l1⟩ := of_decide_eq_true ok
      obtain ⟨f1, n1, e1⟩ := keepF s1 f0 upd_same n0
      have lv := r1.len
      refine ⟨e1, (ks.map Sum.inr).zip vs, zip_kv ks vs, by rw [List.length_zip, List.length_map]; omega, ?_⟩
      have nd : (((ks.map Sum.inr : List Key).zip vs).map (·.1)).Nodup := by
        rw [List.map_fst_zip (by rw [List.length_map]; omega)]
        exact List.pairwise_map.mpr (List.Pairwise.imp (fun {a b} ne z => ne (Sum.inr.inj z)) hn)
      rw [merge_nd _ [] (by rw [List.nil_append]; exact nd), List.nil_append]
      have b1 := b0.trans s1
      have sN : Stp F H ι F1 (upd H1 p (.dK ((ks.map Sum.inr).zip vs))) (ι1 ++ [p]) := by
        obtain ⟨τ, hτ⟩ := b1.pre
        refine ⟨b1.fr, ⟨τ ++ [p], by rw [hτ, List.append_assoc]⟩, fun b u q hb => ?_, b1.frz, fun b h => ?_, fun b h => ?_⟩
        · rw [upd_ne (ne_of_none q hp)]
          exact b1.keep b u q hb
        · rcases List.mem_append.mp h with h | h
          · exact b1.new b h
          · rw [List.mem_singleton.mp h]; exact .inr hp
        · by_cases e : b = p
          · rw [e, upd_same]; exact fun z => nomatch z
          · rw [upd_ne e]; exact b1.live b h
      have r1' : Reps X.K F1 (ι1 ++ [p]) ds vs := Reps.mono (⟨Same.refl F1, ⟨[p], rfl⟩, (fun _ _ q => nomatch q), fun _ _ _ => rfl, fun _ h => .inr rfl, fun _ h => absurd rfl h⟩ : Stp F1 (fun _ => none) ι1 F1 (fun _ => none) (ι1 ++ [p])) _ _ r1
      exact h _ F1 _ (ι1 ++ [p]) sN (st1.nwP f1 n1 ⟨vs, upd_same, r1', ld, hn⟩) (rep_ref.mpr ⟨p, rfl, nw_ix st1 p⟩)
    · exact h.elim
theorem dgetO_inv {S : Store} {d x : D} {q : Option D} (h : dgetO S d x = some q) : ∃ i, d = .ref i ∧ ((∃ t ks ds, x = .p (.str t) ∧ S[i]? = some (.dct ks ds) ∧ q = dfind ks ds t) ∨ ∃ t ks ds, x = .p (.int t) ∧ S[i]? = some (.dci ks ds) ∧ q = dfindI ks ds t) := by
  unfold dgetO at h
  split at h
  · rename_i i t
    split at h
    · rename_i ks ds hs
      cases h
      exact ⟨i, rfl, .inl ⟨t, ks, ds, rfl, hs, rfl⟩⟩
    · cases h
  · rename_i i t
    split at h
    · rename_i ks ds hs
      cases h
      exact ⟨i, rfl, .inr ⟨t, ks, ds, rfl, hs, rfl⟩⟩
    · cases h
  · cases h
theorem isDc_inv {S : Store} {d : D} (h : isDc S d = true) : ∃ i, d = .ref i ∧ ((∃ ks ds, S[i]? = some (.dct ks ds)) ∨ ∃ ks ds, S[i]? = some (.dci ks ds)) := by
  cases d with
  | ref i =>
    rw [isDc_ref] at h
    split at h
    · rename_i ks ds hs
      exact ⟨i, rfl, .inl ⟨ks, ds, hs⟩⟩
    · rename_i ks ds hs
      exact ⟨i, rfl, .inr ⟨ks, ds, hs⟩⟩
    · cases h
  | _ => cases h
/-- what a look-up gives -/
theorem dget_rep {K : PySem.W.Frag} {F H : Hp} {ι : List Addr} {S : Store} (st : Sto K F H ι S) {i : Nat} {x : D} {y : V} {q : Option D} (h : dgetO S (.ref i) x = some q) (ry : Rep K F ι x y) {pp : Addr} (g1 : ι[i]? = some pp) :
    ∃ o, DGet H pp y o ∧ (∀ d, q = some d → ∃ v, o = some v ∧ Rep K F ι d v) ∧ (q = none → o = none) := by
  obtain ⟨i2, ei, ⟨t, ks, ds, rfl, hs, rfl⟩ | ⟨t, ks, ds, rfl, hs, rfl⟩⟩ := dgetO_inv h
  · cases ei
    obtain ⟨pp2, vs, g2, g3, g4, g5, g6⟩ := st.dct hs
    rw [g1] at g2
    cases g2
    have ey := rep_p.mp ry
    cases ey
    have w := valV_find (x := t) g5 g4
    exact ⟨_, DGet.k (k := (.inr t : Key)) g3, w.1, w.2⟩
  · cases ei
    obtain ⟨pp2, vs, g2, g3, g4, g5, g6⟩ := st.dci hs
    rw [g1] at g2
    cases g2
    have ey := rep_p.mp ry
    cases ey
    have w := valV_findI (x := t) g5 g4
    exact ⟨_, DGet.k (k := (.inl t : Key)) g3, w.1, w.2⟩
/-- d[k] -/
theorem g_dsub (hu : X.A.units + 1 < cLine) (he : GE X ca W G Fn e' e) (hk : GE X ca W G Fn k' k) (hs : NoSl k := by intro _ _; rfl) : GE X ca W G Fn (.dsub e' k') (.Subscript e k pos) := by
  refine PE.weaken (pe_dget hu he hk hs) fun σ H Q ⟨F, ι, S, ρ, own, st, en, h⟩ => ?_
  rw [evE_dsub] at h
  refine tG_ex st en (h.bind_ fun d S1 v F1 H1 ι1 s1 st1 r1 h1 => ?_)
  rw [kDsub_eq] at h1
  refine tG_ex st1 (en.mono s1) (h1.bind_ fun x S2 y F2 H2 ι2 s2 st2 r2 h2 => ?_)
  rw [kDsub1_eq] at h2
  cases q : dgetO S2 d x with
  | none => rw [q] at h2; exact h2.elim
  | some q2 =>
    obtain ⟨i, rfl, _⟩ := dgetO_inv q
    rw [q] at h2
    obtain ⟨pp, rfl, g1⟩ := rep_ref.mp (Rep.mono s2 _ _ r1)
    obtain ⟨o, dg, w1, w2⟩ := dget_rep st2 q r2 g1
    cases q2 with
    | none => exact h2.elim
    | some d2 =>
      obtain ⟨v2, rfl, l2⟩ := w1 d2 rfl
      exact ⟨pp, v2, rfl, dg, h2 v2 F2 H2 ι2 Stp.refl st2 l2⟩
/-- d.get(k, z) -/
theorem g_dgetv (hu : X.A.units + 1 < cLine) (he : GE X ca W G Fn e' e) (hk : GE X ca W G Fn k' k) (hz : GE X ca W G Fn z' z) (m : M2 X e "get" apos k z pos) : GE X ca W G Fn (.dgetv e' k' z') (.Call (.Attribute e "get" apos) [k, z] [] pos) := by
  refine PE.weaken (pe_dget2 hu he hk hz m) fun σ H Q ⟨F, ι, S, ρ, own, st, en, h⟩ => ?_
  rw [evE_dgetv] at h
  refine tG_ex st en (h.bind_ fun d S1 v F1 H1 ι1 s1 st1 r1 h1 => ?_)
  rw [kDget_eq] at h1
  split at h1
  · rename_i hI
    obtain ⟨i, rfl, hI2⟩ := isDc_inv hI
    obtain ⟨pp, rfl, g1⟩ := rep_ref.mp r1
    have isd : IsD H1 pp := by
      rcases hI2 with ⟨ks1, ds1, hs1⟩ | ⟨ks1, ds1, hs1⟩
      · obtain ⟨pp2, vs1, g2, g3, _⟩ := st1.dct hs1
        rw [g1] at g2
        cases g2
        exact .inl ⟨_, .inl g3⟩
      · obtain ⟨pp2, vs1, g2, g3, _⟩ := st1.dci hs1
        rw [g1] at g2
        cases g2
        exact .inl ⟨_, .inl g3⟩
    refine ⟨pp, rfl, isd, tG_ex st1 (en.mono s1) (h1.bind_ fun x S2 y F2 H2 ι2 s2 st2 r2 h2 => ?_)⟩
    rw [kDget1_eq] at h2
    refine tG_ex st2 ((en.mono s1).mono s2) (h2.bind_ fun zd S3 zv F3 H3 ι3 s3 st3 r3 h3 => ?_)
    rw [kDget2_eq] at h3
    cases q : dgetO S3 (.ref i) x with
    | none => rw [q] at h3; exact h3.elim
    | some q2 =>
      rw [q] at h3
      have g1' := (s2.trans s3).ix g1
      obtain ⟨o, dg, w1, w2⟩ := dget_rep st3 q (Rep.mono s3 _ _ r2) g1'
      refine ⟨_, dg, ?_⟩
      cases q2 with
      | none =>
        rw [w2 rfl]
        exact h3 zv F3 H3 ι3 Stp.refl st3 r3
      | some d2 =>
        obtain ⟨v2, rfl, l2⟩ := w1 d2 rfl
        exact h3 v2 F3 H3 ι3 Stp.refl st3 l2
  · exact h1.elim
end
end EC

namespace EC
open PySem PySem.Spec PyProof.Rows L2
variable [CA]
/-! ### xs += ys, of a list of one's own -/
set_option maxRecDepth 8000 in
theorem iadd_meets (l b : Addr) (xs ys : Array Value) (n m : Nat) (od : Option Addr) (sl : Array (Option Value)) (h0 : ¬(!xs.isEmpty && Builtin.List.listTooLong (xs.size + ys.size)) = true) (h1 : xs.size ≤ sizeLine) (h2 : xs.size + ys.size ≤ sizeLine + 1) :
    Meets (Builtin.«list.__iadd__» ⟨[.ref l, .ref b], []⟩) fun _ R s =>
      s.heap.get? l = some { cls := .type "list", dict := none, data := .seq xs n, slots := #[] } ∧
      s.heap.get? b = some { cls := .type "list", dict := od, data := .seq ys m, slots := sl } ∧
      R (.ok (.ret (Value.ref l))) { s with heap := s.heap.update l (Obj.mapSeq fun x => x ++ ys), toks := s.toks } := by
  refine .of_wp fun prog w A R s h => ?_
  obtain ⟨hp, g, d, tk, os⟩ := s
  obtain ⟨hl, hb, h⟩ := h
  have f1 := AutoSeq1.idx_int
  have f2 := AutoSeq1.sub_tuple_tuple
  have f3 := AutoSeq1.sub_list_list
  have f4 := AutoSeq1.sub_tuple_list
  have f5 := AutoSeq1.sub_list_tuple
  have sz : (xs ++ ys).size ≤ sizeLine + 1 := by rw [Array.size_append]; exact h2
  wp_walk using (wpAny_updateSeq hl rfl (hz := h1) (_hz' := sz)), AutoSeq1.wpAny_loadPart' hl, AutoSeq1.wpAny_loadPart' hb
  exact ⟨_, rfl, h⟩
set_option maxRecDepth 8000 in
theorem iadd_meetsT (l b : Addr) (xs ys : Array Value) (n m : Nat) (od : Option Addr) (sl : Array (Option Value)) (h0 : ¬(!xs.isEmpty && Builtin.List.listTooLong (xs.size + ys.size)) = true) (h1 : xs.size ≤ sizeLine) (h2 : xs.size + ys.size ≤ sizeLine + 1) :
    Meets (Builtin.«list.__iadd__» ⟨[.ref l, .ref b], []⟩) fun _ R s =>
      s.heap.get? l = some { cls := .type "list", dict := none, data := .seq xs n, slots := #[] } ∧
      s.heap.get? b = some { cls := .type "tuple", dict := od, data := .seq ys m, slots := sl } ∧
      R (.ok (.ret (Value.ref l))) { s with heap := s.heap.update l (Obj.mapSeq fun x => x ++ ys), toks := s.toks } := by
  refine .of_wp fun prog w A R s h => ?_
  obtain ⟨hp, g, d, tk, os⟩ := s
  obtain ⟨hl, hb, h⟩ := h
  have f1 := AutoSeq1.idx_int
  have f2 := AutoSeq1.sub_tuple_tuple
  have f3 := AutoSeq1.sub_list_list
  have f4 := AutoSeq1.sub_tuple_list
  have f5 := AutoSeq1.sub_list_tuple
  have sz : (xs ++ ys).size ≤ sizeLine + 1 := by rw [Array.size_append]; exact h2
  wp_walk using (wpAny_updateSeq hl rfl (hz := h1) (_hz' := sz)), AutoSeq1.wpAny_loadPart' hl, AutoSeq1.wpAny_loadPart' hb
  exact ⟨_, rfl, h⟩
theorem binaryOp1_lt {M : Model} {A : Around} {E : Value → Shared → Prop} {s : Shared} {a b : Value} {Q : Option Value → Shared → Prop} (ha : s.TypeIs a "list") (hb : s.TypeIs b "tuple") (h : Q none s) : wpAny M A (binaryOp1 "add" a b) Q E s := by
  simp only [binaryOp1]
  refine wpAny_bind (wpAny_typeOf ha (wpAny_bind (wpAny_typeOf hb (wpAny_bind (wpAny_of_eq noFill_list_add ?_)))))
  have ne : ((Value.type "list") == (Value.type "tuple")) = false := by decide +kernel
  simp only [ne, if_false, Bool.false_eq_true]
  refine wpAny_bind (wpAny_of_eq noFill_tuple_add ?_)
  simp only [pure_bind, Bool.false_and, Bool.and_false, Bool.false_eq_true, if_false]
  exact wpAny_pure h
theorem iadd_roadT {M : Model} {A : Around} {E : Value → Shared → Prop} {s : Shared} {a b : Value} {Q : Value → Shared → Prop} (ha : s.TypeIs a "list") (hb : s.TypeIs b "tuple") (hc : wpAny M A (call (.builtin "list.__iadd__") [a, b]) Q E s) : wpAny M A (inplaceOp .Add a b) Q E s := by
  have hsl : typeLookup (.type "list") (dunderI "add") = pure (some (.builtin "list.__iadd__")) := PySem.F.slot_list_iadd.lookup
  have hsq : isSeqSlot (some (.builtin "list.__iadd__")) = true := by decide +kernel
  have hfi : fillsInplaceSlot (.type "list") "add" (Operator.Add == .Add) = pure false := by
    unfold fillsInplaceSlot
    show (typeLookup (.type "list") (dunderI "add") >>= fun fi => pure (fi.isSome && !isSeqSlot fi)) = pure false
    rw [hsl]
    show (pure (true && !isSeqSlot (some (.builtin "list.__iadd__"))) : Sem Bool) = pure false
    rw [hsq] <;> rfl
  have hsi : seqSlot? (.type "list") (dunderI "add") = pure (some (.builtin "list.__iadd__")) := PySem.seqSlot_of hsl hsq
  unfold inplaceOp
  refine wpAny_holding ?_
  refine wpAny_bind (wpAny_typeOf ha (wpAny_bind (wpAny_of_eq hfi ?_)))
  show wpAny M A (if false = true then _ else _) Q E s
  rw [if_neg Bool.false_ne_true]
  refine wpAny_bind (binaryOp1_lt ha hb ?_)
  refine wpAny_bind (wpAny_of_eq hsi ?_)
  exact wpAny_bind (wpAny_rule hc)
section
variable {X : Cx} {ca : Nat → Addr} {W : WX} {G : Nat → D} {Fn : Nat → List D → Store → Out D} {F0 H0 : Hp} {ι0 : List Addr}
def rIext (K : PySem.W.Frag) : V → V → Hp → VK → Prop := fun x y H Q => ∃ l b xs zs, x = .ref l ∧ y = .ref b ∧ H l = some (.lst xs) ∧ (SqL K H b zs ∨ SqT K H b zs) ∧ xs.length + zs.length ≤ sizeLine ∧ Q (.ref l) (upd H l (.lst (xs ++ zs)))
theorem ip_iext : PIp X .Add (rIext X.K) := by
  intro pins s σ H x y v u Q I rx ry h
  obtain ⟨l, b, xs, zs, rfl, rfl, hH, hB, hz, q⟩ := h
  cases rx
  cases ry
  obtain ⟨z, its, n, r, hl, e⟩ := I.lstM hH
  rcases hB with hB | hB
  · obtain ⟨its2, r2, pl, _⟩ := I.list hB
    obtain ⟨o2, g2, c2, n2, d2⟩ := pl.isList
    have l2 : its2.length = zs.length := r2.length.symm
    obtain ⟨oc, od, odt, os⟩ := o2
    simp only at c2 d2
    subst c2 d2
    have door : ¬ (!its.toArray.isEmpty && Builtin.List.listTooLong (its.toArray.size + its2.toArray.size)) = true := by
      rw [notLongL (by rw [List.size_toArray, List.size_toArray]; omega), Bool.and_false]
      exact Bool.false_ne_true
    exact iadd_road ⟨_, e, rfl⟩ ⟨_, g2, rfl⟩ (call_meets PySem.F.slot_list_iadd ⟨_, e, rfl⟩ PySem.F.entry_list_iadd (PySem.F.args_list_iadd_2 _ _) (iadd_meets l b its.toArray its2.toArray n n2 od os door (by rw [List.size_toArray]; omega) (by rw [List.size_toArray, List.size_toArray]; omega))
      ⟨e, g2, .ref l, _, I.lset (its' := its ++ its2) hH e (by simp) (r.append r2) (by rw [List.length_append]; omega), rfl, q⟩)
  · obtain ⟨its2, r2, pl, _⟩ := I.tuple hB
    obtain ⟨o2, g2, c2, n2, d2⟩ := pl
    have l2 : its2.length = zs.length := r2.length.symm
    obtain ⟨oc, od, odt, os⟩ := o2
    simp only at c2 d2
    subst c2 d2
    have door : ¬ (!its.toArray.isEmpty && Builtin.List.listTooLong (its.toArray.size + its2.toArray.size)) = true := by
      rw [notLongL (by rw [List.size_toArray, List.size_toArray]; omega), Bool.and_false]
      exact Bool.false_ne_true
    exact iadd_roadT ⟨_, e, rfl⟩ ⟨_, g2, rfl⟩ (call_meets PySem.F.slot_list_iadd ⟨_, e, rfl⟩ PySem.F.entry_list_iadd (PySem.F.args_list_iadd_2 _ _) (iadd_meetsT l b its.toArray its2.toArray n n2 od os door (by rw [List.size_toArray]; omega) (by rw [List.size_toArray, List.size_toArray]; omega))
      ⟨e, g2, .ref l, _, I.lset (its' := its ++ its2) hH e (by simp) (r.append r2) (by rw [List.length_append]; omega), rfl, q⟩)
variable {e : Expr} {e' : E} {pos : Pos}
theorem gs_oaug {i : Nat} {x : Str} {p1 : Pos} {spos : Pos} (hN : X.N.Nodup) (hi : X.N[i]? = some x) (hx : Loc X.env.scope x) (he' : GE X ca W G Fn e' e) (hf : X.fn x = true ∨ X.env.scope.names.lookup x = some .local := by first | exact .inl rfl | exact .inr rfl | assumption) :
    GS X ca W F0 H0 ι0 G Fn (.oaug i e') (.AugAssign (.Name x p1) .Add e spos) := by
  refine PS.weaken (ps_aug hN hi hx he' ip_iext hf) fun D σ H ⟨F, ι, S, ρ, own, st, en, et, h⟩ => ?_
  rw [evS_oaug] at h
  split at h
  · rename_i ho
    unfold isOwn at ho
    split at ho
    · rename_i xs hxs
      obtain ⟨a, vs, h1, h2, h3, h4⟩ := en.slot i _ hxs
      obtain ⟨o1, o2, _⟩ := en.off i a h1
      refine ⟨.ref a, h2, tG_ex st en (h.bindE et fun d S1 v F1 H1 ι1 s1 st1 r1 et1 k1 => ?_)⟩
      have eset : σ.set i (some (V.ref a)) = σ := by
        refine List.ext_getElem? fun j => ?_
        by_cases e : i = j
        · subst e
          rw [List.getElem?_set_self (List.getElem?_eq_some_iff.mp h2).1, h2]
        · rw [List.getElem?_set_ne e]
      have kp := s1.keep a _ h3 o2
      have dq := dqAll_mono s1.fr _ _ h4
      have en1 := en.mono s1
      obtain ⟨q1, q2, _⟩ := en1.off i a h1
      -- the list, longer by what there is in the other one
      have grow : ∀ (zs : List PyData) (ws : List V) (b : Addr), v = .ref b → (SqL X.K H1 b ws ∨ SqT X.K H1 b ws) → DqAll X.K F1 ws zs → PostS ca X.K W F0 H0 ι0 F1 D (if fitsL (xs.length + zs.length) then .ok (.nx (ρ.set i (.own (xs ++ zs)))) S1 else .bad) →
          rIext X.K (.ref a) v H1 fun z H2 => D.nx (σ.set i (some z)) H2 := by
        intro zs ws b ev sq dz k2
        split at k2
        · rename_i hz
          have hz := fits_le hz
          refine ⟨a, b, vs, ws, rfl, by rw [ev], kp, sq, by rw [dq.len, dz.len]; exact hz, ?_⟩
          show D.nx (List.set σ i (some (V.ref a))) _
          rw [eset]
          refine k2 σ F1 _ ι1 own (Same.refl F1) (st1.ow q1 q2 _) ⟨by rw [List.length_set]; exact en1.len, fun j s hj => ?_, fun j b hb => ?_, en1.inj⟩ ⟨et1.st.ow (et1.ow i a h1) _, et1.ow⟩
          · rcases Nat.decEq i j with ne | eq
            · rw [List.getElem?_set_ne ne] at hj
              have q := en1.slot j s hj
              match s, q with
              | .un, q => exact q
              | .v d, q => exact q
              | .own ys, ⟨b2, ws2, g1, g2, g3, g4⟩ => exact ⟨b2, ws2, g1, g2, by rw [upd_ne (fun z => ne (en.inj i j a h1 (by rw [← z]; exact g1)))]; exact g3, g4⟩
            · subst eq
              rw [List.getElem?_set_self (List.getElem?_eq_some_iff.mp hxs).1] at hj
              cases hj
              exact ⟨a, _, h1, h2, upd_same, dq.append dz⟩
          · obtain ⟨w1, w2, w3⟩ := en1.off j b hb
            refine ⟨w1, w2, ?_⟩
            by_cases z : b = a
            · rw [z, upd_same]; exact fun z => nomatch z
            · rw [upd_ne z]; exact w3
        · exact k2.elim
      unfold kExtL at k1
      rw [hxs] at k1
      match d, r1, k1 with
      | .p (.list zs), r1, k1 =>
        obtain ⟨b, ws, ev, sq, dz⟩ := repA_list st1 (Or.inl r1)
        exact grow zs ws b ev (.inl sq) dz k1
      | .p (.tuple zs), r1, k1 =>
        obtain ⟨b, ws, ev, sq, _, dz⟩ := repA_tuple st1 (Or.inl r1)
        exact grow zs ws b ev (.inr sq) dz k1
      | .p .none, _, k1 => exact k1.elim
      | .p (.bool _), _, k1 => exact k1.elim
      | .p (.int _), _, k1 => exact k1.elim
      | .p (.str _), _, k1 => exact k1.elim
      | .p (.dict _), _, k1 => exact k1.elim
      | .ref _, _, k1 => exact k1.elim
      | .tup _, _, k1 => exact k1.elim
      | .fn _, _, k1 => exact k1.elim
    · cases ho
  · exact h.elim
end

end EC

namespace EC
open PySem PySem.Spec PyProof.Rows L2
variable [CA]
/-! ### x in xs, a list of the store -/
section
variable {X : Cx} {ca : Nat → Addr} {W : WX} {G : Nat → D} {Fn : Nat → List D → Store → Out D}
theorem o_memr : OpR X (compareOp .In) (rP2 X.K .memr) := by
  intro pins s σ H x y v u Q I rx ry h
  obtain ⟨F, ι, S, ds, d, st, ra, hp, q⟩ := h
  obtain ⟨d1, d2, rfl, r1, r2⟩ := two ra
  rw [prim_memr] at hp
  unfold p_memr at hp
  split at hp
  · rename_i a i e
    cases e
    split at hp
    · rename_i ds hs
      split at hp
      · rename_i xs hxs
        split at hp
        · rename_i f
          obtain ⟨f1, f2⟩ := Bool.and_eq_true_iff.mp f
          obtain ⟨p, vs, rfl, _, hH, hr⟩ := repA_ref st r2 hs
          have h2 := reps_pures hxs hr
          have dx := repA_flat r1 f1
          refine op_in_seq pins s σ H _ _ v u Q I rx ry ⟨p, vs, rfl, .inl (.inl (.inl hH)), flat_V dx f1, flat_all h2 f2, ?_⟩
          rw [if_neg Bool.false_ne_true, flat_any dx f1 h2 f2]
          exact b2 st q hp
        · cases hp
      · cases hp
    · cases hp
  · cases hp
end
/-! ### defs as values -/
theorem rep_fn {K : PySem.W.Frag} {F : Hp} {ι : List Addr} {k : Nat} {v : V} : Rep K F ι (.fn k) v ↔ v = .ref (CA.fa k) := by unfold Rep; exact Iff.rfl
section
variable {X : Cx} {ca : Nat → Addr} {W : WX} {G : Nat → D} {Fn : Nat → List D → Store → Out D} {a b c e o : Expr} {a' b' c' e' o' : E} {es : List Expr} {es' : List E} {pos p apos : Pos} {x : Str} {i np : Nat}
theorem g_fnv {k : Nat} (hg : Gl X x) (hm : X.mg x = some (.ref (CA.fa k))) (hd : (x == ("__debug__" : Str)) = false := by decide) : GE X ca W G Fn (.fnv k) (.Name x pos) := by
  refine PE.weaken (pe_glob (v := .ref (CA.fa k)) hg hm rfl hd) fun σ H Q ⟨F, ι, S, ρ, own, st, en, h⟩ => ?_
  rw [evE_fnv] at h
  exact h _ F H ι Stp.refl st (rep_fn.mpr rfl)
/-- a def that a name may hold -/
structure FnV (X : Cx) (ca : Nat → Addr) (W : WX) (Fn : Nat → List D → Store → Out D) (np : Nat) (k : Nat) : Prop where
  c : ∃ (gb : Bool) (fd : FuncData) (j : Nat) (ps : List Str), FnG gb X.prog X.w X.K X.mg X.base (L2.CX X.prog X.w) j (CA.fa k) fd ps (spG ca X.K np (Fn k)) ∧ Room j X.A ∧ (gb = true → X.A.guards = some []) ∧ PySem.W.keepIn X.K (.ref (CA.fa k)) = true ∧ Binds X.K fd ps [] ∧ ∀ σ, PassesAt (L2.CX X.prog X.w) X σ (WE W σ)
theorem Lvl.v {gb : Bool} {ca : Nat → Addr} {T : Nat → FD} {tab : List Row} {n k : Nat} {r : Row} (L : Lvl gb X.prog X.w X.K X.mg X.base ca G T tab n) (hr : Room (2 * n + 1) X.A) (hg : gb = true → X.A.guards = some []) (tk : Takes X W) (hm : X.mg r.x = some (.ref (CA.fa k))) (h : tab[k]? = some r) (hc : r.cl = none := by rfl) : FnV X ca W (run G T n) r.np k := by
  obtain ⟨f, fd, F, pl, b, _⟩ := L k r h
  unfold Place at pl
  rw [hc] at pl
  obtain ⟨m, kp⟩ := pl
  rw [hm] at m
  cases m
  exact ⟨gb, fd, 2 * n, r.ps, F, hr.mono (Nat.le_succ _), hg, kp, b, fun σ => passAt tk σ⟩
theorem g_vcall {ks : List Nat} (C : ∀ k ∈ ks, FnV X ca W Fn np k) (hN : X.N[i]? = some x) (hv : Vis X.env.scope x) (ha : GV X ca W G Fn es' (e :: es)) (hdb : (x == ("__debug__" : Str)) = false := by decide) (hcd : (x == ("__classdict__" : Str)) = false := by decide)
    (he : starEach (e :: es) X.env = (false, eval e X.env) :: starEach es X.env := by rfl) (hpl : (backTo pos (starEach es X.env)).any (·.1) = false := by rfl) (hl : es'.length = np := by rfl) : GE X ca W G Fn (.vcall i ks es') (.Call (.Name x p) (e :: es) [] pos) := by
  refine ⟨fun pins s σ H Q I h => ?_⟩
  obtain ⟨F, ι, S, ρ, own, st, en, h⟩ := h
  rw [evE_vcall] at h
  split at h
  · rename_i k hk
    have hk2 : look ρ i = some (.fn k) ∧ k ∈ ks := by
      unfold vcK at hk
      split at hk
      · rename_i k' e1
        split at hk
        · rename_i hin
          cases hk
          exact ⟨e1, hin⟩
        · cases hk
      · cases hk
    obtain ⟨hlk, hin⟩ := hk2
    have hsl : ρ[i]? = some (.v (.fn k)) := by
      unfold look at hlk
      split at hlk
      · rename_i d hd
        cases hlk
        exact hd
      · cases hlk
    obtain ⟨v, hv1, hv2⟩ := en.slot i _ hsl
    obtain rfl := rep_fn.mp hv2
    obtain ⟨gb, fd, j, ps, FF, hr, hgd, kp, hb, hx⟩ := (C k hin).c
    have ht : tG ca X.K W (RVs X.K) (evEs G Fn es') σ H fun vs H1 => spG ca X.K np (Fn k) vs H1 Q (WE W σ) := by
      refine tG_ex st en ?_
      have hlen := fun ds S' => evEs_len (G := G) (Fn := Fn) (ρ := ρ) (es' := es') (S := S) (ds := ds) (S' := S')
      revert h hlen
      cases evEs G Fn es' ρ S with
      | bad => exact fun h _ => h
      | exc x S1 => exact fun h _ => h
      | ok ds S1 =>
        intro h hlen vs F1 H1 ι1 s1 st1 r1
        have h : PostG ca X.K W σ F H ι (RV X.K) Q (Fn k ds S1) := h
        exact ⟨by rw [Reps.len r1, hlen ds S1 rfl, hl], F1, ι1, S1, ds, st1, r1, (h.mono s1).at_⟩
    refine wpAny_Call_Name_kw (thn ((pe_var (pos := p) hN hv hdb hcd).run pins s σ H (fun v H1 => v = .ref (CA.fa k) ∧ H1 = H) I ⟨.ref (CA.fa k), hv1, rfl, rfl⟩) fun u s1 ⟨v, H1, I1, r1, q1⟩ => ?_)
    obtain ⟨rfl, rfl⟩ := q1
    cases r1
    refine PySem.W.callWith_K (h₀ := X.base) I.ok.mod.kin kp (thn (ha.run pos pins s1 σ _ _ I1 ht) fun us s2 ⟨vs, H2, I2, r, q⟩ => ⟨I2.kIn, ?_⟩) he hpl
    have hl2 : us.length = ps.length := by rw [← r.length]; exact FF.len _ _ _ _ q
    have bb := hb s2 us I2.kIn (by rw [List.append_nil]; exact hl2)
    rw [List.append_nil] at bb
    exact run_fnG (args := ⟨us, []⟩) FF hr hgd bb (hx σ) I2 r q
  · exact h.elim
end
theorem place_fn {K : PySem.W.Frag} {mg : Str → Option Value} {f : Addr} {r : Row} (hc : r.cl = none) (m : mg r.x = some (.ref f)) (k : PySem.W.keepIn K (.ref f) = true) : Place K mg f r := by
  unfold Place
  rw [hc]
  exact ⟨m, k⟩
theorem place_m {K : PySem.W.Frag} {mg : Str → Option Value} {f : Addr} {r : Row} {c : Nat} (hc : r.cl = some c) (m : Meth K (CA.cl c) r.x f) : Place K mg f r := by
  unfold Place
  rw [hc]
  exact m
abbrev caI (cs : List Addr) (fs : List (Nat × Addr)) : CA := ⟨caL cs, fun k => (fs.lookup k).getD 0⟩
/-! ### the statement of a class's method -/
def inCls (st : Stmt) (j : Nat) : Stmt := match st with
  | .ClassDef _ _ _ b _ _ _ _ _ _ _ => b.getD j (.Pass ⟨0, 0, 0, 0⟩)
  | _ => .Pass ⟨0, 0, 0, 0⟩
end EC

namespace EC
open PySem PySem.Spec PyProof.Rows L2
variable [CA]
/-! ### x, y, z = [..], b, c: the first a list of one's own -/
theorem RFr.mono {K : PySem.W.Frag} {H0 F H F' H' : Hp} {ι ι' : List Addr} {d : D} {v : V} (s : Stp F H ι F' H' ι') (r : RFr K H0 F H ι d v) : RFr K H0 F' H' ι' d v := by
  obtain ⟨xs, a, vs, e1, e2, h0, h1, h2, h3, h4⟩ := r
  refine ⟨xs, a, vs, e1, e2, h0, ?_, fun z => ?_, s.keep a _ h3 h2, dqAll_mono s.fr _ _ h4⟩
  · cases q : F' a with
    | none => rfl
    | some u =>
      have := s.frz a h1 (by rw [q]; exact fun z => nomatch z)
      rw [h3] at this
      cases this
  · rcases s.new a z with y | y
    · exact h2 y
    · rw [h3] at y; cases y
section
variable {X : Cx} {ca : Nat → Addr} {W : WX} {G : Nat → D} {Fn : Nat → List D → Store → Out D} {a b c : Expr} {a' b' c' : E} {pos : Pos} {F0 H0 : Hp} {ι0 : List Addr}
theorem gs_par3O {i j l : Nat} {x y z : Str} {px py pz pt : Pos} {kt k2 pt2} (hc : X.calm = true) (hN : X.N.Nodup) (hi : X.N[i]? = some x) (hj : X.N[j]? = some y) (hl : X.N[l]? = some z) (hij : i ≠ j) (hil : i ≠ l) (hjl : j ≠ l)
    (hx : X.env.scope.names.lookup x = some .local) (hy : X.env.scope.names.lookup y = some .local) (hz : X.env.scope.names.lookup z = some .local) (ha : GF X ca W G Fn a' a) (hb : GE X ca W G Fn b' b) (hcc : GE X ca W G Fn c' c)
    (hw : swappedStores [.Tuple [.Name x px, .Name y py, .Name z pz] kt pt] (.Tuple [a, b, c] k2 pt2) X.env = pure (some [x, y, z]))
    (hs : swapsWithSole [.Tuple [.Name x px, .Name y py, .Name z pz] kt pt] (.Tuple [a, b, c] k2 pt2) pos.line X.env = pure false := by rfl) (he1 : starEach [a, b, c] X.env = (false, eval a X.env) :: starEach [b, c] X.env := by rfl) (he2 : starEach [b, c] X.env = (false, eval b X.env) :: starEach [c] X.env := by rfl) (he3 : starEach [c] X.env = [(false, eval c X.env)] := by rfl) :
    GS X ca W F0 H0 ι0 G Fn (.par3O i j l a' b' c') (.Assign [.Tuple [.Name x px, .Name y py, .Name z pz] kt pt] (.Tuple [a, b, c] k2 pt2) pos) := by
  refine PS.weaken (ps_par3 hc hN hi hj hl hij hil hjl hx hy hz (pa_cons ha (pa_cons hb (pa_cons hcc pa_nil he3) he2) he1) hw hs) fun D σ H ⟨F, ι, S, ρ, own, st, en, et, h⟩ => ?_
  rw [evS_par3O] at h
  refine tG_ex st en (h.bindE et fun d1 S1 v1 F1 H1 ι1 s1 st1 r1 et1 h1 => ?_)
  rw [kPar3a_eq] at h1
  refine tG_ex st1 (en.mono s1) (h1.bindE et1 fun d2 S2 v2 F2 H2 ι2 s2 st2 r2 et2 h2 => ?_)
  rw [kPar3b_eq] at h2
  refine tG_ex st2 ((en.mono s1).mono s2) (h2.bindE et2 fun d3 S3 v3 F3 H3 ι3 s3 st3 r3 et3 h3 => ?_)
  refine ⟨v1, v2, v3, rfl, ?_⟩
  cases d2 with
  | p y =>
    cases d3 with
    | p z =>
      rw [kPar3c_eq] at h3
      have q2 := dq_mono s3.fr _ _ (rep_p.mp r2)
      have q3 := rep_p.mp r3
      have r1' := RFr.mono (s2.trans s3) r1
      refine own_end (ca := ca) (W := W) (D := { nx := fun σ' H' => D.nx ((σ'.set j (some v2)).set l (some v3)) H', ct := D.ct, bk := D.bk, rt := D.rt }) en (s1.trans (s2.trans s3)) st3 et3 et r1' ?_
      revert h3
      cases kOwn i ρ d1 S3 with
      | bad => exact fun h => h
      | exc x S4 => exact fun h => h
      | ok f S4 =>
        cases f with
        | nx ρ' =>
          intro h3 σ' F4 H4 ι4 own4 sm st4 en4 et4
          have h3 : PostS ca X.K W F0 H0 ι0 F3 D (.ok (.nx ((ρ'.set j (.v (.p y))).set l (.v (.p z)))) S4) := h3
          exact h3 _ F4 H4 ι4 own4 sm st4 ((en4.set (rep_p.mpr (dq_mono sm _ _ q2))).set (rep_p.mpr (dq_mono sm _ _ q3))) et4
        | _ => exact fun h => h.elim
    | _ => exact h3.elim
  | _ => exact h3.elim
end
/-! ### max, min of a list -/
section
variable {X : Cx} {ca : Nat → Addr} {W : WX} {G : Nat → D} {Fn : Nat → List D → Store → Out D}
theorem foldl_max : ∀ (ns : List Int) (n : Int), (ns.foldl max n ∈ n :: ns) ∧ ∀ y ∈ n :: ns, y ≤ ns.foldl max n
  | [], n => ⟨by simp, by simp⟩
  | m :: ns, n => by
    obtain ⟨h1, h2⟩ := foldl_max ns (max n m)
    rw [List.foldl_cons]
    refine ⟨?_, fun y hy => ?_⟩
    · rcases List.mem_cons.mp h1 with e | e
      · rw [e]
        rcases Int.le_total n m with q | q
        · rw [Int.max_eq_right q]; simp
        · rw [Int.max_eq_left q]; simp
      · simp [e]
    · have := h2 (max n m) List.mem_cons_self
      rcases List.mem_cons.mp hy with rfl | hy
      · omega
      · rcases List.mem_cons.mp hy with rfl | hy
        · omega
        · exact h2 y (List.mem_cons_of_mem _ hy)
theorem o_maxL (hc : X.calm = true) : CallR X (.builtin "max") (rP X.K .maxL) := by
  intro pins s σ H xs us Q I r h
  obtain ⟨F, ι, S, ds, d, st, ra, hp, q⟩ := h
  rw [prim_maxL] at hp
  unfold p_maxL at hp
  split at hp
  · obtain ⟨v, w, rfl, r1, r2⟩ := repAs_cons ra
    obtain rfl := repAs_nil r2
    obtain ⟨p, vs, rfl, h1, h2⟩ := repA_list st r1
    split at hp
    · rename_i n ns e1
      cases hp
      rw [ints_V e1 h2] at h1
      refine cr_max hc pins s σ H _ us Q I r ⟨p, n :: ns, rfl, h1, by simp, fun m hm hy => ?_⟩
      obtain ⟨g1, g2⟩ := foldl_max ns n
      have e : m = ns.foldl max n := Int.le_antisymm (g2 m hm) (hy _ g1)
      rw [e]
      exact i2 st q rfl
    · cases hp
  · cases hp
end
end EC

/-! t[::-1], t a tuple -/
namespace HT
open PySem PyProof.Rows
section
variable {prog : Program} {w : World} {A : Around} {E : Value → Shared → Prop} {s : Shared}
theorem adjust_rev (n : Nat) : Builtin.Slice.sliceAdjust none none (-1) (n : Int) = ((n : Int) - 1, -1) := by
  unfold Builtin.Slice.sliceAdjust
  rfl
theorem places_rev (n : Nat) : Builtin.Slice.slicePlaces ((n : Int) - 1) (-1) (-1) = n := by
  unfold Builtin.Slice.slicePlaces
  have h1 : ¬ ((-1 : Int) > 0) := by omega
  rw [if_neg h1]
  by_cases h : (n : Int) - 1 > -1
  · rw [if_pos h, show (- -1 : Int) = 1 by decide, Int.ediv_one]
    omega
  · rw [if_neg h]
    omega
theorem sliceApplied_rev {sl : Addr} {vl vu vs : Value} {n : Nat} {Q : Int × Int × Nat → Shared → Prop} (hs : s.heap.IsSliceOf sl vl vu vs) (pl : IsPart vl none) (pu : IsPart vu none) (ps : IsPart vs (some (-1)))
    (h : Q ((n : Int) - 1, -1, n) s) : wpAny (model prog w) A (Builtin.Slice.sliceApplied (.ref sl) (pure (n : Int))) Q E s := by
  obtain ⟨os, hos, hcs, hds⟩ := id hs
  unfold Builtin.Slice.sliceApplied Builtin.Slice.sliceFields
  refine wpAny_bind (wpAny_bind (wpAny_field hos hds (x := vl) rfl (wpAny_bind (wpAny_field hos hds (x := vu) rfl (wpAny_bind (wpAny_field hos hds (x := vs) rfl (wpAny_pure ?_)))))))
  refine wpAny_bind (slicePart_ ps ?_)
  show wpAny _ _ (if ((-1 : Int) == 0) = true then _ else _) _ _ s
  rw [if_neg (by decide)]
  refine wpAny_bind (slicePart_ pl (wpAny_bind (slicePart_ pu (wpAny_bind (wpAny_pure ?_)))))
  show wpAny _ _ (match Builtin.Slice.sliceAdjust none none (-1) (n : Int) with | (lo, hi) => pure (lo, (-1 : Int), Builtin.Slice.slicePlaces lo hi (-1))) _ _ s
  rw [adjust_rev n]
  show wpAny _ _ (pure ((n : Int) - 1, (-1 : Int), Builtin.Slice.slicePlaces ((n : Int) - 1) (-1) (-1))) _ _ s
  rw [places_rev]
  exact wpAny_pure h
theorem fm_congr {α β : Type} {f g : α → Option β} : ∀ {l : List α}, (∀ x ∈ l, f x = g x) → l.filterMap f = l.filterMap g
  | [], _ => rfl
  | x :: l, h => by
    rw [List.filterMap_cons, List.filterMap_cons, h x (List.mem_cons_self ..), fm_congr fun y hy => h y (List.mem_cons_of_mem _ hy)]
theorem pick_rev (xs : Array Value) : ((List.range xs.size).filterMap fun (m : Nat) => xs[(((xs.size : Int) - 1) + (m : Int) * (-1)).toNat]?).toArray = xs.toList.reverse.toArray := by
  have e : (List.range xs.size).filterMap (fun (m : Nat) => xs[(((xs.size : Int) - 1) + (m : Int) * (-1)).toNat]?) = ((List.range xs.size).map fun k => xs.size - 1 - k).filterMap (xs[·]?) := by
    rw [List.filterMap_map]
    apply fm_congr
    intro m hm
    have hm := List.mem_range.mp hm
    have e : (((xs.size : Int) - 1) + (m : Int) * (-1)).toNat = xs.size - 1 - m := by omega
    show xs[(((xs.size : Int) - 1) + (m : Int) * (-1)).toNat]? = xs[xs.size - 1 - m]?
    rw [e]
  rw [e, PySem.W.krv_range, List.filterMap_reverse, PySem.W.krv_all]
theorem getItem_tuple_rev {t sl : Addr} {items : Array Value} {vl vu vs : Value} {Q : Value → Shared → Prop} (ht : IsTup s.heap t items) (hs : s.heap.IsSliceOf sl vl vu vs) (pl : IsPart vl none) (pu : IsPart vu none) (ps : IsPart vs (some (-1)))
    (h : Q (.ref s.heap.objs.size) { s with heap := s.heap.push { cls := .type "tuple", data := .seq items.toList.reverse.toArray } })
    (hsz : items.size ≤ sizeLine) : wpAny (model prog w) A (getItem (.ref t) (.ref sl)) Q E s := by
  have htake : sizeOk (.seq items.toList.reverse.toArray) := by
    show items.toList.reverse.toArray.size ≤ sizeLine
    rw [List.size_toArray, List.length_reverse, Array.length_toList]
    omega
  obtain ⟨os, hos, hcs, hds⟩ := id hs
  have hTs : s.TypeIs (.ref sl) "slice" := ⟨os, hos, hcs⟩
  unfold getItem
  try with_reducible refine wpAny_holding ?_
  first | refine wpAny_bind (wpAny_pure ?_) | skip
  refine wpAny_bind (wpAny_sequenceKey ht.typeIs (by decide) ?_)
  refine wpAny_bind (wpAny_callSpecial?_slot (name := Str.ofString "__getitem__") ht.typeIs PyProof.Rows.slot_tuple_getitem
    (wpAny_call_entry PyProof.Rows.slot_tuple_getitem ht.typeIs entry_tuple_getitem ?_ (args_tuple_getitem _ _)))
  show wpAny _ _ (Builtin.Tuple.tupleItemsOf (.ref t) >>= _) _ _ s
  refine wpAny_bind (tupleItemsOf_ ht ?_)
  refine wpAny_bind (wpAny_typeOf hTs ?_)
  rw [if_pos (by decide)]
  refine wpAny_bind (sliceApplied_rev hs pl pu ps ?_)
  have hno : ¬ ((((items.size : Int) - 1) == 0 && (-1 : Int) == 1 && items.size == items.size) = true) := by
    intro q
    rw [Bool.and_eq_true, Bool.and_eq_true] at q
    exact absurd (eq_of_beq q.1.2) (by decide)
  show wpAny _ _ (if (((items.size : Int) - 1) == 0 && (-1 : Int) == 1 && items.size == items.size) = true then _ else _) _ _ s
  rw [if_neg hno, pick_rev]
  first
    | exact wpAny_bind (m := Builtin.Tuple.tupleExact _) (wpAny_newObj_type (wpAny_pure ⟨_, rfl, wpAny_pure h⟩) htake)
    | exact wpAny_bind (m := Builtin.Tuple.tupleExact _) (wpAny_newObj_type (wpAny_bind (wpAny_pure (wpAny_pure ⟨_, rfl, wpAny_pure h⟩))) htake)
    | exact wpAny_bind (wpAny_bind (m := Builtin.Tuple.tupleExact _) (wpAny_newObj_type (wpAny_pure (wpAny_pure ⟨_, rfl, wpAny_pure h⟩)) htake))
    | exact wpAny_bind (wpAny_bind (m := Builtin.Tuple.tupleExact _) (wpAny_newObj_type (wpAny_pure ⟨_, rfl, wpAny_pure h⟩) htake))
end
end HT
namespace L2
open PySem PySem.Spec PyProof.Rows
section
variable {X : Cx}
def tRevT (K : PySem.W.Frag) (te : TE) : TE := fun σ H Q => te σ H fun x H1 => ∃ a xs, x = .ref a ∧ SqT K H1 a xs ∧ ∀ p, H1 p = none → Q (.ref p) (upd H1 p (.tup xs.reverse))
theorem pe_revT {e : Expr} {te : TE} {k : Nat} {p1 p2 p3 pos : Pos} (he : PE X e te) : PE X (.Subscript e (.Slice none none (some (.UnaryOp .USub (.Constant (.int 1) k p1) p2)) p3) pos) (tRevT X.K te) := by
  refine ⟨fun pins s σ H Q I h => ?_⟩
  refine Subscript_ (thn (he.run pins s σ H _ I h) fun v s1 ⟨x, H1, I1, r1, q1⟩ => ?_)
  obtain ⟨a, xs, ex, hx, q⟩ := q1
  subst ex
  cases r1
  have hst : PO X (some (.UnaryOp .USub (.Constant (.int 1) k p1) p2)) (tPart (tUn (rU fun i => .int (-i)) (tC (.int 1)))) := po_some (pe_un un_neg pe_int)
  refine wpAny_Slice (thn (po_none.run pins s1 σ H1 (fun o H2 => o = none ∧ H2 = H1) I1 ⟨rfl, rfl⟩) fun vl s2 ⟨l, H2, I2, pl, el, e2⟩ => ?_)
  subst el e2
  refine thn (po_none.run pins s2 σ H2 (fun o H3 => o = none ∧ H3 = H2) I2 ⟨rfl, rfl⟩) fun vu s3 ⟨u, H3, I3, pu, eu, e3⟩ => ?_
  subst eu e3
  refine thn (hst.run pins s3 σ H3 (fun o H4 => o = some (-1) ∧ H4 = H3) I3 ⟨1, rfl, -1, rfl, rfl, rfl⟩) fun vs s4 ⟨o, H4, I4, ps, eo, e4⟩ => ?_
  subst eo e4
  have I5 : Inv X pins σ H4 { s4 with heap := s4.heap.push { cls := .type "slice", data := .fields #[vl, vu, vs] } } := I4.kept (t' := s4.toks) fun b ob q => Heap.get?_push_of_some _ q
  obtain ⟨its, r, ht, hz⟩ := I5.tuple hx
  have hlen : its.toArray.size = xs.length := by rw [List.size_toArray]; exact r.length.symm
  show wpAny (model X.prog X.w) X.A (subscriptTail e (.Slice none none (some (.UnaryOp .USub (.Constant (.int 1) k p1) p2)) p3) (.ref a) (.ref s4.heap.objs.size)) (EP X pins σ Q) X.xe { s4 with heap := s4.heap.push { cls := .type "slice", data := .fields #[vl, vu, vs] } }
  refine tail_any (ops := [.ref a, .ref s4.heap.objs.size]) ht.typeIs (PyProof.Rows.slot_tuple_getitem.lookup) ?_ (by with_unfolding_all rfl)
  refine HT.getItem_tuple_rev ht (Heap.IsSliceOf.new _ vl vu vs) pl pu ps ?_ (by rw [hlen]; exact hz)
  refine ⟨.ref _, _, I5.laid (t' := s4.toks) (o := .tup xs.reverse) (fun b ob q => Heap.get?_push_of_some _ q) (Nat.le_refl _) ?_, rfl, q _ (I5.hok.fresh (Nat.le_refl _))⟩
  exact ⟨by rw [List.length_reverse]; exact hz, _, r.reverse, IsTup.new _ _⟩
end
end L2

namespace EC
open PySem PySem.Spec PyProof.Rows L2
variable [CA]
/-! ### t[::-1] -/
section
variable {X : Cx} {ca : Nat → Addr} {W : WX} {G : Nat → D} {Fn : Nat → List D → Store → Out D} {a : Expr} {a' : E} {k : Nat} {p1 p2 p3 pos : Pos}
theorem g_revs (ha : GA X ca W G Fn a' a) : GE X ca W G Fn (.pr .revs [a']) (.Subscript a (.Slice none none (some (.UnaryOp .USub (.Constant (.int 1) k p1) p2)) p3) pos) := by
  refine PE.weaken (pe_revT ha) fun σ H Q ⟨F, ι, S, ρ, own, st, en, h⟩ => ?_
  obtain ⟨F, ι, S, ρ, own, st, en, h⟩ := one_end h st en
  refine ⟨F, ι, S, ρ, own, st, en, h.wish ?_⟩
  intro x H1 ⟨F, ι, S, ds, d, st, ra, hp, q⟩
  rw [prim_revs] at hp
  unfold p_revs at hp
  split at hp
  · cases hp
    obtain ⟨v, w, e1, r1, r2⟩ := repAs_cons ra
    obtain rfl := repAs_nil r2
    cases e1
    obtain ⟨b, vs, rfl, h1, g1, h2⟩ := repA_tuple st r1
    exact ⟨b, vs, rfl, h1, fun t ht => fin_tup st q (dqAll_rev h2) ht⟩
  · cases hp
end
end EC

namespace EC
open PySem PySem.Spec PyProof.Rows L2
variable [CA]
/-! ### x, y, z = a, b, c: three plain values -/
theorem asg3 {i j l : Nat} {ρ ρ' : EC.Env} {d1 d2 d3 : D} {S : Store} : (kEf .mkt [d1, d2, d3] S).bind (kAsg (.tup [.nm i, .nm j, .nm l]) ρ) = nxO S (bindTs [.nm i, .nm j, .nm l] [d1, d2, d3] ρ) := by
  have hf : fitsL [d1, d2, d3].length = true := by show fitsL 3 = true; decide
  rw [kEf_eq, mutl_mkt, p_mkt_0, if_pos hf]
  have hh : ∀ d : D, (∃ x, d = .p x) ∨ pures [d] = none ∧ ∀ r, pures (d :: r) = none := by
    intro d
    cases d with
    | p x => exact .inl ⟨x, rfl⟩
    | _ => exact .inr ⟨rfl, fun _ => rfl⟩
  have tp : ∀ ds : List D, (Out.of (some (D.tup ds)) S).bind (kAsg (.tup [.nm i, .nm j, .nm l]) ρ) = nxO S (bindTs [.nm i, .nm j, .nm l] ds ρ) := by
    intro ds
    show nxO S (bindT (.tup [.nm i, .nm j, .nm l]) (.tup ds) ρ) = _
    rw [bindT]
  have pp : ∀ xs : List PyData, (Out.of (some (D.p (.tuple xs))) S).bind (kAsg (.tup [.nm i, .nm j, .nm l]) ρ) = nxO S (bindTs [.nm i, .nm j, .nm l] (xs.map .p) ρ) := by
    intro xs
    show nxO S (bindT (.tup [.nm i, .nm j, .nm l]) (.p (.tuple xs)) ρ) = _
    rw [bindT]
  rcases hh d1 with ⟨x1, rfl⟩ | ⟨_, h1⟩
  · rcases hh d2 with ⟨x2, rfl⟩ | ⟨_, h2⟩
    · rcases hh d3 with ⟨x3, rfl⟩ | ⟨_, h3⟩
      · exact pp [x1, x2, x3]
      · rw [pures_cons, pures_cons, h3]; exact tp _
    · rw [pures_cons, h2]; exact tp _
  · rw [h1]; exact tp _
theorem bindTs3 {i j l : Nat} {ρ ρ' : EC.Env} {d1 d2 d3 : D} (h : bindTs [.nm i, .nm j, .nm l] [d1, d2, d3] ρ = some ρ') : ρ' = ((ρ.set i (.v d1)).set j (.v d2)).set l (.v d3) := by
  have b1 : ∀ {k : Nat} {d : D} {ρ1 ρ2 : EC.Env}, bindT (.nm k) d ρ1 = some ρ2 → ρ2 = ρ1.set k (.v d) := by
    intro k d ρ1 ρ2 e
    unfold bindT at e
    split at e
    · cases e; rfl
    · cases e
  obtain ⟨_, _, ρ1, e1, f1, h⟩ := bindTs_cons h
  obtain ⟨_, _, ρ2, e2, f2, h⟩ := bindTs_cons h
  obtain ⟨_, _, ρ3, e3, f3, h⟩ := bindTs_cons h
  obtain ⟨_, rfl⟩ := bindTs_nil h
  cases e1; cases e2; cases e3
  rw [b1 f3, b1 f2, b1 f1]
section
variable {X : Cx} {ca : Nat → Addr} {W : WX} {G : Nat → D} {Fn : Nat → List D → Store → Out D} {a b c : Expr} {a' b' c' : E} {pos : Pos} {F0 H0 : Hp} {ι0 : List Addr}
theorem gs_swap3 {i j l : Nat} {x y z : Str} {px py pz pt : Pos} {kt k2 pt2} (hc : X.calm = true) (hN : X.N.Nodup) (hi : X.N[i]? = some x) (hj : X.N[j]? = some y) (hl : X.N[l]? = some z) (hij : i ≠ j) (hil : i ≠ l) (hjl : j ≠ l)
    (hx : X.env.scope.names.lookup x = some .local) (hy : X.env.scope.names.lookup y = some .local) (hz : X.env.scope.names.lookup z = some .local) (ha : GE X ca W G Fn a' a) (hb : GE X ca W G Fn b' b) (hcc : GE X ca W G Fn c' c)
    (hw : swappedStores [.Tuple [.Name x px, .Name y py, .Name z pz] kt pt] (.Tuple [a, b, c] k2 pt2) X.env = pure (some [x, y, z]))
    (hs : swapsWithSole [.Tuple [.Name x px, .Name y py, .Name z pz] kt pt] (.Tuple [a, b, c] k2 pt2) pos.line X.env = pure false := by rfl) (he1 : starEach [a, b, c] X.env = (false, eval a X.env) :: starEach [b, c] X.env := by rfl) (he2 : starEach [b, c] X.env = (false, eval b X.env) :: starEach [c] X.env := by rfl) (he3 : starEach [c] X.env = [(false, eval c X.env)] := by rfl) :
    GS X ca W F0 H0 ι0 G Fn (.asg (.tup [.nm i, .nm j, .nm l]) (.ef .mkt [a', b', c'])) (.Assign [.Tuple [.Name x px, .Name y py, .Name z pz] kt pt] (.Tuple [a, b, c] k2 pt2) pos) := by
  refine PS.weaken (ps_par3 hc hN hi hj hl hij hil hjl hx hy hz (pa_cons ha (pa_cons hb (pa_cons hcc pa_nil he3) he2) he1) hw hs) fun D σ H ⟨F, ι, S, ρ, own, st, en, et, h⟩ => ?_
  rw [evS_asg, evE_ef, evEs_cons, bind_assoc, bind_assoc] at h
  refine tG_ex st en (h.bindE et fun d1 S1 v1 F1 H1 ι1 s1 st1 r1 et1 h1 => ?_)
  rw [kEs_eq, evEs_cons, bind_assoc, bind_assoc] at h1
  refine tG_ex st1 (en.mono s1) (h1.bindE et1 fun d2 S2 v2 F2 H2 ι2 s2 st2 r2 et2 h2 => ?_)
  rw [kEs_eq, evEs_cons, bind_assoc, bind_assoc] at h2
  refine tG_ex st2 ((en.mono s1).mono s2) (h2.bindE et2 fun d3 S3 v3 F3 H3 ι3 s3 st3 r3 et3 h3 => ?_)
  rw [kEs_eq, evEs_nil] at h3
  have h3 : PostS ca X.K W F0 H0 ι0 F3 D ((kEf .mkt [d1, d2, d3] S3).bind (kAsg (.tup [.nm i, .nm j, .nm l]) ρ)) := h3
  rw [asg3 (ρ' := ρ)] at h3
  cases q : bindTs [.nm i, .nm j, .nm l] [d1, d2, d3] ρ with
  | none => rw [q] at h3; exact h3.elim
  | some ρ' =>
    rw [q] at h3
    have e := bindTs3 q
    subst e
    exact ⟨v1, v2, v3, rfl, h3 _ F3 H3 ι3 own (Same.refl F3) st3 ((((((en.mono s1).mono s2).mono s3).set (Rep.mono (s2.trans s3) _ _ r1)).set (Rep.mono s3 _ _ r2)).set r3) et3⟩
end
end EC

namespace EC
open PySem PySem.Spec PyProof.Rows L2
variable [CA]
/-! ### list + list: a new list -/
section
variable {X : Cx} {ca : Nat → Addr} {W : WX} {G : Nat → D} {Fn : Nat → List D → Store → Out D} {a b : Expr} {a' b' : E} {pos : Pos} {F0 H0 : Hp} {ι0 : List Addr}
def rCatF (X : Cx) : R2 := fun x y H Q => ∃ F ι S xs ys, Sto X.K F H ι S ∧ RepA X.K F H ι (.p (.list xs)) x ∧ RepA X.K F H ι (.p (.list ys)) y ∧ fitsL (xs.length + ys.length) = true ∧ ∀ v F' H' ι', Stp F H ι F' H' ι' → Sto X.K F' H' ι' S → RFr X.K H F' H' ι' (.p (.list (xs ++ ys))) v → Q v H'
theorem o_catF : OpR X (binaryOp .Add) (rCatF X) := by
  intro pins s σ H x y v u Q I rx ry h
  obtain ⟨F, ι, S, xs, ys, st, r1, r2, hz, q⟩ := h
  obtain ⟨p1, vs1, rfl, h1, q1⟩ := repA_list st r1
  obtain ⟨p2, vs2, rfl, h2, q2⟩ := repA_list st r2
  cases rx
  cases ry
  exact cat_rd I h1 h2 (by rw [q1.len, q2.len]; exact fits_le hz) fun p hp => q _ F _ ι (Stp.refl.ow hp _) (st.ow (st.fnone hp) (st.not_in hp) _) ⟨xs ++ ys, p, vs1 ++ vs2, rfl, rfl, hp, st.fnone hp, st.not_in hp, upd_same, q1.append q2⟩
theorem gf_cat (ha : GA X ca W G Fn a' a) (hb : GA X ca W G Fn b' b) : GF X ca W G Fn (.pr .cat [a', b']) (.BinOp a .Add b pos) := by
  refine PE.weaken (pe_op o_catF ha hb) fun σ H Q ⟨F, ι, S, ρ, own, st, en, h⟩ => ?_
  rw [evE_pr, evA_one, bind_assoc] at h
  refine ⟨F, ι, S, ρ, own, st, en, h.bind_ fun d S1 v F1 H1 ι1 s1 st1 r1 h1 => ?_⟩
  have h1 : PostG ca X.K W σ F1 H1 ι1 (RFr X.K H) Q (((evA G Fn [b'] ρ S1).bind (kCons d)).bind (kPr .cat)) := h1
  rw [evA_one, bind_assoc, bind_assoc] at h1
  refine ⟨F1, ι1, S1, ρ, own, st1, en.mono s1, h1.bind_ fun d2 S2 v2 F2 H2 ι2 s2 st2 r2 h2 => ?_⟩
  have h2 : PostG ca X.K W σ F2 H2 ι2 (RFr X.K H) Q ((((evA G Fn [] ρ S2).bind (kCons d2)).bind (kCons d)).bind (kPr .cat)) := h2
  rw [evA] at h2
  have h2 : PostG ca X.K W σ F2 H2 ι2 (RFr X.K H) Q (Out.of (p_cat [d, d2]) S2) := h2
  obtain ⟨d', e, h3⟩ := PostG.of h2
  unfold p_cat at e
  split at e
  · rename_i xs ys e2
    cases e2
    split at e
    · rename_i hz
      cases e
      refine ⟨F2, ι2, S2, xs, ys, st2, r1.mono s2, r2, hz, fun v F' H' ι' s' st' r' => h3 v F' H' ι' s' st' ?_⟩
      obtain ⟨xs, a, vs, e1, e2, h0, h1, h2, h3, h4⟩ := r'
      exact ⟨xs, a, vs, e1, e2, s1.back (s2.back h0), h1, h2, h3, h4⟩
    · cases e
  · cases e
/-! ### a, b = x, [..] by way of a tuple (a name that a comprehension looks at): the second one a list of one's own -/
theorem gs_parC {i j : Nat} {x y : Str} {px py pt : Pos} {kt k2 pt2} (hc : X.calm = true) (hN : X.N.Nodup) (hi : X.N[i]? = some x) (hj : X.N[j]? = some y)
    (hx : Loc X.env.scope x) (hy : Loc X.env.scope y) (ha : GE X ca W G Fn a' a) (hb : GF X ca W G Fn b' b)
    (hw : swappedStores [.Tuple [.Name x px, .Name y py] kt pt] (.Tuple [a, b] k2 pt2) X.env = pure none)
    (hfx : X.fn x = true ∨ X.env.scope.names.lookup x = some .local := by first | exact .inl rfl | exact .inr rfl) (hfy : X.fn y = true ∨ X.env.scope.names.lookup y = some .local := by first | exact .inl rfl | exact .inr rfl)
    (hs : swapsWithSole [.Tuple [.Name x px, .Name y py] kt pt] (.Tuple [a, b] k2 pt2) pos.line X.env = pure false := by rfl)
    (h1 : (assignEach [.Tuple [.Name x px, .Name y py] kt pt] X.env).map (·.2) = [assign (.Tuple [.Name x px, .Name y py] kt pt) X.env] := by rfl)
    (he1 : starEach [a, b] X.env = (false, eval a X.env) :: starEach [b] X.env := by rfl) (he2 : starEach [b] X.env = [(false, eval b X.env)] := by rfl)
    (hg1 : (assignEach [.Name x px, .Name y py] X.env).map (·.2) = assign (.Name x px) X.env :: (assignEach [.Name y py] X.env).map (·.2) := by rfl) (hg2 : (assignEach [.Name y py] X.env).map (·.2) = assign (.Name y py) X.env :: (assignEach [] X.env).map (·.2) := by rfl)
    (hn : (assignEach [.Name x px, .Name y py] X.env).length = 2 := by rfl) (hst : (assignEach [.Name x px, .Name y py] X.env).findIdx? (·.1) = none := by rfl) :
    GS X ca W F0 H0 ι0 G Fn (.parO i j a' b') (.Assign [.Tuple [.Name x px, .Name y py] kt pt] (.Tuple [a, b] k2 pt2) pos) := by
  refine PS.weaken (ps_asg (pe_tup (pa_cons ha (pa_cons hb pa_nil he2) he1)) (pg_tup hc (pgs_cons (pg_name hN hi hx hfx) (pgs_cons (pg_name hN hj hy hfy) pgs_nil hg2) hg1) hn hst) hs hw h1) fun D σ H ⟨F, ι, S, ρ, own, st, en, et, h⟩ => ?_
  rw [evS_parO] at h
  refine tG_ex st en (h.bindE et fun d S1 v F1 H1 ι1 s1 st1 r1 et1 h1 => ?_)
  rw [kParO_eq] at h1
  refine tG_ex st1 (en.mono s1) (h1.bindE et1 fun d2 S2 v2 F2 H2 ι2 s2 st2 r2 et2 h2 => ?_)
  rw [kParO2_eq] at h2
  split at h2
  · refine ⟨by show 2 ≤ sizeLine; decide, fun p hp => ?_⟩
    have sl := Stp.laid st2 hp (.tup [v, v2])
    exact ⟨p, [v, v2], rfl, .inl rd_upd, rfl, v, [v2], rfl, v2, [], rfl, rfl, own_end (i := j) ((en.mono s1).set r1) (s2.trans sl) (st2.laid hp _) ⟨et2.st.trans sl, et2.ow⟩ et1 (RFr.mono sl r2) (h2.mono sl.fr)⟩
  · exact h2.elim
end
end EC

namespace EC
open PySem PySem.Spec PyProof.Rows L2
variable [CA]
/-! ### a, b, .. = x, y, ..: any of them a list of one's own -/
/-- the addresses of the lists of one's own -/
def ownAs : List Bool → List V → List Addr
  | true :: bs, .ref a :: vs => a :: ownAs bs vs
  | _ :: bs, _ :: vs => ownAs bs vs
  | _, _ => []
/-- values, some of them lists of one's own that were not there at Hb -/
def RMs (K : PySem.W.Frag) (Hb : Hp) : List Bool → Hp → Hp → List Addr → List D → List V → Prop
  | [], _, _, _, ds, vs => ds = [] ∧ vs = []
  | false :: bs, F, H, ι, ds, vs => ∃ d r v s, ds = d :: r ∧ vs = v :: s ∧ Rep K F ι d v ∧ RMs K Hb bs F H ι r s
  | true :: bs, F, H, ι, ds, vs => ∃ d r v s, ds = d :: r ∧ vs = v :: s ∧ RFr K Hb F H ι d v ∧ (∀ a, v = .ref a → a ∉ ownAs bs s) ∧ RMs K Hb bs F H ι r s
theorem RMs.fresh {K : PySem.W.Frag} {Hb : Hp} : ∀ {bs : List Bool} {F H : Hp} {ι : List Addr} {ds : List D} {vs : List V}, RMs K Hb bs F H ι ds vs → ∀ a ∈ ownAs bs vs, Hb a = none
  | [], F, H, ι, ds, vs, h, a, ha => by obtain ⟨_, rfl⟩ := h; cases ha
  | false :: bs, F, H, ι, ds, vs, h, a, ha => by
    obtain ⟨d, r, v, s, rfl, rfl, _, h2⟩ := h
    have ha : a ∈ ownAs bs s := by cases v <;> exact ha
    exact h2.fresh a ha
  | true :: bs, F, H, ι, ds, vs, h, a, ha => by
    obtain ⟨d, r, v, s, rfl, rfl, h1, _, h2⟩ := h
    obtain ⟨xs, b, ws, _, rfl, h0, _⟩ := h1
    rcases List.mem_cons.mp ha with rfl | ha
    · exact h0
    · exact h2.fresh a ha
theorem RMs.base {K : PySem.W.Frag} {Hb Hb' : Hp} (hb : ∀ a, Hb' a = none → Hb a = none) : ∀ {bs : List Bool} {F H : Hp} {ι : List Addr} {ds : List D} {vs : List V}, RMs K Hb' bs F H ι ds vs → RMs K Hb bs F H ι ds vs
  | [], F, H, ι, ds, vs, h => h
  | false :: bs, F, H, ι, ds, vs, h => by
    obtain ⟨d, r, v, s, e1, e2, h1, h2⟩ := h
    exact ⟨d, r, v, s, e1, e2, h1, h2.base hb⟩
  | true :: bs, F, H, ι, ds, vs, h => by
    obtain ⟨d, r, v, s, e1, e2, h1, h3, h2⟩ := h
    obtain ⟨xs, a, ws, g1, g2, h0, g3⟩ := h1
    exact ⟨d, r, v, s, e1, e2, ⟨xs, a, ws, g1, g2, hb a h0, g3⟩, h3, h2.base hb⟩
theorem RMs.mono {K : PySem.W.Frag} {Hb : Hp} : ∀ {bs : List Bool} {F H F' H' : Hp} {ι ι' : List Addr} {ds : List D} {vs : List V}, Stp F H ι F' H' ι' → RMs K Hb bs F H ι ds vs → RMs K Hb bs F' H' ι' ds vs
  | [], F, H, F', H', ι, ι', ds, vs, st, h => h
  | false :: bs, F, H, F', H', ι, ι', ds, vs, st, h => by
    obtain ⟨d, r, v, s, e1, e2, h1, h2⟩ := h
    exact ⟨d, r, v, s, e1, e2, Rep.mono st _ _ h1, h2.mono st⟩
  | true :: bs, F, H, F', H', ι, ι', ds, vs, st, h => by
    obtain ⟨d, r, v, s, e1, e2, h1, h3, h2⟩ := h
    exact ⟨d, r, v, s, e1, e2, RFr.mono st h1, h3, h2.mono st⟩
/-- a list of one's own into the slot i -/
theorem EnvR.setOwn {K : PySem.W.Frag} {F H : Hp} {ι : List Addr} {own : Nat → Option Addr} {ρ : EC.Env} {σ : L2.St} (en : EnvR K F H ι own ρ σ) {i : Nat} {a : Addr} {vs : List V} {xs : List PyData} (hi : i < ρ.length) (h1 : F a = none) (h2 : a ∉ ι) (h3 : H a = some (.lst vs)) (h4 : DqAll K F vs xs) (na : ∀ j b, own j = some b → b ≠ a) :
    EnvR K F H ι (fun j => if j = i then some a else own j) (ρ.set i (.own xs)) (σ.set i (some (.ref a))) := by
  refine ⟨by rw [List.length_set, List.length_set]; exact en.len, fun j s hj => ?_, fun j b hj => ?_, fun j k b hj hk => ?_⟩
  · by_cases e : i = j
    · subst e
      rw [List.getElem?_set_self hi] at hj
      cases hj
      exact ⟨a, vs, if_pos rfl, by rw [List.getElem?_set_self (by rw [← en.len]; exact hi)], h3, h4⟩
    · rw [List.getElem?_set_ne e] at hj
      have q := en.slot j s hj
      rw [List.getElem?_set_ne e]
      cases s with
      | un => exact q
      | v d => exact q
      | own ys =>
        obtain ⟨b, ws, g1, g2, g3, g4⟩ := q
        exact ⟨b, ws, (if_neg (fun z => e z.symm)).trans g1, g2, g3, g4⟩
  · have hj : (if j = i then some a else own j) = some b := hj
    split at hj
    · cases hj
      exact ⟨h1, h2, by rw [h3]; exact fun z => nomatch z⟩
    · exact en.off j b hj
  · have hj : (if j = i then some a else own j) = some b := hj
    have hk : (if k = i then some a else own k) = some b := hk
    by_cases e1 : j = i
    · rw [if_pos e1] at hj
      cases hj
      by_cases e2 : k = i
      · rw [e1, e2]
      · rw [if_neg e2] at hk
        exact absurd rfl (na k a hk)
    · rw [if_neg e1] at hj
      by_cases e2 : k = i
      · rw [if_pos e2] at hk
        cases hk
        exact absurd rfl (na j a hj)
      · rw [if_neg e2] at hk
        exact en.inj j k b hj hk
def setsV : List Nat → List V → L2.St → L2.St
  | i :: is, v :: vs, σ => setsV is vs (σ.set i (some v))
  | _, _, σ => σ
theorem setsF_env {K : PySem.W.Frag} {Hb F H F0 H0 : Hp} {ι ι0 : List Addr} (hb : ∀ a, Hb a = none → H0 a = none) : ∀ {bs : List Bool} {is : List Nat} {ds : List D} {vs : List V} {ρ ρ' : EC.Env} {σ : L2.St} {own : Nat → Option Addr}, setsF bs is ds ρ = some ρ' → RMs K Hb bs F H ι ds vs → EnvR K F H ι own ρ σ → Ent F0 H0 ι0 F H ι own → (∀ j b, own j = some b → b ∉ ownAs bs vs) →
    ∃ own', EnvR K F H ι own' ρ' (setsV is vs σ) ∧ Ent F0 H0 ι0 F H ι own'
  | [], is, ds, vs, ρ, ρ', σ, own, h, r, en, et, na => by
    obtain ⟨rfl, rfl⟩ := r
    cases is with
    | nil => cases h; exact ⟨own, en, et⟩
    | cons i is => cases h
  | false :: bs, is, ds, vs, ρ, ρ', σ, own, h, r, en, et, na => by
    obtain ⟨d, r, v, s, rfl, rfl, h1, h2⟩ := r
    cases is with
    | nil => cases h
    | cons i is =>
      rw [setsF_v] at h
      split at h
      · show ∃ own', EnvR K F H ι own' ρ' (setsV is s (σ.set i (some v))) ∧ Ent F0 H0 ι0 F H ι own'
        exact setsF_env hb h h2 (en.set h1) et fun j b hj hb => na j b hj (by cases v <;> exact hb)
      · cases h
  | true :: bs, is, ds, vs, ρ, ρ', σ, own, h, r, en, et, na => by
    obtain ⟨d, r, v, s, rfl, rfl, h1, h3, h2⟩ := r
    obtain ⟨xs, a, ws, rfl, rfl, g0, g1, g2, g3, g4⟩ := h1
    cases is with
    | nil => cases h
    | cons i is =>
      rw [setsF_o] at h
      split at h
      · rename_i hi
        have hi : i < ρ.length := of_decide_eq_true hi
        show ∃ own', EnvR K F H ι own' ρ' (setsV is s (σ.set i (some (.ref a)))) ∧ Ent F0 H0 ι0 F H ι own'
        refine setsF_env hb h h2 (en.setOwn hi g1 g2 g3 g4 fun j b hj e => na j b hj (by rw [e]; exact List.mem_cons_self)) ⟨et.st, fun j b hj => ?_⟩ fun j b hj hm => ?_
        · have hj : (if j = i then some a else own j) = some b := hj
          split at hj
          · cases hj; exact hb a g0
          · exact et.ow j b hj
        · have hj : (if j = i then some a else own j) = some b := hj
          split at hj
          · cases hj; exact h3 a rfl hm
          · exact na j b hj (List.mem_cons_of_mem _ hm)
      · cases h
section
variable {X : Cx} {ca : Nat → Addr} {W : WX} {G : Nat → D} {Fn : Nat → List D → Store → Out D} {e : Expr} {es : List Expr} {e' : E} {es' : List E} {pos : Pos} {F0 H0 : Hp} {ι0 : List Addr} {bs : List Bool}
/-- the reading of values, some of them lists of one's own -/
def tAM (ca : Nat → Addr) (K : PySem.W.Frag) (W : WX) (G : Nat → D) (Fn : Nat → List D → Store → Out D) : List Bool → List E → TA
  | false :: bs, e :: es => tCons (tG ca K W (RV K) (evE G Fn e)) (tAM ca K W G Fn bs es)
  | true :: bs, e :: es => tCons (fun σ H Q => tG ca K W (RFr K H) (evE G Fn e) σ H Q) (tAM ca K W G Fn bs es)
  | _, _ => tNil
abbrev GM (X : Cx) (ca : Nat → Addr) (W : WX) (G : Nat → D) (Fn : Nat → List D → Store → Out D) (bs : List Bool) (es' : List E) (es : List Expr) : Prop := PA X es (tAM ca X.K W G Fn bs es') ∧ bs.length = es'.length
theorem gm_nil : GM X ca W G Fn [] [] [] := ⟨pa_nil, rfl⟩
theorem gm_v (h : GE X ca W G Fn e' e) (r : GM X ca W G Fn bs es' es) (hs : starEach (e :: es) X.env = (false, eval e X.env) :: starEach es X.env := by rfl) : GM X ca W G Fn (false :: bs) (e' :: es') (e :: es) := ⟨pa_cons h r.1 hs, by rw [List.length_cons, List.length_cons, r.2]⟩
theorem gm_o (h : GF X ca W G Fn e' e) (r : GM X ca W G Fn bs es' es) (hs : starEach (e :: es) X.env = (false, eval e X.env) :: starEach es X.env := by rfl) : GM X ca W G Fn (true :: bs) (e' :: es') (e :: es) := ⟨pa_cons h r.1 hs, by rw [List.length_cons, List.length_cons, r.2]⟩
/-- the values, gathered -/
theorem tAM_end {D : Ends} : ∀ {bs : List Bool} {es' : List E} {k : List EC.D → Store → Out Fl} {F H : Hp} {ι : List Addr} {S : Store} {ρ : EC.Env} {own : Nat → Option Addr} {σ : L2.St} {Q : List V → Hp → Prop}, bs.length = es'.length → Sto X.K F H ι S → EnvR X.K F H ι own ρ σ → Ent F0 H0 ι0 F H ι own →
    PostS ca X.K W F0 H0 ι0 F D ((evEs G Fn es' ρ S).bind k) →
    (∀ ds S' vs F' H' ι', Stp F H ι F' H' ι' → Sto X.K F' H' ι' S' → RMs X.K H bs F' H' ι' ds vs → vs.length = bs.length → PostS ca X.K W F0 H0 ι0 F' D (k ds S') → Q vs H') → tAM ca X.K W G Fn bs es' σ H Q
  | [], [], k, F, H, ι, S, ρ, own, σ, Q, hl, st, en, et, h, g => by
    rw [evEs_nil] at h
    exact g [] S [] F H ι Stp.refl st ⟨rfl, rfl⟩ rfl h
  | false :: bs, e :: es, k, F, H, ι, S, ρ, own, σ, Q, hl, st, en, et, h, g => by
    rw [evEs_cons, bind_assoc] at h
    refine tG_ex st en (h.bindE et fun d S1 v F1 H1 ι1 s1 st1 r1 et1 h1 => ?_)
    rw [kEs_eq, bind_assoc] at h1
    refine tAM_end (by simpa using hl) st1 (en.mono s1) et1 h1 fun ds S2 vs F2 H2 ι2 s2 st2 r2 l2 h2 => ?_
    exact g (d :: ds) S2 (v :: vs) F2 H2 ι2 (s1.trans s2) st2 ⟨d, ds, v, vs, rfl, rfl, Rep.mono s2 _ _ r1, r2.base fun a q => s1.back q⟩ (by simp [l2]) h2
  | true :: bs, e :: es, k, F, H, ι, S, ρ, own, σ, Q, hl, st, en, et, h, g => by
    rw [evEs_cons, bind_assoc] at h
    refine tG_ex st en (h.bindE et fun d S1 v F1 H1 ι1 s1 st1 r1 et1 h1 => ?_)
    rw [kEs_eq, bind_assoc] at h1
    refine tAM_end (by simpa using hl) st1 (en.mono s1) et1 h1 fun ds S2 vs F2 H2 ι2 s2 st2 r2 l2 h2 => ?_
    refine g (d :: ds) S2 (v :: vs) F2 H2 ι2 (s1.trans s2) st2 ⟨d, ds, v, vs, rfl, rfl, RFr.mono s2 r1, fun a e ha => ?_, r2.base fun a q => s1.back q⟩ (by simp [l2]) h2
    have q := r2.fresh a ha
    obtain ⟨xs, b, ws, _, e2, _, _, _, g3, _⟩ := r1
    rw [e2] at e
    cases e
    rw [g3] at q
    cases q
/-- the end: all names are set -/
theorem parF_end {D : Ends} {is : List Nat} {ds : List EC.D} {vs : List V} {F H F1 H1 : Hp} {ι ι1 : List Addr} {S1 : Store} {ρ : EC.Env} {own : Nat → Option Addr} {σ : L2.St} (en : EnvR X.K F H ι own ρ σ) (et : Ent F0 H0 ι0 F H ι own) (s1 : Stp F H ι F1 H1 ι1) (st1 : Sto X.K F1 H1 ι1 S1) (r : RMs X.K H bs F1 H1 ι1 ds vs) (h : PostS ca X.K W F0 H0 ι0 F1 D (kParF bs is ρ ds S1)) : D.nx (setsV is vs σ) H1 := by
  rw [kParF_eq] at h
  cases q : setsF bs is ds ρ with
  | none => rw [q] at h; exact h.elim
  | some ρ' =>
    rw [q] at h
    obtain ⟨own', en', et'⟩ := setsF_env (F0 := F0) (H0 := H0) (ι0 := ι0) (Hb := H) (fun a e => et.st.back e) q r (en.mono s1) (et.mono s1) fun j b hj hm => (en.off j b hj).2.2 (r.fresh b hm)
    exact h _ F1 H1 ι1 own' (Same.refl F1) st1 en' et'
theorem gs_parF2 {i j : Nat} {x y : Str} {a b : Expr} {px py pt : Pos} {kt k2 pt2} (hc : X.calm = true) (hN : X.N.Nodup) (hi : X.N[i]? = some x) (hj : X.N[j]? = some y) (hij : i ≠ j)
    (hx : X.env.scope.names.lookup x = some .local) (hy : X.env.scope.names.lookup y = some .local) (hm : GM X ca W G Fn bs es' [a, b])
    (hw : swappedStores [.Tuple [.Name x px, .Name y py] kt pt] (.Tuple [a, b] k2 pt2) X.env = pure (some [x, y]))
    (hs : swapsWithSole [.Tuple [.Name x px, .Name y py] kt pt] (.Tuple [a, b] k2 pt2) pos.line X.env = pure false := by rfl) (hb : bs.length = 2 := by rfl) :
    GS X ca W F0 H0 ι0 G Fn (.parF bs [i, j] es') (.Assign [.Tuple [.Name x px, .Name y py] kt pt] (.Tuple [a, b] k2 pt2) pos) := by
  refine PS.weaken (ps_par hc hN hi hj hij hx hy hm.1 hw hs) fun D σ H ⟨F, ι, S, ρ, own, st, en, et, h⟩ => ?_
  rw [evS_parF] at h
  refine tAM_end hm.2 st en et h fun ds S1 vs F1 H1 ι1 s1 st1 r1 l1 h1 => ?_
  rw [hb] at l1
  match vs, l1 with
  | [v, w], _ => exact ⟨v, w, rfl, parF_end en et s1 st1 r1 h1⟩
theorem gs_parF3 {i j l : Nat} {x y z : Str} {a b c : Expr} {px py pz pt : Pos} {kt k2 pt2} (hc : X.calm = true) (hN : X.N.Nodup) (hi : X.N[i]? = some x) (hj : X.N[j]? = some y) (hl : X.N[l]? = some z) (hij : i ≠ j) (hil : i ≠ l) (hjl : j ≠ l)
    (hx : X.env.scope.names.lookup x = some .local) (hy : X.env.scope.names.lookup y = some .local) (hz : X.env.scope.names.lookup z = some .local) (hm : GM X ca W G Fn bs es' [a, b, c])
    (hw : swappedStores [.Tuple [.Name x px, .Name y py, .Name z pz] kt pt] (.Tuple [a, b, c] k2 pt2) X.env = pure (some [x, y, z]))
    (hs : swapsWithSole [.Tuple [.Name x px, .Name y py, .Name z pz] kt pt] (.Tuple [a, b, c] k2 pt2) pos.line X.env = pure false := by rfl) (hb : bs.length = 3 := by rfl) :
    GS X ca W F0 H0 ι0 G Fn (.parF bs [i, j, l] es') (.Assign [.Tuple [.Name x px, .Name y py, .Name z pz] kt pt] (.Tuple [a, b, c] k2 pt2) pos) := by
  refine PS.weaken (ps_par3 hc hN hi hj hl hij hil hjl hx hy hz hm.1 hw hs) fun D σ H ⟨F, ι, S, ρ, own, st, en, et, h⟩ => ?_
  rw [evS_parF] at h
  refine tAM_end hm.2 st en et h fun ds S1 vs F1 H1 ι1 s1 st1 r1 l1 h1 => ?_
  rw [hb] at l1
  match vs, l1 with
  | [u, v, w], _ => exact ⟨u, v, w, rfl, parF_end en et s1 st1 r1 h1⟩
/-- by way of a tuple -/
def gNs : List Nat → TGs
  | [] => gNil
  | i :: is => gCons (gName i) (gNs is)
abbrev GN (X : Cx) (is : List Nat) (ts : List Expr) : Prop := PGs X ts (gNs is)
theorem gn_nil : GN X [] [] := pgs_nil
theorem gn_cons {i : Nat} {x : Str} {is : List Nat} {ts : List Expr} {p : Pos} (hN : X.N.Nodup) (hi : X.N[i]? = some x) (hx : Loc X.env.scope x) (r : GN X is ts) (hf : X.fn x = true ∨ X.env.scope.names.lookup x = some .local := by first | exact .inl rfl | exact .inr rfl | assumption)
    (hs : (assignEach (.Name x p :: ts) X.env).map (·.2) = assign (.Name x p) X.env :: (assignEach ts X.env).map (·.2) := by rfl) : GN X (i :: is) (.Name x p :: ts) := pgs_cons (pg_name hN hi hx hf) r hs
theorem gNs_of : ∀ {is : List Nat} {vs : List V} {σ : L2.St} {H : Hp} {Q : L2.St → Hp → Prop}, vs.length = is.length → Q (setsV is vs σ) H → gNs is vs σ H Q
  | [], [], σ, H, Q, _, h => ⟨rfl, h⟩
  | i :: is, v :: vs, σ, H, Q, hl, h => ⟨v, vs, rfl, gNs_of (is := is) (by simpa using hl) h⟩
theorem gs_parFt {is : List Nat} {ts es : List Expr} {pt : Pos} {kt k2 pt2} (hc : X.calm = true) (hg : GN X is ts) (hm : GM X ca W G Fn bs es' es)
    (hw : swappedStores [.Tuple ts kt pt] (.Tuple es k2 pt2) X.env = pure none)
    (hs : swapsWithSole [.Tuple ts kt pt] (.Tuple es k2 pt2) pos.line X.env = pure false := by rfl)
    (h1 : (assignEach [.Tuple ts kt pt] X.env).map (·.2) = [assign (.Tuple ts kt pt) X.env] := by rfl)
    (hn : (assignEach ts X.env).length = bs.length := by rfl) (hst : (assignEach ts X.env).findIdx? (·.1) = none := by rfl) (hl : bs.length = is.length := by rfl) (hz : bs.length ≤ 1000 := by decide) :
    GS X ca W F0 H0 ι0 G Fn (.parF bs is es') (.Assign [.Tuple ts kt pt] (.Tuple es k2 pt2) pos) := by
  refine PS.weaken (ps_asg (pe_tup hm.1) (pg_tup hc hg hn hst) hs hw h1) fun D σ H ⟨F, ι, S, ρ, own, st, en, et, h⟩ => ?_
  rw [evS_parF] at h
  refine tAM_end hm.2 st en et h fun ds S1 vs F1 H1 ι1 s1 st1 r1 l1 h1 => ?_
  have e : sizeLine = 16777216 := sizeLine_eq
  refine ⟨by omega, fun p hp => ?_⟩
  have sl := Stp.laid st1 hp (.tup vs)
  exact ⟨p, vs, rfl, .inl rd_upd, l1, gNs_of (by rw [l1, hl]) (parF_end en et (s1.trans sl) (st1.laid hp _) (r1.mono sl) (h1.mono sl.fr))⟩
end
end EC

namespace EC
open PySem PySem.Spec PyProof.Rows L2
variable [CA]
/-! ### a comprehension within a comprehension -/
def relC (scope sc : Scope) : Scope := { scope with names := scope.names.map fun (n, k) => if (k == .free && sc.kind == .function && sc.names.lookup n == some .cell) then (n, .cell) else (n, k) }
theorem blk_in {N : List Str} {outer scope : Scope} {own : List (Str × Nat)} {env : PySem.Env} (sc : Scope) (h0 : env.scope = sc) (h : blkC N (relC outer sc) scope own = true) : BlkOk N (relabel outer env) scope own := by
  subst h0
  exact blkOk_by h
/-! ### ranges downwards -/
section
variable {K : PySem.W.Frag} {ok : Hp → Hp → List Addr → Prop}
theorem wk_rngU {lo : Int} {n : Nat} : Wk K (Itc lo (-1) n) (rngU lo n) ok := by
  refine ⟨_, _, (by unfold rngU; rw [List.length_map, List.length_range]; exact walk_rangeC (lo := lo) (c := -1) (n := n)), fun F H ι S h st => True.intro, fun i v d F H H' ι S h st hi y => ?_⟩
  obtain ⟨e, rfl⟩ := y
  subst e
  unfold rngU at hi
  rw [List.getElem?_map] at hi
  obtain ⟨k, h1, rfl⟩ := map_some hi
  have e : k = i := by
    have := List.getElem?_eq_some_iff.mp h1
    obtain ⟨hl, he⟩ := this
    rw [List.getElem_range] at he
    exact he.symm
  subst e
  refine ⟨F, Stp.refl, st, rep_p.mpr ?_⟩
  show Dq K F (V.int (lo + ((k : Nat) : Int) * -1)) _
  rw [show lo + ((k : Nat) : Int) * -1 = lo - (k : Int) from by omega]
  exact .int _
end
section
variable {bb : Bool} {X : Cx} {ca : Nat → Addr} {W : WX} {G : Nat → D} {Fn : Nat → List D → Store → Out D} {a b c tg : Expr} {a' b' c' : E} {pos p : Pos}
theorem items_rng3 {S : Store} {d d2 d3 : D} {xs : List D} (h : items S .rng [d, d2, d3] = some xs) : ∃ i j : Int, d = .p (.int i) ∧ d2 = .p (.int j) ∧ d3 = .p (.int (-1)) ∧ (-(2 ^ 62) ≤ i ∧ i < 2 ^ 62 ∧ -(2 ^ 62) ≤ j ∧ j < 2 ^ 62) ∧ xs = rngU i (i - j).toNat := by
  have key : ∀ i j s : Int, items S .rng [.p (.int i), .p (.int j), .p (.int s)] = some xs → ∃ i' j' : Int, D.p (.int i) = .p (.int i') ∧ D.p (.int j) = .p (.int j') ∧ D.p (.int s) = .p (.int (-1)) ∧ (-(2 ^ 62) ≤ i' ∧ i' < 2 ^ 62 ∧ -(2 ^ 62) ≤ j' ∧ j' < 2 ^ 62) ∧ xs = rngU i' (i' - j').toNat := fun i j s h => by
    have h : (if decide (s = -1 ∧ -(2 ^ 62) ≤ i ∧ i < 2 ^ 62 ∧ -(2 ^ 62) ≤ j ∧ j < 2 ^ 62) then some (rngU i (i - j).toNat) else none) = some xs := h
    split at h
    · rename_i hj
      have hj := of_decide_eq_true hj
      cases h
      exact ⟨i, j, rfl, rfl, by rw [hj.1], hj.2, rfl⟩
    · cases h
  cases d with
  | p x =>
    cases d2 with
    | p y =>
      cases d3 with
      | p z => cases x <;> cases y <;> cases z <;> first | exact key _ _ _ h | cases h
      | _ => cases x <;> cases y <;> cases h
    | _ => cases x <;> cases d3 <;> cases h
  | _ => cases d2 <;> cases d3 <;> cases h
theorem gi_rng3 (hg : Gl X "range") (hm : X.mg "range" = none) (ha : GX bb X ca W G Fn a' a) (hb : GX bb X ca W G Fn b' b) (hc : GX bb X ca W G Fn c' c) (hs : starEach [a, b, c] X.env = (false, eval a X.env) :: starEach [b, c] X.env := by rfl) (hs2 : starEach [b, c] X.env = (false, eval b X.env) :: starEach [c] X.env := by rfl) (hs3 : starEach [c] X.env = (false, eval c X.env) :: starEach [] X.env := by rfl)
    (hpl : (backTo pos (starEach [b, c] X.env)).any (·.1) = false := by rfl) :
    GI bb X ca W G Fn .rng [a', b', c'] tg (.Call (.Name "range" p) [a, b, c] [] pos) := by
  refine PI.weaken (pi_range3 hg hm (pa_cons ha (pa_cons hb (pa_cons hc pa_nil hs3) hs2) hs) hs hpl) fun σ H R ⟨F, ι, S, ρ, own, st, en, h⟩ => ?_
  have h : PostG ca X.K W σ F H ι (RI X.K bb) R ((evB bb G Fn [a', b', c'] ρ S).bind (kIt .rng)) := h
  rw [evB_cons, bind_assoc] at h
  refine tG_ex st en (h.bind_ fun d S1 v F1 H1 ι1 s1 st1 r1 h1 => ?_)
  rw [evB_cons, bind_assoc, bind_assoc] at h1
  refine tG_ex st1 (en.mono s1) (h1.bind_ fun d2 S2 v2 F2 H2 ι2 s2 st2 r2 h2 => ?_)
  rw [evB_cons, bind_assoc, bind_assoc] at h2
  refine tG_ex st2 ((en.mono s1).mono s2) (h2.bind_ fun d3 S3 v3 F3 H3 ι3 s3 st3 r3 h3 => ?_)
  rw [evB_nil] at h3
  have h3 : PostG ca X.K W σ F3 H3 ι3 (RI X.K bb) R (kIt .rng [d, d2, d3] S3) := h3
  obtain ⟨xs, hx, q⟩ := PostG.of h3
  obtain ⟨i, j, rfl, rfl, rfl, ⟨q1, q2, q3, q4⟩, rfl⟩ := items_rng3 hx
  have r1 := RX.mono s3 (RX.mono s2 r1)
  have r2 := RX.mono s3 r2
  refine ⟨i, j, -1, (i - j).toNat, ?_, RgC.neg q1 q2 q3 q4, q _ F3 H3 ι3 Stp.refl st3 wk_rngU⟩
  rw [repA_int r1.a, repA_int r2.a, repA_int r3.a]
end
/-! ### list(range(n)), a list of the store or one's own -/
section
variable {X : Cx} {ca : Nat → Addr} {W : WX} {G : Nat → D} {Fn : Nat → List D → Store → Out D} {a b c e o : Expr} {a' b' c' e' o' : E} {pos p : Pos}
theorem gf_lstrng1 {p p2 q pos : Pos} (hc : X.calm = true) (hg : Gl X "list") (hm : X.mg "list" = none) (hg2 : Gl X "range") (hm2 : X.mg "range" = none) (ha : GA X ca W G Fn a' a)
    (na : starEach [a] X.env = (false, eval a X.env) :: starEach [] X.env := by rfl) 
    (ne : starEach [Expr.Call (.Name "range" p2) [a] [] q] X.env = (false, eval (Expr.Call (.Name "range" p2) [a] [] q) X.env) :: starEach [] X.env := by rfl) :
    GF X ca W G Fn (.pr .lstrng [a']) (.Call (.Name "list" p) [.Call (.Name "range" p2) [a] [] q] [] pos) := by
  refine PE.weaken (pe_listRg hc hg hm (prg_1 hg2 hm2 ha na) ne) fun σ H Q ⟨F, ι, S, ρ, own, st, en, h⟩ => ?_
  rw [evE_pr, evA_one, bind_assoc] at h
  refine ⟨F, ι, S, ρ, own, st, en, h.bind_ fun d S1 v F1 H1 ι1 s1 st1 r1 h1 => ?_⟩
  have h1 : PostG ca X.K W σ F1 H1 ι1 (RFr X.K H) Q (((evA G Fn [] ρ S1).bind (kCons d)).bind (kPr .lstrng)) := h1
  rw [evA] at h1
  have h1 : PostG ca X.K W σ F1 H1 ι1 (RFr X.K H) Q (Out.of (prim S1 .lstrng [d]) S1) := h1
  obtain ⟨x, hp, q⟩ := PostG.of h1
  rw [prim_lstrng] at hp
  unfold p_lstrng at hp
  split at hp
  · rename_i n hn
    cases hn
    split at hp
    · rename_i ok
      simp only [decide_eq_true_eq] at ok
      cases hp
      refine ⟨n, repA_int r1, ⟨by omega, by omega, by omega, by omega, by omega⟩, fun p hp => ?_⟩
      refine q (.ref p) F1 _ ι1 (Stp.refl.ow hp _) (st1.ow (st1.fnone hp) (st1.not_in hp) _) ⟨_, p, _, rfl, rfl, s1.back hp, st1.fnone hp, st1.not_in hp, upd_same, ?_⟩
      have key : ∀ ks : List Nat, DqAll X.K F1 (ks.map fun k => V.int (0 + (k : Nat))) (ks.map fun (k : Nat) => PyData.int (k : Int)) := by
        intro ks
        induction ks with
        | nil => exact .nil
        | cons k ks ih => 
          refine .cons ?_ ih
          show Dq X.K F1 (V.int (0 + ((k : Nat) : Int))) (PyData.int (k : Int))
          rw [Int.zero_add]
          exact .int _
      unfold rgV
      rw [Int.sub_zero]
      exact key _
    · cases hp
  · rename_i z
    cases z
  · cases hp
/-- xs.pop(i) of the store -/
theorem g_popAtE {o : Expr} {o' : E} {apos : Pos} (ho : GE X ca W G Fn o' o) (he : GE X ca W G Fn e' e) (hbase : attributeBase o "pop" X.env (eval o X.env) = eval o X.env := by rfl)
    (hfew : ((backTo pos (starEach [e] X.env)).all (fun x => !x.1) && (backToKw pos (keywordEach [] X.env)).all (fun x => x.1.isSome)
      && decide (([e]).length + ([] : List Keyword).length + (if ([] : List Keyword).isEmpty then 0 else 1) < 30)) = true := by rfl)
    (hline : (apos.endLine == pos.line) = true := by rfl) (hs : starEach [e] X.env = [(false, eval e X.env)] := by rfl) :
    GE X ca W G Fn (.popE o' e') (.Call (.Attribute o "pop" apos) [e] [] pos) := by
  refine PE.weaken (pe_bm PySem.F.plainAttrs_list PySem.F.slot_list_pop PySem.F.type_list_pop mt_popAt ho (pa_cons he pa_nil hs) hbase hfew hline hs) fun σ H Q ⟨F, ι, S, ρ, own, st, en, h⟩ => ?_
  rw [evE_popE] at h
  refine tG_ex st en (h.bind_ fun d S1 v F1 H1 ι1 s1 st1 r1 h1 => ?_)
  rw [kPop0_eq] at h1
  split at h1
  · rename_i hl
    unfold isL at hl
    split at hl
    · rename_i k
      split at hl
      · rename_i ds0 e0
        obtain ⟨pp, rfl, g1⟩ := rep_ref.mp r1
        obtain ⟨pp2, vs, g2, g3, g4⟩ := st1.lst e0
        rw [g1] at g2
        cases g2
        refine ⟨Or.inl ⟨rfl, _, Or.inl (Or.inl g3)⟩, tG_ex st1 (en.mono s1) (h1.bind_ fun x S2 w F2 H2 ι2 s2 st2 r2 h2 => ?_)⟩
        rw [kPop1_eq] at h2
        unfold mutl at h2
        split at h2
        all_goals first | contradiction | skip
        · rename_i k2 i2 q1 q2
          injection q2 with q2 q3
          injection q2 with q2
          injection q3 with q3 q4
          subst q2 q3
          split at h2
          · rename_i ds e1
            split at h2
            · rename_i hi
              have hi := of_decide_eq_true hi
              split at h2
              · rename_i y e2
                obtain ⟨pp2, vs, g2, g3, g4⟩ := st2.lst e1
                have g1 := s2.ix g1
                rw [g1] at g2
                cases g2
                obtain ⟨u, g5, g6⟩ := Reps.get g4 e2
                have lv := g4.len
                have ev : w = .int i2 := repA_int (H := H2) (.inl r2)
                refine ⟨pp, vs, i2, i2.toNat, u, rfl, by rw [ev], g3, by omega, by omega, ?_, g5, ?_⟩
                · unfold seqIndex?
                  simp only
                  rw [if_neg (by omega : ¬ i2 < 0), if_pos]
                  rw [lv]
                  simp [hi]
                · exact h2 u F2 _ ι2 (Stp.wr st2 (ix_mem g1) _) (st2.wr g1 (reps_erase _ g4)) g6
              · exact h2.elim
            · exact h2.elim
          · exact h2.elim
      · cases hl
    · cases hl
  · exact h1.elim
end
end EC

namespace EC
open PySem PySem.Spec PyProof.Rows L2
variable [CA]
/-! ### d[k] = v of a dict of the store -/
section
variable {K : PySem.W.Frag} {F H : Hp} {ι : List Addr} {S : Store}
theorem map_zip {x : Str} {y : V} : ∀ (ks : List Str) (vs : List V), ks.Nodup → ks.length = vs.length →
    (((ks.map (Sum.inr : Str → Key)).zip vs).map fun kv => if kv.1 = Sum.inr x then (kv.1, y) else kv) = (ks.map Sum.inr).zip (vs.set (ks.idxOf x) y)
  | [], vs, _, _ => rfl
  | k :: ks, [], _, hl => nomatch hl
  | k :: ks, v :: vs, hn, hl => by
    have hn := List.nodup_cons.mp hn
    have ih := map_zip (x := x) (y := y) ks vs hn.2 (by simpa using hl)
    rw [List.map_cons, List.zip_cons_cons, List.map_cons, ih]
    by_cases e : k = x
    · subst e
      rw [if_pos rfl, List.idxOf_cons_self, List.set_cons_zero, List.zip_cons_cons, List.idxOf_eq_length hn.1]
      rw [List.set_eq_of_length_le (by simp at hl; omega)]
    · rw [if_neg (fun q => e (Sum.inr.inj q)), show List.idxOf x (k :: ks) = ks.idxOf x + 1 from by rw [List.idxOf_cons, beq_false_of_ne e]; rfl, List.set_cons_succ, List.zip_cons_cons]
theorem any_zip {x : Str} : ∀ (ks : List Str) (vs : List V), ks.length = vs.length → (((ks.map (Sum.inr : Str → Key)).zip vs).any fun kv => decide (kv.1 = Sum.inr x)) = decide (x ∈ ks)
  | [], vs, _ => by simp
  | k :: ks, [], hl => nomatch hl
  | k :: ks, v :: vs, hl => by
    have ih := any_zip (x := x) ks vs (by simpa using hl)
    rw [List.map_cons, List.zip_cons_cons, List.any_cons, ih]
    by_cases e : k = x
    · subst e; simp
    · have e1 : (decide ((Sum.inr k : Key) = Sum.inr x)) = false := decide_eq_false fun q => e (Sum.inr.inj q)
      have e2 : (x ∈ k :: ks) ↔ x ∈ ks := by simp [Ne.symm e]
      show (decide ((Sum.inr k : Key) = Sum.inr x) || _) = _
      rw [e1, Bool.false_or]
      exact decide_eq_decide.mpr e2.symm
theorem put_zip {x : Str} {y : V} (ks : List Str) (vs : List V) (hn : ks.Nodup) (hl : ks.length = vs.length) :
    putK ((ks.map (Sum.inr : Str → Key)).zip vs) (Sum.inr x) y = if x ∈ ks then (ks.map Sum.inr).zip (vs.set (ks.idxOf x) y) else ((ks ++ [x]).map Sum.inr).zip (vs ++ [y]) := by
  unfold putK
  rw [any_zip ks vs hl]
  by_cases e : x ∈ ks
  · rw [if_pos (decide_eq_true e), if_pos e, map_zip ks vs hn hl]
  · rw [if_neg (by simpa using e), if_neg e, List.map_append, List.zip_append (by rw [List.length_map]; exact hl)]
    rfl
theorem map_zipI {x : Int} {y : V} : ∀ (ks : List Int) (vs : List V), ks.Nodup → ks.length = vs.length →
    (((ks.map (Sum.inl : Int → Key)).zip vs).map fun kv => if kv.1 = Sum.inl x then (kv.1, y) else kv) = (ks.map Sum.inl).zip (vs.set (ks.idxOf x) y)
  | [], vs, _, _ => rfl
  | k :: ks, [], _, hl => nomatch hl
  | k :: ks, v :: vs, hn, hl => by
    have hn := List.nodup_cons.mp hn
    have ih := map_zipI (x := x) (y := y) ks vs hn.2 (by simpa using hl)
    rw [List.map_cons, List.zip_cons_cons, List.map_cons, ih]
    by_cases e : k = x
    · subst e
      rw [if_pos rfl, List.idxOf_cons_self, List.set_cons_zero, List.zip_cons_cons, List.idxOf_eq_length hn.1]
      rw [List.set_eq_of_length_le (by simp at hl; omega)]
    · rw [if_neg (fun q => e (Sum.inl.inj q)), show List.idxOf x (k :: ks) = ks.idxOf x + 1 from by rw [List.idxOf_cons, beq_false_of_ne e]; rfl, List.set_cons_succ, List.zip_cons_cons]
theorem any_zipI {x : Int} : ∀ (ks : List Int) (vs : List V), ks.length = vs.length → (((ks.map (Sum.inl : Int → Key)).zip vs).any fun kv => decide (kv.1 = Sum.inl x)) = decide (x ∈ ks)
  | [], vs, _ => by simp
  | k :: ks, [], hl => nomatch hl
  | k :: ks, v :: vs, hl => by
    have ih := any_zipI (x := x) ks vs (by simpa using hl)
    rw [List.map_cons, List.zip_cons_cons, List.any_cons, ih]
    by_cases e : k = x
    · subst e; simp
    · have e1 : (decide ((Sum.inl k : Key) = Sum.inl x)) = false := decide_eq_false fun q => e (Sum.inl.inj q)
      have e2 : (x ∈ k :: ks) ↔ x ∈ ks := by simp [Ne.symm e]
      show (decide ((Sum.inl k : Key) = Sum.inl x) || _) = _
      rw [e1, Bool.false_or]
      exact decide_eq_decide.mpr e2.symm
theorem put_zipI {x : Int} {y : V} (ks : List Int) (vs : List V) (hn : ks.Nodup) (hl : ks.length = vs.length) :
    putK ((ks.map (Sum.inl : Int → Key)).zip vs) (Sum.inl x) y = if x ∈ ks then (ks.map Sum.inl).zip (vs.set (ks.idxOf x) y) else ((ks ++ [x]).map Sum.inl).zip (vs ++ [y]) := by
  unfold putK
  rw [any_zipI ks vs hl]
  by_cases e : x ∈ ks
  · rw [if_pos (decide_eq_true e), if_pos e, map_zipI ks vs hn hl]
  · rw [if_neg (by simpa using e), if_neg e, List.map_append, List.zip_append (by rw [List.length_map]; exact hl)]
    rfl
end
section
variable {X : Cx} {ca : Nat → Addr} {W : WX} {G : Nat → D} {Fn : Nat → List D → Store → Out D} {e o k : Expr} {e' o' k' : E} {pos pos' : Pos} {F0 H0 : Hp} {ι0 : List Addr}
theorem setDk_eq (S : Store) (v : D) (k : Nat) (x : Str) : setDk S v (.ref k) (.p (.str x)) = (match S[k]? with
    | some (.dct ks ds) => if decide (ks.length < 1000) then .ok () (S.set k (if x ∈ ks then .dct ks (ds.set (ks.idxOf x) v) else .dct (ks ++ [x]) (ds ++ [v]))) else .bad
    | _ => .bad) := rfl
theorem setDk_eqI (S : Store) (v : D) (k : Nat) (x : Int) : setDk S v (.ref k) (.p (.int x)) = (match S[k]? with
    | some (.dci ks ds) => if decide (ks.length < 1000000) then .ok () (S.set k (if x ∈ ks then .dci ks (ds.set (ks.idxOf x) v) else .dci (ks ++ [x]) (ds ++ [v]))) else .bad
    | _ => .bad) := rfl
/-- d[k] = e -/
theorem gs_setd (hu : X.A.units + 1 < cLine) (he : GE X ca W G Fn e' e) (ho : GE X ca W G Fn o' o) (hk : GE X ca W G Fn k' k) (hs : swapsWith e (some (.Subscript o k pos')) pos.line X.env = pure false := by rfl) : GS X ca W F0 H0 ι0 G Fn (.setd o' k' e') (.Assign [.Subscript o k pos'] e pos) := by
  refine PS.weaken (ps_dput hu ho hk he hs) fun D σ H ⟨F, ι, S, ρ, own, st, en, et, h⟩ => ?_
  rw [evS_setd] at h
  refine tG_ex st en (h.bindE et fun d S1 v F1 H1 ι1 s1 st1 r1 et1 h1 => ?_)
  rw [kSetd0_eq] at h1
  refine tG_ex st1 (en.mono s1) (h1.bindE et1 fun x S2 ov F2 H2 ι2 s2 st2 r2 et2 h2 => ?_)
  rw [kSetd1_eq] at h2
  refine tG_ex st2 ((en.mono s1).mono s2) (h2.bindE et2 fun y S3 iv F3 H3 ι3 s3 st3 r3 et3 h3 => ?_)
  rw [kSetd3_eq] at h3
  have r1 := Rep.mono s3 _ _ (Rep.mono s2 _ _ r1)
  have r2 := Rep.mono s3 _ _ r2
  have en3 := ((en.mono s1).mono s2).mono s3
  cases x with
  | ref i =>
    cases y with
    | p yy =>
     cases yy with
     | str t =>
      rw [setDk_eq] at h3
      split at h3
      · rename_i ks ds e2
        split at h3
        · rename_i hj
          have hj := of_decide_eq_true hj
          obtain ⟨pp, rfl, g1⟩ := rep_ref.mp r2
          obtain ⟨pp2, vs, g2, g3, g4, g5, g6⟩ := st3.dct e2
          rw [g1] at g2
          cases g2
          have ey := rep_p.mp r3
          cases ey
          have lv := g4.len
          have dp := DPut.k (k := (.inr t : Key)) (v := v) g3 (by rw [List.length_zip, List.length_map]; have q : (1000 : Nat) < sizeLine := (by decide); omega)
          refine ⟨pp, _, rfl, dp, ?_⟩
          have pz := put_zip (x := t) (y := v) ks vs g6 (by omega)
          have s4 := Stp.wr st3 (ix_mem g1) (.dK (putK ((ks.map Sum.inr).zip vs) (Sum.inr t : Key) v))
          rw [pz] at s4
          show D.nx σ (upd H3 pp (.dK (putK ((ks.map Sum.inr).zip vs) (Sum.inr t : Key) v)))
          rw [pz]
          by_cases c : t ∈ ks
          · rw [if_pos c] at h3 s4 ⊢
            exact h3 σ F3 _ ι3 own (Same.refl F3) (st3.wrO g1 ⟨_, upd_same, reps_set _ g4 r1, by rw [List.length_set]; exact g5, g6⟩) (en3.mono s4) (et3.mono s4)
          · rw [if_neg c] at h3 s4 ⊢
            exact h3 σ F3 _ ι3 own (Same.refl F3) (st3.wrO g1 ⟨_, upd_same, reps_append g4 (reps_cons.mpr ⟨v, [], rfl, r1, reps_nil.mpr rfl⟩), by rw [List.length_append, List.length_append, g5]; rfl, List.nodup_append.mpr ⟨g6, List.nodup_cons.mpr ⟨by simp, List.nodup_nil⟩, fun a h b hb e => by rw [List.mem_singleton.mp hb] at e; exact c (e ▸ h)⟩⟩) (en3.mono s4) (et3.mono s4)
        · exact h3.elim
      · exact h3.elim
     | int t =>
      rw [setDk_eqI] at h3
      split at h3
      · rename_i ks ds e2
        split at h3
        · rename_i hj
          have hj := of_decide_eq_true hj
          obtain ⟨pp, rfl, g1⟩ := rep_ref.mp r2
          obtain ⟨pp2, vs, g2, g3, g4, g5, g6⟩ := st3.dci e2
          rw [g1] at g2
          cases g2
          have ey := rep_p.mp r3
          cases ey
          have lv := g4.len
          have dp := DPut.k (k := (.inl t : Key)) (v := v) g3 (by rw [List.length_zip, List.length_map]; have q : (1000000 : Nat) < sizeLine := (by decide); omega)
          refine ⟨pp, _, rfl, dp, ?_⟩
          have pz := put_zipI (x := t) (y := v) ks vs g6 (by omega)
          have s4 := Stp.wr st3 (ix_mem g1) (.dK (putK ((ks.map Sum.inl).zip vs) (Sum.inl t : Key) v))
          rw [pz] at s4
          show D.nx σ (upd H3 pp (.dK (putK ((ks.map Sum.inl).zip vs) (Sum.inl t : Key) v)))
          rw [pz]
          by_cases c : t ∈ ks
          · rw [if_pos c] at h3 s4 ⊢
            exact h3 σ F3 _ ι3 own (Same.refl F3) (st3.wrO g1 ⟨_, upd_same, reps_set _ g4 r1, by rw [List.length_set]; exact g5, g6⟩) (en3.mono s4) (et3.mono s4)
          · rw [if_neg c] at h3 s4 ⊢
            exact h3 σ F3 _ ι3 own (Same.refl F3) (st3.wrO g1 ⟨_, upd_same, reps_append g4 (reps_cons.mpr ⟨v, [], rfl, r1, reps_nil.mpr rfl⟩), by rw [List.length_append, List.length_append, g5]; rfl, List.nodup_append.mpr ⟨g6, List.nodup_cons.mpr ⟨by simp, List.nodup_nil⟩, fun a h b hb e => by rw [List.mem_singleton.mp hb] at e; exact c (e ▸ h)⟩⟩) (en3.mono s4) (et3.mono s4)
        · exact h3.elim
      · exact h3.elim
     | _ => exact h3.elim
    | _ => exact h3.elim
  | _ => exact h3.elim
end
section
variable {X : Cx}
/-- members of any form -/
theorem o_memD (hu : X.A.units + 64 < cLine) : OpR X (compareOp .In) (rP2 X.K .memD) := by
  intro pins s σ H x y v u Q I rx ry h
  obtain ⟨F, ι, S, ds, d, st, ra, hp, q⟩ := h
  obtain ⟨d1, d2, rfl, r1, r2⟩ := two ra
  rw [prim_memD] at hp
  unfold p_memD at hp
  split at hp
  · rename_i a xs e
    cases e
    split at hp
    · rename_i f
      unfold memDok at f
      rw [Bool.and_eq_true, Bool.and_eq_true, decide_eq_true_eq] at f
      obtain ⟨bs, e1⟩ := Dp.reads I a x v (repA_dp st r1 rfl) rx
      obtain ⟨cs, e2⟩ := Dp.reads I (.list xs) y u (repA_dp st r2 rfl) ry
      exact SeqAt.in_list_reads e2 e1 f.1.2 f.1.1 (by omega) ⟨.bl _, H, I, rfl, b2 st q hp⟩
    · cases hp
  · rename_i a xs e
    cases e
    split at hp
    · rename_i f
      unfold memDok at f
      rw [Bool.and_eq_true, Bool.and_eq_true, decide_eq_true_eq] at f
      obtain ⟨bs, e1⟩ := Dp.reads I a x v (repA_dp st r1 rfl) rx
      obtain ⟨cs, e2⟩ := Dp.reads I (.tuple xs) y u (repA_dp st r2 rfl) ry
      exact SeqAt.in_tuple_reads e2 e1 f.1.2 f.1.1 (by omega) ⟨.bl _, H, I, rfl, b2 st q hp⟩
    · cases hp
  · cases hp
theorem o_nmemD (hu : X.A.units + 64 < cLine) : OpR X (compareOp .NotIn) (rP2 X.K .nmemD) := by
  intro pins s σ H x y v u Q I rx ry h
  obtain ⟨F, ι, S, ds, d, st, ra, hp, q⟩ := h
  obtain ⟨d1, d2, rfl, r1, r2⟩ := two ra
  rw [prim_nmemD] at hp
  unfold p_nmemD at hp
  split at hp
  · rename_i a xs e
    cases e
    split at hp
    · rename_i f
      unfold memDok at f
      rw [Bool.and_eq_true, Bool.and_eq_true, decide_eq_true_eq] at f
      obtain ⟨bs, e1⟩ := Dp.reads I a x v (repA_dp st r1 rfl) rx
      obtain ⟨cs, e2⟩ := Dp.reads I (.list xs) y u (repA_dp st r2 rfl) ry
      exact SeqAt.notIn_list_reads e2 e1 f.1.2 f.1.1 (by omega) ⟨.bl _, H, I, rfl, b2 st q hp⟩
    · cases hp
  · rename_i a xs e
    cases e
    split at hp
    · rename_i f
      unfold memDok at f
      rw [Bool.and_eq_true, Bool.and_eq_true, decide_eq_true_eq] at f
      obtain ⟨bs, e1⟩ := Dp.reads I a x v (repA_dp st r1 rfl) rx
      obtain ⟨cs, e2⟩ := Dp.reads I (.tuple xs) y u (repA_dp st r2 rfl) ry
      exact SeqAt.notIn_tuple_reads e2 e1 f.1.2 f.1.1 (by omega) ⟨.bl _, H, I, rfl, b2 st q hp⟩
    · cases hp
  · cases hp
end
end EC

namespace EC
open PySem PySem.Spec PyProof.Rows L2
variable [CA]
/-! ### list(x): a new list -/
section
variable {X : Cx} {ca : Nat → Addr} {W : WX} {G : Nat → D} {Fn : Nat → List D → Store → Out D} {e : Expr} {e' : E} {p pos : Pos}
theorem gf_tolist (hg : Gl X "list") (hm : X.mg "list" = none) (hv : bootBuiltins (Str.ofString "list") = some (.type "list")) (ha : GL X ca W G Fn [e'] [e]) (hn : (Str.ofString "list") ≠ "__name__" := by decide) (hdb : (Str.ofString "list" == ("__debug__" : Str)) = false := by decide)
    (he : starEach [e] X.env = (false, eval e X.env) :: starEach [] X.env := by rfl) (hpl : (backTo pos (starEach [] X.env)).any (·.1) = false := by rfl) : GF X ca W G Fn (.pr .list [e']) (.Call (.Name "list" p) [e] [] pos) := by
  refine PE.weaken (pe_callTy call_list_of hg hm hv ha hn hdb he hpl) fun σ H Q ⟨F, ι, S, ρ, own, st, en, h⟩ => ?_
  rw [evE_pr] at h
  refine tG_ex st en (h.bind_ fun ds S1 vs F1 H1 ι1 s1 st1 r1 h1 => ?_)
  have h1 : PostG ca X.K W σ F1 H1 ι1 (RFr X.K H) Q (Out.of (prim S1 .list ds) S1) := h1
  obtain ⟨x, hp, q⟩ := PostG.of h1
  rw [prim_list] at hp
  unfold p_list at hp
  split at hp
  · obtain ⟨v, w, rfl, q1, q2⟩ := repAs_cons r1
    obtain rfl := repAs_nil q2
    obtain ⟨a, vs, rfl, h1, h2⟩ := repA_list st1 q1
    cases hp
    exact ⟨a, vs, rfl, .inl h1, fun p hp => q (.ref p) F1 _ ι1 (Stp.refl.ow hp _) (st1.ow (st1.fnone hp) (st1.not_in hp) _) ⟨_, p, _, rfl, rfl, s1.back hp, st1.fnone hp, st1.not_in hp, upd_same, h2⟩⟩
  · obtain ⟨v, w, rfl, q1, q2⟩ := repAs_cons r1
    obtain rfl := repAs_nil q2
    obtain ⟨a, vs, rfl, h1, g1, h2⟩ := repA_tuple st1 q1
    cases hp
    exact ⟨a, vs, rfl, .inr h1, fun p hp => q (.ref p) F1 _ ι1 (Stp.refl.ow hp _) (st1.ow (st1.fnone hp) (st1.not_in hp) _) ⟨_, p, _, rfl, rfl, s1.back hp, st1.fnone hp, st1.not_in hp, upd_same, h2⟩⟩
  · cases hp
end
end EC

namespace EC
open PySem PySem.Spec PyProof.Rows L2
variable [CA]
/-! ### a set of texts that can be walked -/
def txOf (e : Int × Value) : Str := match e.2 with
  | .str x _ => x
  | _ => Str.empty
/-- the texts of ks stand at a, each once; the table rises -/
def SetX (w : World) (h : Heap) (a : Addr) (ks : List Str) : Prop :=
  ∃ o es ep t, h.get? a = some o ∧ o.ExactSet ∧ o.data = .set es ep t ∧ (∀ e ∈ es.toList, ∃ x tk, e.2 = .str x tk ∧ e.1 = hashStr w x) ∧ (es.toList.map txOf).Perm ks ∧
    es.size < scanBound ∧ t.fits es.size = true ∧ Ris t.place.toList ∧ (w.params.followText "set-order" = true ∨ t.led = true)
section
variable {P : Program} {w : World} {A : Around} {E : Value → Shared → Prop} {s : Shared} {a : Addr}
theorem SetX.kept {h h' : Heap} {ks : List Str} (R : SetX w h a ks) (k : ∀ o, h.get? a = some o → h'.get? a = some o) : SetX w h' a ks := by
  obtain ⟨o, es, ep, t, ho, r⟩ := R
  exact ⟨o, es, ep, t, k o ho, r⟩
theorem tx_elems {es : List (Int × Value)} (g : ∀ e ∈ es, ∃ x tk, e.2 = .str x tk ∧ e.1 = hashStr w x) : ElemsOf (PySem.strKind P w) es := fun e he => by
  obtain ⟨x, tk, e1, e2⟩ := g e he
  exact ⟨⟨x, by rw [e1]; exact strKind_is _ _ _ _, e2⟩, by rw [e1]; rfl⟩
theorem tx_mem {es : List (Int × Value)} (g : ∀ e ∈ es, ∃ x tk, e.2 = .str x tk ∧ e.1 = hashStr w x) (k : Str) : k ∈ es.map txOf ↔ ∃ e ∈ es, (PySem.strKind P w).is k e.2 = true := by
  rw [List.mem_map]
  constructor
  · rintro ⟨e, he, q⟩
    obtain ⟨x, tk, e1, e2⟩ := g e he
    refine ⟨e, he, ?_⟩
    have : x = k := by rw [← q, txOf, e1]
    rw [e1, this]
    exact strKind_is _ _ _ _
  · rintro ⟨e, he, q⟩
    obtain ⟨x, tk, e1, e2⟩ := g e he
    refine ⟨e, he, ?_⟩
    rw [e1] at q
    have : x = k := (PySem.strKind P w).inj (.str x tk) x k (strKind_is _ _ _ _) q
    rw [txOf, e1]
    exact this
theorem setX_tail {f : Bool → Sem Unit} (hf : ∀ (b : Bool) (s1 : Shared) (Q1 : Unit → Shared → Prop), Q1 () s1 → wpAny (model P w) A (f b) Q1 E s1)
    {o : Obj} {es : Array (Int × Value)} {ep : Nat} {t : SetTable} (ho : s.heap.get? a = some o) (hx : o.ExactSet) (hd : o.data = .set es ep t) {ks : List Str}
    {es1 : Array (Int × Value)} {t1 : SetTable} (g1 : ∀ e ∈ es1.toList, ∃ x tk, e.2 = .str x tk ∧ e.1 = hashStr w x) (p1 : (es1.toList.map txOf).Perm ks)
    (b1 : es1.size < scanBound) (f1 : t1.fits es1.size = true) (r1 : Ris t1.place.toList) (l1 : w.params.followText "set-order" = true ∨ t1.led = true) {wd : Bool} {R : Option Bool → Shared → Prop}
    (hR : ∀ h', Heap.SameBut a s.heap h' → SetX w h' a ks → R (some true) { s with heap := h' }) :
    wpAny (model P w) A (do
        storeSet a es1 t1
        if (!wd && t1.tooFull) = true then do
            f (relayAll t1 es1 (SetTable.grown es1.size)).2.2
            storeSet a (relayAll t1 es1 (SetTable.grown es1.size)).1 (relayAll t1 es1 (SetTable.grown es1.size)).2.1
            pure (some true)
          else pure (some true)) R E s := by
  refine wpAny_bind (wpAny_storeSet_of ho hd ?_ (fits_of_scanBound b1))
  have o1 := store_at (es' := es1) (t' := t1) ho hd
  have sb := Heap.SameBut.update s.heap a (Obj.putSet es1 t1)
  split
  · have pm := relayAll_perm t1 es1 (SetTable.grown es1.size)
    have ff := relayAll_fits t1 es1 (SetTable.grown es1.size)
    have rr := relayAll_ris t1 es1 (SetTable.grown es1.size)
    have ll := relayAll_led t1 es1 (SetTable.grown es1.size)
    generalize relayAll t1 es1 (SetTable.grown es1.size) = Y at pm ff rr ll ⊢
    rcases Y with ⟨es2, t2, gv⟩
    dsimp only at pm ff rr ll ⊢
    have z2 : es2.size = es1.size := by rw [← Array.length_toList, pm.length_eq, Array.length_toList]
    refine wpAny_bind (hf _ _ _ (wpAny_bind (wpAny_storeSet_of o1 rfl ?_ (fits_of_scanBound (by rw [z2]; exact b1)))))
    have o2 := store_at (es' := es2) (t' := t2) o1 rfl
    refine wpAny_pure (hR _ (sb.trans (Heap.SameBut.update _ a _)) ⟨_, es2, _, t2, o2, hx, rfl, fun e he => g1 e (pm.mem_iff.mp he), (pm.map txOf).trans p1, by rw [z2]; exact b1, ff, rr, ?_⟩)
    exact l1.imp id fun z => by rw [ll]; exact z
  · exact wpAny_pure (hR _ sb ⟨_, es1, _, t1, o1, hx, rfl, g1, p1, b1, f1, r1, l1⟩)
/-- one more text -/
theorem setX_add {k : Str} {tk : Tok} {ks : List Str} {Q : Bool → Shared → Prop} (R : SetX w s.heap a ks) (room : ks.length + 1 < scanBound)
    (hQ : ∀ b h', Heap.SameBut a s.heap h' → SetX w h' a (if k ∈ ks then ks else ks ++ [k]) → Q b { s with heap := h' }) :
    wpAny (model P w) A (setAddHashed a (.str k tk) ((PySem.strKind P w).hash k)) Q E s := by
  obtain ⟨o, es, ep, t, ho, hx, hd, g, pk, hb, hf, hr, hl⟩ := R
  have key : (PySem.strKind P w).is k (.str k tk) = true := strKind_is _ _ _ _
  have scn : (Value.str k tk).scannable = true := rfl
  have el : ElemsOf (PySem.strKind P w) es.toList := tx_elems g
  have sz : es.size = ks.length := by rw [← pk.length_eq, List.length_map, Array.length_toList]
  unfold setAddHashed setAddHashedIn
  refine wpAny_holding (wpAny_bind (wpAny_setState_of ho hd hf ?_))
  dsimp only
  rw [byScan_of scn hb el]
  simp only [↓reduceIte]
  unfold setAddByScan
  refine wpAny_bind (wpAny_bind (wpAny_rule (wpAny_bind (wpAny_setScan_of key ho hd hf el ?_))))
  cases fi : List.findIdx? (fun e => (PySem.strKind P w).is k e.2) es.toList with
  | some j =>
    dsimp only
    obtain ⟨hj, pj, _⟩ := List.findIdx?_eq_some_iff_getElem.mp fi
    have hk : k ∈ ks := pk.mem_iff.mp ((tx_mem (P := P) g k).mpr ⟨es.toList[j], List.getElem_mem hj, pj⟩)
    refine wpAny_pure (wpAny_pure ?_)
    refine hQ _ s.heap (Heap.SameBut.refl a s.heap) ?_
    rw [if_pos hk]
    exact ⟨o, es, ep, t, ho, hx, hd, g, pk, hb, hf, hr, hl⟩
  | none =>
    dsimp only
    have hk : k ∉ ks := fun z => by
      obtain ⟨e, he, q⟩ := (tx_mem (P := P) g k).mp (pk.mem_iff.mpr z)
      have c := List.findIdx?_eq_none_iff.mp fi e he
      rw [q] at c
      cases c
    have ru : ∀ (b : Bool) {s1 : Shared} {Q1 : Unit → Shared → Prop}, Q1 () s1 → wpAny (model P w) A (match b with | true => rule "set.scan.the-table-gave-way" | false => pure ()) Q1 E s1 :=
      fun b s1 Q1 q => by cases b <;> first | exact wpAny_pure q | exact wpAny_rule q
    have pm := layNew_perm t es ((PySem.strKind P w).hash k) (.str k tk)
    have ff := layNew_fits t es ((PySem.strKind P w).hash k) (.str k tk)
    have rr := layNew_ris t es ((PySem.strKind P w).hash k) (.str k tk) hr
    have ll := layNew_led t es ((PySem.strKind P w).hash k) (.str k tk)
    generalize layNew t es ((PySem.strKind P w).hash k) (.str k tk) = Y at pm ff rr ll ⊢
    rcases Y with ⟨es1, t1, wd, gv⟩
    dsimp only at pm ff rr ll ⊢
    rw [Array.toList_push] at pm
    have g1 : ∀ e ∈ es1.toList, ∃ x tk, e.2 = .str x tk ∧ e.1 = hashStr w x := fun e he => by
      rcases List.mem_append.mp (pm.mem_iff.mp he) with z | z
      · exact g e z
      · rw [List.mem_singleton.mp z]
        exact ⟨k, tk, rfl, rfl⟩
    have p1 : (es1.toList.map txOf).Perm (ks ++ [k]) := by
      have q := pm.map txOf
      rw [List.map_append] at q
      exact q.trans (pk.append_right _)
    have b1 : es1.size < scanBound := by
      rw [← Array.length_toList, pm.length_eq, List.length_append, Array.length_toList, sz]
      exact room
    have lled : w.params.followText "set-order" = true ∨ t1.led = true := hl.imp id fun z => by rw [ll]; exact z
    have fin : ∀ b h', Heap.SameBut a s.heap h' → SetX w h' a (ks ++ [k]) → Q b { s with heap := h' } := fun b h' sb r => hQ b h' sb (by rw [if_neg hk]; exact r)
    refine wpAny_bind (ru _ ?_)
    split
    · refine wpAny_bind ?_
      rw [hashByValue_scannable 8 scn]
      refine wpAny_pure ?_
      refine setX_tail ?_ ho hx hd g1 p1 b1 ?_ ?_ ?_ ?_
      · intro b s1 Q1 q; cases b <;> first | exact wpAny_pure q | exact wpAny_rule q
      · first | (split <;> first | exact ff | exact SetTable.fits_plain_off ff) | exact ff
      · first | (split <;> exact rr) | exact rr
      · first | (split <;> exact lled) | exact lled
      · intro h' sb r; dsimp only; exact wpAny_pure (fin _ h' sb r)
    · refine wpAny_bind (wpAny_pure ?_)
      simp only [↓reduceIte]
      refine setX_tail ?_ ho hx hd g1 p1 b1 ff rr lled ?_
      · intro b s1 Q1 q; cases b <;> first | exact wpAny_pure q | exact wpAny_rule q
      · intro h' sb r; dsimp only; exact wpAny_pure (fin _ h' sb r)
theorem ddN_mem (xs : List Str) (k : Str) : ∀ n, n ≤ xs.length → (k ∈ ddN xs n ↔ k ∈ xs.take n)
  | 0, _ => by simp [ddN]
  | n + 1, h => by
    have lt : n < xs.length := h
    have ih := ddN_mem xs k n (Nat.le_of_lt lt)
    have e : xs[n]? = some xs[n] := List.getElem?_eq_getElem lt
    rw [ddN, e, List.take_succ, e]
    dsimp only
    by_cases c : xs[n] ∈ xs.take n
    · rw [if_pos c, ih]
      simp only [Option.toList_some, List.mem_append, List.mem_singleton]
      exact ⟨.inl, fun z => z.elim id fun z => z ▸ c⟩
    · rw [if_neg c]
      simp only [Option.toList_some, List.mem_append, List.mem_singleton, ih]
theorem ddN_len (xs : List Str) : ∀ n, (ddN xs n).length = num xs n
  | 0 => rfl
  | n + 1 => by
    have ih := ddN_len xs n
    unfold ddN num
    split
    · split
      · exact ih
      · rw [List.length_append, ih]; rfl
    · exact ih
theorem fills_txs {items : Array Value} {xs : List Str} (hi : StrsAre items.toList xs) (hb : xs.length ≤ 4000) : Fills P w items fun S h => SetX w h S (ddN xs xs.length) := by
  intro A I S fp wr G St s R W offS h0 hat hR
  have sz : items.size = xs.length := by rw [← StrsAre.len_eq hi, Array.length_toList]
  have offW : S ∉ wr := fun z => offS (W.sub _ z)
  have up : ∀ b ∈ wr, b ∈ S :: wr := fun b hb => List.mem_cons_of_mem _ hb
  have key : ∀ (k i : Nat) (s : Shared), items.size - i = k → i ≤ items.size → St i s → SetX w s.heap S (ddN xs i) →
      (∀ s', Moved (S :: wr) G s s' → SetX w s'.heap S (ddN xs xs.length) → R (.ok (.ret .none)) s') → codeAny (model P w) A (.builtin "set.update.loop" ⟨[.ref S, .ref I], []⟩) R s := by
    intro k
    induction k with
    | zero =>
      intro i s hk hle hst hset hR
      obtain rfl : i = items.size := by omega
      refine codeAny_builtin F.entry_set_update_loop ?_
      rw [Around.under_plainId F.plain_set_update_loop _]
      refine (wpAny_bind (W.done s _ _ hst fun s' m => ?_) : wpAny _ A.in1 (pyNext (.ref I) >>= _) _ _ s)
      rw [sz] at hset
      refine (?_ : wpAny _ A.in1 (ret .none) _ _ s')
      exact wpAny_pure (hR s' (m.mono up) (hset.kept fun o e => m.heap S _ offW e))
    | succ k ih =>
      intro i s hk hle hst hset hR
      have lt : i < items.size := by omega
      refine codeAny_builtin F.entry_set_update_loop ?_
      rw [Around.under_plainId F.plain_set_update_loop _]
      refine (wpAny_bind (W.item i s _ _ lt hst fun v s' pv hst' m => ?_) : wpAny _ A.in1 (pyNext (.ref I) >>= _) _ _ s)
      obtain ⟨x, t, ex, rfl⟩ := strs_get hi i v (by rw [Array.getElem?_toList]; exact pv)
      have hset' : SetX w s'.heap S (ddN xs i) := hset.kept fun o e => m.heap S _ offW e
      refine (wpAny_bind (wpAny_holding ?_) : wpAny _ A.in1 (holding [Value.str x t] (setAdd S (.str x t)) >>= _) _ _ s')
      unfold setAdd
      refine wpAny_holding (wpAny_bind ((PySem.strKind P w).pyHash (k := x) (strKind_is _ _ _ _) ?_))
      have hn : (ddN xs i).length ≤ i := by rw [ddN_len]; exact num_le xs i
      refine setX_add (s := { s' with toks := s'.toks + 1 }) hset' (by unfold scanBound; omega) fun b h' sb hnew => ?_
      have next : SetX w h' S (ddN xs (i + 1)) := by
        have e : ddN xs (i + 1) = if x ∈ ddN xs i then ddN xs i else ddN xs i ++ [x] := by
          rw [ddN, ex]
          dsimp only
          by_cases c : x ∈ xs.take i
          · rw [if_pos c, if_pos ((ddN_mem xs x i (by omega)).mpr c)]
          · rw [if_neg c, if_neg fun z => c ((ddN_mem xs x i (by omega)).mp z)]
        rw [e]
        exact hnew
      refine wpAny_pure ⟨plainId_quiet F.plain_set_update_loop _, ih (i + 1) _ (by omega) lt (W.frame _ s' _ _ hst' (Nat.le_succ _) fun b hb o e => ?_) next fun s'' m2 hset2 => ?_⟩
      · rw [sb.2 b (fun h : b = S => offS (h ▸ hb))]
        exact e
      · refine hR s'' (Moved.trans W.gtrans ((m.mono up).then_heap (Nat.le_succ _) fun b o hb e => ?_) m2) hset2
        rw [sb.2 b (fun h : b = S => hb (h ▸ List.mem_cons_self))]
        exact e
  refine key (items.size - 0) 0 s (by omega) (Nat.zero_le _) h0 ?_ hR
  refine ⟨_, #[], 0, _, hat, ⟨rfl, rfl, rfl⟩, rfl, fun e he => by simp at he, by simp [ddN], by decide, by rfl, List.Pairwise.nil, ?_⟩
  cases w.params.followText "set-order" <;> simp [SetTable.fresh]
/-- sorted(set) -/
theorem sortedX {ks : List Str} {Q : Value → Shared → Prop} (R : SetX w s.heap a ks) (hh : A.handled = none) (h64 : ks.length < 64)
    (hQ : ∀ s' p (out : Array Value) (c : Nat) (ns : List Str), (∀ b o, s.heap.get? b = some o → s'.heap.get? b = some o) → s'.gens = s.gens → s'.os = s.os → s.heap.objs.size ≤ p →
      s'.heap.get? p = some (seqObj "list" out c) → StrsAre out.toList ns → ns.Perm ks → sortedS ns = true → Q (.ref p) s') :
    wpAny (model P w) A (call (.builtin "sorted") [.ref a]) Q E s := by
  obtain ⟨o, es, ep, t, ho, hx, hd, g, pk, hb, hf, hr, hl⟩ := R
  refine Calls.call_function_entry kind_sorted plain_sorted entry_sorted (args_sorted1 _) ?_
  unfold Builtin.«sorted»
  refine wpAny_bind (m := checkCount "sorted" 1 1 _) (wpAny_pure ?_)
  refine wpAny_bind (collect_set (A := A.in1) hh ⟨o, ho, hx.1, hd⟩ hf hb hr hl fun s1 vs k1 hz g1 o1 pm => ?_)
  have hS : StrsAre vs (vs.map strOf) := strsAre_map vs fun v hv => by
    obtain ⟨e, he, q⟩ := List.mem_map.mp (pm.mem_iff.mp hv)
    obtain ⟨k, tk, h1, _⟩ := g e he
    exact ⟨k, tk, by rw [← q]; exact h1⟩
  have pn : (vs.map strOf).Perm ks := by
    have q := pm.map strOf
    rw [List.map_map] at q
    exact q.trans pk
  have hvl : vs.length < 64 := by
    have := pn.length_eq
    rw [List.length_map] at this
    omega
  refine wpAny_bind (wpAny_newList ?_ (by rw [sizeLine_eq]; omega))
  have hoL : (s1.heap.push (seqObj "list" vs.toArray 0)).get? s1.heap.objs.size = some (seqObj "list" vs.toArray 0) := Heap.get?_push_size _ rfl
  refine wpAny_bind (wpAny_holding (wpAny_call_entry slot_list_sort ⟨_, hoL, rfl⟩ entry_list_sort (list_sort_treeK strKind_oneLt hoL hS.keysOf (fun v1 v2 rest e => keyKind_strs (by rw [← e]; exact hS)) hvl fun st' hp hs => ⟨_, rfl, ?_⟩) (args_list_sort _)))
  obtain ⟨ss', h1, h2, h3⟩ := sorted_out_str hS hp hs
  obtain ⟨c, hc⟩ := sortedHeap_at (vs := vs) (out := (arrOf st').map (·.2)) hoL
  refine wpAny_pure ⟨_, rfl, hQ _ s1.heap.objs.size _ c ss' (fun b u e => ?_) g1 o1 hz hc h1 (h2.trans pn) h3⟩
  have q := k1 b u e
  have lt := Heap.lt_size q
  show (sortedHeap (s1.heap.push (seqObj "list" vs.toArray 0)) s1.heap.objs.size vs _).get? b = some u
  rw [sortedHeap_old (Nat.ne_of_lt lt) (by rw [size_push']; exact Nat.lt_succ_of_lt lt)]
  exact Heap.get?_push_of_some _ q
end
section
variable {X : Cx} {ca : Nat → Addr} {W : WX} {G : Nat → D} {Fn : Nat → List D → Store → Out D}
def tSortX (K : PySem.W.Frag) (ta : TE) : TE := fun σ H Q => ta σ H fun x H1 =>
  (∃ (l : Addr) (ns : List Int), x = .ref l ∧ SqL K H1 l (ns.map V.int) ∧ ns.length ≤ 4000 ∧ (∀ n ∈ ns, 0 ≤ n ∧ n < 60) ∧ ∀ p, H1 p = none → Q (.ref p) (upd H1 p (.lst ((ascD ns).map V.int)))) ∨
  (∃ (l : Addr) (ss : List Str), x = .ref l ∧ SqL K H1 l (ss.map V.str) ∧ ss.length < 64 ∧ ∀ p, H1 p = none → Q (.ref p) (upd H1 p (.lst ((sortS (ddN ss ss.length)).map V.str))))
theorem pe_sortX {a : Expr} {ta : TE} {p p2 q pos : Pos} (hc : X.calm = true) (hg : Gl X "sorted") (hm : X.mg "sorted" = none) (hg2 : Gl X "set") (hm2 : X.mg "set" = none) (ha : PE X a ta)
    (na : starEach [a] X.env = (false, eval a X.env) :: starEach [] X.env := by rfl) : PE X (.Call (.Name "sorted" p) [.Call (.Name "set" p2) [a] [] q] [] pos) (tSortX X.K ta) := by
  refine ⟨fun pins s σ H Q I h => ?_⟩
  refine Call_ (ld_blt I hg hm boot_sorted (callWith_builtin1 (args_cons ?_ rfl) rfl rfl))
  refine Call_ (ld_blt I hg2 hm2 boot_set ?_)
  refine callWith_type1 (args_cons (thn (ha.run pins s σ H _ I h) fun v s1 ⟨x, H1, I1, r1, q1⟩ => args_nil ?_) na) na rfl
  rcases q1 with ⟨l, ns, rfl, hq, hl, hn, q1⟩ | ⟨l, ss, rfl, hq, hl, q1⟩
  · cases r1
    obtain ⟨its, r, pl, hz⟩ := I1.list hq
    refine set_call (I1.ok.hd hc) (.inl pl.isList) (fills_ints (by simpa using intsAre_of r) hl) fun h' tk ⟨c, hset⟩ ho => ?_
    have I2 : Inv X pins σ H1 { s1 with heap := h', toks := tk } := I1.kept ho
    obtain ⟨s2, e2⟩ : ∃ s2 : Shared, s2 = { s1 with heap := h', toks := tk } := ⟨_, rfl⟩
    have hset : SetR X.w s2.heap s1.heap.objs.size (fun j => decide (j ∈ ns)) c := by rw [e2]; exact hset
    rw [← e2] at I2 ⊢
    refine args_nil (sorted_set hset (I2.ok.hd hc) (setR_few hset hn) fun s3 p out c3 ms keep gg go hp hat hints asc hmem hlen => ?_)
    have ems : ms = ascD ns := asc_uniq _ _ asc (ascD_asc ns) fun k => by
      rw [hmem k, ascD_mem hn k]
      exact decide_eq_true_iff
    subst ems
    have free : H1 p = none := I2.hok.fresh hp
    have small : ((ascD ns).map V.int).length ≤ sizeLine := by
      rw [List.length_map, sizeLine_eq]
      have := List.length_filterMap_le (fun (k : Nat) => if (k : Int) ∈ ns then some (k : Int) else none) (List.range 60)
      rw [List.length_range] at this
      have e : (ascD ns).length ≤ 60 := this
      omega
    have J : Inv X pins σ (upd H1 p (.lst ((ascD ns).map V.int))) { s2 with heap := s3.heap, gens := s3.gens, drawn := s3.drawn, toks := s3.toks } :=
      I2.call (ch := []) (Un.laid keep hp free) (I2.hok.laid keep hp ⟨small, out.toList, c3, vals_of_ints hints, hat⟩) (by rw [gg]; exact I2.bare) fun _ z => nomatch z
    have e3 : s3 = { s2 with heap := s3.heap, gens := s3.gens, drawn := s3.drawn, toks := s3.toks } := by
      rcases s3 with ⟨_, _, _, _, _⟩
      rcases s2 with ⟨_, _, _, _, _⟩
      cases go
      rfl
    rw [e3]
    exact ⟨.ref p, _, J, rfl, q1 p free⟩
  · cases r1
    obtain ⟨its, r, pl, hz⟩ := I1.list hq
    refine set_call (I1.ok.hd hc) (.inl pl.isList) (fills_txs (by simpa using strsAre_of r) (by omega)) fun h' tk hset ho => ?_
    have I2 : Inv X pins σ H1 { s1 with heap := h', toks := tk } := I1.kept ho
    obtain ⟨s2, e2⟩ : ∃ s2 : Shared, s2 = { s1 with heap := h', toks := tk } := ⟨_, rfl⟩
    have hset : SetX X.w s2.heap s1.heap.objs.size (ddN ss ss.length) := by rw [e2]; exact hset
    rw [← e2] at I2 ⊢
    have few : (ddN ss ss.length).length < 64 := by
      rw [ddN_len]
      have := num_le ss ss.length
      omega
    refine args_nil (sortedX hset (I2.ok.hd hc) few fun s3 p out c3 ms keep gg go hp hat hstrs perm up => ?_)
    have ems : ms = sortS (ddN ss ss.length) := sortS_uniq perm up
    subst ems
    have free : H1 p = none := I2.hok.fresh hp
    have small : ((sortS (ddN ss ss.length)).map V.str).length ≤ sizeLine := by
      rw [List.length_map, sizeLine_eq, perm.length_eq]
      omega
    have J : Inv X pins σ (upd H1 p (.lst ((sortS (ddN ss ss.length)).map V.str))) { s2 with heap := s3.heap, gens := s3.gens, drawn := s3.drawn, toks := s3.toks } :=
      I2.call (ch := []) (Un.laid keep hp free) (I2.hok.laid keep hp ⟨small, out.toList, c3, vals_of_strs hstrs, hat⟩) (by rw [gg]; exact I2.bare) fun _ z => nomatch z
    have e3 : s3 = { s2 with heap := s3.heap, gens := s3.gens, drawn := s3.drawn, toks := s3.toks } := by
      rcases s3 with ⟨_, _, _, _, _⟩
      rcases s2 with ⟨_, _, _, _, _⟩
      cases go
      rfl
    rw [e3]
    exact ⟨.ref p, _, J, rfl, q1 p free⟩
variable {a : Expr} {a' : E}
theorem g_sortset {p p2 q pos : Pos} (hc : X.calm = true) (hg : Gl X "sorted") (hm : X.mg "sorted" = none) (hg2 : Gl X "set") (hm2 : X.mg "set" = none) (ha : GA X ca W G Fn a' a)
    (na : starEach [a] X.env = (false, eval a X.env) :: starEach [] X.env := by rfl) : GE X ca W G Fn (.pr .sortset [a']) (.Call (.Name "sorted" p) [.Call (.Name "set" p2) [a] [] q] [] pos) := by
  refine PE.weaken (pe_sortX hc hg hm hg2 hm2 ha na) fun σ H Q ⟨F, ι, S, ρ, own, st, en, h⟩ => ?_
  obtain ⟨F, ι, S, ρ, own, st, en, h⟩ := one_end h st en
  refine ⟨F, ι, S, ρ, own, st, en, h.wish ?_⟩
  intro x H1 ⟨F, ι, S, ds, d, st, ra, hp, q⟩
  rw [prim_sortset] at hp
  unfold p_sortset at hp
  split at hp
  · rename_i xs
    obtain ⟨v, w, e1, r1, r2⟩ := repAs_cons ra
    obtain rfl := repAs_nil r2
    cases e1
    obtain ⟨p, vs, rfl, h1, h2⟩ := repA_list st r1
    split at hp
    · rename_i ns ens
      split at hp
      · rename_i ok
        cases hp
        rw [ints_V ens h2] at h1
        simp only [Bool.and_eq_true, decide_eq_true_eq, List.all_eq_true] at ok
        refine .inl ⟨p, ns, rfl, h1, ok.1, ok.2, fun p2 hp2 => ?_⟩
        exact fin_lst st q (ints_dq (ascD ns)) hp2
      · cases hp
    · split at hp
      · rename_i ss ess
        split at hp
        · rename_i ok
          cases hp
          rw [strs_V ess h2] at h1
          refine .inr ⟨p, ss, rfl, h1, of_decide_eq_true ok, fun p2 hp2 => ?_⟩
          exact fin_lst st q (strs_dq _) hp2
        · cases hp
      · cases hp
  · cases hp
end
end EC

namespace EC
open PySem PySem.Spec PyProof.Rows L2
variable [CA]
/-! ### k in d, k not in d: a dict of the store -/
theorem dfind_mem {x : Str} : ∀ {ks : List Str} {ds : List D}, ks.length = ds.length → ((dfind ks ds x).isSome = decide (x ∈ ks))
  | [], [], _ => by simp [dfind]
  | [], _ :: _, h => nomatch h
  | _ :: _, [], h => nomatch h
  | k :: ks, d :: ds, h => by
    have ih := dfind_mem (x := x) (ks := ks) (ds := ds) (by simpa using h)
    unfold dfind
    by_cases e : k = x
    · subst e; simp
    · have e2 : ¬ x = k := fun z => e z.symm
      rw [if_neg e, ih]
      simp [e2]
theorem dfind_memI {x : Int} : ∀ {ks : List Int} {ds : List D}, ks.length = ds.length → ((dfindI ks ds x).isSome = decide (x ∈ ks))
  | [], [], _ => by simp [dfindI]
  | [], _ :: _, h => nomatch h
  | _ :: _, [], h => nomatch h
  | k :: ks, d :: ds, h => by
    have ih := dfind_memI (x := x) (ks := ks) (ds := ds) (by simpa using h)
    unfold dfindI
    by_cases e : k = x
    · subst e; simp
    · have e2 : ¬ x = k := fun z => e z.symm
      rw [if_neg e, ih]
      simp [e2]
section
variable {K : PySem.W.Frag} {F H : Hp} {ι : List Addr}
theorem repA_dct {S : Store} {i : Nat} {ks : List Str} {ds : List D} {v : V} (s : Sto K F H ι S) (h : RepA K F H ι (.ref i) v) (hs : S[i]? = some (.dct ks ds)) (x : Str) :
    ∃ a o, v = .ref a ∧ DGet H a (.str x) o ∧ o.isSome = decide (x ∈ ks) := by
  rcases h with h | ⟨a, vs, xs, e1, _⟩
  · obtain ⟨a, e, h1⟩ := rep_ref.mp h
    obtain ⟨b, vs, h2, h3, h4, h5, h6⟩ := s.dct hs
    rw [h1] at h2
    cases h2
    refine ⟨a, valV ((ks.map Sum.inr).zip vs) (Sum.inr x : Key), e, DGet.k (k := (.inr x : Key)) h3, ?_⟩
    rw [← dfind_mem (x := x) h5]
    have q := valV_find (x := x) h5 h4
    cases w : dfind ks ds x with
    | none => rw [q.2 w]; rfl
    | some d =>
      obtain ⟨v2, l1, _⟩ := q.1 d w
      rw [l1]; rfl
  · cases e1
theorem repA_dci {S : Store} {i : Nat} {ks : List Int} {ds : List D} {v : V} (s : Sto K F H ι S) (h : RepA K F H ι (.ref i) v) (hs : S[i]? = some (.dci ks ds)) (x : Int) :
    ∃ a o, v = .ref a ∧ DGet H a (.int x) o ∧ o.isSome = decide (x ∈ ks) := by
  rcases h with h | ⟨a, vs, xs, e1, _⟩
  · obtain ⟨a, e, h1⟩ := rep_ref.mp h
    obtain ⟨b, vs, h2, h3, h4, h5, h6⟩ := s.dci hs
    rw [h1] at h2
    cases h2
    refine ⟨a, valV ((ks.map Sum.inl).zip vs) (Sum.inl x : Key), e, DGet.k (k := (.inl x : Key)) h3, ?_⟩
    rw [← dfind_memI (x := x) h5]
    have q := valV_findI (x := x) h5 h4
    cases w : dfindI ks ds x with
    | none => rw [q.2 w]; rfl
    | some d =>
      obtain ⟨v2, l1, _⟩ := q.1 d w
      rw [l1]; rfl
  · cases e1
end
section
variable {X : Cx}
theorem o_memK (hu : X.A.units + 1 < cLine) : OpR X (compareOp .In) (rP2 X.K .memK) := by
  intro pins s σ H x y v u Q I rx ry h
  obtain ⟨F, ι, S, ds, d, st, ra, hp, q⟩ := h
  obtain ⟨d1, d2, rfl, r1, r2⟩ := two ra
  rw [prim_memK] at hp
  unfold p_memK at hp
  split at hp
  · rename_i a i e
    cases e
    split at hp
    · rename_i ks es hs
      obtain ⟨b, o, rfl, g, ho⟩ := repA_dct st r2 hs a
      have ex := repA_str r1
      subst ex
      rw [show u = Value.ref b from ry]
      refine d_in hu I g rx fun s2 I2 => ?_
      rw [ho]
      exact ⟨.bl _, H, I2, rfl, b2 st q hp⟩
    · cases hp
  · rename_i a i e
    cases e
    split at hp
    · rename_i ks es hs
      obtain ⟨b, o, rfl, g, ho⟩ := repA_dci st r2 hs a
      have ex := repA_int r1
      subst ex
      rw [show u = Value.ref b from ry]
      refine d_in hu I g rx fun s2 I2 => ?_
      rw [ho]
      exact ⟨.bl _, H, I2, rfl, b2 st q hp⟩
    · cases hp
  · cases hp
theorem o_nmemK (hu : X.A.units + 1 < cLine) : OpR X (compareOp .NotIn) (rP2 X.K .nmemK) := by
  intro pins s σ H x y v u Q I rx ry h
  obtain ⟨F, ι, S, ds, d, st, ra, hp, q⟩ := h
  obtain ⟨d1, d2, rfl, r1, r2⟩ := two ra
  rw [prim_nmemK] at hp
  unfold p_nmemK at hp
  split at hp
  · rename_i a i e
    cases e
    split at hp
    · rename_i ks es hs
      obtain ⟨b, o, rfl, g, ho⟩ := repA_dct st r2 hs a
      have ex := repA_str r1
      subst ex
      rw [show u = Value.ref b from ry]
      refine d_notIn hu I g rx fun s2 I2 => ?_
      rw [ho]
      exact ⟨.bl _, H, I2, rfl, b2 st q hp⟩
    · cases hp
  · rename_i a i e
    cases e
    split at hp
    · rename_i ks es hs
      obtain ⟨b, o, rfl, g, ho⟩ := repA_dci st r2 hs a
      have ex := repA_int r1
      subst ex
      rw [show u = Value.ref b from ry]
      refine d_notIn hu I g rx fun s2 I2 => ?_
      rw [ho]
      exact ⟨.bl _, H, I2, rfl, b2 st q hp⟩
    · cases hp
  · cases hp
end
end EC

namespace EC
open PySem PySem.Spec PyProof.Rows L2
variable [CA]
/-! ### DICT.get(x) of a dict of the module; tuple(x) of a list of the store -/
section
variable {X : Cx} {ca : Nat → Addr} {W : WX} {G : Nat → D} {Fn : Nat → List D → Store → Out D} {o e : Expr} {e' : E} {p p1 apos pos cpos : Pos} {td ty : TE} {d : Addr} {es : Array DictEntry} {n : Nat}
theorem pe_kdget (D : KDict X.K X.w d es n) (ho : PE X o td) (he : PE X e ty) (m : M1 X o "get" apos e cpos) : PE X (.Call (.Attribute o "get" apos) [e] [] cpos)
    (fun σ H Q => td σ H fun x H1 => x = .ref d ∧ ty σ H1 fun y H2 => ∃ z r, y = .str z ∧ PySem.W.nsIn X.K d z = some r ∧ (r = none → Q .non H2) ∧ ∀ u0, r = some u0 → ∃ v0, RelV v0 u0 ∧ Q v0 H2) := by
  refine ⟨fun pins s σ H Q I h => ?_⟩
  refine wpAny_Call_method m.base m.few m.line PySem.F.plainAttrs_dict PySem.F.slot_dict_get PySem.F.type_dict_get (thn (ho.run pins s σ H _ I h) fun u s1 ⟨x, H1, I1, rx, ex, q1⟩ => ?_)
  subst ex
  obtain rfl : u = Value.ref d := rx
  have hm := PySem.W.mapOf_K (prog := X.prog) (w := X.w) I1.kIn D.at_ D.lit
  refine ⟨hm.typeIs, fun b q => ?_, ?_⟩
  · cases q
    obtain ⟨ob, _, _, h1, h2, _⟩ := hm
    exact ⟨ob, h1, h2.2.1⟩
  rw [m.trees]
  refine Calls.callWith_builtin rfl (Calls.evalArgs_plain (Calls.spliced_cons (thn (he.run pins s1 σ H1 _ I1 q1) fun iv s2 ⟨y, H2, I2, ry, z, r, ey, en, q2, q3⟩ => Calls.spliced_nil ?_)))
  subst ey
  obtain ⟨t, rfl⟩ := (show ∃ t, iv = Value.str z t from ry)
  have hm2 := PySem.W.mapOf_K (prog := X.prog) (w := X.w) I2.kIn D.at_ D.lit
  refine call_meetsIn PySem.F.slot_dict_get hm2.typeIs PySem.F.entry_dict_get (PySem.F.args_dict_get_2 _ _) (meets_dict_get (strKind X.prog X.w) d (strKind_is X.prog X.w z t) D.low) ⟨_, hm2, ?_⟩
  rw [PySem.W.find_K D.at_ en]
  cases r with
  | none => exact ⟨.non, H2, I2.tok _, rfl, q2 rfl⟩
  | some u0 =>
    obtain ⟨v0, rv, q⟩ := q3 u0 rfl
    exact ⟨v0, H2, I2.tok _, rv, q⟩
theorem g_ggetN {k : Nat} {x : Str} (hg : Gl X x) (hr : GdR X G k x) (hM : GdM X G k x) (he : GE X ca W G Fn e' e) (m : M1 X (.Name x p1) "get" apos e pos) (hd : (x == ("__debug__" : Str)) = false := by decide) : GE X ca W G Fn (.ggetN k e') (.Call (.Attribute (.Name x p1) "get" apos) [e] [] pos) := by
  obtain ⟨d, es, n, hm, kd, hs⟩ := hM.r
  obtain ⟨d', hm', hv⟩ := hr.r
  obtain rfl : d' = d := by rw [hm] at hm'; cases hm'; rfl
  refine PE.weaken (pe_kdget kd (pe_glob (v := .ref d') hg hm rfl hd) he m) fun σ H Q ⟨F, ι, S, ρ, own, st, en, h⟩ => ?_
  rw [evE_ggetN] at h
  refine ⟨rfl, tG_ex st en (h.bind_ fun y S1 v F1 H1 ι1 s1 st1 r1 h1 => ?_)⟩
  cases y with
  | p y =>
    cases y with
    | str z =>
      rw [kGgN_eq] at h1
      obtain ⟨r, e1, e2⟩ := hs z
      refine ⟨z, r, repA_str (F := F1) (H := H1) (ι := ι1) (K := X.K) (.inl r1), e1, fun er => ?_, fun u0 er => ?_⟩
      · subst er
        cases q : dlook (G k) z with
        | some data => rw [q] at e2; cases e2
        | none =>
          rw [q] at h1
          exact h1 .non F1 H1 ι1 Stp.refl st1 (rep_p.mpr .non)
      · subst er
        cases q : dlook (G k) z with
        | none => rw [q] at e2; cases e2
        | some data =>
          rw [q] at h1
          obtain ⟨w, ⟨es', n', u, l1, l2, l3, rv⟩, k2⟩ := hv z data q
          rw [l3] at e1
          cases e1
          exact ⟨w, rv, h1 w F1 H1 ι1 Stp.refl st1 (rep_p.mpr (k2 F1))⟩
    | _ => exact h1.elim
  | _ => exact h1.elim
/-! ### f() -/
theorem pe_callG0 {CX : CXT} {k : Nat} {f : Addr} {fd : FuncData} {ps : List Str} {E : L2.St → XK} {x : Str} {sp : Sp} {gb : Bool} (F : FnG gb X.prog X.w X.K X.mg X.base CX k f fd ps sp) (hr : Room k X.A) (hgd : gb = true → X.A.guards = some []) (hg : Gl X x) (hm : X.mg x = some (.ref f)) (hk : PySem.W.keepIn X.K (.ref f) = true) (hb : Binds X.K fd ps []) (hx : ∀ σ, PassesAt CX X σ (E σ))
    (hdb : (x == ("__debug__" : Str)) = false := by decide) : PE X (.Call (.Name x p) [] [] pos) (fun σ H Q => sp [] H Q (E σ)) := by
  refine ⟨fun pins s σ H Q I h => ?_⟩
  refine wpAny_Call_Name_kw (ld_glob I hg hm ?_ hdb)
  have hl : ([] : List V).length = ps.length := F.len _ _ _ _ h
  have b := hb s [] I.kIn (by rw [List.append_nil]; exact hl)
  rw [List.append_nil] at b
  exact PySem.W.callWith_K0 I.kIn hk (run_fnG (us := []) (args := ⟨[], []⟩) F hr hgd b (hx σ) I .nil h)
theorem g_call0 {i : Nat} {x : Str} {ps : List Str} (C : FnC X ca W Fn 0 i x ps) (hg : Gl X x) (hdb : (x == ("__debug__" : Str)) = false := by decide) : GE X ca W G Fn (.call i [] []) (.Call (.Name x p) [] [] pos) := by
  obtain ⟨gb, f, fd, k, F, hr, hgd, hm, hk, hb, hx⟩ := C.c
  refine PE.weaken (pe_callG0 F hr hgd hg hm hk hb hx hdb) fun σ H Q ⟨F, ι, S, ρ, own, st, en, h⟩ => ?_
  rw [evE_call, evEs_nil] at h
  have h : PostG ca X.K W σ F H ι (RV X.K) Q (Fn i [] S) := h
  exact ⟨rfl, F, ι, S, [], st, reps_nil.mpr rfl, h.at_⟩
theorem o_tupr : CallR X (.type "tuple") (rP X.K .tupr) := by
  intro pins s σ H xs us Q I r h
  obtain ⟨F, ι, S, ds, d, st, ra, hp, q⟩ := h
  rw [prim_tupr] at hp
  unfold p_tupr at hp
  split at hp
  · rename_i i
    obtain ⟨v, w, rfl, r1, r2⟩ := repAs_cons ra
    obtain rfl := repAs_nil r2
    split at hp
    · rename_i es he
      obtain ⟨p, vs, rfl, hF, h1, h2⟩ := repA_ref st r1 he
      obtain ⟨xs, e1, rfl⟩ := map_some hp
      exact call_tuple_of pins s σ H _ us Q I r ⟨p, vs, rfl, .inl ⟨SqL.of h1, fun l hl => fin_tup st q (reps_pures e1 h2) hl⟩⟩
    · cases hp
  · cases hp
end
end EC

namespace EC
open PySem PySem.Spec PyProof.Rows L2
variable [CA]
/-! ### {k: v} with a whole number as its key; dict(pairs) -/
theorem bt_dict : bootBuiltins "dict" = some (.type "dict") := by decide +kernel
inductive PB (K : PySem.W.Frag) (H : Hp) : List Addr → List (Int × V) → Prop
  | nil : PB K H [] []
  | cons {b : Addr} {bs : List Addr} {k : Int} {u : V} {us : List (Int × V)} (h : SqT K H b [.int k, u]) (r : PB K H bs us) : PB K H (b :: bs) ((k, u) :: us)
theorem vals_refs : ∀ {bs : List Addr} {its : List Value}, Vals (bs.map V.ref) its → its = bs.map Value.ref
  | [], _, r => by cases r; rfl
  | b :: bs, _, r => by
    rw [List.map_cons] at r
    cases r with
    | @cons x u xs us h t =>
      have e := vals_refs t
      subst e
      cases h
      rfl
theorem pb_vals {X : Cx} {pins : List (Addr × Obj)} {σ : L2.St} {H : Hp} {s : Shared} (I : Inv X pins σ H s) : ∀ {bs : List Addr} {us : List (Int × V)}, PB X.K H bs us →
    ∃ (ps : List (Value × Value)) (kvs : List (Key × Value)), ps.length = bs.length ∧ kvs.length = bs.length ∧ (∀ (j : Nat) (k v : Value), ps[j]? = some (k, v) → ∃ b, bs[j]? = some b ∧ PairAt s.heap b k v) ∧ (∀ (i : Nat) (key v : Value), ps[i]? = some (key, v) → ∃ k, kvs[i]? = some (k, v) ∧ (mixKind X.prog X.w).is k key = true) ∧
      KV (us.map fun q => ((Sum.inl q.1 : Key), q.2)) kvs
  | [], _, h => by
    cases h
    exact ⟨[], [], rfl, rfl, fun j k v e => by simp at e, fun j k v e => by simp at e, .nil⟩
  | b :: bs, _, h => by
    cases h with
    | @cons _ _ k u us hb r =>
      obtain ⟨ps, kvs, l1, l2, q1, q2, q3⟩ := pb_vals I r
      obtain ⟨its, rv, pt, _⟩ := I.tuple hb
      obtain ⟨x, y, rfl, r1, r2⟩ := vals2 rv
      obtain ⟨t, rfl⟩ := (show ∃ t, x = Value.int k t from r1)
      refine ⟨(.int k t, y) :: ps, ((Sum.inl k : Key), y) :: kvs, by simp [l1], by simp [l2], fun j k' v e => ?_, fun j k' v e => ?_, .cons ⟨rfl, r2⟩ q3⟩
      · cases j with
        | zero =>
          simp only [List.getElem?_cons_zero, Option.some.injEq, Prod.mk.injEq] at e
          obtain ⟨rfl, rfl⟩ := e
          exact ⟨b, rfl, .inl pt⟩
        | succ j =>
          obtain ⟨b', e1, e2⟩ := q1 j k' v (by simpa using e)
          exact ⟨b', by simpa using e1, e2⟩
      · cases j with
        | zero =>
          simp only [List.getElem?_cons_zero, Option.some.injEq, Prod.mk.injEq] at e
          obtain ⟨rfl, rfl⟩ := e
          exact ⟨_, rfl, kV_is (k := (Sum.inl k : Key)) ⟨t, rfl⟩⟩
        | succ j =>
          obtain ⟨b', e1, e2⟩ := q2 j k' v (by simpa using e)
          exact ⟨b', by simpa using e1, e2⟩
theorem call_dictL {X : Cx} (hcalm : X.calm = true) : CallR X (.type "dict") (fun xs H Q => ∃ (a : Addr) (bs : List Addr) (us : List (Int × V)), xs = [.ref a] ∧ SqL X.K H a (bs.map V.ref) ∧ PB X.K H bs us ∧ (us.map (·.1)).Nodup ∧ us.length ≤ 1000000 ∧
    ∀ p, H p = none → Q (.ref p) (upd H p (.dK (us.map fun q => ((Sum.inl q.1 : Key), q.2))))) := by
  intro pins s σ H xs us Q I r q
  obtain ⟨a, bs, ps0, ex, hl, hb, hn, hz, q⟩ := q
  subst ex
  obtain ⟨u, eu, rx⟩ := vals1 r
  subst eu
  cases rx
  obtain ⟨its, rv, pl, _⟩ := I.list hl
  have ei := vals_refs rv
  subst ei
  obtain ⟨ps, kvs, l1, l2, q1, q2, q3⟩ := pb_vals I hb
  have lk := q3.length
  rw [List.length_map] at lk
  have z2 : (1000000 : Nat) ≤ sizeLine := by decide
  have items : PairItems s.heap (bs.map Value.ref).toArray (fun j => (bs[j]?).getD 0) ps := ⟨by simp [l1], fun j k v e => by
    obtain ⟨b, e1, e2⟩ := q1 j k v e
    refine ⟨?_, ?_⟩
    · simp [e1]
    · simp only [e1, Option.getD_some]; exact e2⟩
  refine call_dict_pairs (knd := mixKind X.prog X.w) (kvs := kvs) (PairArg.list a (bs.map Value.ref).toArray (fun j => (bs[j]?).getD 0) ps) (I.ok.hd hcalm) ⟨pl, items⟩ ⟨by rw [l2, l1], q2⟩ (by omega) fun h' tk d' hk => ?_
  have hm : (s.heap.objs.size == sysModules) = false := beq_eq_false_iff_ne.mpr (Nat.ne_of_gt I.big)
  have nd : (((([] : List (Key × V)) ++ (ps0.map fun q => ((Sum.inl q.1 : Key), q.2)))).map (·.1)).Nodup := by
    rw [List.nil_append, List.map_map]
    have : ((fun x => x.1) ∘ fun (q : Int × V) => ((Sum.inl q.1 : Key), q.2)) = Sum.inl ∘ fun q => q.1 := rfl
    rw [this, ← List.map_map]
    exact List.pairwise_map.mpr (List.Pairwise.imp (fun {a b} ne z => ne (Sum.inl.inj z)) hn)
  have km := KV.merge (kvs := []) (vs := []) q3 .nil
  rw [merge_nd _ [] nd, List.nil_append] at km
  exact ⟨.ref s.heap.objs.size, upd H s.heap.objs.size (.dK (ps0.map fun q => ((Sum.inl q.1 : Key), q.2))), I.laid (t' := tk) (fun b u e => hk b u (by simp) e) (Nat.le_refl _)
    (dk_new (by rw [List.length_map]; omega) hm km d'), rfl, q _ (I.hok.fresh (Nat.le_refl _))⟩
section
variable {K : PySem.W.Frag} {F H : Hp} {ι : List Addr} {S : Store}
theorem sqT_same {F H : Hp} (e : Same F H) {b : Addr} {xs : List V} (h : SqT K F b xs) : SqT K H b xs := by
  rcases h with h | h
  · exact .inl (rd_mono e h)
  · exact .inr h
theorem pairs_reps (e : Same F H) : ∀ {ps : List PyData} {vs : List V} {l : List (Int × PyData)}, pairsI ps = some l → DqAll K F vs ps → ∃ (bs : List Addr) (us : List (Int × V)), vs = bs.map V.ref ∧ PB K H bs us ∧ us.map (·.1) = l.map (·.1) ∧ DqAll K F (us.map (·.2)) (l.map (·.2))
  | [], _, l, h, d => by
    cases d
    cases h
    exact ⟨[], [], rfl, .nil, rfl, .nil⟩
  | p :: ps, _, l, h, d => by
    cases d with
    | @cons v vs _ _ d1 d2 =>
      unfold pairsI at h
      split at h
      · rename_i e; cases e
      · rename_i k x r e
        cases e
        obtain ⟨l', e1, rfl⟩ := map_some h
        obtain ⟨bs, us, rfl, q1, q2, q3⟩ := pairs_reps e e1 d2
        cases d1 with
        | @tup a xs ds hs hd =>
          cases hd with
          | cons g1 g2 =>
            cases g1
            cases g2 with
            | @cons w ws _ _ g3 g4 =>
              cases g4
              exact ⟨a :: bs, (k, w) :: us, rfl, .cons (sqT_same e hs) q1, by simp [q2], .cons g3 q3⟩
      · cases h
end
section
variable {X : Cx} {ca : Nat → Addr} {W : WX} {G : Nat → D} {Fn : Nat → List D → Store → Out D} {k v e : Expr} {k' v' e' : E} {p pos : Pos}
theorem Stp.newOwn {F H F1 H1 : Hp} {ι ι1 : List Addr} (b1 : Stp F H ι F1 H1 ι1) {p : Addr} (hp : H p = none) (o : HO) : Stp F H ι F1 (upd H1 p o) (ι1 ++ [p]) := by
  obtain ⟨τ, hτ⟩ := b1.pre
  refine ⟨b1.fr, ⟨τ ++ [p], by rw [hτ, List.append_assoc]⟩, fun b u q hb => ?_, b1.frz, fun b h => ?_, fun b h => ?_⟩
  · rw [upd_ne (ne_of_none q hp)]
    exact b1.keep b u q hb
  · rcases List.mem_append.mp h with h | h
    · exact b1.new b h
    · rw [List.mem_singleton.mp h]; exact .inr hp
  · by_cases e : b = p
    · rw [e, upd_same]; exact fun z => nomatch z
    · rw [upd_ne e]; exact b1.live b h
theorem stp_grow (F1 : Hp) (ι1 : List Addr) (p : Addr) : Stp F1 (fun _ => none) ι1 F1 (fun _ => none) (ι1 ++ [p]) := ⟨Same.refl F1, ⟨[p], rfl⟩, (fun _ _ q => nomatch q), fun _ _ _ => rfl, fun _ h => .inr rfl, fun _ h => absurd rfl h⟩
theorem g_newdi (hk : GE X ca W G Fn k' k) (hv : GE X ca W G Fn v' v) : GE X ca W G Fn (.newdi k' v') (.Dict [some k] [v] pos) := by
  refine PE.weaken (pe_disp (pps_cons hk hv pps_nil) rfl rfl (by intro z; cases z) (by simp)) fun σ H Q ⟨F, ι, S, ρ, own, st, en, h⟩ => ?_
  rw [evE_newdi] at h
  intro p hp
  have b0 : Stp F H ι F (upd H p (.dK [])) ι := Stp.refl.ow hp _
  have od : ∀ i b, own i = some b → b ≠ p := fun i b hb e => (en.off i b hb).2.2 (by rw [e]; exact hp)
  have f0 := st.fnone hp
  have n0 := st.not_in hp
  have keepF : ∀ {Fa Ha Fb Hb : Hp} {ιa ιb : List Addr} {o : HO}, Stp Fa Ha ιa Fb Hb ιb → Fa p = none → Ha p = some o → p ∉ ιa → Fb p = none ∧ p ∉ ιb ∧ Hb p = some o := fun {Fa Ha Fb Hb ιa ιb o} s fa ha na => by
    refine ⟨?_, fun z => ?_, s.keep p _ ha na⟩
    · cases q : Fb p with
      | none => rfl
      | some u =>
        have := s.frz p fa (by rw [q]; exact fun z => nomatch z)
        rw [ha] at this
        cases this
    · rcases s.new p z with z | z
      · exact na z
      · rw [ha] at z; cases z
  refine tG_ex (st.ow f0 n0 _) (en.ow od _) (h.bindB b0 fun kd S1 kx F1 H1 ι1 s1 st1 r1 h1 => ?_)
  rw [kNewdi0_eq] at h1
  refine tG_ex st1 ((en.ow od _).mono s1) (h1.bindB (b0.trans s1) fun vd S2 vx F2 H2 ι2 s2 st2 r2 h2 => ?_)
  have r1 := Rep.mono s2 _ _ r1
  cases kd with
  | p kk =>
    cases kk with
    | int n =>
      rw [kNewdi_eq] at h2
      obtain rfl : kx = V.int n := by have := rep_p.mp r1; cases this; rfl
      obtain ⟨f2, n2, e2⟩ := keepF (s1.trans s2) f0 upd_same n0
      have b2 := (b0.trans s1).trans s2
      refine ⟨e2, [((Sum.inl n : Key), vx)], rfl, by simp, ?_⟩
      show Q (.ref p) (upd H2 p (.dK [((Sum.inl n : Key), vx)]))
      exact h2 _ F2 _ (ι2 ++ [p]) (Stp.newOwn b2 hp _) (st2.nwP f2 n2 ⟨[vx], upd_same, Reps.mono (stp_grow F2 ι2 p) _ _ (reps_cons.mpr ⟨vx, [], rfl, r2, reps_nil.mpr rfl⟩), rfl, List.nodup_cons.mpr ⟨by simp, List.nodup_nil⟩⟩) (rep_ref.mpr ⟨p, rfl, nw_ix st2 p⟩)
    | _ => exact h2.elim
  | _ => exact h2.elim
theorem g_newdp (hc : X.calm = true) (hg : Gl X "dict") (hm : X.mg "dict" = none) (hv : bootBuiltins (Str.ofString "dict") = some (.type "dict")) (ha : GL X ca W G Fn [e'] [e]) (hn : (Str.ofString "dict") ≠ "__name__" := by decide) (hdb : (Str.ofString "dict" == ("__debug__" : Str)) = false := by decide)
    (he : starEach [e] X.env = (false, eval e X.env) :: starEach [] X.env := by rfl) (hpl : (backTo pos (starEach [] X.env)).any (·.1) = false := by rfl) : GE X ca W G Fn (.newdp [e']) (.Call (.Name "dict" p) [e] [] pos) := by
  refine PE.weaken (pe_callTy (call_dictL hc) hg hm hv ha hn hdb he hpl) fun σ H Q ⟨F, ι, S, ρ, own, st, en, h⟩ => ?_
  rw [evE_newdp] at h
  refine tG_ex st en (h.bind_ fun ds S1 vs F1 H1 ι1 s1 st1 r1 h1 => ?_)
  match ds, r1, h1 with
  | [], _, h1 => exact h1.elim
  | d :: d2 :: r, _, h1 => exact h1.elim
  | [d], r1, h1 =>
    rw [kNewdpL_eq] at h1
    obtain ⟨v, w, rfl, q1, q2⟩ := repAs_cons r1
    obtain rfl := repAs_nil q2
    cases d with
    | p x =>
      cases x with
      | list ps =>
        obtain ⟨a, vs, rfl, g1, g2⟩ := repA_list st1 q1
        have h1 : PostG ca X.K W σ F1 H1 ι1 _ Q (match pairsI ps with
          | some l => if decide ((l.map (·.1)).Nodup ∧ l.length ≤ 1000000) then Out.ok (D.ref S1.length) (S1 ++ [.dci (l.map (·.1)) (l.map fun p => .p p.2)]) else .bad
          | none => .bad) := h1
        cases ep : pairsI ps with
        | none => rw [ep] at h1; exact h1.elim
        | some l =>
          rw [ep] at h1
          have h1 : PostG ca X.K W σ F1 H1 ι1 _ Q (if decide ((l.map (·.1)).Nodup ∧ l.length ≤ 1000000) then Out.ok (D.ref S1.length) (S1 ++ [.dci (l.map (·.1)) (l.map fun p => .p p.2)]) else .bad) := h1
          split at h1
          · rename_i ok
            obtain ⟨nd, lz⟩ := of_decide_eq_true ok
            obtain ⟨bs, us, rfl, w1, w2, w3⟩ := pairs_reps st1.sub ep g2
            have lu : us.length = l.length := by have := congrArg List.length w2; simpa using this
            refine ⟨a, bs, us, rfl, g1, w1, by rw [w2]; exact nd, by omega, fun p hp => ?_⟩
            have f1 := st1.fnone hp
            have n1 := st1.not_in hp
            have hz : (us.map fun q => ((Sum.inl q.1 : Key), q.2)) = ((l.map (·.1)).map Sum.inl).zip (us.map (·.2)) := by
              rw [← w2]
              clear w1 w2 w3 lu g1 g2
              induction us with
              | nil => rfl
              | cons q us ih => simp [ih]
            rw [hz]
            have rp : Reps X.K F1 ι1 (l.map fun p => D.p p.2) (us.map (·.2)) := by
              have this : Reps X.K F1 ι1 ((l.map (·.2)).map D.p) (us.map (·.2)) := reps_map.mpr w3
              rwa [List.map_map] at this
            exact h1 _ F1 _ (ι1 ++ [p]) (Stp.newOwn Stp.refl hp _) (st1.nwP f1 n1 ⟨us.map (·.2), upd_same, Reps.mono (stp_grow F1 ι1 p) _ _ rp, by simp, nd⟩) (rep_ref.mpr ⟨p, rfl, nw_ix st1 p⟩)
          · exact h1.elim
      | _ => exact h1.elim
    | _ => exact h1.elim
end
end EC

namespace EC
open PySem
def f_is_integer : Nat := 0
def f_is_between : Nat := 1
def f_is_word : Nat := 2
def f_is_member : Nat := 3
def f_is_row : Nat := 4
def f_is_rows : Nat := 5
def f_check_rows : Nat := 6
def f_goal_of : Nat := 7
def f_with_goal : Nat := 8
def f_ways_of : Nat := 9
def f_left_rows : Nat := 10
def f_reached_rows : Nat := 11
def f_reached : Nat := 12
def f__law_well : Nat := 13
def f__law_dip : Nat := 14
def f__law_same : Nat := 15
def f__law_row : Nat := 16
def f__law_rows_drawn : Nat := 17
def f__law_goal : Nat := 18
def f__law_next : Nat := 19
def f__law_left : Nat := 20
def f__law_reached : Nat := 21
def f__law_sparse : Nat := 22
def f_law : Nat := 23
def g_ROUNDINGS : Nat := 0
def g_MOST_ROWS : Nat := 1
def g_MOST_CELL : Nat := 2
def g_MOST_INDEX : Nat := 3
def g_FORMS : Nat := 4
def g_JUMPING : Nat := 5
def c_CaseError : Nat := 0
def c_InvalidRows : Nat := 1
/-- value -/
def fd_is_integer : FD := ⟨1, 0, [.ret (.and (.pr (.isi [.int]) [.v 0]) (.not (.pr (.isi [.bool]) [.v 0])))]⟩

/-- least, value, most -/
def fd_is_between : FD := ⟨3, 0, [.ret (.and (.call f_is_integer [] [.v 1]) (.chain .le .le (.v 0) (.v 1) (.v 2)))]⟩

/-- value, sign -/
def fd_is_word : FD := ⟨1, 1, [.ret (.and (.pr (.isi [.str]) [.v 0]) (.and (.chain .le .le (.c (.int 1)) (.pr .len [.v 0]) (.c (.int 10))) (.pr .all [.comp (.nm 1) .sq [.v 0] [] (.chain .le .le (.c (.str "a")) (.v 1) (.c (.str "z")))])))]⟩

/-- sort, value, index, many, ends, low, high -/
def fd_is_member : FD := ⟨4, 3, [.ifs (.pr .eq [.v 0, .c (.str "n")])
    [.ret (.call f_is_integer [] [.v 1])]
    [],
  .ifs (.pr .mem [.v 0, .c (.str "ws")])
    [.ret (.and (.pr (.isi [.str]) [.v 1]) (.pr .mem [.v 1, .ite (.pr .eq [.v 0, .c (.str "w")]) (.g g_ROUNDINGS) (.ef .mkt [.c (.str "int"), .c (.str "truth")])]))]
    [],
  .ifs (.pr .eq [.v 0, .c (.str "l")])
    [.ret (.call f_is_word [] [.v 1])]
    [],
  .asg (.nm 4) (.newd ["c", "i", "m", "p", "q"] [.ef .mkt [.c (.int 0), .g g_MOST_CELL], .ef .mkt [.c (.int 0), .g g_MOST_INDEX], .ef .mkt [.pr .neg [.c (.int 1000)], .c (.int 1000)], .ef .mkt [.c (.int 0), .c (.int 1000)], .ef .mkt [.c (.int 1), .c (.int 1000)]]),
  .asg (.tup [.nm 5, .nm 6]) (.dgetv (.v 4) (.v 0) (.ef .mkt [.pr .add [.v 2, .c (.int 1)], .v 3])),
  .ret (.call f_is_between [] [.v 5, .v 1, .v 6])]⟩

/-- value, index, many, form, sort, one -/
def fd_is_row : FD := ⟨3, 3, [.ifs (.or (.not (.pr (.isi [.tuple]) [.v 0])) (.or (.pr .eq [.v 0, .ef .mkt []]) (.not (.pr (.isi [.str]) [.pr .idx [.v 0, .c (.int 0)]]))))
    [.ret (.c (.bool false))]
    [],
  .asg (.nm 3) (.ggetN g_FORMS (.pr .idx [.v 0, .c (.int 0)])),
  .ifs (.or (.pr .isN [.v 3]) (.pr .ne [.pr .len [.v 0], .pr .add [.pr .len [.v 3], .c (.int 1)]]))
    [.ret (.c (.bool false))]
    [],
  .ret (.pr .all [.comp (.tup [.nm 4, .nm 5]) .zip [.v 3, .pr (.slice true false) [.v 0, .c (.int 1)]] [] (.call f_is_member [] [.v 4, .v 5, .v 1, .v 2])])]⟩

/-- value, k, row -/
def fd_is_rows : FD := ⟨1, 2, [.ifs (.or (.not (.pr (.isi [.tuple]) [.v 0])) (.pr .gt [.pr .len [.v 0], .g g_MOST_ROWS]))
    [.ret (.c (.bool false))]
    [],
  .ret (.pr .all [.comp (.tup [.nm 1, .nm 2]) .enum [.v 0] [] (.call f_is_row [] [.v 2, .v 1, .pr .len [.v 0]])])]⟩

/-- rows -/
def fd_check_rows : FD := ⟨1, 0, [.ifs (.not (.call f_is_rows [] [.v 0]))
    [.ret (.pr .len [.c .none])]
    []]⟩

/-- row -/
def fd_goal_of : FD := ⟨1, 0, [.ret (.ite (.pr .mem [.pr .idx [.v 0, .c (.int 0)], .g g_JUMPING]) (.pr .idx [.v 0, .pr .sub [.pr .len [.v 0], .c (.int 1)]]) (.c .none))]⟩

/-- row, goal -/
def fd_with_goal : FD := ⟨2, 0, [.ret (.pr .add [.pr (.slice false true) [.v 0, .pr .sub [.pr .len [.v 0], .c (.int 1)]], .ef .mkt [.v 1]])]⟩

/-- row, at, goal -/
def fd_ways_of : FD := ⟨2, 1, [.asg (.nm 2) (.call f_goal_of [] [.v 0]),
  .ifs (.pr .eq [.pr .idx [.v 0, .c (.int 0)], .c (.str "go")])
    [.ret (.ef .mkl [.v 2])]
    [],
  .ret (.ite (.pr .isN [.v 2]) (.ef .mkl [.pr .add [.v 1, .c (.int 1)]]) (.ef .mkl [.pr .add [.v 1, .c (.int 1)], .v 2]))]⟩

/-- rows, left, kept, at, found, numbers, next_one, goal, k -/
def fd_left_rows : FD := ⟨2, 7, [.par 5 6 (.newdi (.pr .len [.v 0]) (.pr .len [.v 1])) (.pr .len [.v 1]),
  .asg (.nm 2) (.newdp [.comp (.tup [.nm 8, .nm 3]) .enum [.v 1] [] (.ef .mkt [.v 3, .v 8])]),
  .for_ (.nm 3) .rng [.pr .sub [.pr .len [.v 0], .c (.int 1)], .pr .neg [.c (.int 1)], .pr .neg [.c (.int 1)]]
    [.asg (.nm 6) (.dgetv (.v 2) (.v 3) (.v 6)),
    .setd (.v 5) (.v 3) (.v 6)],
  .own 4 (.ef .mkl []),
  .for_ (.nm 3) .sq [.v 1]
    [.asg (.nm 7) (.call f_goal_of [] [.pr .idx [.v 0, .v 3]]),
    .oapp 4 (.ite (.pr .isN [.v 7]) (.pr .idx [.v 0, .v 3]) (.call f_with_goal [] [.pr .idx [.v 0, .v 3], .dsub (.v 5) (.v 7)]))],
  .ret (.pr .tuple [.v 4])]⟩

/-- rows, met, at, other -/
def fd_reached_rows : FD := ⟨1, 3, [.asg (.nm 1) (.newdi (.c (.int 0)) (.c (.bool true))),
  .for_ (.nm 2) .rng [.pr .len [.v 0]]
    [.ifs (.pr .memK [.v 2, .v 1])
      [.for_ (.nm 3) .sq [.call f_ways_of [] [.pr .idx [.v 0, .v 2], .v 2]]
        [.setd (.v 1) (.v 3) (.c (.bool true))]]
      []],
  .ret (.call f_left_rows [] [.v 0, .comp (.nm 2) .rng [.pr .len [.v 0]] [.pr .memK [.v 2, .v 1]] (.v 2)])]⟩

/-- rows -/
def fd_reached : FD := ⟨1, 0, [.ex (.call f_check_rows [] [.v 0]),
  .ret (.call f_reached_rows [] [.v 0])]⟩

/-- cell -/
def fd__law_well : FD := ⟨1, 0, [.asg (.nm 0) (.pr .int [.v 0]),
  .ret (.ef .newl [.ite (.pr .ge [.v 0, .pr .pow [.c (.int 10), .c (.int 18)]]) (.pr .sub [.v 0, .pr .pow [.c (.int 10), .c (.int 18)]]) (.c (.int 0)), .pr .add [.pr .mod [.v 0, .c (.int 1999999973)], .c (.int 17)], .c (.int 0)])]⟩

/-- well, many, drop -/
def fd__law_dip : FD := ⟨2, 1, [.ifs (.pr .gt [.pr .idx [.v 0, .c (.int 0)], .c (.int 0)])
    [.asg (.nm 2) (.pr .mod [.pr .int [.pr .idx [.v 0, .c (.int 0)]], .v 1]),
    .seti (.v 0) (.c (.int 0)) (.pr .fdiv [.pr .int [.pr .idx [.v 0, .c (.int 0)]], .v 1]),
    .ret (.v 2)]
    [],
  .seti (.v 0) (.c (.int 2)) (.pr .add [.pr .idx [.v 0, .c (.int 2)], .c (.int 1)]),
  .seti (.v 0) (.c (.int 1)) (.pr .mod [.pr .int [.pr .add [.pr .add [.pr .mul [.pr .idx [.v 0, .c (.int 1)], .c (.int 44497)], .pr .mul [.pr .mul [.pr .idx [.v 0, .c (.int 2)], .pr .idx [.v 0, .c (.int 2)]], .c (.int 7001)]], .c (.int 13)]], .c (.int 2147483629)]),
  .ret (.pr .mod [.pr .fdiv [.pr .mod [.pr .int [.pr .mul [.pr .idx [.v 0, .c (.int 1)], .pr .idx [.v 0, .c (.int 1)]]], .c (.int 2147483587)], .c (.int 64)], .v 1])]⟩

/-- found, due, k -/
def fd__law_same : FD := ⟨2, 1, [.ifs (.pr .isN [.v 1])
    [.ret (.pr .isN [.v 0])]
    [],
  .ifs (.pr (.isi [.bool]) [.v 1])
    [.ret (.and (.pr (.isi [.bool]) [.v 0]) (.pr .eq [.v 0, .v 1]))]
    [],
  .ifs (.pr (.isi [.int]) [.v 1])
    [.ret (.and (.pr (.isi [.int]) [.v 0]) (.and (.not (.pr (.isi [.bool]) [.v 0])) (.pr .eq [.v 0, .v 1])))]
    [],
  .ifs (.pr (.isi [.str]) [.v 1])
    [.ret (.and (.pr (.isi [.str]) [.v 0]) (.pr .eq [.v 0, .v 1]))]
    [],
  .ifs (.or (.pr .ne [.pr (.isi [.list]) [.v 1], .pr (.isi [.list]) [.v 0]]) (.pr .ne [.pr (.isi [.tuple]) [.v 1], .pr (.isi [.tuple]) [.v 0]]))
    [.ret (.c (.bool false))]
    [],
  .ret (.and (.pr .eq [.pr .len [.v 0], .pr .len [.v 1]]) (.pr .all [.comp (.nm 2) .rng [.pr .len [.v 1]] [] (.call f__law_same [] [.pr .idx [.v 0, .v 2], .pr .idx [.v 1, .v 2]])]))]⟩

/-- well, at, many, inputs, words, word, c, a, b, to -/
def fd__law_row : FD := ⟨4, 6, [.asg (.nm 4) (.ef .mkl [.c (.str "put"), .c (.str "put"), .c (.str "copy"), .c (.str "file"), .c (.str "told"), .c (.str "add"), .c (.str "take"), .c (.str "least"), .c (.str "most"), .c (.str "times"), .c (.str "share"), .c (.str "less"), .c (.str "same"), .c (.str "go"), .c (.str "if"), .c (.str "if"), .c (.str "bare"), .c (.str "note"), .c (.str "note"), .c (.str "tell"), .c (.str "hangs")]),
  .asg (.nm 5) (.pr .idx [.v 4, .call f__law_dip [] [.v 0, .c (.int 21)]]),
  .asg (.tup [.nm 6, .nm 7, .nm 8, .nm 9]) (.ef .mkt [.call f__law_dip [] [.v 0, .c (.int 5)], .call f__law_dip [] [.v 0, .c (.int 5)], .call f__law_dip [] [.v 0, .c (.int 5)], .pr .add [.pr .add [.v 1, .c (.int 1)], .call f__law_dip [] [.v 0, .pr .min [.pr .sub [.v 2, .v 1], .c (.int 6)]]]]),
  .ifs (.pr .mem [.v 5, .ef .mkl [.c (.str "put"), .c (.str "copy"), .c (.str "file"), .c (.str "told")]])
    [.ret (.ef .mkt [.v 5, .v 6, .dsub (.newd ["put", "copy", "file", "told"] [.pr .idx [.ef .mkl [.c (.int 0), .c (.int 1), .c (.int 1), .pr .neg [.c (.int 3)], .pr .pow [.c (.int 10), .c (.int 20)]], .call f__law_dip [] [.v 0, .c (.int 5)]], .v 7, .call f__law_dip [] [.v 0, .v 3], .pr .idx [.ef .mkl [.call f__law_dip [] [.v 0, .c (.int 4)], .c (.int 9)], .pr .int [.pr .eq [.call f__law_dip [] [.v 0, .c (.int 9)], .c (.int 0)]]]]) (.v 5)])]
    [],
  .ifs (.pr .mem [.v 5, .ef .mkl [.c (.str "go"), .c (.str "if"), .c (.str "bare")]])
    [.ret (.dsub (.newd ["go", "if", "bare"] [.ef .mkt [.v 5, .v 9], .ef .mkt [.v 5, .v 7, .v 9], .ef .mkt [.v 5, .call f__law_dip [] [.v 0, .c (.int 4)], .v 9]]) (.v 5))]
    [],
  .ifs (.pr .mem [.v 5, .ef .mkl [.c (.str "note"), .c (.str "tell"), .c (.str "hangs")]])
    [.ret (.dsub (.newd ["note", "tell", "hangs"] [.ef .mkt [.v 5, .pr .idx [.ef .mkl [.c (.str "p"), .c (.str "qq"), .c (.str "zoo"), .c (.str "alpha"), .c (.str "b")], .call f__law_dip [] [.v 0, .c (.int 5)]]], .ef .mkt [.v 5, .v 7, .pr .idx [.ef .mkl [.c (.str "int"), .c (.str "truth")], .call f__law_dip [] [.v 0, .c (.int 2)]]], .ef .mkt [.v 5, .call f__law_dip [] [.v 0, .c (.int 4)]]]) (.v 5))]
    [],
  .ifs (.pr .eq [.v 5, .c (.str "times")])
    [.ret (.ef .mkt [.v 5, .v 6, .pr .idx [.ef .mkl [.c (.int 2), .pr .neg [.c (.int 1)], .c (.int 0), .c (.int 1000)], .call f__law_dip [] [.v 0, .c (.int 4)]], .v 7])]
    [],
  .ifs (.pr .eq [.v 5, .c (.str "share")])
    [.ret (.ef .mkt [.v 5, .v 6, .v 7, .call f__law_dip [] [.v 0, .c (.int 5)], .pr .add [.c (.int 1), .call f__law_dip [] [.v 0, .c (.int 5)]], .pr .idx [.ef .mkl [.c (.str "down"), .c (.str "up"), .c (.str "near")], .call f__law_dip [] [.v 0, .c (.int 3)]]])]
    [],
  .ret (.ef .mkt [.v 5, .v 6, .v 7, .v 8])]⟩

/-- well, many, inputs, at -/
def fd__law_rows_drawn : FD := ⟨3, 1, [.ret (.pr .tuple [.comp (.nm 3) .rng [.v 1] [] (.call f__law_row [] [.v 0, .v 3, .v 1, .v 2])])]⟩

/-- row -/
def fd__law_goal : FD := ⟨1, 0, [.ret (.ite (.pr .mem [.pr .idx [.v 0, .c (.int 0)], .ef .mkl [.c (.str "go"), .c (.str "if"), .c (.str "bare")]]) (.pr .idx [.v 0, .pr .neg [.c (.int 1)]]) (.c .none))]⟩

/-- row, at, found -/
def fd__law_next : FD := ⟨2, 1, [.asg (.nm 2) (.ite (.pr .eq [.pr .idx [.v 0, .c (.int 0)], .c (.str "go")]) (.ef .mkl []) (.ef .mkl [.pr .add [.v 1, .c (.int 1)]])),
  .ret (.pr .add [.v 2, .pr .mul [.ef .mkl [.pr .idx [.v 0, .pr .neg [.c (.int 1)]]], .pr .int [.pr .mem [.pr .idx [.v 0, .c (.int 0)], .ef .mkl [.c (.str "go"), .c (.str "if"), .c (.str "bare")]]]]])]⟩

/-- rows, gone, found, at, row, goal, one -/
def fd__law_left : FD := ⟨2, 5, [.own 2 (.ef .mkl []),
  .for_ (.nm 3) .rng [.pr .len [.v 0]]
    [.ifs (.pr .nmem [.v 3, .v 1])
      [.asg (.tup [.nm 4, .nm 5]) (.ef .mkt [.pr .idx [.v 0, .v 3], .call f__law_goal [] [.pr .idx [.v 0, .v 3]]]),
      .ifs (.pr .notN [.v 5])
        [.asg (.nm 4) (.pr .add [.pr (.slice false true) [.v 4, .pr .neg [.c (.int 1)]], .ef .mkt [.pr .sub [.v 5, .pr .len [.comp (.nm 6) .sq [.v 1] [.pr .lt [.v 6, .v 5]] (.v 6)]]]])]
        [],
      .oapp 2 (.v 4)]
      []],
  .ret (.pr .tuple [.v 2])]⟩

/-- rows, met, at -/
def fd__law_reached : FD := ⟨1, 2, [.asg (.nm 1) (.ef .mkl [.c (.int 0)]),
  .for_ (.nm 2) .rng [.pr .len [.v 0]]
    [.ifs (.pr .mem [.v 2, .v 1])
      [.asg (.nm 1) (.pr .add [.v 1, .call f__law_next [] [.pr .idx [.v 0, .v 2], .v 2]])]
      []],
  .ret (.call f__law_left [] [.v 0, .comp (.nm 2) .rng [.pr .len [.v 0]] [.pr .nmem [.v 2, .v 1]] (.v 2)])]⟩

/-- well, rows, found, at, some, to, row -/
def fd__law_sparse : FD := ⟨2, 5, [.own 2 (.ef .mkl []),
  .for_ (.nm 3) .rng [.pr .len [.v 1]]
    [.par 5 6 (.pr .add [.pr .add [.v 3, .c (.int 1)], .call f__law_dip [] [.v 0, .pr .min [.pr .sub [.pr .len [.v 1], .v 3], .c (.int 4)]]]) (.pr .idx [.v 1, .v 3]),
    .asg (.nm 4) (.ef .mkl [.v 6, .v 6, .ef .mkt [.c (.str "go"), .v 5], .ef .mkt [.c (.str "if"), .call f__law_dip [] [.v 0, .c (.int 3)], .v 5], .ef .mkt [.c (.str "put"), .call f__law_dip [] [.v 0, .c (.int 3)], .call f__law_dip [] [.v 0, .c (.int 2)]], .ef .mkt [.c (.str "copy"), .call f__law_dip [] [.v 0, .c (.int 3)], .call f__law_dip [] [.v 0, .c (.int 3)]]]),
    .oapp 2 (.pr .idx [.v 4, .call f__law_dip [] [.v 0, .c (.int 6)]])],
  .ret (.pr .tuple [.v 2])]⟩

/-- script, cell, well, turn, rows, kept, due -/
def fd_law : FD := ⟨1, 6, [.for_ (.nm 1) .sq [.pr .add [.ef .mkl [.c (.int 3100), .pr .add [.pr .pow [.c (.int 10), .c (.int 40)], .pr .pow [.c (.int 9), .c (.int 40)]]], .pr (.slice false true) [.v 0, .c (.int 6)]]]
    [.asg (.nm 2) (.call f__law_well [] [.v 1]),
    .for_ (.nm 3) .rng [.c (.int 6)]
      [.asg (.nm 4) (.call f__law_rows_drawn [] [.v 2, .call f__law_dip [] [.v 2, .pr .idx [.ef .mkl [.c (.int 9), .c (.int 25)], .call f__law_dip [] [.v 2, .c (.int 2)]]], .c (.int 2)]),
      .ifs (.pr .eq [.call f__law_dip [] [.v 2, .c (.int 2)], .c (.int 0)])
        [.asg (.nm 4) (.call f__law_sparse [] [.v 2, .v 4])]
        [],
      .par 5 6 (.pr .repr [.v 4]) (.call f__law_reached [] [.v 4]),
      .ifs (.or (.not (.call f__law_same [] [.ef .mkl [.call f_reached [] [.v 4], .call f_reached [0] [.v 4]], .ef .mkl [.v 6, .v 6]])) (.pr .ne [.pr .repr [.v 4], .v 5]))
        [.ret (.c (.bool false))]
        []]],
  .ret (.c (.bool true))]⟩

def TL : List FD := [fd_is_integer, fd_is_between, fd_is_word, fd_is_member, fd_is_row, fd_is_rows, fd_check_rows, fd_goal_of, fd_with_goal, fd_ways_of, fd_left_rows, fd_reached_rows, fd_reached, fd__law_well, fd__law_dip, fd__law_same, fd__law_row, fd__law_rows_drawn, fd__law_goal, fd__law_next, fd__law_left, fd__law_reached, fd__law_sparse, fd_law]
def T (f : Nat) : FD := TL.getD f ⟨0, 0, []⟩
theorem T_is_integer : T f_is_integer = fd_is_integer := rfl
theorem T_is_between : T f_is_between = fd_is_between := rfl
theorem T_is_word : T f_is_word = fd_is_word := rfl
theorem T_is_member : T f_is_member = fd_is_member := rfl
theorem T_is_row : T f_is_row = fd_is_row := rfl
theorem T_is_rows : T f_is_rows = fd_is_rows := rfl
theorem T_check_rows : T f_check_rows = fd_check_rows := rfl
theorem T_goal_of : T f_goal_of = fd_goal_of := rfl
theorem T_with_goal : T f_with_goal = fd_with_goal := rfl
theorem T_ways_of : T f_ways_of = fd_ways_of := rfl
theorem T_left_rows : T f_left_rows = fd_left_rows := rfl
theorem T_reached_rows : T f_reached_rows = fd_reached_rows := rfl
theorem T_reached : T f_reached = fd_reached := rfl
theorem T__law_well : T f__law_well = fd__law_well := rfl
theorem T__law_dip : T f__law_dip = fd__law_dip := rfl
theorem T__law_same : T f__law_same = fd__law_same := rfl
theorem T__law_row : T f__law_row = fd__law_row := rfl
theorem T__law_rows_drawn : T f__law_rows_drawn = fd__law_rows_drawn := rfl
theorem T__law_goal : T f__law_goal = fd__law_goal := rfl
theorem T__law_next : T f__law_next = fd__law_next := rfl
theorem T__law_left : T f__law_left = fd__law_left := rfl
theorem T__law_reached : T f__law_reached = fd__law_reached := rfl
theorem T__law_sparse : T f__law_sparse = fd__law_sparse := rfl
theorem T_law : T f_law = fd_law := rfl
def G : Nat → D
  | 0 => .p (.tuple [.str "down", .str "up", .str "near"])
  | 1 => .p (.int 20000)
  | 2 => .p (.int 9999)
  | 3 => .p (.int 99)
  | 4 => .p (.dict [(.str "put", .str "cn"), (.str "copy", .str "cc"), (.str "file", .str "ci"), (.str "told", .str "ci"), (.str "add", .str "ccc"), (.str "take", .str "ccc"), (.str "least", .str "ccc"), (.str "most", .str "ccc"), (.str "times", .str "cmc"), (.str "share", .str "ccpqw"), (.str "less", .str "ccc"), (.str "same", .str "ccc"), (.str "go", .str "t"), (.str "if", .str "ct"), (.str "bare", .str "it"), (.str "note", .str "l"), (.str "tell", .str "cs"), (.str "hangs", .str "i")])
  | 5 => .p (.tuple [.str "go", .str "if", .str "bare"])
  | _ => .p .none
@[simp] theorem tick (n : Nat) (S : Store) : run G T (n+1) 1000 [] S = .ok (.p .none) S := by
  rw [run_succ _ _ _ _ _ _ rfl]
  show (evSs G (run G T n) [] [] S).bind fin = _
  simp
end EC

namespace EC
open PySem PySem.Spec PyProof.Rows L2
variable [CA]
def top (i : Nat) : Stmt := PySem.Challenge.pw_everycase_k31_rows_reached.main.body.getD i (.Pass ⟨0, 0, 0, 0⟩)
abbrev s_is_integer : Stmt := top 4
abbrev N_is_integer : List Str := ["value"]
abbrev r_is_integer : Row := { x := "is_integer", ps := ["value"], np := 1, st := s_is_integer }
theorem sc_is_integer : FnScope N_is_integer r_is_integer.ps (defScope s_is_integer) := ⟨rfl, rfl, rfl, by decide +kernel, rfl, by decide +kernel, by decide +kernel⟩
abbrev s_is_between : Stmt := top 5
abbrev N_is_between : List Str := ["least", "value", "most"]
abbrev r_is_between : Row := { x := "is_between", ps := ["least", "value", "most"], np := 3, st := s_is_between }
theorem sc_is_between : FnScope N_is_between r_is_between.ps (defScope s_is_between) := ⟨rfl, rfl, rfl, by decide +kernel, rfl, by decide +kernel, by decide +kernel⟩
abbrev s_is_word : Stmt := top 6
abbrev N_is_word : List Str := ["value", "sign"]
abbrev r_is_word : Row := { x := "is_word", ps := ["value"], np := 1, st := s_is_word }
theorem sc_is_word : FnScope N_is_word r_is_word.ps (defScope s_is_word) := ⟨rfl, rfl, rfl, by decide +kernel, rfl, by decide +kernel, by decide +kernel⟩
abbrev s_is_member : Stmt := top 13
abbrev N_is_member : List Str := ["sort", "value", "index", "many", "ends", "low", "high"]
abbrev r_is_member : Row := { x := "is_member", ps := ["sort", "value", "index", "many"], np := 4, st := s_is_member }
theorem sc_is_member : FnScope N_is_member r_is_member.ps (defScope s_is_member) := ⟨rfl, rfl, rfl, by decide +kernel, rfl, by decide +kernel, by decide +kernel⟩
abbrev s_is_row : Stmt := top 14
abbrev N_is_row : List Str := ["value", "index", "many", "form", "sort", "one"]
abbrev r_is_row : Row := { x := "is_row", ps := ["value", "index", "many"], np := 3, st := s_is_row }
theorem sc_is_row : FnScope N_is_row r_is_row.ps (defScope s_is_row) := ⟨rfl, rfl, rfl, by decide +kernel, rfl, by decide +kernel, by decide +kernel⟩
abbrev s_is_rows : Stmt := top 15
abbrev N_is_rows : List Str := ["value", "k", "row"]
abbrev r_is_rows : Row := { x := "is_rows", ps := ["value"], np := 1, st := s_is_rows }
theorem sc_is_rows : FnScope N_is_rows r_is_rows.ps (defScope s_is_rows) := ⟨rfl, rfl, rfl, by decide +kernel, rfl, by decide +kernel, by decide +kernel⟩
abbrev s_check_rows : Stmt := top 16
abbrev N_check_rows : List Str := ["rows"]
abbrev r_check_rows : Row := { x := "check_rows", ps := ["rows"], np := 1, st := s_check_rows }
theorem sc_check_rows : FnScope N_check_rows r_check_rows.ps (defScope s_check_rows) := ⟨rfl, rfl, rfl, by decide +kernel, rfl, by decide +kernel, by decide +kernel⟩
abbrev s_goal_of : Stmt := top 19
abbrev N_goal_of : List Str := ["row"]
abbrev r_goal_of : Row := { x := "goal_of", ps := ["row"], np := 1, st := s_goal_of }
theorem sc_goal_of : FnScope N_goal_of r_goal_of.ps (defScope s_goal_of) := ⟨rfl, rfl, rfl, by decide +kernel, rfl, by decide +kernel, by decide +kernel⟩
abbrev s_with_goal : Stmt := top 20
abbrev N_with_goal : List Str := ["row", "goal"]
abbrev r_with_goal : Row := { x := "with_goal", ps := ["row", "goal"], np := 2, st := s_with_goal }
theorem sc_with_goal : FnScope N_with_goal r_with_goal.ps (defScope s_with_goal) := ⟨rfl, rfl, rfl, by decide +kernel, rfl, by decide +kernel, by decide +kernel⟩
abbrev s_ways_of : Stmt := top 21
abbrev N_ways_of : List Str := ["row", "at", "goal"]
abbrev r_ways_of : Row := { x := "ways_of", ps := ["row", "at"], np := 2, st := s_ways_of }
theorem sc_ways_of : FnScope N_ways_of r_ways_of.ps (defScope s_ways_of) := ⟨rfl, rfl, rfl, by decide +kernel, rfl, by decide +kernel, by decide +kernel⟩
abbrev s_left_rows : Stmt := top 22
abbrev N_left_rows : List Str := ["rows", "left", "kept", "at", "found", "numbers", "next_one", "goal", "k"]
abbrev r_left_rows : Row := { x := "left_rows", ps := ["rows", "left"], np := 2, st := s_left_rows }
theorem sc_left_rows : FnScope N_left_rows r_left_rows.ps (defScope s_left_rows) := ⟨rfl, rfl, rfl, by decide +kernel, rfl, by decide +kernel, by decide +kernel⟩
abbrev s_reached_rows : Stmt := top 23
abbrev N_reached_rows : List Str := ["rows", "met", "at", "other"]
abbrev r_reached_rows : Row := { x := "reached_rows", ps := ["rows"], np := 1, st := s_reached_rows }
theorem sc_reached_rows : FnScope N_reached_rows r_reached_rows.ps (defScope s_reached_rows) := ⟨rfl, rfl, rfl, by decide +kernel, rfl, by decide +kernel, by decide +kernel⟩
abbrev s_reached : Stmt := top 24
abbrev N_reached : List Str := ["rows"]
abbrev r_reached : Row := { x := "reached", ps := ["rows"], np := 1, st := s_reached }
theorem sc_reached : FnScope N_reached r_reached.ps (defScope s_reached) := ⟨rfl, rfl, rfl, by decide +kernel, rfl, by decide +kernel, by decide +kernel⟩
abbrev s__law_well : Stmt := top 26
abbrev N__law_well : List Str := ["cell"]
abbrev r__law_well : Row := { x := "_law_well", ps := ["cell"], np := 1, st := s__law_well }
theorem sc__law_well : FnScope N__law_well r__law_well.ps (defScope s__law_well) := ⟨rfl, rfl, rfl, by decide +kernel, rfl, by decide +kernel, by decide +kernel⟩
abbrev s__law_dip : Stmt := top 27
abbrev N__law_dip : List Str := ["well", "many", "drop"]
abbrev r__law_dip : Row := { x := "_law_dip", ps := ["well", "many"], np := 2, st := s__law_dip }
theorem sc__law_dip : FnScope N__law_dip r__law_dip.ps (defScope s__law_dip) := ⟨rfl, rfl, rfl, by decide +kernel, rfl, by decide +kernel, by decide +kernel⟩
abbrev s__law_same : Stmt := top 28
abbrev N__law_same : List Str := ["found", "due", "k"]
abbrev r__law_same : Row := { x := "_law_same", ps := ["found", "due"], np := 2, st := s__law_same }
theorem sc__law_same : FnScope N__law_same r__law_same.ps (defScope s__law_same) := ⟨rfl, rfl, rfl, by decide +kernel, rfl, by decide +kernel, by decide +kernel⟩
abbrev s__law_row : Stmt := top 44
abbrev N__law_row : List Str := ["well", "at", "many", "inputs", "words", "word", "c", "a", "b", "to"]
abbrev r__law_row : Row := { x := "_law_row", ps := ["well", "at", "many", "inputs"], np := 4, st := s__law_row }
theorem sc__law_row : FnScope N__law_row r__law_row.ps (defScope s__law_row) := ⟨rfl, rfl, rfl, by decide +kernel, rfl, by decide +kernel, by decide +kernel⟩
abbrev s__law_rows_drawn : Stmt := top 45
abbrev N__law_rows_drawn : List Str := ["well", "many", "inputs", "at"]
abbrev r__law_rows_drawn : Row := { x := "_law_rows_drawn", ps := ["well", "many", "inputs"], np := 3, st := s__law_rows_drawn }
theorem sc__law_rows_drawn : FnScope N__law_rows_drawn r__law_rows_drawn.ps (defScope s__law_rows_drawn) := ⟨rfl, rfl, rfl, by decide +kernel, rfl, by decide +kernel, by decide +kernel⟩
abbrev s__law_goal : Stmt := top 51
abbrev N__law_goal : List Str := ["row"]
abbrev r__law_goal : Row := { x := "_law_goal", ps := ["row"], np := 1, st := s__law_goal }
theorem sc__law_goal : FnScope N__law_goal r__law_goal.ps (defScope s__law_goal) := ⟨rfl, rfl, rfl, by decide +kernel, rfl, by decide +kernel, by decide +kernel⟩
abbrev s__law_next : Stmt := top 52
abbrev N__law_next : List Str := ["row", "at", "found"]
abbrev r__law_next : Row := { x := "_law_next", ps := ["row", "at"], np := 2, st := s__law_next }
theorem sc__law_next : FnScope N__law_next r__law_next.ps (defScope s__law_next) := ⟨rfl, rfl, rfl, by decide +kernel, rfl, by decide +kernel, by decide +kernel⟩
abbrev s__law_left : Stmt := top 54
abbrev N__law_left : List Str := ["rows", "gone", "found", "at", "row", "goal", "one"]
abbrev r__law_left : Row := { x := "_law_left", ps := ["rows", "gone"], np := 2, st := s__law_left }
theorem sc__law_left : FnScope N__law_left r__law_left.ps (defScope s__law_left) := ⟨rfl, rfl, rfl, by decide +kernel, rfl, by decide +kernel, by decide +kernel⟩
abbrev s__law_reached : Stmt := top 55
abbrev N__law_reached : List Str := ["rows", "met", "at"]
abbrev r__law_reached : Row := { x := "_law_reached", ps := ["rows"], np := 1, st := s__law_reached }
theorem sc__law_reached : FnScope N__law_reached r__law_reached.ps (defScope s__law_reached) := ⟨rfl, rfl, rfl, by decide +kernel, rfl, by decide +kernel, by decide +kernel⟩
abbrev s__law_sparse : Stmt := top 60
abbrev N__law_sparse : List Str := ["well", "rows", "found", "at", "some", "to", "row"]
abbrev r__law_sparse : Row := { x := "_law_sparse", ps := ["well", "rows"], np := 2, st := s__law_sparse }
theorem sc__law_sparse : FnScope N__law_sparse r__law_sparse.ps (defScope s__law_sparse) := ⟨rfl, rfl, rfl, by decide +kernel, rfl, by decide +kernel, by decide +kernel⟩
abbrev s_law : Stmt := top 61
abbrev N_law : List Str := ["script", "cell", "well", "turn", "rows", "kept", "due"]
abbrev r_law : Row := { x := "law", ps := ["script"], np := 1, st := s_law }
theorem sc_law : FnScope N_law r_law.ps (defScope s_law) := ⟨rfl, rfl, rfl, by decide +kernel, rfl, by decide +kernel, by decide +kernel⟩
def tab : List Row := [r_is_integer, r_is_between, r_is_word, r_is_member, r_is_row, r_is_rows, r_check_rows, r_goal_of, r_with_goal, r_ways_of, r_left_rows, r_reached_rows, r_reached, r__law_well, r__law_dip, r__law_same, r__law_row, r__law_rows_drawn, r__law_goal, r__law_next, r__law_left, r__law_reached, r__law_sparse, r_law]
structure Mo (P : Program) (ca : Nat → PySem.Addr) (K : PySem.W.Frag) (w : World) (mg : Str → Option Value) : Prop where
  m_all : mg "all" = none
  m_bool : mg "bool" = none
  m_dict : mg "dict" = none
  m_enumerate : mg "enumerate" = none
  m_int : mg "int" = none
  m_isinstance : mg "isinstance" = none
  m_len : mg "len" = none
  m_list : mg "list" = none
  m_min : mg "min" = none
  m_range : mg "range" = none
  m_repr : mg "repr" = none
  m_str : mg "str" = none
  m_tuple : mg "tuple" = none
  m_zip : mg "zip" = none
  g_ROUNDINGS : ∃ v u, mg "ROUNDINGS" = some u ∧ RelV v u ∧ ∀ F ι, Rep K F ι (G g_ROUNDINGS) v
  g_MOST_ROWS : ∃ v u, mg "MOST_ROWS" = some u ∧ RelV v u ∧ ∀ F ι, Rep K F ι (G g_MOST_ROWS) v
  g_MOST_CELL : ∃ v u, mg "MOST_CELL" = some u ∧ RelV v u ∧ ∀ F ι, Rep K F ι (G g_MOST_CELL) v
  g_MOST_INDEX : ∃ v u, mg "MOST_INDEX" = some u ∧ RelV v u ∧ ∀ F ι, Rep K F ι (G g_MOST_INDEX) v
  g_FORMS : ∃ d, mg "FORMS" = some (.ref d) ∧ ∀ z data, dlook (G g_FORMS) z = some data → ∃ v, KDct K w d z v ∧ ∀ F, Dq K F v data
  h_FORMS : ∃ d es n, mg "FORMS" = some (.ref d) ∧ KDict K w d es n ∧ ∀ z, ∃ r, PySem.W.nsIn K d z = some r ∧ r.isSome = (dlook (G EC.g_FORMS) z).isSome
  g_JUMPING : ∃ v u, mg "JUMPING" = some u ∧ RelV v u ∧ ∀ F ι, Rep K F ι (G g_JUMPING) v
theorem ok_is_integer {P : Program} {ca : Nat → PySem.Addr} {w : World} {K : PySem.W.Frag} {mg : Str → Option Value} {base : Heap} {n : Nat} {f : Addr} {fd : FuncData} (F : Fun K "is_integer" "is_integer" s_is_integer f fd) (L : Lvl true P w K mg base ca G T tab n) (M : Mo P ca K w mg) :
    FnG true P w K mg base (L2.CX P w) (2 * n + 1 + 1) f fd r_is_integer.ps (spG ca K r_is_integer.np (run G T (n + 1) f_is_integer)) := by
  have sc := sc_is_integer
  refine fnG_run F sc T_is_integer rfl rfl fun cdv A outer s H E F0 ι0 hr hg => ?_
  have tk := L2.takes_of (X := cxOf (L2.CX P w) P w K mg base N_is_integer "is_integer" (defScope s_is_integer) f cdv A outer s H E) rfl rfl rfl rfl
  have hu := hr.units
  have hu1 := hu_of hr
  exact (gss_cons (gs_ret (g_and (g_isi1 (t := .int) (by decide) rfl M.m_isinstance bt_isinstance (na (i := 0)) (pe_tyname rfl M.m_int bt_int)) (g_one (g_not (g_isi1 (t := .bool) (by decide) rfl M.m_isinstance bt_isinstance (na (i := 0)) (pe_tyname rfl M.m_bool bt_bool))))))
  gss_nil)

theorem ok_is_between {P : Program} {ca : Nat → PySem.Addr} {w : World} {K : PySem.W.Frag} {mg : Str → Option Value} {base : Heap} {n : Nat} {f : Addr} {fd : FuncData} (F : Fun K "is_between" "is_between" s_is_between f fd) (L : Lvl true P w K mg base ca G T tab n) (M : Mo P ca K w mg) :
    FnG true P w K mg base (L2.CX P w) (2 * n + 1 + 1) f fd r_is_between.ps (spG ca K r_is_between.np (run G T (n + 1) f_is_between)) := by
  have sc := sc_is_between
  refine fnG_run F sc T_is_between rfl rfl fun cdv A outer s H E F0 ι0 hr hg => ?_
  have tk := L2.takes_of (X := cxOf (L2.CX P w) P w K mg base N_is_between "is_between" (defScope s_is_between) f cdv A outer s H E) rfl rfl rfl rfl
  have hu := hr.units
  have hu1 := hu_of hr
  exact (gss_cons (gs_ret (g_and (g_call (L.c (r := r_is_integer) hr hg tk rfl) rfl rfl (gv_cons (n_ (i := 1)) gv_nil)) (g_one (g_chain o_le o_le (n_ (i := 0)) (n_ (i := 1)) (n_ (i := 2))))))
  gss_nil)

theorem ok_is_word {P : Program} {ca : Nat → PySem.Addr} {w : World} {K : PySem.W.Frag} {mg : Str → Option Value} {base : Heap} {n : Nat} {f : Addr} {fd : FuncData} (F : Fun K "is_word" "is_word" s_is_word f fd) (L : Lvl true P w K mg base ca G T tab n) (M : Mo P ca K w mg) :
    FnG true P w K mg base (L2.CX P w) (2 * n + 1 + 1) f fd r_is_word.ps (spG ca K r_is_word.np (run G T (n + 1) f_is_word)) := by
  have sc := sc_is_word
  refine fnG_run F sc T_is_word rfl rfl fun cdv A outer s H E F0 ι0 hr hg => ?_
  have tk := L2.takes_of (X := cxOf (L2.CX P w) P w K mg base N_is_word "is_word" (defScope s_is_word) f cdv A outer s H E) rfl rfl rfl rfl
  have hu := hr.units
  have hu1 := hu_of hr
  exact (gss_cons (gs_ret (g_and (g_isi1 (t := .str) (by decide) rfl M.m_isinstance bt_isinstance (na (i := 0)) (pe_tyname rfl M.m_str bt_str)) (g_and (g_chain o_le o_le g_int (gl_pr o_len rfl M.m_len bt_len (gl_cons (na (i := 0)) gl_nil)) g_int) (g_one (gl_pr (o_all rfl) rfl M.m_all bt_all (gl_cons (ga_of (g_fr (gf_lc (own' := [("sign", 1)]) rfl sc.nd (gi_sq (gx_A (na (i := 0)))) (blkOk_by (N := N_is_word) (sc := defScope s_is_word) (by decide +kernel)) rfl (fun _ _ _ _ _ => (tn (i := 1) sc.nd)) (fun _ _ _ _ _ => gc_nil) (fun _ _ _ _ _ => (g_chain o_le o_le g_str (n_ (i := 1)) g_str))))) gl_nil))))))
  gss_nil)

theorem ok_is_member {P : Program} {ca : Nat → PySem.Addr} {w : World} {K : PySem.W.Frag} {mg : Str → Option Value} {base : Heap} {n : Nat} {f : Addr} {fd : FuncData} (F : Fun K "is_member" "is_member" s_is_member f fd) (L : Lvl true P w K mg base ca G T tab n) (M : Mo P ca K w mg) :
    FnG true P w K mg base (L2.CX P w) (2 * n + 1 + 1) f fd r_is_member.ps (spG ca K r_is_member.np (run G T (n + 1) f_is_member)) := by
  have sc := sc_is_member
  refine fnG_run F sc T_is_member rfl rfl fun cdv A outer s H E F0 ι0 hr hg => ?_
  have tk := L2.takes_of (X := cxOf (L2.CX P w) P w K mg base N_is_member "is_member" (defScope s_is_member) f cdv A outer s H E) rfl rfl rfl rfl
  have hu := hr.units
  have hu1 := hu_of hr
  exact (gss_cons (gs_if (gt_cmp (o_eq hu) (na (i := 0)) (ga_of g_str)) (gss_cons (gs_ret (g_call (L.c (r := r_is_integer) hr hg tk rfl) rfl rfl (gv_cons (n_ (i := 1)) gv_nil)))
  gss_nil) gss_nil)
  (gss_cons (gs_if (gt_cmp o_mem (na (i := 0)) (ga_of g_str)) (gss_cons (gs_ret (g_and (g_isi1 (t := .str) (by decide) rfl M.m_isinstance bt_isinstance (na (i := 1)) (pe_tyname rfl M.m_str bt_str)) (g_one (g_cmp o_mem (na (i := 1)) (ga_of (g_ite (gt_cmp (o_eq hu) (na (i := 0)) (ga_of g_str)) (g_g rfl ⟨M.g_ROUNDINGS⟩) (g_tup (gv_cons g_str (gv_cons g_str gv_nil)))))))))
  gss_nil) gss_nil)
  (gss_cons (gs_if (gt_cmp (o_eq hu) (na (i := 0)) (ga_of g_str)) (gss_cons (gs_ret (g_call (L.c (r := r_is_word) hr hg tk rfl) rfl rfl (gv_cons (n_ (i := 1)) gv_nil)))
  gss_nil) gss_nil)
  (gss_cons (gs_set (i := 4) sc.nd rfl (by first | exact Or.inl rfl | exact Or.inr rfl) (g_newd (gp_cons (g_tup (gv_cons g_int (gv_cons (g_g rfl ⟨M.g_MOST_CELL⟩) gv_nil))) (gp_cons (g_tup (gv_cons g_int (gv_cons (g_g rfl ⟨M.g_MOST_INDEX⟩) gv_nil))) (gp_cons (g_tup (gv_cons (g_un o_neg (ga_of g_int)) (gv_cons g_int gv_nil))) (gp_cons (g_tup (gv_cons g_int (gv_cons g_int gv_nil))) (gp_cons (g_tup (gv_cons g_int (gv_cons g_int gv_nil))) gp_nil)))))))
  (gss_cons (gs_asg (gg_tup rfl (ggs_cons (tn (i := 5) sc.nd) (ggs_cons (tn (i := 6) sc.nd) ggs_nil))) (g_dgetv hu1 (n_ (i := 4)) (n_ (i := 0)) (g_tup (gv_cons (g_bin o_add (na (i := 2)) (ga_of g_int)) (gv_cons (n_ (i := 3)) gv_nil))) ⟨rfl, rfl, rfl, rfl⟩))
  (gss_cons (gs_ret (g_call (L.c (r := r_is_between) hr hg tk rfl) rfl rfl (gv_cons (n_ (i := 5)) (gv_cons (n_ (i := 1)) (gv_cons (n_ (i := 6)) gv_nil)))))
  gss_nil))))))

theorem ok_is_row {P : Program} {ca : Nat → PySem.Addr} {w : World} {K : PySem.W.Frag} {mg : Str → Option Value} {base : Heap} {n : Nat} {f : Addr} {fd : FuncData} (F : Fun K "is_row" "is_row" s_is_row f fd) (L : Lvl true P w K mg base ca G T tab n) (M : Mo P ca K w mg) :
    FnG true P w K mg base (L2.CX P w) (2 * n + 1 + 1) f fd r_is_row.ps (spG ca K r_is_row.np (run G T (n + 1) f_is_row)) := by
  have sc := sc_is_row
  refine fnG_run F sc T_is_row rfl rfl fun cdv A outer s H E F0 ι0 hr hg => ?_
  have tk := L2.takes_of (X := cxOf (L2.CX P w) P w K mg base N_is_row "is_row" (defScope s_is_row) f cdv A outer s H E) rfl rfl rfl rfl
  have hu := hr.units
  have hu1 := hu_of hr
  exact (gss_cons (gs_if (gw_pt (gw_or (gt_not (gt_of (g_isi1 (t := .tuple) (by decide) rfl M.m_isinstance bt_isinstance (na (i := 0)) (pe_tyname rfl M.m_tuple bt_tuple)))) (gw_or (gt_cmp (o_eq hu) (na (i := 0)) (ga_of (g_tup gv_nil))) (gw_or1 (gt_not (gt_of (g_isi1 (t := .str) (by decide) rfl M.m_isinstance bt_isinstance (ga_of (g_ix (na (i := 0)) (ga_of g_int) (fun _ _ => rfl))) (pe_tyname rfl M.m_str bt_str)))))))) (gss_cons (gs_ret g_bl)
  gss_nil) gss_nil)
  (gss_cons (gs_set (i := 3) sc.nd rfl (by first | exact Or.inl rfl | exact Or.inr rfl) (g_ggetN rfl ⟨M.g_FORMS⟩ ⟨M.h_FORMS⟩ (g_ix (na (i := 0)) (ga_of g_int) (fun _ _ => rfl)) ⟨rfl, rfl, rfl, rfl⟩))
  (gss_cons (gs_if (gw_pt (gw_or (gt_isK o_isN (na (i := 3)) pe_non) (gw_or1 (gt_cmp (o_ne hu) (ga_of (gl_pr o_len rfl M.m_len bt_len (gl_cons (na (i := 0)) gl_nil))) (ga_of (g_bin o_add (ga_of (gl_pr o_len rfl M.m_len bt_len (gl_cons (na (i := 3)) gl_nil))) (ga_of g_int))))))) (gss_cons (gs_ret g_bl)
  gss_nil) gss_nil)
  (gss_cons (gs_ret (gl_pr (o_all rfl) rfl M.m_all bt_all (gl_cons (ga_of (g_fr (gf_lc (own' := [("sort", 4), ("one", 5)]) rfl sc.nd (gi_zip rfl M.m_zip (gx_A (na (i := 3))) (gx_A (ga_of (g_cut10 (na (i := 0)) (ga_of g_int))))) (blkOk_by (N := N_is_row) (sc := defScope s_is_row) (by decide +kernel)) rfl (fun _ _ _ _ _ => (gg_tup rfl (ggs_cons (tn (i := 4) sc.nd) (ggs_cons (tn (i := 5) sc.nd) ggs_nil)))) (fun _ _ _ _ _ => gc_nil) (fun _ _ _ _ _ => (g_call (L.c (r := r_is_member) hr hg takes0 rfl) rfl rfl (gv_cons (n_ (i := 4)) (gv_cons (n_ (i := 5)) (gv_cons (n_ (i := 1)) (gv_cons (n_ (i := 2)) gv_nil))))))))) gl_nil)))
  gss_nil))))

theorem ok_is_rows {P : Program} {ca : Nat → PySem.Addr} {w : World} {K : PySem.W.Frag} {mg : Str → Option Value} {base : Heap} {n : Nat} {f : Addr} {fd : FuncData} (F : Fun K "is_rows" "is_rows" s_is_rows f fd) (L : Lvl true P w K mg base ca G T tab n) (M : Mo P ca K w mg) :
    FnG true P w K mg base (L2.CX P w) (2 * n + 1 + 1) f fd r_is_rows.ps (spG ca K r_is_rows.np (run G T (n + 1) f_is_rows)) := by
  have sc := sc_is_rows
  refine fnG_run F sc T_is_rows rfl rfl fun cdv A outer s H E F0 ι0 hr hg => ?_
  have tk := L2.takes_of (X := cxOf (L2.CX P w) P w K mg base N_is_rows "is_rows" (defScope s_is_rows) f cdv A outer s H E) rfl rfl rfl rfl
  have hu := hr.units
  have hu1 := hu_of hr
  exact (gss_cons (gs_if (gw_pt (gw_or (gt_not (gt_of (g_isi1 (t := .tuple) (by decide) rfl M.m_isinstance bt_isinstance (na (i := 0)) (pe_tyname rfl M.m_tuple bt_tuple)))) (gw_or1 (gt_cmp o_gt (ga_of (gl_pr o_len rfl M.m_len bt_len (gl_cons (na (i := 0)) gl_nil))) (ga_of (g_g rfl ⟨M.g_MOST_ROWS⟩)))))) (gss_cons (gs_ret g_bl)
  gss_nil) gss_nil)
  (gss_cons (gs_ret (gl_pr (o_all rfl) rfl M.m_all bt_all (gl_cons (ga_of (g_fr (gf_lc (own' := [("k", 1), ("row", 2)]) rfl sc.nd (gi_enum rfl M.m_enumerate (gx_A (na (i := 0)))) (blkOk_by (N := N_is_rows) (sc := defScope s_is_rows) (by decide +kernel)) rfl (fun _ _ _ _ _ => (gg_tup rfl (ggs_cons (tn (i := 1) sc.nd) (ggs_cons (tn (i := 2) sc.nd) ggs_nil)))) (fun _ _ _ _ _ => gc_nil) (fun _ _ _ _ _ => (g_call (L.c (r := r_is_row) hr hg takes0 rfl) rfl rfl (gv_cons (n_ (i := 2)) (gv_cons (n_ (i := 1)) (gv_cons (gl_pr o_len rfl M.m_len bt_len (gl_cons (na (i := 0)) gl_nil)) gv_nil)))))))) gl_nil)))
  gss_nil))

theorem ok_check_rows {P : Program} {ca : Nat → PySem.Addr} {w : World} {K : PySem.W.Frag} {mg : Str → Option Value} {base : Heap} {n : Nat} {f : Addr} {fd : FuncData} (F : Fun K "check_rows" "check_rows" s_check_rows f fd) (L : Lvl true P w K mg base ca G T tab n) (M : Mo P ca K w mg) :
    FnG true P w K mg base (L2.CX P w) (2 * n + 1 + 1) f fd r_check_rows.ps (spG ca K r_check_rows.np (run G T (n + 1) f_check_rows)) := by
  have sc := sc_check_rows
  refine fnG_run F sc T_check_rows rfl rfl fun cdv A outer s H E F0 ι0 hr hg => ?_
  have tk := L2.takes_of (X := cxOf (L2.CX P w) P w K mg base N_check_rows "check_rows" (defScope s_check_rows) f cdv A outer s H E) rfl rfl rfl rfl
  have hu := hr.units
  have hu1 := hu_of hr
  exact (gss_cons (gs_if (gt_not (gt_of (g_call (L.c (r := r_is_rows) hr hg tk rfl) rfl rfl (gv_cons (n_ (i := 0)) gv_nil)))) (gss_cons gs_dead
  gss_nil) gss_nil)
  gss_nil)

theorem ok_goal_of {P : Program} {ca : Nat → PySem.Addr} {w : World} {K : PySem.W.Frag} {mg : Str → Option Value} {base : Heap} {n : Nat} {f : Addr} {fd : FuncData} (F : Fun K "goal_of" "goal_of" s_goal_of f fd) (L : Lvl true P w K mg base ca G T tab n) (M : Mo P ca K w mg) :
    FnG true P w K mg base (L2.CX P w) (2 * n + 1 + 1) f fd r_goal_of.ps (spG ca K r_goal_of.np (run G T (n + 1) f_goal_of)) := by
  have sc := sc_goal_of
  refine fnG_run F sc T_goal_of rfl rfl fun cdv A outer s H E F0 ι0 hr hg => ?_
  have tk := L2.takes_of (X := cxOf (L2.CX P w) P w K mg base N_goal_of "goal_of" (defScope s_goal_of) f cdv A outer s H E) rfl rfl rfl rfl
  have hu := hr.units
  have hu1 := hu_of hr
  exact (gss_cons (gs_ret (g_ite (gt_cmp o_mem (ga_of (g_ix (na (i := 0)) (ga_of g_int) (fun _ _ => rfl))) (ga_of (g_g rfl ⟨M.g_JUMPING⟩))) (g_ix (na (i := 0)) (ga_of (g_bin o_sub (ga_of (gl_pr o_len rfl M.m_len bt_len (gl_cons (na (i := 0)) gl_nil))) (ga_of g_int))) (fun _ _ => rfl)) g_non))
  gss_nil)

theorem ok_with_goal {P : Program} {ca : Nat → PySem.Addr} {w : World} {K : PySem.W.Frag} {mg : Str → Option Value} {base : Heap} {n : Nat} {f : Addr} {fd : FuncData} (F : Fun K "with_goal" "with_goal" s_with_goal f fd) (L : Lvl true P w K mg base ca G T tab n) (M : Mo P ca K w mg) :
    FnG true P w K mg base (L2.CX P w) (2 * n + 1 + 1) f fd r_with_goal.ps (spG ca K r_with_goal.np (run G T (n + 1) f_with_goal)) := by
  have sc := sc_with_goal
  refine fnG_run F sc T_with_goal rfl rfl fun cdv A outer s H E F0 ι0 hr hg => ?_
  have tk := L2.takes_of (X := cxOf (L2.CX P w) P w K mg base N_with_goal "with_goal" (defScope s_with_goal) f cdv A outer s H E) rfl rfl rfl rfl
  have hu := hr.units
  have hu1 := hu_of hr
  exact (gss_cons (gs_ret (g_bin o_add (ga_of (g_cut01 (na (i := 0)) (ga_of (g_bin o_sub (ga_of (gl_pr o_len rfl M.m_len bt_len (gl_cons (na (i := 0)) gl_nil))) (ga_of g_int))))) (ga_of (g_tup (gv_cons (n_ (i := 1)) gv_nil)))))
  gss_nil)

theorem ok_ways_of {P : Program} {ca : Nat → PySem.Addr} {w : World} {K : PySem.W.Frag} {mg : Str → Option Value} {base : Heap} {n : Nat} {f : Addr} {fd : FuncData} (F : Fun K "ways_of" "ways_of" s_ways_of f fd) (L : Lvl true P w K mg base ca G T tab n) (M : Mo P ca K w mg) :
    FnG true P w K mg base (L2.CX P w) (2 * n + 1 + 1) f fd r_ways_of.ps (spG ca K r_ways_of.np (run G T (n + 1) f_ways_of)) := by
  have sc := sc_ways_of
  refine fnG_run F sc T_ways_of rfl rfl fun cdv A outer s H E F0 ι0 hr hg => ?_
  have tk := L2.takes_of (X := cxOf (L2.CX P w) P w K mg base N_ways_of "ways_of" (defScope s_ways_of) f cdv A outer s H E) rfl rfl rfl rfl
  have hu := hr.units
  have hu1 := hu_of hr
  exact (gss_cons (gs_set (i := 2) sc.nd rfl (by first | exact Or.inl rfl | exact Or.inr rfl) (g_call (L.c (r := r_goal_of) hr hg tk rfl) rfl rfl (gv_cons (n_ (i := 0)) gv_nil)))
  (gss_cons (gs_if (gt_cmp (o_eq hu) (ga_of (g_ix (na (i := 0)) (ga_of g_int) (fun _ _ => rfl))) (ga_of g_str)) (gss_cons (gs_ret (g_lst (gv_cons (n_ (i := 2)) gv_nil)))
  gss_nil) gss_nil)
  (gss_cons (gs_ret (g_ite (gt_isK o_isN (na (i := 2)) pe_non) (g_lst (gv_cons (g_bin o_add (na (i := 1)) (ga_of g_int)) gv_nil)) (g_lst (gv_cons (g_bin o_add (na (i := 1)) (ga_of g_int)) (gv_cons (n_ (i := 2)) gv_nil)))))
  gss_nil)))

theorem ok_left_rows {P : Program} {ca : Nat → PySem.Addr} {w : World} {K : PySem.W.Frag} {mg : Str → Option Value} {base : Heap} {n : Nat} {f : Addr} {fd : FuncData} (F : Fun K "left_rows" "left_rows" s_left_rows f fd) (L : Lvl true P w K mg base ca G T tab n) (M : Mo P ca K w mg) :
    FnG true P w K mg base (L2.CX P w) (2 * n + 1 + 1) f fd r_left_rows.ps (spG ca K r_left_rows.np (run G T (n + 1) f_left_rows)) := by
  have sc := sc_left_rows
  refine fnG_run F sc T_left_rows rfl rfl fun cdv A outer s H E F0 ι0 hr hg => ?_
  have tk := L2.takes_of (X := cxOf (L2.CX P w) P w K mg base N_left_rows "left_rows" (defScope s_left_rows) f cdv A outer s H E) rfl rfl rfl rfl
  have hu := hr.units
  have hu1 := hu_of hr
  exact (gss_cons (gs_par (i := 5) (j := 6) rfl sc.nd rfl rfl (by decide) rfl rfl (g_newdi (gl_pr o_len rfl M.m_len bt_len (gl_cons (na (i := 0)) gl_nil)) (gl_pr o_len rfl M.m_len bt_len (gl_cons (na (i := 1)) gl_nil))) (gl_pr o_len rfl M.m_len bt_len (gl_cons (na (i := 1)) gl_nil)) rfl)
  (gss_cons (gs_set (i := 2) sc.nd rfl (by first | exact Or.inl rfl | exact Or.inr rfl) (g_newdp rfl rfl M.m_dict bt_dict (gl_cons (ga_of (g_fr (gf_lc (own' := [("k", 8), ("at", 3)]) rfl sc.nd (gi_enum rfl M.m_enumerate (gx_A (na (i := 1)))) (blkOk_by (N := N_left_rows) (sc := defScope s_left_rows) (by decide +kernel)) rfl (fun _ _ _ _ _ => (gg_tup rfl (ggs_cons (tn (i := 8) sc.nd) (ggs_cons (tn (i := 3) sc.nd) ggs_nil)))) (fun _ _ _ _ _ => gc_nil) (fun _ _ _ _ _ => (g_tup (gv_cons (n_ (i := 3)) (gv_cons (n_ (i := 8)) gv_nil))))))) gl_nil)))
  (gss_cons (gs_for (passes_of rfl) rfl (gi_rng3 rfl M.m_range (gx_V (g_bin o_sub (ga_of (gl_pr o_len rfl M.m_len bt_len (gl_cons (na (i := 0)) gl_nil))) (ga_of g_int))) (gx_V (g_un o_neg (ga_of g_int))) (gx_V (g_un o_neg (ga_of g_int)))) (tn (i := 3) sc.nd) (gss_cons (gs_set (i := 6) sc.nd rfl (by first | exact Or.inl rfl | exact Or.inr rfl) (g_dgetv hu1 (n_ (i := 2)) (n_ (i := 3)) (n_ (i := 6)) ⟨rfl, rfl, rfl, rfl⟩))
  (gss_cons (gs_setd hu1 (n_ (i := 6)) (n_ (i := 5)) (n_ (i := 3)))
  gss_nil)))
  (gss_cons (gs_own (i := 4) sc.nd rfl (by first | exact Or.inl rfl | exact Or.inr rfl) (gf_lst gv_nil))
  (gss_cons (gs_for (passes_of rfl) rfl (gi_sq (gx_V (n_ (i := 1)))) (tn (i := 3) sc.nd) (gss_cons (gs_set (i := 7) sc.nd rfl (by first | exact Or.inl rfl | exact Or.inr rfl) (g_call (L.c (r := r_goal_of) hr hg tk rfl) rfl rfl (gv_cons (g_ix (na (i := 0)) (na (i := 3)) (fun _ _ => rfl)) gv_nil)))
  (gss_cons (gs_oapp (i := 4) (pv 4) (g_ite (gt_isK o_isN (na (i := 7)) pe_non) (g_ix (na (i := 0)) (na (i := 3)) (fun _ _ => rfl)) (g_call (L.c (r := r_with_goal) hr hg tk rfl) rfl rfl (gv_cons (g_ix (na (i := 0)) (na (i := 3)) (fun _ _ => rfl)) (gv_cons (g_dsub hu1 (n_ (i := 5)) (n_ (i := 7))) gv_nil)))))
  gss_nil)))
  (gss_cons (gs_ret (gl_ty o_tuple rfl M.m_tuple bt_tuple (gl_cons (na (i := 4)) gl_nil)))
  gss_nil))))))

theorem ok_reached_rows {P : Program} {ca : Nat → PySem.Addr} {w : World} {K : PySem.W.Frag} {mg : Str → Option Value} {base : Heap} {n : Nat} {f : Addr} {fd : FuncData} (F : Fun K "reached_rows" "reached_rows" s_reached_rows f fd) (L : Lvl true P w K mg base ca G T tab n) (M : Mo P ca K w mg) :
    FnG true P w K mg base (L2.CX P w) (2 * n + 1 + 1) f fd r_reached_rows.ps (spG ca K r_reached_rows.np (run G T (n + 1) f_reached_rows)) := by
  have sc := sc_reached_rows
  refine fnG_run F sc T_reached_rows rfl rfl fun cdv A outer s H E F0 ι0 hr hg => ?_
  have tk := L2.takes_of (X := cxOf (L2.CX P w) P w K mg base N_reached_rows "reached_rows" (defScope s_reached_rows) f cdv A outer s H E) rfl rfl rfl rfl
  have hu := hr.units
  have hu1 := hu_of hr
  exact (gss_cons (gs_set (i := 1) sc.nd rfl (by first | exact Or.inl rfl | exact Or.inr rfl) (g_newdi g_int g_bl))
  (gss_cons (gs_for (passes_of rfl) rfl (gi_rng1 rfl M.m_range (gx_V (gl_pr o_len rfl M.m_len bt_len (gl_cons (na (i := 0)) gl_nil)))) (tn (i := 2) sc.nd) (gss_cons (gs_if (gt_cmp (o_memK hu1) (na (i := 2)) (na (i := 1))) (gss_cons (gs_for (passes_of rfl) rfl (gi_sq (gx_V (g_call (L.c (r := r_ways_of) hr hg tk rfl) rfl rfl (gv_cons (g_ix (na (i := 0)) (na (i := 2)) (fun _ _ => rfl)) (gv_cons (n_ (i := 2)) gv_nil))))) (tn (i := 3) sc.nd) (gss_cons (gs_setd hu1 g_bl (n_ (i := 1)) (n_ (i := 3)))
  gss_nil))
  gss_nil) gss_nil)
  gss_nil))
  (gss_cons (gs_ret (g_call (L.c (r := r_left_rows) hr hg tk rfl) rfl rfl (gv_cons (n_ (i := 0)) (gv_cons (g_fr (gf_lc (own' := [("at", 2)]) rfl sc.nd (gi_rng1 rfl M.m_range (gx_A (ga_of (gl_pr o_len rfl M.m_len bt_len (gl_cons (na (i := 0)) gl_nil))))) (blkOk_by (N := N_reached_rows) (sc := defScope s_reached_rows) (by decide +kernel)) rfl (fun _ _ _ _ _ => (tn (i := 2) sc.nd)) (fun _ _ _ _ _ => (gc_one (gt_cmp (o_memK hu1) (na (i := 2)) (na (i := 1))))) (fun _ _ _ _ _ => (n_ (i := 2))))) gv_nil))))
  gss_nil)))

theorem ok_reached {P : Program} {ca : Nat → PySem.Addr} {w : World} {K : PySem.W.Frag} {mg : Str → Option Value} {base : Heap} {n : Nat} {f : Addr} {fd : FuncData} (F : Fun K "reached" "reached" s_reached f fd) (L : Lvl true P w K mg base ca G T tab n) (M : Mo P ca K w mg) :
    FnG true P w K mg base (L2.CX P w) (2 * n + 1 + 1) f fd r_reached.ps (spG ca K r_reached.np (run G T (n + 1) f_reached)) := by
  have sc := sc_reached
  refine fnG_run F sc T_reached rfl rfl fun cdv A outer s H E F0 ι0 hr hg => ?_
  have tk := L2.takes_of (X := cxOf (L2.CX P w) P w K mg base N_reached "reached" (defScope s_reached) f cdv A outer s H E) rfl rfl rfl rfl
  have hu := hr.units
  have hu1 := hu_of hr
  exact (gss_cons (gs_ex (g_call (L.c (r := r_check_rows) hr hg tk rfl) rfl rfl (gv_cons (n_ (i := 0)) gv_nil)))
  (gss_cons (gs_ret (g_call (L.c (r := r_reached_rows) hr hg tk rfl) rfl rfl (gv_cons (n_ (i := 0)) gv_nil)))
  gss_nil))

theorem ok__law_well {P : Program} {ca : Nat → PySem.Addr} {w : World} {K : PySem.W.Frag} {mg : Str → Option Value} {base : Heap} {n : Nat} {f : Addr} {fd : FuncData} (F : Fun K "_law_well" "_law_well" s__law_well f fd) (L : Lvl true P w K mg base ca G T tab n) (M : Mo P ca K w mg) :
    FnG true P w K mg base (L2.CX P w) (2 * n + 1 + 1) f fd r__law_well.ps (spG ca K r__law_well.np (run G T (n + 1) f__law_well)) := by
  have sc := sc__law_well
  refine fnG_run F sc T__law_well rfl rfl fun cdv A outer s H E F0 ι0 hr hg => ?_
  have tk := L2.takes_of (X := cxOf (L2.CX P w) P w K mg base N__law_well "_law_well" (defScope s__law_well) f cdv A outer s H E) rfl rfl rfl rfl
  have hu := hr.units
  have hu1 := hu_of hr
  exact (gss_cons (gs_set (i := 0) sc.nd rfl (by first | exact Or.inl rfl | exact Or.inr rfl) (gl_ty o_int rfl M.m_int bt_int (gl_cons (na (i := 0)) gl_nil)))
  (gss_cons (gs_ret (g_newl (gv_cons (g_ite (gt_cmp o_ge (na (i := 0)) (ga_of (g_bin o_pow (ga_of g_int) (ga_of g_int)))) (g_bin o_sub (na (i := 0)) (ga_of (g_bin o_pow (ga_of g_int) (ga_of g_int)))) g_int) (gv_cons (g_bin o_add (ga_of (g_bin o_mod (na (i := 0)) (ga_of g_int))) (ga_of g_int)) (gv_cons g_int gv_nil)))))
  gss_nil))

theorem ok__law_dip {P : Program} {ca : Nat → PySem.Addr} {w : World} {K : PySem.W.Frag} {mg : Str → Option Value} {base : Heap} {n : Nat} {f : Addr} {fd : FuncData} (F : Fun K "_law_dip" "_law_dip" s__law_dip f fd) (L : Lvl true P w K mg base ca G T tab n) (M : Mo P ca K w mg) :
    FnG true P w K mg base (L2.CX P w) (2 * n + 1 + 1) f fd r__law_dip.ps (spG ca K r__law_dip.np (run G T (n + 1) f__law_dip)) := by
  have sc := sc__law_dip
  refine fnG_run F sc T__law_dip rfl rfl fun cdv A outer s H E F0 ι0 hr hg => ?_
  have tk := L2.takes_of (X := cxOf (L2.CX P w) P w K mg base N__law_dip "_law_dip" (defScope s__law_dip) f cdv A outer s H E) rfl rfl rfl rfl
  have hu := hr.units
  have hu1 := hu_of hr
  exact (gss_cons (gs_if (gt_cmp o_gt (ga_of (g_ix (na (i := 0)) (ga_of g_int) (fun _ _ => rfl))) (ga_of g_int)) (gss_cons (gs_set (i := 2) sc.nd rfl (by first | exact Or.inl rfl | exact Or.inr rfl) (g_bin o_mod (ga_of (gl_ty o_int rfl M.m_int bt_int (gl_cons (ga_of (g_ix (na (i := 0)) (ga_of g_int) (fun _ _ => rfl))) gl_nil))) (na (i := 1))))
  (gss_cons (gs_seti (g_bin o_fdiv (ga_of (gl_ty o_int rfl M.m_int bt_int (gl_cons (ga_of (g_ix (na (i := 0)) (ga_of g_int) (fun _ _ => rfl))) gl_nil))) (na (i := 1))) (n_ (i := 0)) g_int)
  (gss_cons (gs_ret (n_ (i := 2)))
  gss_nil))) gss_nil)
  (gss_cons (gs_seti (g_bin o_add (ga_of (g_ix (na (i := 0)) (ga_of g_int) (fun _ _ => rfl))) (ga_of g_int)) (n_ (i := 0)) g_int)
  (gss_cons (gs_seti (g_bin o_mod (ga_of (gl_ty o_int rfl M.m_int bt_int (gl_cons (ga_of (g_bin o_add (ga_of (g_bin o_add (ga_of (g_bin o_mul (ga_of (g_ix (na (i := 0)) (ga_of g_int) (fun _ _ => rfl))) (ga_of g_int))) (ga_of (g_bin o_mul (ga_of (g_bin o_mul (ga_of (g_ix (na (i := 0)) (ga_of g_int) (fun _ _ => rfl))) (ga_of (g_ix (na (i := 0)) (ga_of g_int) (fun _ _ => rfl))))) (ga_of g_int))))) (ga_of g_int))) gl_nil))) (ga_of g_int)) (n_ (i := 0)) g_int)
  (gss_cons (gs_ret (g_bin o_mod (ga_of (g_bin o_fdiv (ga_of (g_bin o_mod (ga_of (gl_ty o_int rfl M.m_int bt_int (gl_cons (ga_of (g_bin o_mul (ga_of (g_ix (na (i := 0)) (ga_of g_int) (fun _ _ => rfl))) (ga_of (g_ix (na (i := 0)) (ga_of g_int) (fun _ _ => rfl))))) gl_nil))) (ga_of g_int))) (ga_of g_int))) (na (i := 1))))
  gss_nil))))

theorem ok__law_same {P : Program} {ca : Nat → PySem.Addr} {w : World} {K : PySem.W.Frag} {mg : Str → Option Value} {base : Heap} {n : Nat} {f : Addr} {fd : FuncData} (F : Fun K "_law_same" "_law_same" s__law_same f fd) (L : Lvl true P w K mg base ca G T tab n) (M : Mo P ca K w mg) :
    FnG true P w K mg base (L2.CX P w) (2 * n + 1 + 1) f fd r__law_same.ps (spG ca K r__law_same.np (run G T (n + 1) f__law_same)) := by
  have sc := sc__law_same
  refine fnG_run F sc T__law_same rfl rfl fun cdv A outer s H E F0 ι0 hr hg => ?_
  have tk := L2.takes_of (X := cxOf (L2.CX P w) P w K mg base N__law_same "_law_same" (defScope s__law_same) f cdv A outer s H E) rfl rfl rfl rfl
  have hu := hr.units
  have hu1 := hu_of hr
  exact (gss_cons (gs_if (gt_isK o_isN (na (i := 1)) pe_non) (gss_cons (gs_ret (g_isK o_isN (na (i := 0)) pe_non))
  gss_nil) gss_nil)
  (gss_cons (gs_if (gt_of (g_isi1 (t := .bool) (by decide) rfl M.m_isinstance bt_isinstance (na (i := 1)) (pe_tyname rfl M.m_bool bt_bool))) (gss_cons (gs_ret (g_and (g_isi1 (t := .bool) (by decide) rfl M.m_isinstance bt_isinstance (na (i := 0)) (pe_tyname rfl M.m_bool bt_bool)) (g_one (g_cmp (o_eq hu) (na (i := 0)) (na (i := 1))))))
  gss_nil) gss_nil)
  (gss_cons (gs_if (gt_of (g_isi1 (t := .int) (by decide) rfl M.m_isinstance bt_isinstance (na (i := 1)) (pe_tyname rfl M.m_int bt_int))) (gss_cons (gs_ret (g_and (g_isi1 (t := .int) (by decide) rfl M.m_isinstance bt_isinstance (na (i := 0)) (pe_tyname rfl M.m_int bt_int)) (g_and (g_not (g_isi1 (t := .bool) (by decide) rfl M.m_isinstance bt_isinstance (na (i := 0)) (pe_tyname rfl M.m_bool bt_bool))) (g_one (g_cmp (o_eq hu) (na (i := 0)) (na (i := 1)))))))
  gss_nil) gss_nil)
  (gss_cons (gs_if (gt_of (g_isi1 (t := .str) (by decide) rfl M.m_isinstance bt_isinstance (na (i := 1)) (pe_tyname rfl M.m_str bt_str))) (gss_cons (gs_ret (g_and (g_isi1 (t := .str) (by decide) rfl M.m_isinstance bt_isinstance (na (i := 0)) (pe_tyname rfl M.m_str bt_str)) (g_one (g_cmp (o_eq hu) (na (i := 0)) (na (i := 1))))))
  gss_nil) gss_nil)
  (gss_cons (gs_if (gw_pt (gw_or (gt_cmp (o_ne hu) (ga_of (g_isi1 (t := .list) (by decide) rfl M.m_isinstance bt_isinstance (na (i := 1)) (pe_tyname rfl M.m_list bt_list))) (ga_of (g_isi1 (t := .list) (by decide) rfl M.m_isinstance bt_isinstance (na (i := 0)) (pe_tyname rfl M.m_list bt_list)))) (gw_or1 (gt_cmp (o_ne hu) (ga_of (g_isi1 (t := .tuple) (by decide) rfl M.m_isinstance bt_isinstance (na (i := 1)) (pe_tyname rfl M.m_tuple bt_tuple))) (ga_of (g_isi1 (t := .tuple) (by decide) rfl M.m_isinstance bt_isinstance (na (i := 0)) (pe_tyname rfl M.m_tuple bt_tuple))))))) (gss_cons (gs_ret g_bl)
  gss_nil) gss_nil)
  (gss_cons (gs_ret (g_and (g_cmp (o_eq hu) (ga_of (gl_pr o_len rfl M.m_len bt_len (gl_cons (na (i := 0)) gl_nil))) (ga_of (gl_pr o_len rfl M.m_len bt_len (gl_cons (na (i := 1)) gl_nil)))) (g_one (gl_pr (o_all rfl) rfl M.m_all bt_all (gl_cons (ga_of (g_fr (gf_lc (own' := [("k", 2)]) rfl sc.nd (gi_rng1 rfl M.m_range (gx_A (ga_of (gl_pr o_len rfl M.m_len bt_len (gl_cons (na (i := 1)) gl_nil))))) (blkOk_by (N := N__law_same) (sc := defScope s__law_same) (by decide +kernel)) rfl (fun _ _ _ _ _ => (tn (i := 2) sc.nd)) (fun _ _ _ _ _ => gc_nil) (fun _ _ _ _ _ => (g_call (L.c (r := r__law_same) hr hg takes0 rfl) rfl rfl (gv_cons (g_ix (na (i := 0)) (na (i := 2)) (fun _ _ => rfl)) (gv_cons (g_ix (na (i := 1)) (na (i := 2)) (fun _ _ => rfl)) gv_nil))))))) gl_nil)))))
  gss_nil))))))

theorem ok__law_row {P : Program} {ca : Nat → PySem.Addr} {w : World} {K : PySem.W.Frag} {mg : Str → Option Value} {base : Heap} {n : Nat} {f : Addr} {fd : FuncData} (F : Fun K "_law_row" "_law_row" s__law_row f fd) (L : Lvl true P w K mg base ca G T tab n) (M : Mo P ca K w mg) :
    FnG true P w K mg base (L2.CX P w) (2 * n + 1 + 1) f fd r__law_row.ps (spG ca K r__law_row.np (run G T (n + 1) f__law_row)) := by
  have sc := sc__law_row
  refine fnG_run F sc T__law_row rfl rfl fun cdv A outer s H E F0 ι0 hr hg => ?_
  have tk := L2.takes_of (X := cxOf (L2.CX P w) P w K mg base N__law_row "_law_row" (defScope s__law_row) f cdv A outer s H E) rfl rfl rfl rfl
  have hu := hr.units
  have hu1 := hu_of hr
  exact (gss_cons (gs_set (i := 4) sc.nd rfl (by first | exact Or.inl rfl | exact Or.inr rfl) (g_lst (gv_cons g_str (gv_cons g_str (gv_cons g_str (gv_cons g_str (gv_cons g_str (gv_cons g_str (gv_cons g_str (gv_cons g_str (gv_cons g_str (gv_cons g_str (gv_cons g_str (gv_cons g_str (gv_cons g_str (gv_cons g_str (gv_cons g_str (gv_cons g_str (gv_cons g_str (gv_cons g_str (gv_cons g_str (gv_cons g_str (gv_cons g_str gv_nil)))))))))))))))))))))))
  (gss_cons (gs_set (i := 5) sc.nd rfl (by first | exact Or.inl rfl | exact Or.inr rfl) (g_ix (na (i := 4)) (ga_of (g_call (L.c (r := r__law_dip) hr hg tk rfl) rfl rfl (gv_cons (n_ (i := 0)) (gv_cons g_int gv_nil)))) (fun _ _ => rfl)))
  (gss_cons (gs_asg (gg_tup rfl (ggs_cons (tn (i := 6) sc.nd) (ggs_cons (tn (i := 7) sc.nd) (ggs_cons (tn (i := 8) sc.nd) (ggs_cons (tn (i := 9) sc.nd) ggs_nil))))) (g_tup (gv_cons (g_call (L.c (r := r__law_dip) hr hg tk rfl) rfl rfl (gv_cons (n_ (i := 0)) (gv_cons g_int gv_nil))) (gv_cons (g_call (L.c (r := r__law_dip) hr hg tk rfl) rfl rfl (gv_cons (n_ (i := 0)) (gv_cons g_int gv_nil))) (gv_cons (g_call (L.c (r := r__law_dip) hr hg tk rfl) rfl rfl (gv_cons (n_ (i := 0)) (gv_cons g_int gv_nil))) (gv_cons (g_bin o_add (ga_of (g_bin o_add (na (i := 1)) (ga_of g_int))) (ga_of (g_call (L.c (r := r__law_dip) hr hg tk rfl) rfl rfl (gv_cons (n_ (i := 0)) (gv_cons (gl_pr (o_min rfl) rfl M.m_min bt_min (gl_cons (ga_of (g_bin o_sub (na (i := 2)) (na (i := 1)))) (gl_cons (ga_of g_int) gl_nil))) gv_nil))))) gv_nil))))) rfl rfl rfl)
  (gss_cons (gs_if (gt_cmp o_mem (na (i := 5)) (ga_of (g_lst (gv_cons g_str (gv_cons g_str (gv_cons g_str (gv_cons g_str gv_nil))))))) (gss_cons (gs_ret (g_tup (gv_cons (n_ (i := 5)) (gv_cons (n_ (i := 6)) (gv_cons (g_dsub hu1 (g_newd (gp_cons (g_ix (ga_of (g_lst (gv_cons g_int (gv_cons g_int (gv_cons g_int (gv_cons (g_un o_neg (ga_of g_int)) (gv_cons (g_bin o_pow (ga_of g_int) (ga_of g_int)) gv_nil))))))) (ga_of (g_call (L.c (r := r__law_dip) hr hg tk rfl) rfl rfl (gv_cons (n_ (i := 0)) (gv_cons g_int gv_nil)))) (fun _ _ => rfl)) (gp_cons (n_ (i := 7)) (gp_cons (g_call (L.c (r := r__law_dip) hr hg tk rfl) rfl rfl (gv_cons (n_ (i := 0)) (gv_cons (n_ (i := 3)) gv_nil))) (gp_cons (g_ix (ga_of (g_lst (gv_cons (g_call (L.c (r := r__law_dip) hr hg tk rfl) rfl rfl (gv_cons (n_ (i := 0)) (gv_cons g_int gv_nil))) (gv_cons g_int gv_nil)))) (ga_of (gl_ty o_int rfl M.m_int bt_int (gl_cons (ga_of (g_cmp (o_eq hu) (ga_of (g_call (L.c (r := r__law_dip) hr hg tk rfl) rfl rfl (gv_cons (n_ (i := 0)) (gv_cons g_int gv_nil)))) (ga_of g_int))) gl_nil))) (fun _ _ => rfl)) gp_nil))))) (n_ (i := 5))) gv_nil)))))
  gss_nil) gss_nil)
  (gss_cons (gs_if (gt_cmp o_mem (na (i := 5)) (ga_of (g_lst (gv_cons g_str (gv_cons g_str (gv_cons g_str gv_nil)))))) (gss_cons (gs_ret (g_dsub hu1 (g_newd (gp_cons (g_tup (gv_cons (n_ (i := 5)) (gv_cons (n_ (i := 9)) gv_nil))) (gp_cons (g_tup (gv_cons (n_ (i := 5)) (gv_cons (n_ (i := 7)) (gv_cons (n_ (i := 9)) gv_nil)))) (gp_cons (g_tup (gv_cons (n_ (i := 5)) (gv_cons (g_call (L.c (r := r__law_dip) hr hg tk rfl) rfl rfl (gv_cons (n_ (i := 0)) (gv_cons g_int gv_nil))) (gv_cons (n_ (i := 9)) gv_nil)))) gp_nil)))) (n_ (i := 5))))
  gss_nil) gss_nil)
  (gss_cons (gs_if (gt_cmp o_mem (na (i := 5)) (ga_of (g_lst (gv_cons g_str (gv_cons g_str (gv_cons g_str gv_nil)))))) (gss_cons (gs_ret (g_dsub hu1 (g_newd (gp_cons (g_tup (gv_cons (n_ (i := 5)) (gv_cons (g_ix (ga_of (g_lst (gv_cons g_str (gv_cons g_str (gv_cons g_str (gv_cons g_str (gv_cons g_str gv_nil))))))) (ga_of (g_call (L.c (r := r__law_dip) hr hg tk rfl) rfl rfl (gv_cons (n_ (i := 0)) (gv_cons g_int gv_nil)))) (fun _ _ => rfl)) gv_nil))) (gp_cons (g_tup (gv_cons (n_ (i := 5)) (gv_cons (n_ (i := 7)) (gv_cons (g_ix (ga_of (g_lst (gv_cons g_str (gv_cons g_str gv_nil)))) (ga_of (g_call (L.c (r := r__law_dip) hr hg tk rfl) rfl rfl (gv_cons (n_ (i := 0)) (gv_cons g_int gv_nil)))) (fun _ _ => rfl)) gv_nil)))) (gp_cons (g_tup (gv_cons (n_ (i := 5)) (gv_cons (g_call (L.c (r := r__law_dip) hr hg tk rfl) rfl rfl (gv_cons (n_ (i := 0)) (gv_cons g_int gv_nil))) gv_nil))) gp_nil)))) (n_ (i := 5))))
  gss_nil) gss_nil)
  (gss_cons (gs_if (gt_cmp (o_eq hu) (na (i := 5)) (ga_of g_str)) (gss_cons (gs_ret (g_tup (gv_cons (n_ (i := 5)) (gv_cons (n_ (i := 6)) (gv_cons (g_ix (ga_of (g_lst (gv_cons g_int (gv_cons (g_un o_neg (ga_of g_int)) (gv_cons g_int (gv_cons g_int gv_nil)))))) (ga_of (g_call (L.c (r := r__law_dip) hr hg tk rfl) rfl rfl (gv_cons (n_ (i := 0)) (gv_cons g_int gv_nil)))) (fun _ _ => rfl)) (gv_cons (n_ (i := 7)) gv_nil))))))
  gss_nil) gss_nil)
  (gss_cons (gs_if (gt_cmp (o_eq hu) (na (i := 5)) (ga_of g_str)) (gss_cons (gs_ret (g_tup (gv_cons (n_ (i := 5)) (gv_cons (n_ (i := 6)) (gv_cons (n_ (i := 7)) (gv_cons (g_call (L.c (r := r__law_dip) hr hg tk rfl) rfl rfl (gv_cons (n_ (i := 0)) (gv_cons g_int gv_nil))) (gv_cons (g_bin o_add (ga_of g_int) (ga_of (g_call (L.c (r := r__law_dip) hr hg tk rfl) rfl rfl (gv_cons (n_ (i := 0)) (gv_cons g_int gv_nil))))) (gv_cons (g_ix (ga_of (g_lst (gv_cons g_str (gv_cons g_str (gv_cons g_str gv_nil))))) (ga_of (g_call (L.c (r := r__law_dip) hr hg tk rfl) rfl rfl (gv_cons (n_ (i := 0)) (gv_cons g_int gv_nil)))) (fun _ _ => rfl)) gv_nil))))))))
  gss_nil) gss_nil)
  (gss_cons (gs_ret (g_tup (gv_cons (n_ (i := 5)) (gv_cons (n_ (i := 6)) (gv_cons (n_ (i := 7)) (gv_cons (n_ (i := 8)) gv_nil))))))
  gss_nil)))))))))

theorem ok__law_rows_drawn {P : Program} {ca : Nat → PySem.Addr} {w : World} {K : PySem.W.Frag} {mg : Str → Option Value} {base : Heap} {n : Nat} {f : Addr} {fd : FuncData} (F : Fun K "_law_rows_drawn" "_law_rows_drawn" s__law_rows_drawn f fd) (L : Lvl true P w K mg base ca G T tab n) (M : Mo P ca K w mg) :
    FnG true P w K mg base (L2.CX P w) (2 * n + 1 + 1) f fd r__law_rows_drawn.ps (spG ca K r__law_rows_drawn.np (run G T (n + 1) f__law_rows_drawn)) := by
  have sc := sc__law_rows_drawn
  refine fnG_run F sc T__law_rows_drawn rfl rfl fun cdv A outer s H E F0 ι0 hr hg => ?_
  have tk := L2.takes_of (X := cxOf (L2.CX P w) P w K mg base N__law_rows_drawn "_law_rows_drawn" (defScope s__law_rows_drawn) f cdv A outer s H E) rfl rfl rfl rfl
  have hu := hr.units
  have hu1 := hu_of hr
  exact (gss_cons (gs_ret (gl_ty o_tuple rfl M.m_tuple bt_tuple (gl_cons (ga_of (g_fr (gf_lc (own' := [("at", 3)]) rfl sc.nd (gi_rng1 rfl M.m_range (gx_A (na (i := 1)))) (blkOk_by (N := N__law_rows_drawn) (sc := defScope s__law_rows_drawn) (by decide +kernel)) rfl (fun _ _ _ _ _ => (tn (i := 3) sc.nd)) (fun _ _ _ _ _ => gc_nil) (fun _ _ _ _ _ => (g_call (L.c (r := r__law_row) hr hg takes0 rfl) rfl rfl (gv_cons (n_ (i := 0)) (gv_cons (n_ (i := 3)) (gv_cons (n_ (i := 1)) (gv_cons (n_ (i := 2)) gv_nil))))))))) gl_nil)))
  gss_nil)

theorem ok__law_goal {P : Program} {ca : Nat → PySem.Addr} {w : World} {K : PySem.W.Frag} {mg : Str → Option Value} {base : Heap} {n : Nat} {f : Addr} {fd : FuncData} (F : Fun K "_law_goal" "_law_goal" s__law_goal f fd) (L : Lvl true P w K mg base ca G T tab n) (M : Mo P ca K w mg) :
    FnG true P w K mg base (L2.CX P w) (2 * n + 1 + 1) f fd r__law_goal.ps (spG ca K r__law_goal.np (run G T (n + 1) f__law_goal)) := by
  have sc := sc__law_goal
  refine fnG_run F sc T__law_goal rfl rfl fun cdv A outer s H E F0 ι0 hr hg => ?_
  have tk := L2.takes_of (X := cxOf (L2.CX P w) P w K mg base N__law_goal "_law_goal" (defScope s__law_goal) f cdv A outer s H E) rfl rfl rfl rfl
  have hu := hr.units
  have hu1 := hu_of hr
  exact (gss_cons (gs_ret (g_ite (gt_cmp o_mem (ga_of (g_ix (na (i := 0)) (ga_of g_int) (fun _ _ => rfl))) (ga_of (g_lst (gv_cons g_str (gv_cons g_str (gv_cons g_str gv_nil)))))) (g_ix (na (i := 0)) (ga_of (g_un o_neg (ga_of g_int))) (fun _ _ => rfl)) g_non))
  gss_nil)

theorem ok__law_next {P : Program} {ca : Nat → PySem.Addr} {w : World} {K : PySem.W.Frag} {mg : Str → Option Value} {base : Heap} {n : Nat} {f : Addr} {fd : FuncData} (F : Fun K "_law_next" "_law_next" s__law_next f fd) (L : Lvl true P w K mg base ca G T tab n) (M : Mo P ca K w mg) :
    FnG true P w K mg base (L2.CX P w) (2 * n + 1 + 1) f fd r__law_next.ps (spG ca K r__law_next.np (run G T (n + 1) f__law_next)) := by
  have sc := sc__law_next
  refine fnG_run F sc T__law_next rfl rfl fun cdv A outer s H E F0 ι0 hr hg => ?_
  have tk := L2.takes_of (X := cxOf (L2.CX P w) P w K mg base N__law_next "_law_next" (defScope s__law_next) f cdv A outer s H E) rfl rfl rfl rfl
  have hu := hr.units
  have hu1 := hu_of hr
  exact (gss_cons (gs_set (i := 2) sc.nd rfl (by first | exact Or.inl rfl | exact Or.inr rfl) (g_ite (gt_cmp (o_eq hu) (ga_of (g_ix (na (i := 0)) (ga_of g_int) (fun _ _ => rfl))) (ga_of g_str)) (g_lst gv_nil) (g_lst (gv_cons (g_bin o_add (na (i := 1)) (ga_of g_int)) gv_nil))))
  (gss_cons (gs_ret (g_bin o_add (na (i := 2)) (ga_of (g_bin o_mul (ga_of (g_lst (gv_cons (g_ix (na (i := 0)) (ga_of (g_un o_neg (ga_of g_int))) (fun _ _ => rfl)) gv_nil))) (ga_of (gl_ty o_int rfl M.m_int bt_int (gl_cons (ga_of (g_cmp o_mem (ga_of (g_ix (na (i := 0)) (ga_of g_int) (fun _ _ => rfl))) (ga_of (g_lst (gv_cons g_str (gv_cons g_str (gv_cons g_str gv_nil))))))) gl_nil)))))))
  gss_nil))

theorem ok__law_left {P : Program} {ca : Nat → PySem.Addr} {w : World} {K : PySem.W.Frag} {mg : Str → Option Value} {base : Heap} {n : Nat} {f : Addr} {fd : FuncData} (F : Fun K "_law_left" "_law_left" s__law_left f fd) (L : Lvl true P w K mg base ca G T tab n) (M : Mo P ca K w mg) :
    FnG true P w K mg base (L2.CX P w) (2 * n + 1 + 1) f fd r__law_left.ps (spG ca K r__law_left.np (run G T (n + 1) f__law_left)) := by
  have sc := sc__law_left
  refine fnG_run F sc T__law_left rfl rfl fun cdv A outer s H E F0 ι0 hr hg => ?_
  have tk := L2.takes_of (X := cxOf (L2.CX P w) P w K mg base N__law_left "_law_left" (defScope s__law_left) f cdv A outer s H E) rfl rfl rfl rfl
  have hu := hr.units
  have hu1 := hu_of hr
  exact (gss_cons (gs_own (i := 2) sc.nd rfl (by first | exact Or.inl rfl | exact Or.inr rfl) (gf_lst gv_nil))
  (gss_cons (gs_for (passes_of rfl) rfl (gi_rng1 rfl M.m_range (gx_V (gl_pr o_len rfl M.m_len bt_len (gl_cons (na (i := 0)) gl_nil)))) (tn (i := 3) sc.nd) (gss_cons (gs_if (gt_cmp o_nmem (na (i := 3)) (na (i := 1))) (gss_cons (gs_asg (gg_tup rfl (ggs_cons (tn (i := 4) sc.nd) (ggs_cons (tn (i := 5) sc.nd) ggs_nil))) (g_tup (gv_cons (g_ix (na (i := 0)) (na (i := 3)) (fun _ _ => rfl)) (gv_cons (g_call (L.c (r := r__law_goal) hr hg tk rfl) rfl rfl (gv_cons (g_ix (na (i := 0)) (na (i := 3)) (fun _ _ => rfl)) gv_nil)) gv_nil))) rfl rfl rfl)
  (gss_cons (gs_if (gt_isK o_notN (na (i := 5)) pe_non) (gss_cons (gs_set (i := 4) sc.nd rfl (by first | exact Or.inl rfl | exact Or.inr rfl) (g_bin o_add (ga_of (g_cut01 (na (i := 4)) (ga_of (g_un o_neg (ga_of g_int))))) (ga_of (g_tup (gv_cons (g_bin o_sub (na (i := 5)) (ga_of (gl_pr o_len rfl M.m_len bt_len (gl_cons (ga_of (g_fr (gf_lc (own' := [("one", 6)]) rfl sc.nd (gi_sq (gx_A (na (i := 1)))) (blkOk_by (N := N__law_left) (sc := defScope s__law_left) (by decide +kernel)) rfl (fun _ _ _ _ _ => (tn (i := 6) sc.nd)) (fun _ _ _ _ _ => (gc_one (gt_cmp o_lt (na (i := 6)) (na (i := 5))))) (fun _ _ _ _ _ => (n_ (i := 6)))))) gl_nil)))) gv_nil)))))
  gss_nil) gss_nil)
  (gss_cons (gs_oapp (i := 2) (pv 2) (n_ (i := 4)))
  gss_nil))) gss_nil)
  gss_nil))
  (gss_cons (gs_ret (gl_ty o_tuple rfl M.m_tuple bt_tuple (gl_cons (na (i := 2)) gl_nil)))
  gss_nil)))

theorem ok__law_reached {P : Program} {ca : Nat → PySem.Addr} {w : World} {K : PySem.W.Frag} {mg : Str → Option Value} {base : Heap} {n : Nat} {f : Addr} {fd : FuncData} (F : Fun K "_law_reached" "_law_reached" s__law_reached f fd) (L : Lvl true P w K mg base ca G T tab n) (M : Mo P ca K w mg) :
    FnG true P w K mg base (L2.CX P w) (2 * n + 1 + 1) f fd r__law_reached.ps (spG ca K r__law_reached.np (run G T (n + 1) f__law_reached)) := by
  have sc := sc__law_reached
  refine fnG_run F sc T__law_reached rfl rfl fun cdv A outer s H E F0 ι0 hr hg => ?_
  have tk := L2.takes_of (X := cxOf (L2.CX P w) P w K mg base N__law_reached "_law_reached" (defScope s__law_reached) f cdv A outer s H E) rfl rfl rfl rfl
  have hu := hr.units
  have hu1 := hu_of hr
  exact (gss_cons (gs_set (i := 1) sc.nd rfl (by first | exact Or.inl rfl | exact Or.inr rfl) (g_lst (gv_cons g_int gv_nil)))
  (gss_cons (gs_for (passes_of rfl) rfl (gi_rng1 rfl M.m_range (gx_V (gl_pr o_len rfl M.m_len bt_len (gl_cons (na (i := 0)) gl_nil)))) (tn (i := 2) sc.nd) (gss_cons (gs_if (gt_cmp o_mem (na (i := 2)) (na (i := 1))) (gss_cons (gs_set (i := 1) sc.nd rfl (by first | exact Or.inl rfl | exact Or.inr rfl) (g_bin o_add (na (i := 1)) (ga_of (g_call (L.c (r := r__law_next) hr hg tk rfl) rfl rfl (gv_cons (g_ix (na (i := 0)) (na (i := 2)) (fun _ _ => rfl)) (gv_cons (n_ (i := 2)) gv_nil))))))
  gss_nil) gss_nil)
  gss_nil))
  (gss_cons (gs_ret (g_call (L.c (r := r__law_left) hr hg tk rfl) rfl rfl (gv_cons (n_ (i := 0)) (gv_cons (g_fr (gf_lc (own' := [("at", 2)]) rfl sc.nd (gi_rng1 rfl M.m_range (gx_A (ga_of (gl_pr o_len rfl M.m_len bt_len (gl_cons (na (i := 0)) gl_nil))))) (blkOk_by (N := N__law_reached) (sc := defScope s__law_reached) (by decide +kernel)) rfl (fun _ _ _ _ _ => (tn (i := 2) sc.nd)) (fun _ _ _ _ _ => (gc_one (gt_cmp o_nmem (na (i := 2)) (na (i := 1))))) (fun _ _ _ _ _ => (n_ (i := 2))))) gv_nil))))
  gss_nil)))

theorem ok__law_sparse {P : Program} {ca : Nat → PySem.Addr} {w : World} {K : PySem.W.Frag} {mg : Str → Option Value} {base : Heap} {n : Nat} {f : Addr} {fd : FuncData} (F : Fun K "_law_sparse" "_law_sparse" s__law_sparse f fd) (L : Lvl true P w K mg base ca G T tab n) (M : Mo P ca K w mg) :
    FnG true P w K mg base (L2.CX P w) (2 * n + 1 + 1) f fd r__law_sparse.ps (spG ca K r__law_sparse.np (run G T (n + 1) f__law_sparse)) := by
  have sc := sc__law_sparse
  refine fnG_run F sc T__law_sparse rfl rfl fun cdv A outer s H E F0 ι0 hr hg => ?_
  have tk := L2.takes_of (X := cxOf (L2.CX P w) P w K mg base N__law_sparse "_law_sparse" (defScope s__law_sparse) f cdv A outer s H E) rfl rfl rfl rfl
  have hu := hr.units
  have hu1 := hu_of hr
  exact (gss_cons (gs_own (i := 2) sc.nd rfl (by first | exact Or.inl rfl | exact Or.inr rfl) (gf_lst gv_nil))
  (gss_cons (gs_for (passes_of rfl) rfl (gi_rng1 rfl M.m_range (gx_V (gl_pr o_len rfl M.m_len bt_len (gl_cons (na (i := 1)) gl_nil)))) (tn (i := 3) sc.nd) (gss_cons (gs_par (i := 5) (j := 6) rfl sc.nd rfl rfl (by decide) rfl rfl (g_bin o_add (ga_of (g_bin o_add (na (i := 3)) (ga_of g_int))) (ga_of (g_call (L.c (r := r__law_dip) hr hg tk rfl) rfl rfl (gv_cons (n_ (i := 0)) (gv_cons (gl_pr (o_min rfl) rfl M.m_min bt_min (gl_cons (ga_of (g_bin o_sub (ga_of (gl_pr o_len rfl M.m_len bt_len (gl_cons (na (i := 1)) gl_nil))) (na (i := 3)))) (gl_cons (ga_of g_int) gl_nil))) gv_nil))))) (g_ix (na (i := 1)) (na (i := 3)) (fun _ _ => rfl)) rfl)
  (gss_cons (gs_set (i := 4) sc.nd rfl (by first | exact Or.inl rfl | exact Or.inr rfl) (g_lst (gv_cons (n_ (i := 6)) (gv_cons (n_ (i := 6)) (gv_cons (g_tup (gv_cons g_str (gv_cons (n_ (i := 5)) gv_nil))) (gv_cons (g_tup (gv_cons g_str (gv_cons (g_call (L.c (r := r__law_dip) hr hg tk rfl) rfl rfl (gv_cons (n_ (i := 0)) (gv_cons g_int gv_nil))) (gv_cons (n_ (i := 5)) gv_nil)))) (gv_cons (g_tup (gv_cons g_str (gv_cons (g_call (L.c (r := r__law_dip) hr hg tk rfl) rfl rfl (gv_cons (n_ (i := 0)) (gv_cons g_int gv_nil))) (gv_cons (g_call (L.c (r := r__law_dip) hr hg tk rfl) rfl rfl (gv_cons (n_ (i := 0)) (gv_cons g_int gv_nil))) gv_nil)))) (gv_cons (g_tup (gv_cons g_str (gv_cons (g_call (L.c (r := r__law_dip) hr hg tk rfl) rfl rfl (gv_cons (n_ (i := 0)) (gv_cons g_int gv_nil))) (gv_cons (g_call (L.c (r := r__law_dip) hr hg tk rfl) rfl rfl (gv_cons (n_ (i := 0)) (gv_cons g_int gv_nil))) gv_nil)))) gv_nil))))))))
  (gss_cons (gs_oapp (i := 2) (pv 2) (g_ix (na (i := 4)) (ga_of (g_call (L.c (r := r__law_dip) hr hg tk rfl) rfl rfl (gv_cons (n_ (i := 0)) (gv_cons g_int gv_nil)))) (fun _ _ => rfl)))
  gss_nil))))
  (gss_cons (gs_ret (gl_ty o_tuple rfl M.m_tuple bt_tuple (gl_cons (na (i := 2)) gl_nil)))
  gss_nil)))

theorem ok_law {P : Program} {ca : Nat → PySem.Addr} {w : World} {K : PySem.W.Frag} {mg : Str → Option Value} {base : Heap} {n : Nat} {f : Addr} {fd : FuncData} (F : Fun K "law" "law" s_law f fd) (L : Lvl true P w K mg base ca G T tab n) (M : Mo P ca K w mg) :
    FnG true P w K mg base (L2.CX P w) (2 * n + 1 + 1) f fd r_law.ps (spG ca K r_law.np (run G T (n + 1) f_law)) := by
  have sc := sc_law
  refine fnG_run F sc T_law rfl rfl fun cdv A outer s H E F0 ι0 hr hg => ?_
  have tk := L2.takes_of (X := cxOf (L2.CX P w) P w K mg base N_law "law" (defScope s_law) f cdv A outer s H E) rfl rfl rfl rfl
  have hu := hr.units
  have hu1 := hu_of hr
  exact (gss_cons (gs_for (passes_of rfl) rfl (gi_sq (gx_V (g_bin o_add (ga_of (g_lst (gv_cons g_int (gv_cons (g_bin o_add (ga_of (g_bin o_pow (ga_of g_int) (ga_of g_int))) (ga_of (g_bin o_pow (ga_of g_int) (ga_of g_int)))) gv_nil)))) (ga_of (g_cut01 (na (i := 0)) (ga_of g_int)))))) (tn (i := 1) sc.nd) (gss_cons (gs_set (i := 2) sc.nd rfl (by first | exact Or.inl rfl | exact Or.inr rfl) (g_call (L.c (r := r__law_well) hr hg tk rfl) rfl rfl (gv_cons (n_ (i := 1)) gv_nil)))
  (gss_cons (gs_for (passes_of rfl) rfl (gi_rng1 rfl M.m_range (gx_V g_int)) (tn (i := 3) sc.nd) (gss_cons (gs_set (i := 4) sc.nd rfl (by first | exact Or.inl rfl | exact Or.inr rfl) (g_call (L.c (r := r__law_rows_drawn) hr hg tk rfl) rfl rfl (gv_cons (n_ (i := 2)) (gv_cons (g_call (L.c (r := r__law_dip) hr hg tk rfl) rfl rfl (gv_cons (n_ (i := 2)) (gv_cons (g_ix (ga_of (g_lst (gv_cons g_int (gv_cons g_int gv_nil)))) (ga_of (g_call (L.c (r := r__law_dip) hr hg tk rfl) rfl rfl (gv_cons (n_ (i := 2)) (gv_cons g_int gv_nil)))) (fun _ _ => rfl)) gv_nil))) (gv_cons g_int gv_nil)))))
  (gss_cons (gs_if (gt_cmp (o_eq hu) (ga_of (g_call (L.c (r := r__law_dip) hr hg tk rfl) rfl rfl (gv_cons (n_ (i := 2)) (gv_cons g_int gv_nil)))) (ga_of g_int)) (gss_cons (gs_set (i := 4) sc.nd rfl (by first | exact Or.inl rfl | exact Or.inr rfl) (g_call (L.c (r := r__law_sparse) hr hg tk rfl) rfl rfl (gv_cons (n_ (i := 2)) (gv_cons (n_ (i := 4)) gv_nil))))
  gss_nil) gss_nil)
  (gss_cons (gs_par (i := 5) (j := 6) rfl sc.nd rfl rfl (by decide) rfl rfl (gl_pr (o_repr (hg rfl) hu) rfl M.m_repr bt_repr (gl_cons (na (i := 4)) gl_nil)) (g_call (L.c (r := r__law_reached) hr hg tk rfl) rfl rfl (gv_cons (n_ (i := 4)) gv_nil)) rfl)
  (gss_cons (gs_if (gw_pt (gw_or (gt_not (gt_of (g_call (L.c (r := r__law_same) hr hg tk rfl) rfl rfl (gv_cons (g_lst (gv_cons (g_call (L.c (r := r_reached) hr hg tk rfl) rfl rfl (gv_cons (n_ (i := 4)) gv_nil)) (gv_cons (g_callK (L.k (r := r_reached) hr hg tk rfl) rfl (by decide) (fun _ _ _ _ _ _ us hl => match us, hl with | [_], _ => rfl) (gk_cons (n_ (i := 4)) gk_nil) (hnp := fun l hl => match l, hl with | [_], _ => rfl)) gv_nil))) (gv_cons (g_lst (gv_cons (n_ (i := 6)) (gv_cons (n_ (i := 6)) gv_nil))) gv_nil))))) (gw_or1 (gt_cmp (o_ne hu) (ga_of (gl_pr (o_repr (hg rfl) hu) rfl M.m_repr bt_repr (gl_cons (na (i := 4)) gl_nil))) (na (i := 5)))))) (gss_cons (gs_ret g_bl)
  gss_nil) gss_nil)
  gss_nil)))))
  gss_nil)))
  (gss_cons (gs_ret g_bl)
  gss_nil))

end EC

namespace EC
open PySem
/-! ### what a run gives -/
def Gd {α : Type} (m : Out α) (P : α → Store → Prop) : Prop := ∃ a S, m = .ok a S ∧ P a S
@[simp] theorem Gd_ok {α : Type} {a : α} {S : Store} {P : α → Store → Prop} : Gd (.ok a S) P ↔ P a S := ⟨fun ⟨_, _, e, h⟩ => by cases e; exact h, fun h => ⟨a, S, rfl, h⟩⟩
theorem Gd.bind {α β : Type} {m : Out α} {k : α → Store → Out β} {P : α → Store → Prop} {Q : β → Store → Prop} (h : Gd m P) (hk : ∀ a S, P a S → Gd (k a S) Q) : Gd (m.bind k) Q := by
  obtain ⟨a, S, rfl, p⟩ := h
  exact hk a S p
theorem Gd.mono {α : Type} {m : Out α} {P Q : α → Store → Prop} (h : Gd m P) (hq : ∀ a S, P a S → Q a S) : Gd m Q := by
  obtain ⟨a, S, e, p⟩ := h
  exact ⟨a, S, e, hq a S p⟩
/-- the wish as a name, so that simp does not open it -/
theorem Gd.gen {α : Type} {m : Out α} {P : α → Store → Prop} (h : ∀ Q : α → Store → Prop, (∀ a S, P a S → Q a S) → Gd m Q) : Gd m P := h P fun _ _ => id
theorem Gd_run {G : Nat → D} {T : Nat → FD} {n f : Nat} {args : List D} {S : Store} {P : D → Store → Prop} {np nv : Nat} {body : List EC.S} (hT : T f = ⟨np, nv, body⟩) (hl : args.length = np)
    (h : ∀ Q : D → Store → Prop, (∀ a S, P a S → Q a S) → Gd ((evSs G (run G T n) body (args.map .v ++ List.replicate nv .un) S).bind fin) Q) : Gd (run G T (n + 1) f args S) P := by
  have e := run_succ G T n f args S (by rw [hT, hl]; exact beq_self_eq_true np)
  rw [hT] at e
  rw [e]
  exact h P fun _ _ => id
theorem Gd_compL {step : D → Store → Out (Option PyData)} (P : D → PyData → Prop) (I : Store → Prop) : ∀ (l : List D) (S : Store), I S → (∀ x ∈ l, ∀ S, I S → Gd (step x S) fun y S' => I S' ∧ ∃ z, y = some z ∧ P x z) →
    Gd (compL step l S) fun ys S' => I S' ∧ ys.length = l.length ∧ ∀ (i : Nat) (x : D) (z : PyData), l[i]? = some x → ys[i]? = some z → P x z
  | [], S, h, _ => ⟨[], S, rfl, h, rfl, fun i x z e => by simp at e⟩
  | x :: l, S, h, hs => by
    obtain ⟨y, S1, e1, h1, z, rfl, p⟩ := hs x List.mem_cons_self S h
    obtain ⟨ys, S2, e2, h2, l2, p2⟩ := Gd_compL P I l S1 h1 fun w hw => hs w (List.mem_cons_of_mem _ hw)
    refine ⟨z :: ys, S2, ?_, h2, by rw [List.length_cons, List.length_cons, l2], fun i x' z' e e' => ?_⟩
    · rw [compL_cons, e1, noX_ok, bind_ok, kComp_eq, e2, bind_ok, kAddO_eq, addO_some]
    · cases i with
      | zero => simp at e e'; rw [← e, ← e']; exact p
      | succ i => exact p2 i x' z' (by simpa using e) (by simpa using e')
theorem Gd_forL {step : D → Env → Store → Out Fl} (I : Nat → Env → Store → Prop) : ∀ (l : List D) (k : Nat) (ρ : Env) (S : Store), I k ρ S → (∀ i x, l[i]? = some x → ∀ ρ S, I (k + i) ρ S → Gd (step x ρ S) fun f S' => ∃ ρ', f = .nx ρ' ∧ I (k + i + 1) ρ' S') →
    Gd (forL step l ρ S) fun f S' => ∃ ρ', f = .nx ρ' ∧ I (k + l.length) ρ' S'
  | [], k, ρ, S, h, _ => ⟨_, S, rfl, ρ, rfl, h⟩
  | x :: l, k, ρ, S, h, hs => by
    obtain ⟨f, S1, e1, ρ1, rfl, h1⟩ := hs 0 x rfl ρ S h
    obtain ⟨f2, S2, e2, ρ2, rfl, h2⟩ := Gd_forL I l (k + 1) ρ1 S1 h1 fun i y hy ρ S hi => by
      have q := hs (i + 1) y (by simpa using hy) ρ S (by rw [show k + (i + 1) = k + 1 + i from by omega]; exact hi)
      rw [show k + (i + 1) + 1 = k + 1 + i + 1 from by omega] at q
      exact q
    refine ⟨_, S2, ?_, ρ2, rfl, ?_⟩
    · rw [forL_cons, e1, bind_ok, kFor_nx]; exact e2
    · rw [List.length_cons, show k + (l.length + 1) = k + 1 + l.length from by omega]; exact h2
/-! ### walks -/
theorem items_sq (S : Store) (d : D) : items S .sq [d] = items1 S d := rfl
theorem items_zip (S : Store) (a b : D) : items S .zip [a, b] = match items1 S a, items1 S b with
    | some xs, some ys => some (zipD xs ys)
    | _, _ => none := rfl
theorem items_enum (S : Store) (a : D) : items S .enum [a] = (items1 S a).map (enumD 0) := rfl
theorem items_rng (S : Store) (j : Int) (h : -1000000 ≤ j ∧ j ≤ 1000000) : items S .rng [.p (.int j)] = some (rngD 0 j.toNat) := by
  show (if _ then _ else _) = _
  rw [if_pos]
  rw [decide_eq_true_eq]
  have e : (2 : Int) ^ 62 = 4611686018427387904 := by decide +kernel
  rw [e]
  omega
theorem items_rngN (S : Store) (k : Nat) (h : k ≤ 1000000) : items S .rng [.p (.int k)] = some (rngD 0 k) := items_rng S k ⟨by omega, by omega⟩
/-! ### little facts -/
theorem lay_ints : ∀ gs : List Int, PyData.canLayAll0 (gs.map .int) = true
  | [] => by simp [PyData.canLayAll0]
  | g :: gs => by simp [PyData.canLayAll0, PyData.canLay0, lay_ints gs]
theorem ok_nil {xs : List PyData} (h : PyData.canLayAll0 xs = true) : eqOk (.list xs) (.list []) = true := by
  simp [eqOk, sc, PyData.canLay0, PyData.canLayAll0, h, PyData.depth, PyData.depthAll]
  try omega
theorem eqv_nil (xs : List PyData) : PyData.eqv (.list xs) (.list []) = xs.isEmpty := by cases xs <;> simp [PyData.eqv, PyData.eqvAll]
theorem pures_ints (gs : List Int) : pures (gs.map fun g => .p (.int g)) = some (gs.map .int) := by induction gs <;> simp_all
theorem atI_nat {α : Type} (xs : List α) (i : Nat) : L2.atI xs (i : Int) = xs[i]? := by
  by_cases h : i < xs.length
  · simp [L2.atI, L2.ixN, h]
  · rw [List.getElem?_eq_none (by omega)]
    simp [L2.atI, L2.ixN, h]
theorem at_0 {α : Type} (a : α) (r : List α) : L2.atI (a :: r) 0 = some a := atI_nat (a :: r) 0
theorem at_1 {α : Type} (a b : α) (r : List α) : L2.atI (a :: b :: r) 1 = some b := atI_nat (a :: b :: r) 1
theorem at_2 {α : Type} (a b c : α) (r : List α) : L2.atI (a :: b :: c :: r) 2 = some c := atI_nat (a :: b :: c :: r) 2
theorem at_3 {α : Type} (a b c d : α) (r : List α) : L2.atI (a :: b :: c :: d :: r) 3 = some d := atI_nat (a :: b :: c :: d :: r) 3
theorem at_4 {α : Type} (a b c d e : α) (r : List α) : L2.atI (a :: b :: c :: d :: e :: r) 4 = some e := atI_nat (a :: b :: c :: d :: e :: r) 4
theorem atI_of {α : Type} {xs : List α} {i : Int} (h0 : 0 ≤ i) (h1 : i < xs.length) : ∃ x, L2.atI xs i = some x ∧ xs[i.toNat]? = some x := by
  obtain ⟨n, rfl⟩ := Int.eq_ofNat_of_zero_le h0
  rw [atI_nat]
  have : n < xs.length := by omega
  exact ⟨xs[n], List.getElem?_eq_getElem this, List.getElem?_eq_getElem this⟩
theorem log_le {m : Int} (h : m.natAbs < 2 ^ 200) : m.natAbs.log2 < 9000 := by
  by_cases e : m.natAbs = 0
  · rw [e]; decide
  · have := (Nat.log2_lt (k := 200) e).mpr h
    omega
theorem ofString_inj {a b : String} (h : Str.ofString a = Str.ofString b) : a = b := by
  rw [Str.ofString_eq_toList, Str.ofString_eq_toList] at h
  injection h with h
  have h := congrArg Array.toList h
  simp only [List.toList_toArray] at h
  have inj : ∀ (l m : List Char), l.map Char.toNat = m.map Char.toNat → l = m := by
    intro l
    induction l with
    | nil => intro m h; cases m with | nil => rfl | cons c m => cases h
    | cons c l ih =>
      intro m h
      cases m with
      | nil => cases h
      | cons d m =>
        rw [List.map_cons, List.map_cons] at h
        injection h with h1 h2
        rw [ih m h2, Char.toNat_inj.mp h1]
  exact String.toList_inj.mp (inj _ _ h)
@[simp] theorem ofString_beq (a b : String) : (Str.ofString a == Str.ofString b) = decide (a = b) := by
  by_cases e : a = b
  · subst e; simp
  · rw [decide_eq_false e]
    exact beq_eq_false_iff_ne.mpr fun h => e (ofString_inj h)
@[simp] theorem ofString_eq (a b : String) : (Str.ofString a = Str.ofString b) = (a = b) := propext ⟨ofString_inj, fun h => by rw [h]⟩
theorem dlook_cons (a : Str) (b : PyData) (r : List (PyData × PyData)) (z : Str) : dlook (.p (.dict ((.str a, b) :: r))) z = if a = z then some b else dlook (.p (.dict r)) z := by
  show ((List.find? _ (_ :: _)).map _) = _
  by_cases e : a = z
  · rw [List.find?_cons_of_pos (by simp [e]), if_pos e]; rfl
  · rw [List.find?_cons_of_neg (by simp [e]), if_neg e]; rfl
theorem isTwo {v : Int} (h0 : 0 ≤ v) (h1 : v < 2) : v = 0 ∨ v = 1 := by omega
theorem isThree {v : Int} (h0 : 0 ≤ v) (h1 : v < 3) : v = 0 ∨ v = 1 ∨ v = 2 := by omega
theorem isFour {v : Int} (h0 : 0 ≤ v) (h1 : v < 4) : v = 0 ∨ v = 1 ∨ v = 2 ∨ v = 3 := by omega
/-! ### the spring in the store -/
structure Spr where
  gs : List Int
  mx : Int
  c : Int
def spr (s : Spr) (R : Store) : Store := .lst (s.gs.map fun g => .p (.int g)) :: .lst [.ref 0, .p (.int s.mx), .p (.int s.c)] :: R
/-- the spring stands at 0 and 1 -/
def Sp (S : Store) : Prop := ∃ s R, S = spr s R ∧ s.gs.length ≤ 63
/-- all but the spring is as it was -/
structure Sm (S S' : Store) : Prop where
  len : S'.length = S.length
  ob : ∀ r, 2 ≤ r → S'[r]? = S[r]?
theorem Sm.refl (S : Store) : Sm S S := ⟨rfl, fun _ _ => rfl⟩
theorem Sm.trans {S S1 S2 : Store} (h : Sm S S1) (h' : Sm S1 S2) : Sm S S2 := ⟨h'.len.trans h.len, fun r hr => (h'.ob r hr).trans (h.ob r hr)⟩
theorem Sm.spr (s s' : Spr) (R : Store) : Sm (spr s R) (EC.spr s' R) := ⟨rfl, fun r hr => by
  match r, hr with
  | r + 2, _ => rfl⟩
theorem dep_nil : PyData.depth (.list []) ≤ 64 := by simp [PyData.depth, PyData.depthAll]
theorem min_nil (x : Nat) : min x (PyData.depth (.list [])) ≤ 64 := by
  have : PyData.depth (.list []) ≤ 64 := by simp [PyData.depth, PyData.depthAll]
  omega
@[simp] theorem p_isT_0 (x) : p_isT [.p x] = some (.p (.bool (isBlP true x))) := rfl
@[simp] theorem p_isF_0 (x) : p_isF [.p x] = some (.p (.bool (isBlP false x))) := rfl
end EC

namespace EC
open PySem
/-! ### words of signs -/
def WordOk (w : Str) : Prop := 1 ≤ w.length ∧ w.length ≤ 10 ∧ ∀ c ∈ w.cps.toList, 97 ≤ c ∧ c ≤ 122
theorem strsOf_chr : ∀ cs : List Nat, strsOf (cs.map chr) = some (cs.map fun c => (⟨#[c]⟩ : Str))
  | [] => rfl
  | c :: cs => by simp [strsOf, chr, strsOf_chr cs]
theorem join_chr (cs : List Nat) : (Txt.join "" (cs.map fun c => (⟨#[c]⟩ : Str))).cps.toList = cs := by
  rw [TL.join_eq]
  have h := TL.tl_join "" (cs.map fun c => (⟨#[c]⟩ : Str))
  have e : TL.tl (Str.ofString "") = [] := by decide +kernel
  have key : ∀ cs : List Nat, TL.joinL [] ((cs.map fun c => (⟨#[c]⟩ : Str)).map TL.tl) = cs := by
    intro cs
    induction cs with
    | nil => rfl
    | cons c r ih =>
      cases r with
      | nil => rfl
      | cons d r =>
        have ih : TL.joinL [] (TL.tl ⟨#[d]⟩ :: (r.map fun c => (⟨#[c]⟩ : Str)).map TL.tl) = d :: r := ih
        show TL.tl ⟨#[c]⟩ ++ ([] ++ TL.joinL [] (TL.tl ⟨#[d]⟩ :: (r.map fun c => (⟨#[c]⟩ : Str)).map TL.tl)) = c :: d :: r
        rw [ih]
        rfl
  rw [e] at h
  exact h.trans (key cs)
theorem len_toList (w : Str) : w.length = w.cps.toList.length := rfl
theorem chrs_of : ∀ (ys : List PyData), (∀ (i : Nat) (z : PyData), ys[i]? = some z → ∃ c : Nat, z = chr c ∧ 97 ≤ c ∧ c ≤ 122) → ∃ cs : List Nat, ys = cs.map chr ∧ ∀ c ∈ cs, 97 ≤ c ∧ c ≤ 122
  | [], _ => ⟨[], rfl, fun c h => nomatch h⟩
  | y :: ys, h => by
    obtain ⟨c, rfl, hc⟩ := h 0 y rfl
    obtain ⟨cs, rfl, hcs⟩ := chrs_of ys fun i z e => h (i + 1) z (by simpa using e)
    exact ⟨c :: cs, rfl, fun d hd => by rcases List.mem_cons.mp hd with rfl | hd; exact hc; exact hcs d hd⟩
theorem join_word {ys : List PyData} {k : Nat} (hk : 1 ≤ k ∧ k ≤ 10) (hl : ys.length = k) (h : ∀ (i : Nat) (z : PyData), ys[i]? = some z → ∃ c : Nat, z = chr c ∧ 97 ≤ c ∧ c ≤ 122) :
    ∃ w, p_join [.p (.str ""), .p (.list ys)] = some (.p (.str w)) ∧ WordOk w ∧ w.length = k := by
  obtain ⟨cs, rfl, hcs⟩ := chrs_of ys h
  rw [List.length_map] at hl
  have hs : ((cs.map fun c => (⟨#[c]⟩ : Str)).map (·.length)).sum = cs.length := by
    clear h hcs hl
    induction cs with
    | nil => rfl
    | cons c r ih =>
      rw [List.map_cons, List.map_cons, List.sum_cons, ih, List.length_cons]
      show 1 + _ = _
      omega
  have e0 : (Str.ofString "").length = 0 := by decide +kernel
  refine ⟨Txt.join "" (cs.map fun c => (⟨#[c]⟩ : Str)), ?_, ?_, ?_⟩
  · unfold p_join
    dsimp only
    rw [strsOf_chr]
    dsimp only
    rw [if_pos]
    rw [decide_eq_true_eq, hs, e0]
    omega
  · have q := join_chr cs
    exact ⟨by rw [len_toList, q]; omega, by rw [len_toList, q]; omega, by rw [q]; exact hcs⟩
  · rw [len_toList, join_chr]; omega
/-- a sign k times -/
def repS (k c : Nat) : Str := ⟨(List.replicate k c).toArray⟩
/-- a letter ten times -/
theorem mulS (c k : Nat) (hk : 2 ≤ k ∧ k ≤ 1000) : p_mul [.p (chr c), .p (.int k)] = some (.p (.str (repS k c))) := by
  show (if _ then _ else _) = _
  rw [if_pos (by
    rw [decide_eq_true_eq]
    have : (⟨#[c]⟩ : Str).length = 1 := rfl
    omega)]
  have key : ∀ (k : Nat) (a : Array Nat), (List.replicate k (#[c] : Array Nat)).foldl (· ++ ·) a = (a.toList ++ List.replicate k c).toArray := by
    intro k
    induction k with
    | zero => intro a; simp
    | succ k ih =>
      intro a
      rw [List.replicate_succ, List.foldl_cons, ih]
      simp [List.replicate_succ]
  have e : (k : Int).toNat = k := by omega
  show some (D.p (.str ⟨(List.replicate (k : Int).toNat (#[c] : Array Nat)).foldl (· ++ ·) #[]⟩)) = _
  rw [e, key]
  simp [repS]
theorem eqv_str (a b : Str) : PyData.eqv (.str a) (.str b) = (a == b) := by simp [PyData.eqv]
def NineOk (k : Nat) (w : Str) : Prop := w.length ≠ 9 ∨ ∃ j, j < k ∧ w = repS 9 (122 - j)
structure WordsOk (ws : List Str) : Prop where
  ok : ∀ w ∈ ws, WordOk w
  nd : ws.Nodup
  nine : ∀ w ∈ ws, NineOk ws.length w
  few : ws.length ≤ 6
theorem mem_any (w : Str) (ws : List Str) : ((ws.map PyData.str).any fun y => PyData.eqv y (.str w)) = decide (w ∈ ws) := by
  induction ws with
  | nil => rfl
  | cons x r ih =>
    rw [List.map_cons, List.any_cons, ih, eqv_str]
    by_cases e : x = w
    · subst e; simp
    · have e' : ¬ w = x := fun z => e z.symm
      simp [e, e']
theorem mem_any2 (w : Str) (ws : List Str) : (ws.any ((fun y => PyData.eqv y (.str w)) ∘ PyData.str)) = decide (w ∈ ws) := by
  rw [← mem_any, List.any_map]
theorem flats (ws : List Str) : (ws.map PyData.str).all flat = true := by induction ws <;> simp_all [flat]
theorem rep_word {c k : Nat} (hc : 97 ≤ c ∧ c ≤ 122) (hk : 1 ≤ k ∧ k ≤ 10) : WordOk (repS k c) := by
  refine ⟨?_, ?_, fun d hd => ?_⟩
  · show 1 ≤ ((List.replicate k c).toArray).size; simp; omega
  · show ((List.replicate k c).toArray).size ≤ 10; simp; omega
  · simp [repS] at hd; omega
/-- a word and a letter ten times, cut at ten -/
def padW (w : Str) (c : Nat) : Str := ⟨((w.cps.toList ++ List.replicate 10 c).take 10).toArray⟩
theorem pad_ok {w : Str} {c : Nat} (h : WordOk w) (hc : 97 ≤ c ∧ c ≤ 122) : WordOk (padW w c) ∧ (padW w c).length = 10 := by
  have l : (padW w c).length = 10 := by
    show (((w.cps.toList ++ List.replicate 10 c).take 10).toArray).size = 10
    simp
  refine ⟨⟨by omega, by omega, fun d hd => ?_⟩, l⟩
  have hd : d ∈ (w.cps.toList ++ List.replicate 10 c).take 10 := by simpa [padW] using hd
  rcases List.mem_append.mp (List.mem_of_mem_take hd) with h1 | h1
  · exact h.2.2 d h1
  · have := List.eq_of_mem_replicate h1; omega
theorem words_add {ws : List Str} {w : Str} (h : WordsOk ws) (hl : ws.length < 6) (hw : WordOk w) (h9 : w.length ≠ 9) (hn : w ∉ ws) : WordsOk (ws ++ [w]) := by
  refine ⟨fun v hv => ?_, ?_, fun v hv => ?_, by rw [List.length_append, List.length_singleton]; omega⟩
  · rcases List.mem_append.mp hv with h1 | h1
    · exact h.ok v h1
    · rw [List.mem_singleton.mp h1]; exact hw
  · exact List.nodup_append.mpr ⟨h.nd, by simp, fun a ha b hb e => by rw [List.mem_singleton.mp hb] at e; exact hn (e ▸ ha)⟩
  · rcases List.mem_append.mp hv with h1 | h1
    · rcases h.nine v h1 with q | ⟨j, hj, q⟩
      · exact .inl q
      · exact .inr ⟨j, by rw [List.length_append]; omega, q⟩
    · rw [List.mem_singleton.mp h1]; exact .inl h9
theorem words_nine {ws : List Str} (h : WordsOk ws) (hl : ws.length < 6) : WordsOk (ws ++ [repS 9 (122 - ws.length)]) := by
  refine ⟨fun v hv => ?_, ?_, fun v hv => ?_, by rw [List.length_append, List.length_singleton]; omega⟩
  · rcases List.mem_append.mp hv with h1 | h1
    · exact h.ok v h1
    · rw [List.mem_singleton.mp h1]; exact rep_word (by omega) (by omega)
  · refine List.nodup_append.mpr ⟨h.nd, by simp, fun a ha b hb e => ?_⟩
    rw [List.mem_singleton.mp hb] at e
    subst e
    rcases h.nine _ ha with q | ⟨j, hj, q⟩
    · exact q (by show ((List.replicate 9 (122 - ws.length)).toArray).size = 9; simp)
    · have q := congrArg (fun s : Str => s.cps.toList) q
      simp [repS, List.replicate_succ] at q
      omega
  · rcases List.mem_append.mp hv with h1 | h1
    · rcases h.nine v h1 with q | ⟨j, hj, q⟩
      · exact .inl q
      · exact .inr ⟨j, by rw [List.length_append]; omega, q⟩
    · rw [List.mem_singleton.mp h1]; exact .inr ⟨ws.length, by rw [List.length_append, List.length_singleton]; omega, rfl⟩
theorem words_nil : WordsOk [] := ⟨fun _ h => (nomatch h), List.nodup_nil, fun _ h => (nomatch h), by decide⟩
/-! ### kinds -/
inductive KindOk (wide : Int) : PyData → Prop
  | truth : KindOk wide (.tuple [.str "truth"])
  | pick (ws : List Str) : WordsOk ws → 1 ≤ ws.length → (ws.length : Int) ≤ wide → KindOk wide (.tuple [.str "pick", .tuple (ws.map .str)])
  | int (lo hi : Int) : -1000000 ≤ lo → lo ≤ hi → hi ≤ 1000000 → hi - lo < wide → KindOk wide (.tuple [.str "int", .int lo, .int hi])
/-! ### inputs -/
def inD (ins : List (Str × PyData)) : PyData := .tuple (ins.map fun p => .tuple [.str p.1, p.2])
structure InsOk (wide : Int) (ins : List (Str × PyData)) : Prop where
  names : WordsOk (ins.map (·.1))
  kinds : ∀ p ∈ ins, KindOk wide p.2
  some : 1 ≤ ins.length
  few : ins.length ≤ 6
/-- a value of a kind -/
inductive ValOk : PyData → PyData → Prop
  | truth (b : Bool) : ValOk (.tuple [.str "truth"]) (.bool b)
  | pick (ws : List Str) (v : Int) : 0 ≤ v → v < ws.length → ValOk (.tuple [.str "pick", .tuple (ws.map .str)]) (.int v)
  | int (lo hi v : Int) : lo ≤ v → v ≤ hi → ValOk (.tuple [.str "int", .int lo, .int hi]) (.int v)
/-- pairs of names and kinds, put together -/
theorem ins_of {wide : Int} (ws : List Str) (hws : WordsOk ws) (h1 : 1 ≤ ws.length) (ys : List PyData) (hl : ys.length = ws.length) (h : ∀ (i : Nat) (z : PyData), ys[i]? = some z → ∃ w k, ws[i]? = some w ∧ z = .tuple [.str w, k] ∧ KindOk wide k) :
    ∃ ins, ys = ins.map (fun p => .tuple [.str p.1, p.2]) ∧ InsOk wide ins ∧ ins.length = ws.length := by
  have key : ∀ (ws : List Str) (ys : List PyData), ys.length = ws.length → (∀ (i : Nat) (z : PyData), ys[i]? = some z → ∃ w k, ws[i]? = some w ∧ z = .tuple [.str w, k] ∧ KindOk wide k) →
      ∃ ins : List (Str × PyData), ys = ins.map (fun p => .tuple [.str p.1, p.2]) ∧ ins.map (·.1) = ws ∧ ∀ p ∈ ins, KindOk wide p.2 := by
    intro ws
    induction ws with
    | nil => intro ys hl h; cases ys with
      | nil => exact ⟨[], rfl, rfl, fun p hp => nomatch hp⟩
      | cons y r => cases hl
    | cons w ws ih =>
      intro ys hl h
      cases ys with
      | nil => cases hl
      | cons y ys =>
        obtain ⟨w', k, e1, e2, e3⟩ := h 0 y rfl
        cases e1
        obtain ⟨ins, e4, e5, e6⟩ := ih ys (by simpa using hl) fun i z hz => by simpa using h (i + 1) z (by simpa using hz)
        exact ⟨(w, k) :: ins, by rw [e2, e4]; rfl, by rw [List.map_cons, e5], fun p hp => by rcases List.mem_cons.mp hp with rfl | hp; exact e3; exact e6 p hp⟩
  obtain ⟨ins, e1, e2, e3⟩ := key ws ys hl h
  have l : ins.length = ws.length := by rw [← e2, List.length_map]
  exact ⟨ins, e1, ⟨by rw [e2]; exact hws, e3, by omega, by have := hws.few; omega⟩, l⟩
/-- a file of inputs -/
def FileOk (ins : List (Str × PyData)) (vs : List PyData) : Prop := vs.length = ins.length ∧ ∀ (i : Nat) p v, ins[i]? = some p → vs[i]? = some v → ValOk p.2 v
def natP (k : Nat) : PyData := .int k
theorem nats_of {P : Nat → Prop} : ∀ (ys : List PyData), (∀ y ∈ ys, ∃ k : Nat, y = .int k ∧ P k) → ∃ ns : List Nat, ys = ns.map natP ∧ ∀ k ∈ ns, P k
  | [], _ => ⟨[], rfl, fun k h => nomatch h⟩
  | y :: ys, h => by
    obtain ⟨ns, rfl, hn⟩ := nats_of ys fun y hy => h y (List.mem_cons_of_mem _ hy)
    obtain ⟨k, rfl, hk⟩ := h y List.mem_cons_self
    exact ⟨k :: ns, rfl, fun j hj => by rcases List.mem_cons.mp hj with rfl | hj; exact hk; exact hn j hj⟩
theorem lay_nats : ∀ gs : List Nat, PyData.canLayAll0 (gs.map natP) = true
  | [] => by simp [PyData.canLayAll0]
  | g :: gs => by simp [natP, PyData.canLayAll0, PyData.canLay0, lay_nats gs]
theorem strs_of {P : Str → Prop} : ∀ (ys : List PyData), (∀ y ∈ ys, ∃ k : Str, y = .str k ∧ P k) → ∃ ns : List Str, ys = ns.map PyData.str ∧ ∀ k ∈ ns, P k
  | [], _ => ⟨[], rfl, fun k h => nomatch h⟩
  | y :: ys, h => by
    obtain ⟨ns, rfl, hn⟩ := strs_of ys fun y hy => h y (List.mem_cons_of_mem _ hy)
    obtain ⟨k, rfl, hk⟩ := h y List.mem_cons_self
    exact ⟨k :: ns, rfl, fun j hj => by rcases List.mem_cons.mp hj with rfl | hj; exact hk; exact hn j hj⟩
theorem at_pick {xs : List PyData} {v : Int} (h0 : 0 ≤ v) (h1 : v < xs.length) : ∃ x, L2.atI xs v = some x ∧ x ∈ xs := by
  obtain ⟨x, e, e2⟩ := atI_of h0 h1
  exact ⟨x, e, List.mem_of_getElem? e2⟩
theorem at_nats {ns : List Nat} {v : Int} (h0 : 0 ≤ v) (h1 : v < ns.length) : ∃ k : Nat, L2.atI (ns.map natP) v = some (.int k) ∧ k ∈ ns := by
  obtain ⟨x, e, hx⟩ := at_pick (xs := ns.map natP) h0 (by rw [List.length_map]; exact h1)
  obtain ⟨k, hk, rfl⟩ := List.mem_map.mp hx
  exact ⟨k, e, hk⟩
end EC

namespace EC
open PySem
/-! ### targets, by rules: no match is opened where the value is not there -/
def bTs (ts : List Tg) (ds : List D) : Option Env → Option Env
  | some ρ => bindTs ts ds ρ
  | none => none
theorem bTs_some (ts ds ρ) : bTs ts ds (some ρ) = bindTs ts ds ρ := rfl
theorem bindT_nm (i d ρ) : bindT (.nm i) d ρ = if canSet ρ i then some (ρ.set i (.v d)) else none := by rw [bindT]
theorem bindT_tp (ts xs ρ) : bindT (.tup ts) (.p (.tuple xs)) ρ = bindTs ts (xs.map .p) ρ := by rw [bindT]
theorem bindT_tl (ts xs ρ) : bindT (.tup ts) (.p (.list xs)) ρ = bindTs ts (xs.map .p) ρ := by rw [bindT]
theorem bindT_td (ts ds ρ) : bindT (.tup ts) (.tup ds) ρ = bindTs ts ds ρ := by rw [bindT]
theorem bindTs_n (ρ) : bindTs [] [] ρ = some ρ := by rw [bindTs]
theorem bindTs_c (t ts d ds ρ) : bindTs (t :: ts) (d :: ds) ρ = bTs ts ds (bindT t d ρ) := by
  rw [bindTs]
  cases bindT t d ρ <;> rfl
end EC

namespace EC
open PySem
section
variable {G : Nat → D} {Fn : Nat → List D → Store → Out D} (ρ : Env) (S : Store)
@[simp] theorem evA_fld (c a f es) : evA G Fn (.fld c a f :: es) ρ S = (evE G Fn (.fld c a f) ρ S).bind (kA G Fn es ρ) := by rw [evA]; rfl; intro i z; cases z
@[simp] theorem evA_meth (c m f a bs es) : evA G Fn (.meth c m f a bs :: es) ρ S = (evE G Fn (.meth c m f a bs) ρ S).bind (kA G Fn es ρ) := by rw [evA]; rfl; intro i z; cases z
@[simp] theorem evA_make (c f bs es) : evA G Fn (.make c f bs :: es) ρ S = (evE G Fn (.make c f bs) ρ S).bind (kA G Fn es ρ) := by rw [evA]; rfl; intro i z; cases z
@[simp] theorem evA_newd (ks vs es) : evA G Fn (.newd ks vs :: es) ρ S = (evE G Fn (.newd ks vs) ρ S).bind (kA G Fn es ρ) := by rw [evA]; rfl; intro i z; cases z
@[simp] theorem evA_dsub (a k es) : evA G Fn (.dsub a k :: es) ρ S = (evE G Fn (.dsub a k) ρ S).bind (kA G Fn es ρ) := by rw [evA]; rfl; intro i z; cases z
@[simp] theorem evA_dgetv (a k z es) : evA G Fn (.dgetv a k z :: es) ρ S = (evE G Fn (.dgetv a k z) ρ S).bind (kA G Fn es ρ) := by rw [evA]; rfl; intro i z; cases z
@[simp] theorem evA_din (k a es) : evA G Fn (.din k a :: es) ρ S = (evE G Fn (.din k a) ρ S).bind (kA G Fn es ρ) := by rw [evA]; rfl; intro i z; cases z
@[simp] theorem evA_fnv (k es) : evA G Fn (.fnv k :: es) ρ S = (evE G Fn (.fnv k) ρ S).bind (kA G Fn es ρ) := by rw [evA]; rfl; intro i z; cases z
@[simp] theorem evA_vcall (i ks bs es) : evA G Fn (.vcall i ks bs :: es) ρ S = (evE G Fn (.vcall i ks bs) ρ S).bind (kA G Fn es ρ) := by rw [evA]; rfl; intro i z; cases z
end
end EC

namespace EC
open PySem
/-! ### rows: their judge, of any data -/
theorem comp_all {step : D → Store → Out (Option PyData)} {S : Store} (f : D → Bool) : ∀ (l : List D), (∀ x ∈ l, step x S = .ok (some (.bool (f x))) S) → compL step l S = .ok (l.map fun x => PyData.bool (f x)) S
  | [], _ => rfl
  | x :: l, h => by rw [compL_cons, h x List.mem_cons_self, noX_ok, bind_ok, kComp_eq, comp_all f l fun y hy => h y (List.mem_cons_of_mem _ hy), bind_ok, kAddO_eq, addO_some, List.map_cons]
theorem bools_map (f : D → Bool) : ∀ l : List D, boolsOf (l.map fun x => PyData.bool (f x)) = some (l.map f)
  | [] => rfl
  | x :: l => by
    rw [List.map_cons, List.map_cons]
    unfold boolsOf
    rw [bools_map f l]
    rfl
theorem all_map (f : D → Bool) (l : List D) : (l.map f).all id = l.all f := by
  induction l with
  | nil => rfl
  | cons x l ih => simp [ih]
def wordB : PyData → Bool
  | .str w => decide (1 ≤ w.length ∧ w.length ≤ 10) && w.cps.toList.all fun c => decide (97 ≤ c) && decide (c ≤ 122)
  | _ => false
/-! texts are not too long -/
mutual
def Sh : PyData → Bool
  | .str w => decide (w.length ≤ 100000)
  | .list xs => ShAll xs
  | .tuple xs => ShAll xs
  | _ => true
def ShAll : List PyData → Bool
  | [] => true
  | x :: xs => Sh x && ShAll xs
end
theorem sh_mem : ∀ {xs : List PyData} {x : PyData}, ShAll xs = true → x ∈ xs → Sh x = true
  | y :: ys, x, h, hx => by
    rw [ShAll, Bool.and_eq_true] at h
    rcases List.mem_cons.mp hx with rfl | hx
    · exact h.1
    · exact sh_mem h.2 hx
theorem strLt_one (a b : Nat) : strLt ⟨#[a]⟩ ⟨#[b]⟩ = decide (a < b) := by
  simp [strLt, List.cons_lt_cons_iff]
theorem word_any (n : Nat) (v : PyData) (h : Sh v = true) (S : Store) : run G T (n+1) f_is_word [.p v] S = .ok (.p (.bool (wordB v))) S := by
  rw [run_succ _ _ _ _ _ _ rfl]
  cases v with
  | str w =>
    have h0 : w.length ≤ 100000 := by simpa [Sh] using h
    have g1 : w.length ≤ 16777216 := by omega
    by_cases c1 : 1 ≤ w.length
    · by_cases c2 : w.length ≤ 10
      · have d1 : (1 : Int) ≤ w.length := by omega
        have d2 : (w.length : Int) ≤ 10 := by omega
        have lc : w.cps.toList.length ≤ 16777216 := by rw [← len_toList]; omega
        (try simp -implicitDefEqProofs [look, lookB, isOwn, bindT, bindTs, wipeT, wipeTs, canSet, fitsL, truth, toP, eqOk, sc, items_sq, items_zip, items_enum, items1, kApp, kExt, PyData.eqv, at_0, at_1, at_2, at_3, at_4, T_is_word, fd_is_word, isTy, g1, d1, d2]); (try simp only [bind_assoc])
        rw [comp_all (fun x => match x with | .p (.str c) => decide (97 ≤ c.cps.getD 0 0) && decide (c.cps.getD 0 0 ≤ 122) | _ => false) _ (fun x hx => by
          obtain ⟨c, hc, rfl⟩ := List.mem_map.mp hx
          rw [stepC_eq]
          have e1 : strLt ⟨#[c]⟩ (Str.ofString "a") = decide (c < 97) := by
            have e : (Str.ofString "a") = ⟨#[97]⟩ := by decide +kernel
            rw [e, strLt_one]
          have e2 : strLt (Str.ofString "z") ⟨#[c]⟩ = decide (122 < c) := by
            have e : (Str.ofString "z") = ⟨#[122]⟩ := by decide +kernel
            rw [e, strLt_one]
          by_cases q1 : c < 97
          · have q2 : ¬ 97 ≤ c := by omega
            (try simp -implicitDefEqProofs [look, lookB, isOwn, bindT, bindTs, wipeT, wipeTs, canSet, fitsL, truth, toP, eqOk, sc, items_sq, items_zip, items_enum, items1, kApp, kExt, PyData.eqv, at_0, at_1, at_2, at_3, at_4, chr, e1, e2, q1, q2]); (try simp only [bind_assoc])
          · have q2 : 97 ≤ c := by omega
            by_cases q3 : 122 < c
            · have q4 : ¬ c ≤ 122 := by omega
              (try simp -implicitDefEqProofs [look, lookB, isOwn, bindT, bindTs, wipeT, wipeTs, canSet, fitsL, truth, toP, eqOk, sc, items_sq, items_zip, items_enum, items1, kApp, kExt, PyData.eqv, at_0, at_1, at_2, at_3, at_4, chr, e1, e2, q1, q2, q3, q4]); (try simp only [bind_assoc])
            · have q4 : c ≤ 122 := by omega
              (try simp -implicitDefEqProofs [look, lookB, isOwn, bindT, bindTs, wipeT, wipeTs, canSet, fitsL, truth, toP, eqOk, sc, items_sq, items_zip, items_enum, items1, kApp, kExt, PyData.eqv, at_0, at_1, at_2, at_3, at_4, chr, e1, e2, q1, q2, q3, q4]); (try simp only [bind_assoc]))]
        have lf : ∀ f : D → Bool, ((w.cps.toList.map fun c => D.p (chr c)).map fun x => PyData.bool (f x)).length ≤ 16777216 := fun f => by rw [List.length_map, List.length_map]; exact lc
        rw [bind_ok, kCmp3, show fitsL _ = true from decide_eq_true (lf _), if_pos rfl]
        (try simp -implicitDefEqProofs [look, lookB, isOwn, bindT, bindTs, wipeT, wipeTs, canSet, fitsL, truth, toP, eqOk, sc, items_sq, items_zip, items_enum, items1, kApp, kExt, PyData.eqv, at_0, at_1, at_2, at_3, at_4, -List.map_map, bools_map, all_map]); (try simp only [bind_assoc])
        simp [wordB, c1, c2, chr, List.all_map, Function.comp]
      · have d1 : (1 : Int) ≤ w.length := by omega
        have d2 : ¬ (w.length : Int) ≤ 10 := by omega
        (try simp -implicitDefEqProofs [look, lookB, isOwn, bindT, bindTs, wipeT, wipeTs, canSet, fitsL, truth, toP, eqOk, sc, items_sq, items_zip, items_enum, items1, kApp, kExt, PyData.eqv, at_0, at_1, at_2, at_3, at_4, T_is_word, fd_is_word, isTy, g1, d1, d2]); (try simp only [bind_assoc])
        simp [wordB, c2]
    · have d1 : ¬ (1 : Int) ≤ w.length := by omega
      (try simp -implicitDefEqProofs [look, lookB, isOwn, bindT, bindTs, wipeT, wipeTs, canSet, fitsL, truth, toP, eqOk, sc, items_sq, items_zip, items_enum, items1, kApp, kExt, PyData.eqv, at_0, at_1, at_2, at_3, at_4, T_is_word, fd_is_word, isTy, g1, d1]); (try simp only [bind_assoc])
      simp [wordB, c1]
  | _ => (try simp -implicitDefEqProofs [look, lookB, isOwn, bindT, bindTs, wipeT, wipeTs, canSet, fitsL, truth, toP, eqOk, sc, items_sq, items_zip, items_enum, items1, kApp, kExt, PyData.eqv, at_0, at_1, at_2, at_3, at_4, T_is_word, fd_is_word, isTy, wordB]); (try simp only [bind_assoc])
theorem integer_run (n : Nat) (v : PyData) (S : Store) : run G T (n+1) f_is_integer [.p v] S = .ok (.p (.bool (match v with
    | .int i => true
    | _ => false))) S := by
  rw [run_succ _ _ _ _ _ _ rfl]
  cases v <;> (try simp -implicitDefEqProofs [look, lookB, isOwn, bindT, bindTs, wipeT, wipeTs, canSet, fitsL, truth, toP, eqOk, sc, items_sq, items_zip, items_enum, items1, kApp, kExt, PyData.eqv, at_0, at_1, at_2, at_3, at_4, T_is_integer, fd_is_integer, isTy]); (try simp only [bind_assoc])
/-- between a and b: the least may be any data where the value is none -/
theorem between_any (n : Nat) (a : Int) (b : Int) (v : PyData) (S : Store) : run G T (n+2) f_is_between [.p (.int a), .p v, .p (.int b)] S = .ok (.p (.bool (match v with
    | .int i => decide (a ≤ i) && decide (i ≤ b)
    | _ => false))) S := by
  rw [run_succ _ _ _ _ _ _ rfl]
  have h := integer_run n v S
  cases v with
  | int i =>
    by_cases c : a ≤ i
    · (try simp -implicitDefEqProofs [look, lookB, isOwn, bindT, bindTs, wipeT, wipeTs, canSet, fitsL, truth, toP, eqOk, sc, items_sq, items_zip, items_enum, items1, kApp, kExt, PyData.eqv, at_0, at_1, at_2, at_3, at_4, T_is_between, fd_is_between, h, c]); (try simp only [bind_assoc])
    · (try simp -implicitDefEqProofs [look, lookB, isOwn, bindT, bindTs, wipeT, wipeTs, canSet, fitsL, truth, toP, eqOk, sc, items_sq, items_zip, items_enum, items1, kApp, kExt, PyData.eqv, at_0, at_1, at_2, at_3, at_4, T_is_between, fd_is_between, h, c]); (try simp only [bind_assoc])
  | _ => (try simp -implicitDefEqProofs [look, lookB, isOwn, bindT, bindTs, wipeT, wipeTs, canSet, fitsL, truth, toP, eqOk, sc, items_sq, items_zip, items_enum, items1, kApp, kExt, PyData.eqv, at_0, at_1, at_2, at_3, at_4, T_is_between, fd_is_between, h]); (try simp only [bind_assoc])

theorem comp_grow {step : D → Store → Out (Option PyData)} (f : D → Bool) : ∀ (l : List D) (S : Store), (∀ x ∈ l, ∀ S, ∃ E, step x S = .ok (some (.bool (f x))) (S ++ E)) → ∃ E, compL step l S = .ok (l.map fun x => PyData.bool (f x)) (S ++ E)
  | [], S, _ => ⟨[], by rw [List.append_nil]; rfl⟩
  | x :: l, S, h => by
    obtain ⟨E1, e1⟩ := h x List.mem_cons_self S
    obtain ⟨E2, e2⟩ := comp_grow f l (S ++ E1) fun y hy => h y (List.mem_cons_of_mem _ hy)
    exact ⟨E1 ++ E2, by rw [compL_cons, e1, noX_ok, bind_ok, kComp_eq, e2, bind_ok, kAddO_eq, addO_some, List.map_cons, List.append_assoc]⟩
def inB (lo hi : Int) : PyData → Bool
  | .int i => decide (lo ≤ i) && decide (i ≤ hi)
  | _ => false
def isIntB : PyData → Bool
  | .int _ => true
  | _ => false
theorem between_inB (n : Nat) (a b : Int) (v : PyData) (S : Store) : run G T (n+2) f_is_between [.p (.int a), .p v, .p (.int b)] S = .ok (.p (.bool (inB a b v))) S := by
  rw [between_any]; cases v <;> rfl
theorem integer_isB (n : Nat) (v : PyData) (S : Store) : run G T (n+1) f_is_integer [.p v] S = .ok (.p (.bool (isIntB v))) S := by
  rw [integer_run]; cases v <;> rfl
def oneB (l : List Str) : PyData → Bool
  | .str w => l.any (· == w)
  | _ => false
def memB (at_ many : Int) (c : Nat) (v : PyData) : Bool :=
  if c = 110 then isIntB v else if c = 119 then oneB ["down", "up", "near"] v else if c = 115 then oneB ["int", "truth"] v else if c = 108 then wordB v
  else if c = 99 then inB 0 9999 v else if c = 105 then inB 0 99 v else if c = 109 then inB (-1000) 1000 v else if c = 112 then inB 0 1000 v else if c = 113 then inB 1 1000 v else inB (at_ + 1) many v
theorem in_ws (c : Nat) : (Builtin.Str.occurrences (Str.ofString "ws") ⟨#[c]⟩ 0 (Str.ofString "ws").length 1).isEmpty = !(decide (c = 119) || decide (c = 115)) := by
  have h := StrLaws.found_one (Str.ofString "ws") c
  have e : (Str.ofString "ws").cps.toList = [119, 115] := by decide +kernel
  rw [e] at h
  have k : decide (c ∈ [119, 115]) = (decide (c = 119) || decide (c = 115)) := by
    rw [Bool.eq_iff_iff]; simp
  rw [k] at h
  rw [← h, Bool.not_not]
theorem c1_eq (c d : Nat) : ((⟨#[c]⟩ : Str) == (⟨#[d]⟩ : Str)) = decide (c = d) := by
  rw [Bool.eq_iff_iff, beq_iff_eq, decide_eq_true_eq]
  constructor
  · intro h; injection h with h; simpa using h
  · intro h; rw [h]
theorem s_n : Str.ofString "n" = ⟨#[110]⟩ := by decide +kernel
theorem s_w : Str.ofString "w" = ⟨#[119]⟩ := by decide +kernel
theorem s_l : Str.ofString "l" = ⟨#[108]⟩ := by decide +kernel
theorem s_c : Str.ofString "c" = ⟨#[99]⟩ := by decide +kernel
theorem s_i : Str.ofString "i" = ⟨#[105]⟩ := by decide +kernel
theorem s_m : Str.ofString "m" = ⟨#[109]⟩ := by decide +kernel
theorem s_p : Str.ofString "p" = ⟨#[112]⟩ := by decide +kernel
theorem s_q : Str.ofString "q" = ⟨#[113]⟩ := by decide +kernel
theorem eqv_iQ (i j : Int) : PyData.eqv (.int i) (.int j) = (i == j) := by simp [PyData.eqv]
theorem eqok_iQ (i j : Int) : eqOk (.int i) (.int j) = true := rfl
def mdct : Ob := .dct [⟨#[99]⟩, ⟨#[105]⟩, ⟨#[109]⟩, ⟨#[112]⟩, ⟨#[113]⟩] [.p (.tuple [.int 0, .int 9999]), .p (.tuple [.int 0, .int 99]), .p (.tuple [.int (-1000), .int 1000]), .p (.tuple [.int 0, .int 1000]), .p (.tuple [.int 1, .int 1000])]
def srts : List Nat := [99, 110, 105, 109, 112, 113, 119, 116, 108, 115]
theorem member_any (n : Nat) (at_ many : Int) (v : PyData) (hs : Sh v = true) (c : Nat) (hc : c ∈ srts) (S : Store) : ∃ E, run G T (n+3) f_is_member [.p (chr c), .p v, .p (.int at_), .p (.int many)] S = .ok (.p (.bool (memB at_ many c v))) (S ++ E) := by
  have e1 := integer_isB (n+1) v S
  have e2 := word_any (n+1) v hs S
  have e3 := fun lo hi S => between_inB n lo hi v S
  have g1 : G g_ROUNDINGS = .p (.tuple [.str "down", .str "up", .str "near"]) := rfl
  have g2 : G g_MOST_CELL = .p (.int 9999) := rfl
  have g3 : G g_MOST_INDEX = .p (.int 99) := rfl
  have w1 := in_ws c
  simp only [srts, List.mem_cons, List.not_mem_nil, or_false] at hc
  rcases hc with rfl | rfl | rfl | rfl | rfl | rfl | rfl | rfl | rfl | rfl
  all_goals rw [run_succ _ _ _ _ _ _ rfl]
  · refine ⟨[mdct], ?_⟩
    have e3 := e3 0 9999 (S ++ [mdct])
    unfold mdct at e3 ⊢
    (try simp -implicitDefEqProofs [look, lookB, isOwn, bindT, bindTs, wipeT, wipeTs, canSet, fitsL, truth, toP, eqOk, sc, items_sq, items_zip, items_enum, items1, kApp, kExt, PyData.eqv, at_0, at_1, at_2, at_3, at_4, T_is_member, fd_is_member, w1, chr, s_n, s_w, s_l, s_c, s_i, s_m, s_p, s_q, c1_eq, eqv_str, dfind, e3, g2, g3, memB, -PyData.eqv]); (try simp only [bind_assoc])
  · refine ⟨[], ?_⟩
    (try simp -implicitDefEqProofs [look, lookB, isOwn, bindT, bindTs, wipeT, wipeTs, canSet, fitsL, truth, toP, eqOk, sc, items_sq, items_zip, items_enum, items1, kApp, kExt, PyData.eqv, at_0, at_1, at_2, at_3, at_4, T_is_member, fd_is_member, w1, chr, s_n, s_w, s_l, s_c, s_i, s_m, s_p, s_q, c1_eq, eqv_str, e1, memB, -PyData.eqv]); (try simp only [bind_assoc])
  · refine ⟨[mdct], ?_⟩
    have e3 := e3 0 99 (S ++ [mdct])
    unfold mdct at e3 ⊢
    (try simp -implicitDefEqProofs [look, lookB, isOwn, bindT, bindTs, wipeT, wipeTs, canSet, fitsL, truth, toP, eqOk, sc, items_sq, items_zip, items_enum, items1, kApp, kExt, PyData.eqv, at_0, at_1, at_2, at_3, at_4, T_is_member, fd_is_member, w1, chr, s_n, s_w, s_l, s_c, s_i, s_m, s_p, s_q, c1_eq, eqv_str, dfind, e3, g2, g3, memB, -PyData.eqv]); (try simp only [bind_assoc])
  · refine ⟨[mdct], ?_⟩
    have e3 := e3 (-1000) 1000 (S ++ [mdct])
    unfold mdct at e3 ⊢
    (try simp -implicitDefEqProofs [look, lookB, isOwn, bindT, bindTs, wipeT, wipeTs, canSet, fitsL, truth, toP, eqOk, sc, items_sq, items_zip, items_enum, items1, kApp, kExt, PyData.eqv, at_0, at_1, at_2, at_3, at_4, T_is_member, fd_is_member, w1, chr, s_n, s_w, s_l, s_c, s_i, s_m, s_p, s_q, c1_eq, eqv_str, dfind, e3, g2, g3, memB, -PyData.eqv]); (try simp only [bind_assoc])
  · refine ⟨[mdct], ?_⟩
    have e3 := e3 0 1000 (S ++ [mdct])
    unfold mdct at e3 ⊢
    (try simp -implicitDefEqProofs [look, lookB, isOwn, bindT, bindTs, wipeT, wipeTs, canSet, fitsL, truth, toP, eqOk, sc, items_sq, items_zip, items_enum, items1, kApp, kExt, PyData.eqv, at_0, at_1, at_2, at_3, at_4, T_is_member, fd_is_member, w1, chr, s_n, s_w, s_l, s_c, s_i, s_m, s_p, s_q, c1_eq, eqv_str, dfind, e3, g2, g3, memB, -PyData.eqv]); (try simp only [bind_assoc])
  · refine ⟨[mdct], ?_⟩
    have e3 := e3 1 1000 (S ++ [mdct])
    unfold mdct at e3 ⊢
    (try simp -implicitDefEqProofs [look, lookB, isOwn, bindT, bindTs, wipeT, wipeTs, canSet, fitsL, truth, toP, eqOk, sc, items_sq, items_zip, items_enum, items1, kApp, kExt, PyData.eqv, at_0, at_1, at_2, at_3, at_4, T_is_member, fd_is_member, w1, chr, s_n, s_w, s_l, s_c, s_i, s_m, s_p, s_q, c1_eq, eqv_str, dfind, e3, g2, g3, memB, -PyData.eqv]); (try simp only [bind_assoc])
  · refine ⟨[], ?_⟩
    cases v <;> (try simp -implicitDefEqProofs [look, lookB, isOwn, bindT, bindTs, wipeT, wipeTs, canSet, fitsL, truth, toP, eqOk, sc, items_sq, items_zip, items_enum, items1, kApp, kExt, PyData.eqv, at_0, at_1, at_2, at_3, at_4, T_is_member, fd_is_member, isTy, w1, chr, s_n, s_w, s_l, s_c, s_i, s_m, s_p, s_q, c1_eq, e1, e2, g1, memB, oneB, isIntB, flat]); (try simp only [bind_assoc])
  · refine ⟨[mdct], ?_⟩
    have e3 := e3 (at_ + 1) many (S ++ [mdct])
    unfold mdct at e3 ⊢
    (try simp -implicitDefEqProofs [look, lookB, isOwn, bindT, bindTs, wipeT, wipeTs, canSet, fitsL, truth, toP, eqOk, sc, items_sq, items_zip, items_enum, items1, kApp, kExt, PyData.eqv, at_0, at_1, at_2, at_3, at_4, T_is_member, fd_is_member, w1, chr, s_n, s_w, s_l, s_c, s_i, s_m, s_p, s_q, c1_eq, eqv_str, dfind, e3, g2, g3, memB, -PyData.eqv]); (try simp only [bind_assoc])
  · refine ⟨[], ?_⟩
    (try simp -implicitDefEqProofs [look, lookB, isOwn, bindT, bindTs, wipeT, wipeTs, canSet, fitsL, truth, toP, eqOk, sc, items_sq, items_zip, items_enum, items1, kApp, kExt, PyData.eqv, at_0, at_1, at_2, at_3, at_4, T_is_member, fd_is_member, w1, chr, s_n, s_w, s_l, s_c, s_i, s_m, s_p, s_q, c1_eq, eqv_str, e2, memB, -PyData.eqv]); (try simp only [bind_assoc])
  · refine ⟨[], ?_⟩
    cases v <;> (try simp -implicitDefEqProofs [look, lookB, isOwn, bindT, bindTs, wipeT, wipeTs, canSet, fitsL, truth, toP, eqOk, sc, items_sq, items_zip, items_enum, items1, kApp, kExt, PyData.eqv, at_0, at_1, at_2, at_3, at_4, T_is_member, fd_is_member, isTy, w1, chr, s_n, s_w, s_l, s_c, s_i, s_m, s_p, s_q, c1_eq, e1, e2, g1, memB, oneB, isIntB, flat]); (try simp only [bind_assoc])
/-! the forms -/
def formsR : List (Str × Str) := [("put", "cn"), ("copy", "cc"), ("file", "ci"), ("told", "ci"), ("add", "ccc"), ("take", "ccc"), ("least", "ccc"), ("most", "ccc"), ("times", "cmc"), ("share", "ccpqw"), ("less", "ccc"), ("same", "ccc"), ("go", "t"), ("if", "ct"), ("bare", "it"), ("note", "l"), ("tell", "cs"), ("hangs", "i")]
def formR (w : Str) : Option Str := (formsR.find? fun p => decide (p.1 = w)).map (·.2)
theorem dlook_forms (w : Str) : dlook (G g_FORMS) w = (formR w).map .str := by
  have g : G g_FORMS = .p (.dict (formsR.map fun p => (PyData.str p.1, PyData.str p.2))) := rfl
  rw [g, dlook, formR]
  generalize formsR = l
  induction l with
  | nil => rfl
  | cons p l ih =>
    rw [List.map_cons, List.find?_cons, List.find?_cons]
    by_cases e : p.1 = w
    · simp [e]
    · have e1 : decide (p.1 = w) = false := decide_eq_false e
      simp only [e1]
      exact ih
theorem form_srts {w f : Str} (h : formR w = some f) : (∀ c ∈ f.cps.toList, c ∈ srts) ∧ f.length ≤ 5 := by
  have all : ∀ p ∈ formsR, (∀ c ∈ p.2.cps.toList, c ∈ srts) ∧ p.2.length ≤ 5 := by decide +kernel
  unfold formR at h
  cases z : (formsR.find? fun p => decide (p.1 = w)) with
  | none => rw [z] at h; cases h
  | some p =>
    rw [z] at h
    injection h with h
    exact h ▸ all p (List.mem_of_find?_eq_some z)
def rowB (at_ many : Int) : PyData → Bool
  | .tuple (.str w :: xs) => match formR w with
    | some f => (xs.length == f.length) && (f.cps.toList.zip xs).all fun p => memB at_ many p.1 p.2
    | none => false
  | _ => false
theorem eqokT {xs : List PyData} (h : PyData.canLayAll0 xs = true) : eqOk (.tuple xs) (.tuple []) = true := by
  have h1 : (PyData.tuple []).canLay0 = true := rfl
  have h0 : (PyData.tuple xs).canLay0 = true := by simpa [PyData.canLay0] using h
  have h2 : min (PyData.tuple xs).depth (PyData.tuple []).depth ≤ 64 := Nat.le_trans (Nat.min_le_right _ _) (by simp [PyData.depth, PyData.depthAll])
  simp only [eqOk, h0, h1, h2, decide_true, Bool.and_self, Bool.or_true]
theorem eqvT (x : PyData) (xs : List PyData) : PyData.eqv (.tuple (x :: xs)) (.tuple []) = false := by simp [PyData.eqv, PyData.eqvAll]
theorem cut_tl (x : PyData) (xs : List PyData) : cut (x :: xs) (some 1) none = xs := by
  unfold cut
  rw [show (1 : Int) = ((1 : Nat) : Int) from rfl, HT.sIx_none, HT.sIx_nat]
  have : min 1 (x :: xs).length = 1 := by rw [List.length_cons]; omega
  rw [this, List.drop_one, List.tail_cons, List.take_of_length_le (by rw [List.length_cons]; omega)]
theorem zipD_pp : ∀ (xs ys : List PyData), zipD (xs.map D.p) (ys.map D.p) = (xs.zip ys).map fun q => D.p (.tuple [q.1, q.2])
  | [], ys => by cases ys <;> rfl
  | x :: xs, [] => rfl
  | x :: xs, y :: ys => by
    rw [List.map_cons, List.map_cons, List.zip_cons_cons, List.map_cons, ← zipD_pp xs ys]; rfl
theorem zip_memB (at_ many : Int) (F : D → Bool) (hF : ∀ c y, F (.p (.tuple [chr c, y])) = memB at_ many c y) : ∀ (cs : List Nat) (xs : List PyData), ((cs.map chr).zip xs).all (F ∘ fun q => D.p (.tuple [q.1, q.2])) = (cs.zip xs).all fun p => memB at_ many p.1 p.2
  | [], xs => by cases xs <;> rfl
  | c :: cs, [] => rfl
  | c :: cs, x :: xs => by
    rw [List.map_cons, List.zip_cons_cons, List.zip_cons_cons, List.all_cons, List.all_cons, zip_memB at_ many F hF cs xs, Function.comp, hF]
theorem row_any (n : Nat) (at_ many : Int) (v : PyData) (hs : Sh v = true) (hl : v.canLay0 = true) (S : Store) : ∃ E, run G T (n+4) f_is_row [.p v, .p (.int at_), .p (.int many)] S = .ok (.p (.bool (rowB at_ many v))) (S ++ E) := by
  rw [run_succ _ _ _ _ _ _ rfl]
  cases v with
  | tuple xs =>
    have lay : PyData.canLayAll0 xs = true := by simpa [PyData.canLay0] using hl
    have ok := eqokT lay
    cases xs with
    | nil =>
      refine ⟨[], ?_⟩
      have o2 : PyData.eqv (.tuple []) (.tuple []) = true := rfl
      (try simp -implicitDefEqProofs [look, lookB, isOwn, bindT, bindTs, wipeT, wipeTs, canSet, fitsL, truth, toP, eqOk, sc, items_sq, items_zip, items_enum, items1, kApp, kExt, PyData.eqv, at_0, at_1, at_2, at_3, at_4, T_is_row, fd_is_row, isTy, ok, o2, -PyData.eqv, -eqOk, rowB]); (try simp only [bind_assoc])
    | cons x xs =>
      have ne := eqvT x xs
      have sA : ShAll (x :: xs) = true := by simpa [Sh] using hs
      cases x with
      | str w =>
        have dl := dlook_forms w
        cases hf : formR w with
        | none =>
          rw [hf] at dl
          refine ⟨[], ?_⟩
          (try simp -implicitDefEqProofs [look, lookB, isOwn, bindT, bindTs, wipeT, wipeTs, canSet, fitsL, truth, toP, eqOk, sc, items_sq, items_zip, items_enum, items1, kApp, kExt, PyData.eqv, at_0, at_1, at_2, at_3, at_4, T_is_row, fd_is_row, isTy, ok, ne, dl, -PyData.eqv, -eqOk, rowB, hf]); (try simp only [bind_assoc])
        | some f =>
          rw [hf] at dl
          obtain ⟨f1, f2⟩ := form_srts hf
          have ff : f.length ≤ 16777216 := by omega
          by_cases hlen : xs.length = f.length
          · have hc : (((xs.length : Int) + 1) == ((f.length : Int) + 1)) = true := by rw [beq_iff_eq]; omega
            have hb : (xs.length == f.length) = true := by rw [beq_iff_eq]; exact hlen
            obtain ⟨E, e⟩ := comp_grow (step := stepC G (run G T (n+3)) (Tg.tup [.nm 4, .nm 5]) [] (E.call f_is_member [] [E.v 4, E.v 5, E.v 1, E.v 2]) [.v (.p (.tuple (.str w :: xs))), .v (.p (.int at_)), .v (.p (.int many)), .v (.p (.str f)), .un, .un])
              (fun d => match d with | .p (.tuple [.str c, y]) => memB at_ many (c.cps.getD 0 0) y | _ => false) (((f.cps.toList.map chr).zip xs).map fun q => D.p (.tuple [q.1, q.2])) S (fun x hx S => by
                obtain ⟨q, hq, rfl⟩ := List.mem_map.mp hx
                obtain ⟨q1, q2⟩ := List.of_mem_zip (a := q.1) (b := q.2) hq
                obtain ⟨c, hc, e1⟩ := List.mem_map.mp q1
                have sq : Sh q.2 = true := sh_mem sA (List.mem_cons_of_mem _ q2)
                obtain ⟨E, e⟩ := member_any n at_ many q.2 sq c (f1 c hc) S
                obtain ⟨a, b⟩ := q
                simp only at e1 e
                subst e1
                refine ⟨E, ?_⟩
                rw [stepC_eq]
                (try simp -implicitDefEqProofs [look, lookB, isOwn, bindT_nm, bindT_tp, bindT_tl, bindT_td, bindTs_n, bindTs_c, bTs_some, wipeT, wipeTs, canSet, fitsL, truth, toP, eqOk, sc, items_sq, items_zip, items_enum, items1, kApp, kExt, PyData.eqv, at_0, at_1, at_2, at_3, at_4, e]); (try simp only [bind_assoc])
                simp [chr])
            have lz : ((((f.cps.toList.map chr).zip xs).map fun q => D.p (.tuple [q.1, q.2])).map fun d => PyData.bool (match d with | .p (.tuple [.str c, y]) => memB at_ many (c.cps.getD 0 0) y | _ => false)).length ≤ 16777216 := by
              simp only [List.length_map, List.length_zip, ← len_toList]
              omega
            refine ⟨E, ?_⟩
            have zz : zipD ((f.cps.toList.map chr).map D.p) (xs.map D.p) = _ := zipD_pp (f.cps.toList.map chr) xs
            rw [List.map_map] at zz
            have zz : zipD (f.cps.toList.map fun c => D.p (chr c)) (xs.map D.p) = _ := zz
            (try simp -implicitDefEqProofs [look, lookB, isOwn, bindT_nm, bindT_tp, bindT_tl, bindT_td, bindTs_n, bindTs_c, bTs_some, wipeT, wipeTs, canSet, fitsL, truth, toP, eqOk, sc, items_sq, items_zip, items_enum, items1, kApp, kExt, PyData.eqv, at_0, at_1, at_2, at_3, at_4, T_is_row, fd_is_row, isTy, ok, ne, dl, hc, ff, cut_tl, zz, -PyData.eqv, -eqOk, eqv_iQ, -List.map_map]); (try simp only [bind_assoc])
            erw [e]
            rw [bind_ok, kCmp3, show fitsL _ = true from decide_eq_true lz, if_pos rfl]
            (try simp -implicitDefEqProofs [look, lookB, isOwn, bindT_nm, bindT_tp, bindT_tl, bindT_td, bindTs_n, bindTs_c, bTs_some, wipeT, wipeTs, canSet, fitsL, truth, toP, eqOk, sc, items_sq, items_zip, items_enum, items1, kApp, kExt, PyData.eqv, at_0, at_1, at_2, at_3, at_4, -List.map_map, bools_map, all_map]); (try simp only [bind_assoc])
            simp only [rowB, hf, hb, Bool.true_and]
            refine zip_memB at_ many _ (fun c y => ?_) f.cps.toList xs
            simp [chr]
          · have hc : (((xs.length : Int) + 1) == ((f.length : Int) + 1)) = false := by rw [beq_eq_false_iff_ne]; omega
            have hb : (xs.length == f.length) = false := by rw [beq_eq_false_iff_ne]; exact hlen
            refine ⟨[], ?_⟩
            (try simp -implicitDefEqProofs [look, lookB, isOwn, bindT, bindTs, wipeT, wipeTs, canSet, fitsL, truth, toP, eqOk, sc, items_sq, items_zip, items_enum, items1, kApp, kExt, PyData.eqv, at_0, at_1, at_2, at_3, at_4, T_is_row, fd_is_row, isTy, ok, ne, dl, hc, ff, -PyData.eqv, -eqOk, eqv_iQ, rowB, hf, hb]); (try simp only [bind_assoc])
      | _ =>
        refine ⟨[], ?_⟩
        (try simp -implicitDefEqProofs [look, lookB, isOwn, bindT, bindTs, wipeT, wipeTs, canSet, fitsL, truth, toP, eqOk, sc, items_sq, items_zip, items_enum, items1, kApp, kExt, PyData.eqv, at_0, at_1, at_2, at_3, at_4, T_is_row, fd_is_row, isTy, ok, ne, -PyData.eqv, -eqOk, rowB]); (try simp only [bind_assoc])
  | _ =>
    refine ⟨[], ?_⟩
    (try simp -implicitDefEqProofs [look, lookB, isOwn, bindT, bindTs, wipeT, wipeTs, canSet, fitsL, truth, toP, eqOk, sc, items_sq, items_zip, items_enum, items1, kApp, kExt, PyData.eqv, at_0, at_1, at_2, at_3, at_4, T_is_row, fd_is_row, isTy, rowB]); (try simp only [bind_assoc])
def rowsB (xs : List PyData) : Bool := decide (xs.length ≤ 20000) && (List.range xs.length).all fun k => match xs[k]? with
  | some x => rowB (k : Int) (xs.length : Int) x
  | none => false
def allR (many : Int) : Nat → List PyData → Bool
  | _, [] => true
  | k, x :: xs => rowB (k : Int) many x && allR many (k + 1) xs
theorem enum_grow (n : Nat) (many : Int) (a0 : Slot) : ∀ (xs : List PyData) (k : Nat), ShAll xs = true → PyData.canLayAll0 xs = true → ∀ (full : List PyData), many = (full.length : Int) → ∀ (a1 a2 : Slot) (S : Store),
    ∃ (E : Store) (bs : List Bool), compL (stepC G (run G T (n+4)) (.tup [.nm 1, .nm 2]) [] (.call f_is_row [] [.v 2, .v 1, .pr .len [.v 0]]) [.v (.p (.tuple full)), a1, a2]) (enumD (k : Int) (xs.map D.p)) S = .ok (bs.map PyData.bool) (S ++ E) ∧ bs.length = xs.length ∧ bs.all id = allR many k xs
  | [], k, _, _, full, _, a1, a2, S => ⟨[], [], by rw [List.append_nil]; rfl, rfl, rfl⟩
  | x :: xs, k, hs, hl, full, hm, a1, a2, S => by
    rw [ShAll, Bool.and_eq_true] at hs
    rw [PyData.canLayAll0, Bool.and_eq_true] at hl
    obtain ⟨E1, e1⟩ := row_any n (k : Int) many x hs.1 hl.1 S
    obtain ⟨E2, bs, e2, l2, q2⟩ := enum_grow n many a0 xs (k + 1) hs.2 hl.2 full hm a1 a2 (S ++ E1)
    rw [show ((k + 1 : Nat) : Int) = (k : Int) + 1 from by omega] at e2
    subst hm
    refine ⟨E1 ++ E2, rowB (k : Int) (full.length : Int) x :: bs, ?_, by rw [List.length_cons, List.length_cons, l2], by rw [List.all_cons, q2, allR]; rfl⟩
    show compL _ (.p (.tuple [.int k, x]) :: enumD ((k : Int) + 1) (xs.map D.p)) S = _
    have st : stepC G (run G T (n+4)) (.tup [.nm 1, .nm 2]) [] (.call f_is_row [] [.v 2, .v 1, .pr .len [.v 0]]) [.v (.p (.tuple full)), a1, a2] (.p (.tuple [.int k, x])) S = .ok (some (.bool (rowB (k : Int) (full.length : Int) x))) (S ++ E1) := by
      rw [stepC_eq]
      (try simp -implicitDefEqProofs [look, lookB, isOwn, bindT_nm, bindT_tp, bindT_tl, bindT_td, bindTs_n, bindTs_c, bTs_some, wipeT, wipeTs, canSet, fitsL, truth, toP, eqOk, sc, items_sq, items_zip, items_enum, items1, kApp, kExt, PyData.eqv, at_0, at_1, at_2, at_3, at_4, e1]); (try simp only [bind_assoc])
    rw [compL_cons, st, noX_ok, bind_ok, kComp_eq, e2, bind_ok, kAddO_eq, addO_some, List.map_cons, List.append_assoc]
theorem boolsOf_map : ∀ bs : List Bool, boolsOf (bs.map PyData.bool) = some bs
  | [] => rfl
  | b :: bs => by rw [List.map_cons, boolsOf, boolsOf_map bs]; rfl
theorem rows_any (n : Nat) (xs : List PyData) (hs : ShAll xs = true) (hl : PyData.canLayAll0 xs = true) (h2 : xs.length ≤ 20000) (S : Store) : ∃ E, run G T (n+5) f_is_rows [.p (.tuple xs)] S = .ok (.p (.bool (allR (xs.length : Int) 0 xs))) (S ++ E) := by
  obtain ⟨E, bs, e, lb, q⟩ := enum_grow n (xs.length : Int) .un xs 0 hs hl xs rfl .un .un S
  refine ⟨E, ?_⟩
  have g1 : G g_MOST_ROWS = .p (.int 20000) := rfl
  have h3 : ¬ ((20000 : Int) < xs.length) := by omega
  have lf : (bs.map PyData.bool).length ≤ 16777216 := by rw [List.length_map]; omega
  rw [run_succ _ _ _ _ _ _ rfl]
  (try simp -implicitDefEqProofs [look, lookB, isOwn, bindT_nm, bindT_tp, bindT_tl, bindT_td, bindTs_n, bindTs_c, bTs_some, wipeT, wipeTs, canSet, fitsL, truth, toP, eqOk, sc, items_sq, items_zip, items_enum, items1, kApp, kExt, PyData.eqv, at_0, at_1, at_2, at_3, at_4, T_is_rows, fd_is_rows, isTy, g1, h3, -List.map_map]); (try simp only [bind_assoc])
  erw [e]
  rw [bind_ok, kCmp3, show fitsL _ = true from decide_eq_true lf, if_pos rfl]
  (try simp -implicitDefEqProofs [look, lookB, isOwn, bindT_nm, bindT_tp, bindT_tl, bindT_td, bindTs_n, bindTs_c, bTs_some, wipeT, wipeTs, canSet, fitsL, truth, toP, eqOk, sc, items_sq, items_zip, items_enum, items1, kApp, kExt, PyData.eqv, at_0, at_1, at_2, at_3, at_4, boolsOf_map, q, -List.map_map, -List.all_eq_true]); (try simp only [bind_assoc])
theorem check_ok (n : Nat) (xs : List PyData) (hs : ShAll xs = true) (hl : PyData.canLayAll0 xs = true) (h2 : xs.length ≤ 20000) (hr : allR (xs.length : Int) 0 xs = true) (S : Store) : ∃ E, run G T (n+6) f_check_rows [.p (.tuple xs)] S = .ok (.p .none) (S ++ E) := by
  obtain ⟨E, e⟩ := rows_any n xs hs hl h2 S
  rw [hr] at e
  refine ⟨E, ?_⟩
  rw [run_succ _ _ _ _ _ _ rfl]
  (try simp -implicitDefEqProofs [look, lookB, isOwn, bindT_nm, bindT_tp, bindT_tl, bindT_td, bindTs_n, bindTs_c, bTs_some, wipeT, wipeTs, canSet, fitsL, truth, toP, eqOk, sc, items_sq, items_zip, items_enum, items1, kApp, kExt, PyData.eqv, at_0, at_1, at_2, at_3, at_4, T_check_rows, fd_check_rows, e]); (try simp only [bind_assoc])
end EC

namespace EC
open PySem
/-! ### all but one object of the store stays -/
structure Kp (r : Nat) (S S' : Store) : Prop where
  len : S.length ≤ S'.length
  ob : ∀ i, i ≠ r → i < S.length → S'[i]? = S[i]?
theorem Kp.refl (r : Nat) (S : Store) : Kp r S S := ⟨Nat.le_refl _, fun _ _ _ => rfl⟩
theorem Kp.trans {r : Nat} {S S1 S2 : Store} (h : Kp r S S1) (h' : Kp r S1 S2) : Kp r S S2 := ⟨Nat.le_trans h.len h'.len, fun i hi hl => (h'.ob i hi (Nat.lt_of_lt_of_le hl h.len)).trans (h.ob i hi hl)⟩
theorem Kp.app (r : Nat) (S E : Store) : Kp r S (S ++ E) := ⟨by simp, fun i _ hl => List.getElem?_append_left hl⟩
theorem Kp.set (r : Nat) (S : Store) (o : Ob) : Kp r S (S.set r o) := ⟨by simp, fun i hi _ => List.getElem?_set_ne (fun z => hi z.symm)⟩
/-! ### the well -/
def WO (g x k : Int) : Ob := .lst [.p (.int g), .p (.int x), .p (.int k)]
def Wl (r c : Nat) (S : Store) : Prop := ∃ g x k : Int, S[r]? = some (WO g x k) ∧ 0 ≤ x ∧ x < 1099511627776 ∧ 0 ≤ k ∧ k ≤ c
theorem Wl.up {r c c' : Nat} {S : Store} (h : Wl r c S) (hc : c ≤ c') : Wl r c' S := by
  obtain ⟨g, x, k, h1, h2, h3, h4, h5⟩ := h
  exact ⟨g, x, k, h1, h2, h3, h4, by omega⟩
theorem Wl.app {r c : Nat} {S : Store} (h : Wl r c S) (E : Store) : Wl r c (S ++ E) := by
  obtain ⟨g, x, k, h1, h2⟩ := h
  have lt : r < S.length := (List.getElem?_eq_some_iff.mp h1).1
  exact ⟨g, x, k, by rw [List.getElem?_append_left lt, h1], h2⟩
section
variable {r : Nat} {S : Store} {g x k : Int} (h : S[r]? = some (WO g x k))
include h
theorem w_i0 : p_idx S [.ref r, .p (.int 0)] = some (.p (.int g)) := by
  show (match S[r]? with | some (.lst ds) => L2.atI ds 0 | _ => none) = _
  rw [h]; rfl
theorem w_i1 : p_idx S [.ref r, .p (.int 1)] = some (.p (.int x)) := by
  show (match S[r]? with | some (.lst ds) => L2.atI ds 1 | _ => none) = _
  rw [h]; rfl
theorem w_i2 : p_idx S [.ref r, .p (.int 2)] = some (.p (.int k)) := by
  show (match S[r]? with | some (.lst ds) => L2.atI ds 2 | _ => none) = _
  rw [h]; rfl
theorem w_s0 (v : Int) : setSt S [.ref r, .p (.int 0), .p (.int v)] = .ok () (S.set r (WO v x k)) := by
  show (match S[r]? with | some (.lst ds) => (if _ then _ else _) | _ => _) = _
  rw [h]; rfl
theorem w_s1 (v : Int) : setSt S [.ref r, .p (.int 1), .p (.int v)] = .ok () (S.set r (WO g v k)) := by
  show (match S[r]? with | some (.lst ds) => (if _ then _ else _) | _ => _) = _
  rw [h]; rfl
theorem w_s2 (v : Int) : setSt S [.ref r, .p (.int 2), .p (.int v)] = .ok () (S.set r (WO g x v)) := by
  show (match S[r]? with | some (.lst ds) => (if _ then _ else _) | _ => _) = _
  rw [h]; rfl
theorem w_at (o : Ob) : (S.set r o)[r]? = some o := by
  have lt : r < S.length := (List.getElem?_eq_some_iff.mp h).1
  rw [List.getElem?_set_self lt]
end
theorem mul_r (i j : Int) (h0 : -18446744073709551616 < j) (h1 : j < 18446744073709551616) : mulOk i j = true := by
  have e : (2 : Int) ^ 64 = 18446744073709551616 := by decide +kernel
  simp only [mulOk, e, decide_eq_true_eq]
  omega
theorem mul_l (i j : Int) (h0 : -18446744073709551616 < i) (h1 : i < 18446744073709551616) : mulOk i j = true := by
  have e : (2 : Int) ^ 64 = 18446744073709551616 := by decide +kernel
  simp only [mulOk, e, decide_eq_true_eq]
  omega
theorem dip (n : Nat) (m : Int) (hm : 0 < m) (hm2 : m ≤ 1000000) {r c : Nat} {S : Store} (h : Wl r c S) (hc : c < 1000000000000) : Gd (run G T (n+1) f__law_dip [.ref r, .p (.int m)] S) fun d S' => Wl r (c + 1) S' ∧ Kp r S S' ∧ ∃ v, d = .p (.int v) ∧ 0 ≤ v ∧ v < m := by
  obtain ⟨g, x, k, h1, h2, h3, h4, h5⟩ := h
  refine Gd_run T__law_dip rfl fun Q hQ => ?_
  have hQ : ∀ (v : Int) S', Wl r (c + 1) S' → Kp r S S' → 0 ≤ v → v < m → Q (.p (.int v)) S' := fun v S' a b c d => hQ _ _ ⟨a, b, v, rfl, c, d⟩
  have lm : m.natAbs.log2 < 9000 := by
    have : m.natAbs < 2 ^ 200 := by
      have e : (2 : Nat) ^ 200 = 1606938044258990275541962092341162602522202993782792835301376 := by decide +kernel
      omega
    have := (Nat.log2_lt (k := 200) (by omega : m.natAbs ≠ 0)).mpr this
    omega
  have md : ∀ y : Int, 0 ≤ y % m ∧ y % m < m := fun y => ⟨Int.emod_nonneg _ (by omega), Int.emod_lt_of_pos _ hm⟩
  have i0 := w_i0 h1
  have i1 := w_i1 h1
  have i2 := w_i2 h1
  by_cases hg : 0 < g
  · have s0 := w_s0 h1 (g / m)
    (try simp -implicitDefEqProofs [look, lookB, isOwn, bindT_nm, bindT_tp, bindT_tl, bindT_td, bindTs_n, bindTs_c, bTs_some, wipeT, wipeTs, canSet, fitsL, truth, toP, eqOk, sc, items_sq, items_zip, items_enum, items1, kApp, kExt, PyData.eqv, at_0, at_1, at_2, at_3, at_4, i0, s0, hg, hm, lm, -p_idx_3]); (try simp only [bind_assoc])
    refine hQ _ _ ⟨g / m, x, k, w_at h1 _, h2, h3, h4, by omega⟩ (Kp.set _ _ _) (md g).1 (md g).2
  · have s2 := w_s2 h1 (k + 1)
    have h6 := w_at h1 (WO g x (k + 1))
    have j1 := w_i1 h6
    have j2 := w_i2 h6
    have m1 := mul_r x 44497 (by decide) (by decide)
    have m2 := mul_r (k + 1) (k + 1) (by omega) (by omega)
    have m3 := mul_r ((k + 1) * (k + 1)) 7001 (by decide) (by decide)
    have kp1 := Kp.set r S (WO g x (k + 1))
    generalize S.set r (WO g x (k + 1)) = S1 at *
    generalize hy : (x * 44497 + (k + 1) * (k + 1) * 7001 + 13) % 2147483629 = y at *
    have y0 : 0 ≤ y := by omega
    have y1 : y < 2147483629 := by omega
    have s1 := w_s1 h6 y
    have h7 := w_at h6 (WO g y (k + 1))
    have l1 := w_i1 h7
    have kp2 := Kp.set r S1 (WO g y (k + 1))
    generalize S1.set r (WO g y (k + 1)) = S2 at *
    have m4 := mul_r y y (by omega) (by omega)
    have lg : Nat.log2 64 < 9000 := by decide
    (try simp -implicitDefEqProofs [look, lookB, isOwn, bindT_nm, bindT_tp, bindT_tl, bindT_td, bindTs_n, bindTs_c, bTs_some, wipeT, wipeTs, canSet, fitsL, truth, toP, eqOk, sc, items_sq, items_zip, items_enum, items1, kApp, kExt, PyData.eqv, at_0, at_1, at_2, at_3, at_4, i0, i1, i2, s2, hg, -p_idx_3]); (try simp only [bind_assoc])
    (try simp -implicitDefEqProofs [look, lookB, isOwn, bindT_nm, bindT_tp, bindT_tl, bindT_td, bindTs_n, bindTs_c, bTs_some, wipeT, wipeTs, canSet, fitsL, truth, toP, eqOk, sc, items_sq, items_zip, items_enum, items1, kApp, kExt, PyData.eqv, at_0, at_1, at_2, at_3, at_4, j1, j2, m1, m2, m3, hy, s1, l1, m4, lg, hm, -p_idx_3]); (try simp only [bind_assoc])
    exact hQ _ _ ⟨g, y, k + 1, h7, y0, by omega, by omega, by omega⟩ (kp1.trans kp2) (md _).1 (md _).2
theorem well_run (n : Nat) (cell : Int) (S : Store) : Gd (run G T (n+1) f__law_well [.p (.int cell)] S) fun d S' => d = .ref S.length ∧ Wl S.length 0 S' ∧ Kp S.length S S' := by
  refine Gd_run T__law_well rfl fun Q hQ => ?_
  have e18 : (10 : Int) ^ 18 = 1000000000000000000 := by decide +kernel
  by_cases c : 1000000000000000000 ≤ cell
  · (try simp -implicitDefEqProofs [look, lookB, isOwn, bindT_nm, bindT_tp, bindT_tl, bindT_td, bindTs_n, bindTs_c, bTs_some, wipeT, wipeTs, canSet, fitsL, truth, toP, eqOk, sc, items_sq, items_zip, items_enum, items1, kApp, kExt, PyData.eqv, at_0, at_1, at_2, at_3, at_4, e18, c]); (try simp only [bind_assoc])
    exact hQ _ _ ⟨rfl, ⟨cell - 1000000000000000000, cell % 1999999973 + 17, 0, by simp [WO], by omega, by omega, by omega, by omega⟩, Kp.app _ _ _⟩
  · (try simp -implicitDefEqProofs [look, lookB, isOwn, bindT_nm, bindT_tp, bindT_tl, bindT_td, bindTs_n, bindTs_c, bTs_some, wipeT, wipeTs, canSet, fitsL, truth, toP, eqOk, sc, items_sq, items_zip, items_enum, items1, kApp, kExt, PyData.eqv, at_0, at_1, at_2, at_3, at_4, e18, c]); (try simp only [bind_assoc])
    exact hQ _ _ ⟨rfl, ⟨0, cell % 1999999973 + 17, 0, by simp [WO], by omega, by omega, by omega, by omega⟩, Kp.app _ _ _⟩
end EC

namespace EC
open PySem
/-! ### drawn rows -/
theorem eqv_strQ (a b : Str) : PyData.eqv (.str a) (.str b) = (a == b) := by simp [PyData.eqv]
theorem eqok_sQ (a b : Str) : eqOk (.str a) (.str b) = true := rfl
def litW : List Str := ["put", "copy", "file", "told", "add", "take", "least", "most", "times", "share", "less", "same", "go", "if", "bare", "note", "tell", "hangs", "p", "qq", "zoo", "alpha", "b", "int", "truth", "down", "up", "near"]
inductive Leaf : PyData → Prop
  | int (i : Int) (h : i.natAbs ≤ 100000000000000000000) : Leaf (.int i)
  | str (w : Str) (h : w ∈ litW) : Leaf (.str w)
structure Rw (at_ many : Int) (x : PyData) : Prop where
  ex : ∃ ys, x = .tuple ys ∧ ys.length ≤ 6 ∧ ∀ y ∈ ys, Leaf y
  ok : rowB at_ many x = true
theorem rowB_form {at_ many : Int} {w f : Str} (hf : formR w = some f) {cs : List Nat} (hc : f.cps.toList = cs) (ys : List PyData) (hl : ys.length = cs.length) : rowB at_ many (.tuple (.str w :: ys)) = (cs.zip ys).all fun p => memB at_ many p.1 p.2 := by
  have h1 : (ys.length == f.length) = true := by rw [beq_iff_eq, len_toList, hc, hl]
  rw [rowB, hf]
  show ((ys.length == f.length) && (f.cps.toList.zip ys).all fun p => memB at_ many p.1 p.2) = _
  rw [h1, hc, Bool.true_and]
theorem lf_w {w : Str} (h : w ∈ litW) : Leaf (.str w) := .str w h
section
variable {at_ many : Int}
theorem ys2 {a b : PyData} (ha : Leaf a) (hb : Leaf b) : ∃ ys, PyData.tuple [a, b] = .tuple ys ∧ ys.length ≤ 6 ∧ ∀ y ∈ ys, Leaf y := ⟨_, rfl, by simp, fun y hy => by
  simp only [List.mem_cons, List.not_mem_nil, or_false] at hy
  rcases hy with rfl | rfl <;> assumption⟩
theorem ys3 {a b c : PyData} (ha : Leaf a) (hb : Leaf b) (hc : Leaf c) : ∃ ys, PyData.tuple [a, b, c] = .tuple ys ∧ ys.length ≤ 6 ∧ ∀ y ∈ ys, Leaf y := ⟨_, rfl, by simp, fun y hy => by
  simp only [List.mem_cons, List.not_mem_nil, or_false] at hy
  rcases hy with rfl | rfl | rfl <;> assumption⟩
theorem ys4 {a b c d : PyData} (ha : Leaf a) (hb : Leaf b) (hc : Leaf c) (hd : Leaf d) : ∃ ys, PyData.tuple [a, b, c, d] = .tuple ys ∧ ys.length ≤ 6 ∧ ∀ y ∈ ys, Leaf y := ⟨_, rfl, by simp, fun y hy => by
  simp only [List.mem_cons, List.not_mem_nil, or_false] at hy
  rcases hy with rfl | rfl | rfl | rfl <;> assumption⟩
theorem ys6 {a b c d e f : PyData} (ha : Leaf a) (hb : Leaf b) (hc : Leaf c) (hd : Leaf d) (he : Leaf e) (hf : Leaf f) : ∃ ys, PyData.tuple [a, b, c, d, e, f] = .tuple ys ∧ ys.length ≤ 6 ∧ ∀ y ∈ ys, Leaf y := ⟨_, rfl, by simp, fun y hy => by
  simp only [List.mem_cons, List.not_mem_nil, or_false] at hy
  rcases hy with rfl | rfl | rfl | rfl | rfl | rfl <;> assumption⟩
theorem rw_put {c n : Int} (h0 : 0 ≤ c) (h1 : c < 5) (h2 : n.natAbs ≤ 100000000000000000000) : Rw at_ many (.tuple [.str "put", .int c, .int n]) :=
  ⟨ys3 (.str _ (by decide +kernel)) (.int _ (by omega)) (.int _ h2), by
    rw [rowB_form (f := "cn") (cs := [99, 110]) (by decide +kernel) (by decide +kernel) _ rfl]
    simp [memB, inB, isIntB]; omega⟩
theorem rw_cc {w : Str} (hw : w ∈ (["copy"] : List Str)) {c a : Int} (h0 : 0 ≤ c) (h1 : c < 5) (h2 : 0 ≤ a) (h3 : a < 5) : Rw at_ many (.tuple [.str w, .int c, .int a]) := by
  simp only [List.mem_cons, List.not_mem_nil, or_false] at hw
  subst hw
  exact ⟨ys3 (.str _ (by decide +kernel)) (.int _ (by omega)) (.int _ (by omega)), by
    rw [rowB_form (f := "cc") (cs := [99, 99]) (by decide +kernel) (by decide +kernel) _ rfl]
    simp [memB, inB, isIntB]; omega⟩
theorem rw_ci {w : Str} (hw : w ∈ (["file", "told"] : List Str)) {c a : Int} (h0 : 0 ≤ c) (h1 : c < 5) (h2 : 0 ≤ a) (h3 : a < 10) : Rw at_ many (.tuple [.str w, .int c, .int a]) := by
  simp only [List.mem_cons, List.not_mem_nil, or_false] at hw
  rcases hw with rfl | rfl
  all_goals exact ⟨ys3 (.str _ (by decide +kernel)) (.int _ (by omega)) (.int _ (by omega)), by
    rw [rowB_form (f := "ci") (cs := [99, 105]) (by decide +kernel) (by decide +kernel) _ rfl]
    simp [memB, inB, isIntB]; omega⟩
theorem rw_ccc {w : Str} (hw : w ∈ (["add", "take", "least", "most", "less", "same"] : List Str)) {c a b : Int} (h0 : 0 ≤ c) (h1 : c < 5) (h2 : 0 ≤ a) (h3 : a < 5) (h4 : 0 ≤ b) (h5 : b < 5) : Rw at_ many (.tuple [.str w, .int c, .int a, .int b]) := by
  simp only [List.mem_cons, List.not_mem_nil, or_false] at hw
  rcases hw with rfl | rfl | rfl | rfl | rfl | rfl
  all_goals exact ⟨ys4 (.str _ (by decide +kernel)) (.int _ (by omega)) (.int _ (by omega)) (.int _ (by omega)), by
    rw [rowB_form (f := "ccc") (cs := [99, 99, 99]) (by decide +kernel) (by decide +kernel) _ rfl]
    simp [memB, inB, isIntB]; omega⟩
theorem rw_cmc {c m a : Int} (h0 : 0 ≤ c) (h1 : c < 5) (h2 : -1000 ≤ m) (h3 : m ≤ 1000) (h4 : 0 ≤ a) (h5 : a < 5) : Rw at_ many (.tuple [.str "times", .int c, .int m, .int a]) :=
  ⟨ys4 (.str _ (by decide +kernel)) (.int _ (by omega)) (.int _ (by omega)) (.int _ (by omega)), by
    rw [rowB_form (f := "cmc") (cs := [99, 109, 99]) (by decide +kernel) (by decide +kernel) _ rfl]
    simp [memB, inB, isIntB]; omega⟩
theorem rw_share {c a p q : Int} {w : Str} (hw : w ∈ (["down", "up", "near"] : List Str)) (h0 : 0 ≤ c) (h1 : c < 5) (h2 : 0 ≤ a) (h3 : a < 5) (h4 : 0 ≤ p) (h5 : p ≤ 1000) (h6 : 1 ≤ q) (h7 : q ≤ 1000) : Rw at_ many (.tuple [.str "share", .int c, .int a, .int p, .int q, .str w]) := by
  simp only [List.mem_cons, List.not_mem_nil, or_false] at hw
  rcases hw with rfl | rfl | rfl
  all_goals exact ⟨ys6 (.str _ (by decide +kernel)) (.int _ (by omega)) (.int _ (by omega)) (.int _ (by omega)) (.int _ (by omega)) (.str _ (by decide +kernel)), by
    rw [rowB_form (f := "ccpqw") (cs := [99, 99, 112, 113, 119]) (by decide +kernel) (by decide +kernel) _ rfl]
    simp [memB, inB, isIntB, oneB]; omega⟩
theorem rw_go {to : Int} (h0 : 0 ≤ at_) (h1 : at_ + 1 ≤ to) (h2 : to ≤ many) (h3 : many ≤ 1000) : Rw at_ many (.tuple [.str "go", .int to]) :=
  ⟨ys2 (.str _ (by decide +kernel)) (.int _ (by omega)), by
    rw [rowB_form (f := "t") (cs := [116]) (by decide +kernel) (by decide +kernel) _ rfl]
    simp [memB, inB, isIntB]; omega⟩
theorem rw_if {a to : Int} (h4 : 0 ≤ a) (h5 : a < 5) (h0 : 0 ≤ at_) (h1 : at_ + 1 ≤ to) (h2 : to ≤ many) (h3 : many ≤ 1000) : Rw at_ many (.tuple [.str "if", .int a, .int to]) :=
  ⟨ys3 (.str _ (by decide +kernel)) (.int _ (by omega)) (.int _ (by omega)), by
    rw [rowB_form (f := "ct") (cs := [99, 116]) (by decide +kernel) (by decide +kernel) _ rfl]
    simp [memB, inB, isIntB]; omega⟩
theorem rw_bare {a to : Int} (h4 : 0 ≤ a) (h5 : a < 5) (h0 : 0 ≤ at_) (h1 : at_ + 1 ≤ to) (h2 : to ≤ many) (h3 : many ≤ 1000) : Rw at_ many (.tuple [.str "bare", .int a, .int to]) :=
  ⟨ys3 (.str _ (by decide +kernel)) (.int _ (by omega)) (.int _ (by omega)), by
    rw [rowB_form (f := "it") (cs := [105, 116]) (by decide +kernel) (by decide +kernel) _ rfl]
    simp [memB, inB, isIntB]; omega⟩
theorem rw_note {w : Str} (hw : w ∈ (["p", "qq", "zoo", "alpha", "b"] : List Str)) : Rw at_ many (.tuple [.str "note", .str w]) := by
  have hb : wordB (.str w) = true := by
    have : ∀ w ∈ (["p", "qq", "zoo", "alpha", "b"] : List Str), wordB (.str w) = true := by decide +kernel
    exact this w hw
  have hl : w ∈ litW := by
    have : ∀ w ∈ (["p", "qq", "zoo", "alpha", "b"] : List Str), w ∈ litW := by decide +kernel
    exact this w hw
  exact ⟨ys2 (.str _ (by decide +kernel)) (.str _ hl), by
    rw [rowB_form (f := "l") (cs := [108]) (by decide +kernel) (by decide +kernel) _ rfl]
    simp [memB, hb]⟩
theorem rw_tell {a : Int} {w : Str} (hw : w ∈ (["int", "truth"] : List Str)) (h4 : 0 ≤ a) (h5 : a < 5) : Rw at_ many (.tuple [.str "tell", .int a, .str w]) := by
  simp only [List.mem_cons, List.not_mem_nil, or_false] at hw
  rcases hw with rfl | rfl
  all_goals exact ⟨ys3 (.str _ (by decide +kernel)) (.int _ (by omega)) (.str _ (by decide +kernel)), by
    rw [rowB_form (f := "cs") (cs := [99, 115]) (by decide +kernel) (by decide +kernel) _ rfl]
    simp [memB, inB, isIntB, oneB]; omega⟩
theorem rw_hangs {a : Int} (h4 : 0 ≤ a) (h5 : a < 5) : Rw at_ many (.tuple [.str "hangs", .int a]) :=
  ⟨ys2 (.str _ (by decide +kernel)) (.int _ (by omega)), by
    rw [rowB_form (f := "i") (cs := [105]) (by decide +kernel) (by decide +kernel) _ rfl]
    simp [memB, inB, isIntB]; omega⟩
end
def drwW : List Str := ["put", "put", "copy", "file", "told", "add", "take", "least", "most", "times", "share", "less", "same", "go", "if", "if", "bare", "note", "note", "tell", "hangs"]
theorem at_str {ws : List Str} {v : Int} (h0 : 0 ≤ v) (h1 : v < ws.length) : ∃ w, L2.atI (ws.map PyData.str) v = some (.str w) ∧ w ∈ ws := by
  obtain ⟨k, rfl⟩ : ∃ k : Nat, v = (k : Int) := ⟨v.toNat, by omega⟩
  have hk : k < ws.length := by omega
  exact ⟨ws[k], by rw [atI_nat, List.getElem?_map, List.getElem?_eq_getElem hk]; rfl, List.getElem_mem hk⟩
theorem at_int {ws : List Int} {v : Int} (h0 : 0 ≤ v) (h1 : v < ws.length) : ∃ w, L2.atI (ws.map PyData.int) v = some (.int w) ∧ w ∈ ws := by
  obtain ⟨k, rfl⟩ : ∃ k : Nat, v = (k : Int) := ⟨v.toNat, by omega⟩
  have hk : k < ws.length := by omega
  exact ⟨ws[k], by rw [atI_nat, List.getElem?_map, List.getElem?_eq_getElem hk]; rfl, List.getElem_mem hk⟩
theorem p20 : (10 : Int) ^ 20 = 100000000000000000000 := by decide +kernel
theorem row_run (n : Nat) {k many : Int} (h0 : 0 ≤ k) (h1 : k < many) (h2 : many ≤ 1000) {r c : Nat} {S : Store} (h : Wl r c S) (hc : c + 12 < 1000000000000) :
    Gd (run G T (n+2) f__law_row [.ref r, .p (.int k), .p (.int many), .p (.int 2)] S) fun d S' => Wl r (c + 12) S' ∧ Kp r S S' ∧ ∃ x, d = .p x ∧ Rw k many x := by
  refine Gd_run T__law_row rfl fun Q hQ => ?_
  have hQ : ∀ (x : PyData) S', Rw k many x → Wl r (c + 12) S' → Kp r S S' → Q (.p x) S' := fun x S' a b d => hQ _ _ ⟨b, d, x, rfl, a⟩
  (try simp -implicitDefEqProofs [look, lookB, isOwn, bindT_nm, bindT_tp, bindT_tl, bindT_td, bindTs_n, bindTs_c, bTs_some, wipeT, wipeTs, canSet, fitsL, truth, toP, eqOk, sc, items_sq, items_zip, items_enum, items1, kApp, kExt, PyData.eqv, at_0, at_1, at_2, at_3, at_4]); (try simp only [bind_assoc])
  refine Gd.bind (dip n 21 (by decide) (by decide) h (by omega)) ?_
  rintro _ S1 ⟨w1, kp1, v1, rfl, a1, b1⟩
  obtain ⟨w, ew1, hw⟩ := at_str (ws := drwW) a1 b1
  have ew1 : L2.atI [PyData.str (Str.ofString "put"), .str (Str.ofString "put"), .str (Str.ofString "copy"), .str (Str.ofString "file"), .str (Str.ofString "told"), .str (Str.ofString "add"), .str (Str.ofString "take"), .str (Str.ofString "least"), .str (Str.ofString "most"), .str (Str.ofString "times"), .str (Str.ofString "share"), .str (Str.ofString "less"), .str (Str.ofString "same"), .str (Str.ofString "go"), .str (Str.ofString "if"), .str (Str.ofString "if"), .str (Str.ofString "bare"), .str (Str.ofString "note"), .str (Str.ofString "note"), .str (Str.ofString "tell"), .str (Str.ofString "hangs")] v1 = some (.str w) := ew1
  (try simp -implicitDefEqProofs [look, lookB, isOwn, bindT_nm, bindT_tp, bindT_tl, bindT_td, bindTs_n, bindTs_c, bTs_some, wipeT, wipeTs, canSet, fitsL, truth, toP, eqOk, sc, items_sq, items_zip, items_enum, items1, kApp, kExt, PyData.eqv, at_0, at_1, at_2, at_3, at_4, ew1]); (try simp only [bind_assoc])
  refine Gd.bind (dip n 5 (by decide) (by decide) w1 (by omega)) ?_
  rintro _ S2 ⟨w2, kp2, c1, rfl, a2, b2⟩
  (try simp -implicitDefEqProofs [look, lookB, isOwn, bindT_nm, bindT_tp, bindT_tl, bindT_td, bindTs_n, bindTs_c, bTs_some, wipeT, wipeTs, canSet, fitsL, truth, toP, eqOk, sc, items_sq, items_zip, items_enum, items1, kApp, kExt, PyData.eqv, at_0, at_1, at_2, at_3, at_4]); (try simp only [bind_assoc])
  refine Gd.bind (dip n 5 (by decide) (by decide) w2 (by omega)) ?_
  rintro _ S3 ⟨w3, kp3, c2, rfl, a3, b3⟩
  (try simp -implicitDefEqProofs [look, lookB, isOwn, bindT_nm, bindT_tp, bindT_tl, bindT_td, bindTs_n, bindTs_c, bTs_some, wipeT, wipeTs, canSet, fitsL, truth, toP, eqOk, sc, items_sq, items_zip, items_enum, items1, kApp, kExt, PyData.eqv, at_0, at_1, at_2, at_3, at_4]); (try simp only [bind_assoc])
  refine Gd.bind (dip n 5 (by decide) (by decide) w3 (by omega)) ?_
  rintro _ S4 ⟨w4, kp4, c3, rfl, a4, b4⟩
  (try simp -implicitDefEqProofs [look, lookB, isOwn, bindT_nm, bindT_tp, bindT_tl, bindT_td, bindTs_n, bindTs_c, bTs_some, wipeT, wipeTs, canSet, fitsL, truth, toP, eqOk, sc, items_sq, items_zip, items_enum, items1, kApp, kExt, PyData.eqv, at_0, at_1, at_2, at_3, at_4]); (try simp only [bind_assoc])
  obtain ⟨mn, emn, mn0, mn1, mn2⟩ : ∃ mn : Int, (if (6 : Int) < many - k then (6 : Int) else many - k) = mn ∧ 0 < mn ∧ mn ≤ 6 ∧ mn ≤ many - k := ⟨_, rfl, by split <;> omega, by split <;> omega, by split <;> omega⟩
  (try simp -implicitDefEqProofs [look, lookB, isOwn, bindT_nm, bindT_tp, bindT_tl, bindT_td, bindTs_n, bindTs_c, bTs_some, wipeT, wipeTs, canSet, fitsL, truth, toP, eqOk, sc, items_sq, items_zip, items_enum, items1, kApp, kExt, PyData.eqv, at_0, at_1, at_2, at_3, at_4, emn]); (try simp only [bind_assoc])
  refine Gd.bind (dip n mn mn0 (by omega) w4 (by omega)) ?_
  rintro _ S5 ⟨w5, kp5, j, rfl, a5, b5⟩
  have kp := (((kp1.trans kp2).trans kp3).trans kp4).trans kp5
  clear kp1 kp2 kp3 kp4 kp5 w1 w2 w3 w4
  generalize hto : k + 1 + j = to at *
  have t1 : k + 1 ≤ to := by omega
  have t2 : to ≤ many := by omega
  (try simp -implicitDefEqProofs [look, lookB, isOwn, bindT_nm, bindT_tp, bindT_tl, bindT_td, bindTs_n, bindTs_c, bTs_some, wipeT, wipeTs, canSet, fitsL, truth, toP, eqOk, sc, items_sq, items_zip, items_enum, items1, kApp, kExt, PyData.eqv, at_0, at_1, at_2, at_3, at_4, hto, -p_mem_0]); (try simp only [bind_assoc])
  have fin : ∀ (x : PyData) (S6 E : Store), Rw k many x → Wl r (c + 12) S6 → Kp r S5 S6 → Q (.p x) (S6 ++ E) := fun x S6 E q1 q2 q3 => hQ x _ q1 (q2.app E) ((kp.trans q3).trans (Kp.app r S6 E))
  simp only [drwW, List.mem_cons, List.not_mem_nil, or_false] at hw
  have hw4 : w ∈ (["put", "copy", "file", "told"] : List Str) ∨ w ∈ (["go", "if", "bare"] : List Str) ∨ w ∈ (["note", "tell", "hangs"] : List Str) ∨ w = Str.ofString "times" ∨ w = Str.ofString "share" ∨ w ∈ (["add", "take", "least", "most", "less", "same"] : List Str) := by
    rcases hw with rfl | rfl | rfl | rfl | rfl | rfl | rfl | rfl | rfl | rfl | rfl | rfl | rfl | rfl | rfl | rfl | rfl | rfl | rfl | rfl | rfl
    all_goals simp
  clear hw
  rcases hw4 with hw | hw | hw | rfl | rfl | hw
  · have mm : p_mem [.p (.str w), .p (.list [.str (Str.ofString "put"), .str (Str.ofString "copy"), .str (Str.ofString "file"), .str (Str.ofString "told")])] = some (.p (.bool true)) := by
      simp only [List.mem_cons, List.not_mem_nil, or_false] at hw
      rcases hw with rfl | rfl | rfl | rfl <;> simp [flat, eqv_strQ, -PyData.eqv]
    (try simp -implicitDefEqProofs [look, lookB, isOwn, bindT_nm, bindT_tp, bindT_tl, bindT_td, bindTs_n, bindTs_c, bTs_some, wipeT, wipeTs, canSet, fitsL, truth, toP, eqOk, sc, items_sq, items_zip, items_enum, items1, kApp, kExt, PyData.eqv, at_0, at_1, at_2, at_3, at_4, mm, -p_mem_0, p20]); (try simp only [bind_assoc])
    refine Gd.bind (dip n 5 (by decide) (by decide) w5 (by omega)) ?_
    rintro _ S6 ⟨w6, kp6, v6, rfl, a6, b6⟩
    obtain ⟨x6, e6, hx6⟩ := at_int (ws := [0, 1, 1, -3, 100000000000000000000]) a6 b6
    have e6 : L2.atI [PyData.int 0, .int 1, .int 1, .int (-3), .int 100000000000000000000] v6 = some (.int x6) := e6
    (try simp -implicitDefEqProofs [look, lookB, isOwn, bindT_nm, bindT_tp, bindT_tl, bindT_td, bindTs_n, bindTs_c, bTs_some, wipeT, wipeTs, canSet, fitsL, truth, toP, eqOk, sc, items_sq, items_zip, items_enum, items1, kApp, kExt, PyData.eqv, at_0, at_1, at_2, at_3, at_4, e6]); (try simp only [bind_assoc])
    refine Gd.bind (dip n 2 (by decide) (by decide) w6 (by omega)) ?_
    rintro _ S7 ⟨w7, kp7, v7, rfl, a7, b7⟩
    (try simp -implicitDefEqProofs [look, lookB, isOwn, bindT_nm, bindT_tp, bindT_tl, bindT_td, bindTs_n, bindTs_c, bTs_some, wipeT, wipeTs, canSet, fitsL, truth, toP, eqOk, sc, items_sq, items_zip, items_enum, items1, kApp, kExt, PyData.eqv, at_0, at_1, at_2, at_3, at_4]); (try simp only [bind_assoc])
    refine Gd.bind (dip n 4 (by decide) (by decide) w7 (by omega)) ?_
    rintro _ S8 ⟨w8, kp8, v8, rfl, a8, b8⟩
    (try simp -implicitDefEqProofs [look, lookB, isOwn, bindT_nm, bindT_tp, bindT_tl, bindT_td, bindTs_n, bindTs_c, bTs_some, wipeT, wipeTs, canSet, fitsL, truth, toP, eqOk, sc, items_sq, items_zip, items_enum, items1, kApp, kExt, PyData.eqv, at_0, at_1, at_2, at_3, at_4]); (try simp only [bind_assoc])
    refine Gd.bind (dip n 9 (by decide) (by decide) w8 (by omega)) ?_
    rintro _ S9 ⟨w9, kp9, v9, rfl, a9, b9⟩
    obtain ⟨y, ey, hy0, hy1⟩ : ∃ y : Int, L2.atI [PyData.int v8, .int 9] (if v9 = 0 then 1 else 0) = some (.int y) ∧ 0 ≤ y ∧ y < 10 := by
      by_cases z : v9 = 0
      · exact ⟨9, by rw [if_pos z]; rfl, by decide, by decide⟩
      · exact ⟨v8, by rw [if_neg z]; rfl, a8, by omega⟩
    have hx6' : x6.natAbs ≤ 100000000000000000000 := by
      simp only [List.mem_cons, List.not_mem_nil, or_false] at hx6
      rcases hx6 with rfl | rfl | rfl | rfl | rfl <;> decide
    have kpp := ((kp6.trans kp7).trans kp8).trans kp9
    have w9' := w9.up (c' := c + 12) (by omega)
    (try simp -implicitDefEqProofs [look, lookB, isOwn, bindT_nm, bindT_tp, bindT_tl, bindT_td, bindTs_n, bindTs_c, bTs_some, wipeT, wipeTs, canSet, fitsL, truth, toP, eqOk, sc, items_sq, items_zip, items_enum, items1, kApp, kExt, PyData.eqv, at_0, at_1, at_2, at_3, at_4, eqv_iQ, ey]); (try simp only [bind_assoc])
    simp only [List.mem_cons, List.not_mem_nil, or_false] at hw
    rcases hw with rfl | rfl | rfl | rfl
    · (try simp -implicitDefEqProofs [look, lookB, isOwn, bindT_nm, bindT_tp, bindT_tl, bindT_td, bindTs_n, bindTs_c, bTs_some, wipeT, wipeTs, canSet, fitsL, truth, toP, eqOk, sc, items_sq, items_zip, items_enum, items1, kApp, kExt, PyData.eqv, at_0, at_1, at_2, at_3, at_4, dfind]); (try simp only [bind_assoc])
      exact fin _ _ _ (rw_put a2 b2 hx6') w9' kpp
    · (try simp -implicitDefEqProofs [look, lookB, isOwn, bindT_nm, bindT_tp, bindT_tl, bindT_td, bindTs_n, bindTs_c, bTs_some, wipeT, wipeTs, canSet, fitsL, truth, toP, eqOk, sc, items_sq, items_zip, items_enum, items1, kApp, kExt, PyData.eqv, at_0, at_1, at_2, at_3, at_4, dfind]); (try simp only [bind_assoc])
      exact fin _ _ _ (rw_cc (by simp) a2 b2 a3 b3) w9' kpp
    · (try simp -implicitDefEqProofs [look, lookB, isOwn, bindT_nm, bindT_tp, bindT_tl, bindT_td, bindTs_n, bindTs_c, bTs_some, wipeT, wipeTs, canSet, fitsL, truth, toP, eqOk, sc, items_sq, items_zip, items_enum, items1, kApp, kExt, PyData.eqv, at_0, at_1, at_2, at_3, at_4, dfind]); (try simp only [bind_assoc])
      exact fin _ _ _ (rw_ci (by simp) a2 b2 a7 (by omega)) w9' kpp
    · (try simp -implicitDefEqProofs [look, lookB, isOwn, bindT_nm, bindT_tp, bindT_tl, bindT_td, bindTs_n, bindTs_c, bTs_some, wipeT, wipeTs, canSet, fitsL, truth, toP, eqOk, sc, items_sq, items_zip, items_enum, items1, kApp, kExt, PyData.eqv, at_0, at_1, at_2, at_3, at_4, dfind]); (try simp only [bind_assoc])
      exact fin _ _ _ (rw_ci (by simp) a2 b2 hy0 hy1) w9' kpp
  · have mm : p_mem [.p (.str w), .p (.list [.str (Str.ofString "put"), .str (Str.ofString "copy"), .str (Str.ofString "file"), .str (Str.ofString "told")])] = some (.p (.bool false)) ∧ p_mem [.p (.str w), .p (.list [.str (Str.ofString "go"), .str (Str.ofString "if"), .str (Str.ofString "bare")])] = some (.p (.bool true)) := by
      simp only [List.mem_cons, List.not_mem_nil, or_false] at hw
      rcases hw with rfl | rfl | rfl <;> simp [flat, eqv_strQ, -PyData.eqv]
    (try simp -implicitDefEqProofs [look, lookB, isOwn, bindT_nm, bindT_tp, bindT_tl, bindT_td, bindTs_n, bindTs_c, bTs_some, wipeT, wipeTs, canSet, fitsL, truth, toP, eqOk, sc, items_sq, items_zip, items_enum, items1, kApp, kExt, PyData.eqv, at_0, at_1, at_2, at_3, at_4, mm.1, mm.2, -p_mem_0]); (try simp only [bind_assoc])
    refine Gd.bind (dip n 4 (by decide) (by decide) w5 (by omega)) ?_
    rintro _ S6 ⟨w6, kp6, v6, rfl, a6, b6⟩
    have w6' := w6.up (c' := c + 12) (by omega)
    (try simp -implicitDefEqProofs [look, lookB, isOwn, bindT_nm, bindT_tp, bindT_tl, bindT_td, bindTs_n, bindTs_c, bTs_some, wipeT, wipeTs, canSet, fitsL, truth, toP, eqOk, sc, items_sq, items_zip, items_enum, items1, kApp, kExt, PyData.eqv, at_0, at_1, at_2, at_3, at_4]); (try simp only [bind_assoc])
    simp only [List.mem_cons, List.not_mem_nil, or_false] at hw
    rcases hw with rfl | rfl | rfl
    · (try simp -implicitDefEqProofs [look, lookB, isOwn, bindT_nm, bindT_tp, bindT_tl, bindT_td, bindTs_n, bindTs_c, bTs_some, wipeT, wipeTs, canSet, fitsL, truth, toP, eqOk, sc, items_sq, items_zip, items_enum, items1, kApp, kExt, PyData.eqv, at_0, at_1, at_2, at_3, at_4, dfind]); (try simp only [bind_assoc])
      exact fin _ _ _ (rw_go h0 t1 t2 h2) w6' kp6
    · (try simp -implicitDefEqProofs [look, lookB, isOwn, bindT_nm, bindT_tp, bindT_tl, bindT_td, bindTs_n, bindTs_c, bTs_some, wipeT, wipeTs, canSet, fitsL, truth, toP, eqOk, sc, items_sq, items_zip, items_enum, items1, kApp, kExt, PyData.eqv, at_0, at_1, at_2, at_3, at_4, dfind]); (try simp only [bind_assoc])
      exact fin _ _ _ (rw_if a3 b3 h0 t1 t2 h2) w6' kp6
    · (try simp -implicitDefEqProofs [look, lookB, isOwn, bindT_nm, bindT_tp, bindT_tl, bindT_td, bindTs_n, bindTs_c, bTs_some, wipeT, wipeTs, canSet, fitsL, truth, toP, eqOk, sc, items_sq, items_zip, items_enum, items1, kApp, kExt, PyData.eqv, at_0, at_1, at_2, at_3, at_4, dfind]); (try simp only [bind_assoc])
      exact fin _ _ _ (rw_bare a6 (by omega) h0 t1 t2 h2) w6' kp6
  · have mm : p_mem [.p (.str w), .p (.list [.str (Str.ofString "put"), .str (Str.ofString "copy"), .str (Str.ofString "file"), .str (Str.ofString "told")])] = some (.p (.bool false)) ∧ p_mem [.p (.str w), .p (.list [.str (Str.ofString "go"), .str (Str.ofString "if"), .str (Str.ofString "bare")])] = some (.p (.bool false)) ∧ p_mem [.p (.str w), .p (.list [.str (Str.ofString "note"), .str (Str.ofString "tell"), .str (Str.ofString "hangs")])] = some (.p (.bool true)) := by
      simp only [List.mem_cons, List.not_mem_nil, or_false] at hw
      rcases hw with rfl | rfl | rfl <;> simp [flat, eqv_strQ, -PyData.eqv]
    (try simp -implicitDefEqProofs [look, lookB, isOwn, bindT_nm, bindT_tp, bindT_tl, bindT_td, bindTs_n, bindTs_c, bTs_some, wipeT, wipeTs, canSet, fitsL, truth, toP, eqOk, sc, items_sq, items_zip, items_enum, items1, kApp, kExt, PyData.eqv, at_0, at_1, at_2, at_3, at_4, mm.1, mm.2.1, mm.2.2, -p_mem_0]); (try simp only [bind_assoc])
    refine Gd.bind (dip n 5 (by decide) (by decide) w5 (by omega)) ?_
    rintro _ S6 ⟨w6, kp6, v6, rfl, a6, b6⟩
    obtain ⟨x6, e6, hx6⟩ := at_str (ws := ["p", "qq", "zoo", "alpha", "b"]) a6 b6
    have e6 : L2.atI [PyData.str (Str.ofString "p"), .str (Str.ofString "qq"), .str (Str.ofString "zoo"), .str (Str.ofString "alpha"), .str (Str.ofString "b")] v6 = some (.str x6) := e6
    (try simp -implicitDefEqProofs [look, lookB, isOwn, bindT_nm, bindT_tp, bindT_tl, bindT_td, bindTs_n, bindTs_c, bTs_some, wipeT, wipeTs, canSet, fitsL, truth, toP, eqOk, sc, items_sq, items_zip, items_enum, items1, kApp, kExt, PyData.eqv, at_0, at_1, at_2, at_3, at_4, e6]); (try simp only [bind_assoc])
    refine Gd.bind (dip n 2 (by decide) (by decide) w6 (by omega)) ?_
    rintro _ S7 ⟨w7, kp7, v7, rfl, a7, b7⟩
    obtain ⟨x7, e7, hx7⟩ := at_str (ws := ["int", "truth"]) a7 b7
    have e7 : L2.atI [PyData.str (Str.ofString "int"), .str (Str.ofString "truth")] v7 = some (.str x7) := e7
    (try simp -implicitDefEqProofs [look, lookB, isOwn, bindT_nm, bindT_tp, bindT_tl, bindT_td, bindTs_n, bindTs_c, bTs_some, wipeT, wipeTs, canSet, fitsL, truth, toP, eqOk, sc, items_sq, items_zip, items_enum, items1, kApp, kExt, PyData.eqv, at_0, at_1, at_2, at_3, at_4, e7]); (try simp only [bind_assoc])
    refine Gd.bind (dip n 4 (by decide) (by decide) w7 (by omega)) ?_
    rintro _ S8 ⟨w8, kp8, v8, rfl, a8, b8⟩
    have kpp := (kp6.trans kp7).trans kp8
    have w8' := w8.up (c' := c + 12) (by omega)
    (try simp -implicitDefEqProofs [look, lookB, isOwn, bindT_nm, bindT_tp, bindT_tl, bindT_td, bindTs_n, bindTs_c, bTs_some, wipeT, wipeTs, canSet, fitsL, truth, toP, eqOk, sc, items_sq, items_zip, items_enum, items1, kApp, kExt, PyData.eqv, at_0, at_1, at_2, at_3, at_4]); (try simp only [bind_assoc])
    simp only [List.mem_cons, List.not_mem_nil, or_false] at hw
    rcases hw with rfl | rfl | rfl
    · (try simp -implicitDefEqProofs [look, lookB, isOwn, bindT_nm, bindT_tp, bindT_tl, bindT_td, bindTs_n, bindTs_c, bTs_some, wipeT, wipeTs, canSet, fitsL, truth, toP, eqOk, sc, items_sq, items_zip, items_enum, items1, kApp, kExt, PyData.eqv, at_0, at_1, at_2, at_3, at_4, dfind]); (try simp only [bind_assoc])
      exact fin _ _ _ (rw_note hx6) w8' kpp
    · (try simp -implicitDefEqProofs [look, lookB, isOwn, bindT_nm, bindT_tp, bindT_tl, bindT_td, bindTs_n, bindTs_c, bTs_some, wipeT, wipeTs, canSet, fitsL, truth, toP, eqOk, sc, items_sq, items_zip, items_enum, items1, kApp, kExt, PyData.eqv, at_0, at_1, at_2, at_3, at_4, dfind]); (try simp only [bind_assoc])
      exact fin _ _ _ (rw_tell hx7 a3 b3) w8' kpp
    · (try simp -implicitDefEqProofs [look, lookB, isOwn, bindT_nm, bindT_tp, bindT_tl, bindT_td, bindTs_n, bindTs_c, bTs_some, wipeT, wipeTs, canSet, fitsL, truth, toP, eqOk, sc, items_sq, items_zip, items_enum, items1, kApp, kExt, PyData.eqv, at_0, at_1, at_2, at_3, at_4, dfind]); (try simp only [bind_assoc])
      exact fin _ _ _ (rw_hangs a8 (by omega)) w8' kpp
  · (try simp -implicitDefEqProofs [look, lookB, isOwn, bindT_nm, bindT_tp, bindT_tl, bindT_td, bindTs_n, bindTs_c, bTs_some, wipeT, wipeTs, canSet, fitsL, truth, toP, eqOk, sc, items_sq, items_zip, items_enum, items1, kApp, kExt, PyData.eqv, at_0, at_1, at_2, at_3, at_4, eqv_strQ, -PyData.eqv, flat]); (try simp only [bind_assoc])
    refine Gd.bind (dip n 4 (by decide) (by decide) w5 (by omega)) ?_
    rintro _ S6 ⟨w6, kp6, v6, rfl, a6, b6⟩
    obtain ⟨x6, e6, hx6⟩ := at_int (ws := [2, -1, 0, 1000]) a6 b6
    have e6 : L2.atI [PyData.int 2, .int (-1), .int 0, .int 1000] v6 = some (.int x6) := e6
    have hx6' : -1000 ≤ x6 ∧ x6 ≤ 1000 := by
      simp only [List.mem_cons, List.not_mem_nil, or_false] at hx6
      rcases hx6 with rfl | rfl | rfl | rfl <;> decide
    (try simp -implicitDefEqProofs [look, lookB, isOwn, bindT_nm, bindT_tp, bindT_tl, bindT_td, bindTs_n, bindTs_c, bTs_some, wipeT, wipeTs, canSet, fitsL, truth, toP, eqOk, sc, items_sq, items_zip, items_enum, items1, kApp, kExt, PyData.eqv, at_0, at_1, at_2, at_3, at_4, e6]); (try simp only [bind_assoc])
    exact hQ _ _ (rw_cmc a2 b2 hx6'.1 hx6'.2 a3 b3) (w6.up (by omega)) (kp.trans kp6)
  · (try simp -implicitDefEqProofs [look, lookB, isOwn, bindT_nm, bindT_tp, bindT_tl, bindT_td, bindTs_n, bindTs_c, bTs_some, wipeT, wipeTs, canSet, fitsL, truth, toP, eqOk, sc, items_sq, items_zip, items_enum, items1, kApp, kExt, PyData.eqv, at_0, at_1, at_2, at_3, at_4, eqv_strQ, -PyData.eqv, flat]); (try simp only [bind_assoc])
    refine Gd.bind (dip n 5 (by decide) (by decide) w5 (by omega)) ?_
    rintro _ S6 ⟨w6, kp6, v6, rfl, a6, b6⟩
    (try simp -implicitDefEqProofs [look, lookB, isOwn, bindT_nm, bindT_tp, bindT_tl, bindT_td, bindTs_n, bindTs_c, bTs_some, wipeT, wipeTs, canSet, fitsL, truth, toP, eqOk, sc, items_sq, items_zip, items_enum, items1, kApp, kExt, PyData.eqv, at_0, at_1, at_2, at_3, at_4]); (try simp only [bind_assoc])
    refine Gd.bind (dip n 5 (by decide) (by decide) w6 (by omega)) ?_
    rintro _ S7 ⟨w7, kp7, v7, rfl, a7, b7⟩
    (try simp -implicitDefEqProofs [look, lookB, isOwn, bindT_nm, bindT_tp, bindT_tl, bindT_td, bindTs_n, bindTs_c, bTs_some, wipeT, wipeTs, canSet, fitsL, truth, toP, eqOk, sc, items_sq, items_zip, items_enum, items1, kApp, kExt, PyData.eqv, at_0, at_1, at_2, at_3, at_4]); (try simp only [bind_assoc])
    refine Gd.bind (dip n 3 (by decide) (by decide) w7 (by omega)) ?_
    rintro _ S8 ⟨w8, kp8, v8, rfl, a8, b8⟩
    obtain ⟨x8, e8, hx8⟩ := at_str (ws := ["down", "up", "near"]) a8 b8
    have e8 : L2.atI [PyData.str (Str.ofString "down"), .str (Str.ofString "up"), .str (Str.ofString "near")] v8 = some (.str x8) := e8
    (try simp -implicitDefEqProofs [look, lookB, isOwn, bindT_nm, bindT_tp, bindT_tl, bindT_td, bindTs_n, bindTs_c, bTs_some, wipeT, wipeTs, canSet, fitsL, truth, toP, eqOk, sc, items_sq, items_zip, items_enum, items1, kApp, kExt, PyData.eqv, at_0, at_1, at_2, at_3, at_4, e8]); (try simp only [bind_assoc])
    exact hQ _ _ (rw_share hx8 a2 b2 a3 b3 a6 (by omega) (by omega) (by omega)) (w8.up (by omega)) (kp.trans ((kp6.trans kp7).trans kp8))
  · have hh := hw
    simp only [List.mem_cons, List.not_mem_nil, or_false] at hh
    rcases hh with rfl | rfl | rfl | rfl | rfl | rfl
    all_goals ((try simp -implicitDefEqProofs [look, lookB, isOwn, bindT_nm, bindT_tp, bindT_tl, bindT_td, bindTs_n, bindTs_c, bTs_some, wipeT, wipeTs, canSet, fitsL, truth, toP, eqOk, sc, items_sq, items_zip, items_enum, items1, kApp, kExt, PyData.eqv, at_0, at_1, at_2, at_3, at_4, eqv_strQ, -PyData.eqv, flat]); (try simp only [bind_assoc]); exact hQ _ _ (rw_ccc hw a2 b2 a3 b3 a4 b4) (w5.up (by omega)) kp)
end EC

namespace EC
open PySem
/-! ### rows as data -/
mutual
def sm : PyData → Bool
  | .none => true
  | .bool _ => true
  | .int _ => true
  | .str _ => true
  | .list xs => decide (xs.length ≤ 1000) && smAll xs
  | .tuple xs => decide (xs.length ≤ 1000) && smAll xs
  | _ => false
def smAll : List PyData → Bool
  | [] => true
  | x :: xs => sm x && smAll xs
end
theorem sm_mem : ∀ {xs : List PyData} {x : PyData}, smAll xs = true → x ∈ xs → sm x = true
  | y :: ys, x, h, hx => by
    rw [smAll, Bool.and_eq_true] at h
    rcases List.mem_cons.mp hx with rfl | hx
    · exact h.1
    · exact sm_mem h.2 hx
theorem depth_mem : ∀ {xs : List PyData} {x : PyData}, x ∈ xs → x.depth ≤ PyData.depthAll xs
  | y :: ys, x, hx => by
    rw [PyData.depthAll]
    rcases List.mem_cons.mp hx with rfl | hx
    · omega
    · have := depth_mem hx
      omega
theorem depAll_le {n : Nat} : ∀ {xs : List PyData}, (∀ x ∈ xs, x.depth ≤ n) → PyData.depthAll xs ≤ n
  | [], _ => by simp [PyData.depthAll]
  | x :: xs, h => by
    have h1 := h x List.mem_cons_self
    have h2 := depAll_le fun y hy => h y (List.mem_cons_of_mem _ hy)
    simp only [PyData.depthAll]
    omega
/-- short data: what rows are -/
structure Tdy (d b : Nat) (x : PyData) : Prop where
  sh : Sh x = true
  lay : x.canLay0 = true
  lf : x.leavesShort 40 = true
  sw : x.showable = true
  nd : x.hasDict = false
  dep : x.depth ≤ d
  blk : x.bulk ≤ b
  s : sm x = true
theorem tdy_int {i : Int} (h : i.natAbs ≤ 100000000000000000000) : Tdy 0 10 (.int i) := by
  have h38 : i.natAbs < 10 ^ 38 := by
    have e : (10 : Nat) ^ 38 = 100000000000000000000000000000000000000 := by decide +kernel
    rw [e]; omega
  have hl := int_text_length_le10 (a := i) (k := 38) (by decide) h38
  refine ⟨rfl, rfl, ?_, ?_, rfl, by simp [PyData.depth], by simp [PyData.bulk], rfl⟩
  · simp only [PyData.leavesShort, decide_eq_true_eq]
    show (Str.ofString (toString i)).length ≤ 40
    rw [ofString_length]
    omega
  · simp only [PyData.showable, decide_eq_true_eq]
    by_cases e : i.natAbs = 0
    · rw [e]; decide
    · have := (Nat.log2_lt (k := 200) e).mpr (by
        have e : (2 : Nat) ^ 200 = 1606938044258990275541962092341162602522202993782792835301376 := by decide +kernel
        omega)
      omega
theorem tdy_str {w : Str} (h : w ∈ litW) : Tdy 0 10 (.str w) := by
  have all : ∀ w ∈ litW, w.length ≤ 10 ∧ PyData.strOk w = true ∧ (PyData.str w).leavesShort 40 = true ∧ (PyData.str w).bulk ≤ 10 := by decide +kernel
  obtain ⟨h1, h2, h3, h4⟩ := all w h
  exact ⟨by simp [Sh]; omega, by simpa [PyData.canLay0] using h2, h3, rfl, rfl, by simp [PyData.depth], h4, rfl⟩
theorem Leaf.tdy {x : PyData} (h : Leaf x) : Tdy 0 10 x := by
  cases h with
  | int i h => exact tdy_int h
  | str w h => exact tdy_str h
theorem tdy_all {d b : Nat} : ∀ {xs : List PyData}, (∀ x ∈ xs, Tdy d b x) → ShAll xs = true ∧ PyData.canLayAll0 xs = true ∧ PyData.leavesShortAll 40 xs = true ∧ PyData.showableAll xs = true ∧ PyData.hasDictAll xs = false ∧ PyData.bulkAll xs ≤ (b + 1) * xs.length ∧ smAll xs = true
  | [], _ => ⟨rfl, rfl, rfl, rfl, rfl, by simp [PyData.bulkAll], rfl⟩
  | x :: xs, h => by
    obtain ⟨a1, a2, a3, a4, a5, a6, a7⟩ := tdy_all fun y hy => h y (List.mem_cons_of_mem _ hy)
    have q := h x List.mem_cons_self
    refine ⟨by rw [ShAll, q.sh, a1]; rfl, by rw [PyData.canLayAll0, q.lay, a2]; rfl, by rw [PyData.leavesShortAll, q.lf, a3]; rfl, by rw [PyData.showableAll, q.sw, a4]; rfl, by rw [PyData.hasDictAll, q.nd, a5]; rfl, ?_, by rw [smAll, q.s, a7]; rfl⟩
    have := q.blk
    rw [PyData.bulkAll, List.length_cons, Nat.mul_succ]
    omega
theorem Tdy.tup {d b n : Nat} {xs : List PyData} (h : ∀ x ∈ xs, Tdy d b x) (hl : xs.length ≤ n) (hn : n ≤ 1000) : Tdy (d + 1) ((b + 1) * n) (.tuple xs) := by
  obtain ⟨a1, a2, a3, a4, a5, a6, a7⟩ := tdy_all h
  have dp := depAll_le fun x hx => (h x hx).dep
  refine ⟨by rw [Sh]; exact a1, by rw [PyData.canLay0]; exact a2, by rw [PyData.leavesShort]; exact a3, by rw [PyData.showable]; exact a4, by rw [PyData.hasDict]; exact a5, by simp only [PyData.depth]; omega, ?_, by rw [sm, a7, decide_eq_true (by omega)]; rfl⟩
  simp only [PyData.bulk]
  exact Nat.le_trans a6 (Nat.mul_le_mul_left _ hl)
theorem Tdy.up {d b d' b' : Nat} {x : PyData} (h : Tdy d b x) (hd : d ≤ d') (hb : b ≤ b') : Tdy d' b' x := ⟨h.sh, h.lay, h.lf, h.sw, h.nd, Nat.le_trans h.dep hd, Nat.le_trans h.blk hb, h.s⟩
theorem Rw.tdy {a m : Int} {x : PyData} (h : Rw a m x) : Tdy 1 66 x := by
  obtain ⟨ys, rfl, hl, hy⟩ := h.ex
  exact (Tdy.tup (fun y q => (hy y q).tdy) hl (by decide)).up (by decide) (by decide)
/-- rows -/
structure RwL (xs : List PyData) : Prop where
  len : xs.length ≤ 300
  rw : ∀ (i : Nat) (x : PyData), xs[i]? = some x → Rw (i : Int) (xs.length : Int) x
theorem RwL.mem {xs : List PyData} (h : RwL xs) : ∀ x ∈ xs, Tdy 1 66 x := fun x hx => by
  obtain ⟨i, hi, e⟩ := List.getElem_of_mem hx
  exact (h.rw i x (by rw [List.getElem?_eq_getElem hi, e])).tdy
theorem RwL.tdy {xs : List PyData} (h : RwL xs) : Tdy 2 20100 (.tuple xs) := (Tdy.tup h.mem h.len (by decide)).up (by decide) (by decide)
theorem RwL.repr {xs : List PyData} (h : RwL xs) : reprOk (.tuple xs) = true := by
  have t := h.tdy
  have s6 := PyData.shown_le_bulk 40 (by decide) _ t.lf
  have := t.blk
  have := t.dep
  simp only [reprOk, t.sw, t.nd, Bool.and_eq_true, decide_eq_true_eq, Bool.not_false, Bool.and_true, true_and]
  omega
theorem allR_of {many : Int} : ∀ (xs : List PyData) (k : Nat), (∀ (i : Nat) (x : PyData), xs[i]? = some x → rowB ((k + i : Nat) : Int) many x = true) → allR many k xs = true
  | [], _, _ => rfl
  | x :: xs, k, h => by
    have h0 := h 0 x rfl
    rw [allR, allR_of xs (k + 1) fun i y hy => by
      have := h (i + 1) y (by simpa using hy)
      rwa [show k + (i + 1) = k + 1 + i from by omega] at this]
    rw [Nat.add_zero] at h0
    rw [h0]; rfl
theorem RwL.check {xs : List PyData} (h : RwL xs) (n : Nat) (S : Store) : ∃ E, run G T (n+6) f_check_rows [.p (.tuple xs)] S = .ok (.p .none) (S ++ E) := by
  have t := h.tdy
  have hl := h.len
  exact check_ok n xs (by simpa [Sh] using t.sh) (by simpa [PyData.canLay0] using t.lay) (by omega) (allR_of xs 0 fun i x hx => by rw [Nat.zero_add]; exact (h.rw i x hx).ok) S
/-! ### rows drawn -/
theorem rngD_consT (k : Int) (n : Nat) : rngD k (n + 1) = .p (.int k) :: rngD (k + 1) n := by
  unfold rngD
  rw [List.range_succ_eq_map, List.map_cons, List.map_map]
  congr 1
  · simp
  · refine List.map_congr_left fun i _ => ?_
    simp only [Function.comp, Nat.succ_eq_add_one]
    congr 2
    omega
theorem draw_comp (n many : Nat) (hm : many ≤ 1000) {r : Nat} (a3 : Slot) : ∀ (m lo c : Nat) (S : Store), Wl r c S → c + 12 * m < 1000000000000 → lo + m = many →
    ∃ ys S', compL (stepC G (run G T (n+2)) (.nm 3) [] (.call f__law_row [] [.v 0, .v 3, .v 1, .v 2]) [.v (.ref r), .v (.p (.int many)), .v (.p (.int 2)), a3]) (rngD (lo : Int) m) S = .ok ys S' ∧ Wl r (c + 12 * m) S' ∧ Kp r S S' ∧ ys.length = m ∧ ∀ (i : Nat) (y : PyData), ys[i]? = some y → Rw ((lo + i : Nat) : Int) (many : Int) y
  | 0, lo, c, S, h, _, _ => ⟨[], S, rfl, h, Kp.refl r S, rfl, fun i y e => by simp at e⟩
  | m + 1, lo, c, S, h, hc, hl => by
    obtain ⟨_, S1, e1, w1, k1, x, rfl, rx⟩ := row_run n (k := (lo : Int)) (many := (many : Int)) (by omega) (by omega) (by omega) h (by omega)
    obtain ⟨ys, S2, e2, w2, k2, l2, q2⟩ := draw_comp n many hm a3 m (lo + 1) (c + 12) S1 w1 (by omega) (by omega)
    rw [show ((lo + 1 : Nat) : Int) = (lo : Int) + 1 from by omega] at e2
    refine ⟨x :: ys, S2, ?_, by rw [show c + 12 * (m + 1) = c + 12 + 12 * m from by omega]; exact w2, k1.trans k2, by rw [List.length_cons, l2], fun i y e => ?_⟩
    · have st : stepC G (run G T (n+2)) (.nm 3) [] (.call f__law_row [] [.v 0, .v 3, .v 1, .v 2]) [.v (.ref r), .v (.p (.int many)), .v (.p (.int 2)), a3] (.p (.int lo)) S = .ok (some x) S1 := by
        rw [stepC_eq]
        (try simp -implicitDefEqProofs [look, lookB, isOwn, bindT_nm, bindT_tp, bindT_tl, bindT_td, bindTs_n, bindTs_c, bTs_some, wipeT, wipeTs, canSet, fitsL, truth, toP, eqOk, sc, items_sq, items_zip, items_enum, items1, kApp, kExt, PyData.eqv, at_0, at_1, at_2, at_3, at_4, e1]); (try simp only [bind_assoc])
      rw [rngD_consT, compL_cons, st, noX_ok, bind_ok, kComp_eq, e2, bind_ok, kAddO_eq, addO_some]
    · cases i with
      | zero =>
        simp only [List.getElem?_cons_zero, Option.some.injEq] at e
        exact e ▸ rx
      | succ i =>
        have := q2 i y (by simpa using e)
        rwa [show lo + 1 + i = lo + (i + 1) from by omega] at this
theorem drawn_run (n many : Nat) (hm : many ≤ 300) {r c : Nat} {S : Store} (h : Wl r c S) (hc : c + 12 * many < 1000000000000) :
    Gd (run G T (n+3) f__law_rows_drawn [.ref r, .p (.int many), .p (.int 2)] S) fun d S' => Wl r (c + 12 * many) S' ∧ Kp r S S' ∧ ∃ xs, d = .p (.tuple xs) ∧ RwL xs ∧ xs.length = many := by
  refine Gd_run T__law_rows_drawn rfl fun Q hQ => ?_
  obtain ⟨ys, S', e, w, k, l, q⟩ := draw_comp n many (by omega) .un many 0 c S h hc (by omega)
  have lf : ys.length ≤ 16777216 := by omega
  (try simp -implicitDefEqProofs [look, lookB, isOwn, bindT_nm, bindT_tp, bindT_tl, bindT_td, bindTs_n, bindTs_c, bTs_some, wipeT, wipeTs, canSet, fitsL, truth, toP, eqOk, sc, items_sq, items_zip, items_enum, items1, kApp, kExt, PyData.eqv, at_0, at_1, at_2, at_3, at_4, items_rngN _ many (by omega)]); (try simp only [bind_assoc])
  erw [e]
  (try simp -implicitDefEqProofs [look, lookB, isOwn, bindT_nm, bindT_tp, bindT_tl, bindT_td, bindTs_n, bindTs_c, bTs_some, wipeT, wipeTs, canSet, fitsL, truth, toP, eqOk, sc, items_sq, items_zip, items_enum, items1, kApp, kExt, PyData.eqv, at_0, at_1, at_2, at_3, at_4, lf]); (try simp only [bind_assoc])
  exact hQ _ _ ⟨w, k, ys, rfl, ⟨by omega, fun i x hx => by rw [l]; have := q i x hx; rwa [Nat.zero_add] at this⟩, l⟩
end EC

namespace EC
open PySem
/-! ### rows with jumps and puts among them -/
theorem sparse_loop (n : Nat) {r : Nat} {rows : List PyData} (R : RwL rows) : ∀ (m lo c : Nat) (f : List PyData) (a3 a4 a5 a6 : Slot) (S : Store), Wl r c S → c + 7 * m < 1000000000000 → lo + m = rows.length → f.length = lo → (∀ (i : Nat) (y : PyData), f[i]? = some y → Rw (i : Int) (rows.length : Int) y) →
    Gd (forL (stepF G (run G T (n+2)) (.nm 3) [.par 5 6 (.pr .add [.pr .add [.v 3, .c (.int 1)], .call f__law_dip [] [.v 0, .pr .min [.pr .sub [.pr .len [.v 1], .v 3], .c (.int 4)]]]) (.pr .idx [.v 1, .v 3]), .asg (.nm 4) (.ef .mkl [.v 6, .v 6, .ef .mkt [.c (.str "go"), .v 5], .ef .mkt [.c (.str "if"), .call f__law_dip [] [.v 0, .c (.int 3)], .v 5], .ef .mkt [.c (.str "put"), .call f__law_dip [] [.v 0, .c (.int 3)], .call f__law_dip [] [.v 0, .c (.int 2)]], .ef .mkt [.c (.str "copy"), .call f__law_dip [] [.v 0, .c (.int 3)], .call f__law_dip [] [.v 0, .c (.int 3)]]]), .oapp 2 (.pr .idx [.v 4, .call f__law_dip [] [.v 0, .c (.int 6)]])]) (rngD (lo : Int) m) [.v (.ref r), .v (.p (.tuple rows)), .own f, a3, a4, a5, a6] S) fun fl S' => Wl r (c + 7 * m) S' ∧ Kp r S S' ∧
      ∃ f' b3 b4 b5 b6, fl = .nx [.v (.ref r), .v (.p (.tuple rows)), .own f', b3, b4, b5, b6] ∧ f'.length = rows.length ∧ ∀ (i : Nat) (y : PyData), f'[i]? = some y → Rw (i : Int) (rows.length : Int) y
  | 0, lo, c, f, a3, a4, a5, a6, S, h, _, hl, hf, hR => ⟨_, S, rfl, h, Kp.refl r S, f, a3, a4, a5, a6, rfl, by omega, hR⟩
  | m + 1, lo, c, f, a3, a4, a5, a6, S, h, hc, hl, hf, hR => by
    have lt : lo < rows.length := by omega
    obtain ⟨x, ex⟩ : ∃ x, rows[lo]? = some x := ⟨_, List.getElem?_eq_getElem lt⟩
    have rx := R.rw lo x ex
    have ea : L2.atI rows (lo : Int) = some x := by rw [atI_nat]; exact ex
    have h300 := R.len
    refine Gd.gen fun Q hQ => ?_
    rw [rngD_consT, forL_cons, stepF_eq]
    obtain ⟨mn, emn, mn0, mn1, mn2⟩ : ∃ mn : Int, (if (4 : Int) < (rows.length : Int) - lo then (4 : Int) else (rows.length : Int) - lo) = mn ∧ 0 < mn ∧ mn ≤ 4 ∧ mn ≤ (rows.length : Int) - lo := ⟨_, rfl, by split <;> omega, by split <;> omega, by split <;> omega⟩
    (try simp -implicitDefEqProofs [look, lookB, isOwn, bindT_nm, bindT_tp, bindT_tl, bindT_td, bindTs_n, bindTs_c, bTs_some, wipeT, wipeTs, canSet, fitsL, truth, toP, eqOk, sc, items_sq, items_zip, items_enum, items1, kApp, kExt, PyData.eqv, at_0, at_1, at_2, at_3, at_4, emn]); (try simp only [bind_assoc])
    refine Gd.bind (dip (n+1) mn mn0 (by omega) h (by omega)) ?_
    rintro _ S1 ⟨w1, kp1, j, rfl, a1, b1⟩
    generalize hto : (lo : Int) + 1 + j = to at *
    have t1 : (lo : Int) + 1 ≤ to := by omega
    have t2 : to ≤ (rows.length : Int) := by omega
    (try simp -implicitDefEqProofs [look, lookB, isOwn, bindT_nm, bindT_tp, bindT_tl, bindT_td, bindTs_n, bindTs_c, bTs_some, wipeT, wipeTs, canSet, fitsL, truth, toP, eqOk, sc, items_sq, items_zip, items_enum, items1, kApp, kExt, PyData.eqv, at_0, at_1, at_2, at_3, at_4, hto, ea]); (try simp only [bind_assoc])
    refine Gd.bind (dip (n+1) 3 (by decide) (by decide) w1 (by omega)) ?_
    rintro _ S2 ⟨w2, kp2, d1, rfl, a2, b2⟩
    (try simp -implicitDefEqProofs [look, lookB, isOwn, bindT_nm, bindT_tp, bindT_tl, bindT_td, bindTs_n, bindTs_c, bTs_some, wipeT, wipeTs, canSet, fitsL, truth, toP, eqOk, sc, items_sq, items_zip, items_enum, items1, kApp, kExt, PyData.eqv, at_0, at_1, at_2, at_3, at_4]); (try simp only [bind_assoc])
    refine Gd.bind (dip (n+1) 3 (by decide) (by decide) w2 (by omega)) ?_
    rintro _ S3 ⟨w3, kp3, d2, rfl, a3', b3'⟩
    (try simp -implicitDefEqProofs [look, lookB, isOwn, bindT_nm, bindT_tp, bindT_tl, bindT_td, bindTs_n, bindTs_c, bTs_some, wipeT, wipeTs, canSet, fitsL, truth, toP, eqOk, sc, items_sq, items_zip, items_enum, items1, kApp, kExt, PyData.eqv, at_0, at_1, at_2, at_3, at_4]); (try simp only [bind_assoc])
    refine Gd.bind (dip (n+1) 2 (by decide) (by decide) w3 (by omega)) ?_
    rintro _ S4 ⟨w4, kp4, d3, rfl, a4', b4'⟩
    (try simp -implicitDefEqProofs [look, lookB, isOwn, bindT_nm, bindT_tp, bindT_tl, bindT_td, bindTs_n, bindTs_c, bTs_some, wipeT, wipeTs, canSet, fitsL, truth, toP, eqOk, sc, items_sq, items_zip, items_enum, items1, kApp, kExt, PyData.eqv, at_0, at_1, at_2, at_3, at_4]); (try simp only [bind_assoc])
    refine Gd.bind (dip (n+1) 3 (by decide) (by decide) w4 (by omega)) ?_
    rintro _ S5 ⟨w5, kp5, d4, rfl, a5', b5'⟩
    (try simp -implicitDefEqProofs [look, lookB, isOwn, bindT_nm, bindT_tp, bindT_tl, bindT_td, bindTs_n, bindTs_c, bTs_some, wipeT, wipeTs, canSet, fitsL, truth, toP, eqOk, sc, items_sq, items_zip, items_enum, items1, kApp, kExt, PyData.eqv, at_0, at_1, at_2, at_3, at_4]); (try simp only [bind_assoc])
    refine Gd.bind (dip (n+1) 3 (by decide) (by decide) w5 (by omega)) ?_
    rintro _ S6 ⟨w6, kp6, d5, rfl, a6', b6'⟩
    (try simp -implicitDefEqProofs [look, lookB, isOwn, bindT_nm, bindT_tp, bindT_tl, bindT_td, bindTs_n, bindTs_c, bTs_some, wipeT, wipeTs, canSet, fitsL, truth, toP, eqOk, sc, items_sq, items_zip, items_enum, items1, kApp, kExt, PyData.eqv, at_0, at_1, at_2, at_3, at_4]); (try simp only [bind_assoc])
    refine Gd.bind (dip (n+1) 6 (by decide) (by decide) w6 (by omega)) ?_
    rintro _ S7 ⟨w7, kp7, d6, rfl, a7', b7'⟩
    obtain ⟨y, ey, hy⟩ := at_pick (xs := [x, x, .tuple [.str (Str.ofString "go"), .int to], .tuple [.str (Str.ofString "if"), .int d1, .int to], .tuple [.str (Str.ofString "put"), .int d2, .int d3], .tuple [.str (Str.ofString "copy"), .int d4, .int d5]]) a7' b7'
    have ry : Rw (lo : Int) (rows.length : Int) y := by
      simp only [List.mem_cons, List.not_mem_nil, or_false] at hy
      rcases hy with rfl | rfl | rfl | rfl | rfl | rfl
      · exact rx
      · exact rx
      · exact rw_go (by omega) t1 t2 (by omega)
      · exact rw_if a2 (by omega) (by omega) t1 t2 (by omega)
      · exact rw_put a3' (by omega) (by omega)
      · exact rw_cc (by simp) a5' (by omega) a6' (by omega)
    have fl : f.length ≤ 16777215 := by omega
    have fl' : f.length + 1 ≤ 16777216 := by omega
    (try simp -implicitDefEqProofs [look, lookB, isOwn, bindT_nm, bindT_tp, bindT_tl, bindT_td, bindTs_n, bindTs_c, bTs_some, wipeT, wipeTs, canSet, fitsL, truth, toP, eqOk, sc, items_sq, items_zip, items_enum, items1, kApp, kExt, PyData.eqv, at_0, at_1, at_2, at_3, at_4, ey, fl, fl']); (try simp only [bind_assoc])
    have kp := (((((kp1.trans kp2).trans kp3).trans kp4).trans kp5).trans kp6).trans kp7
    have ih := sparse_loop n R m (lo + 1) (c + 7) (f ++ [y]) (.v (.p (.int lo))) (.v (.p (.list [x, x, .tuple [.str (Str.ofString "go"), .int to], .tuple [.str (Str.ofString "if"), .int d1, .int to], .tuple [.str (Str.ofString "put"), .int d2, .int d3], .tuple [.str (Str.ofString "copy"), .int d4, .int d5]]))) (.v (.p (.int to))) (.v (.p x)) S7 (w7.up (by omega)) (by omega) (by omega) (by rw [List.length_append, List.length_singleton, hf]) (fun i z e => by
      rcases Nat.lt_trichotomy i lo with q | q | q
      · exact hR i z (by rwa [List.getElem?_append_left (by omega)] at e)
      · subst q
        rw [List.getElem?_append_right (by omega), hf, Nat.sub_self] at e
        simp only [List.getElem?_cons_zero, Option.some.injEq] at e
        exact e ▸ ry
      · rw [List.getElem?_eq_none (by rw [List.length_append, List.length_singleton]; omega)] at e
        cases e)
    rw [show ((lo + 1 : Nat) : Int) = (lo : Int) + 1 from by omega] at ih
    refine Gd.mono ih ?_
    rintro fl S' ⟨q1, q2, q3⟩
    exact hQ _ _ ⟨by rw [show c + 7 * (m + 1) = c + 7 + 7 * m from by omega]; exact q1, kp.trans q2, q3⟩
theorem sparse_run (n : Nat) {r c : Nat} {rows : List PyData} (R : RwL rows) {S : Store} (h : Wl r c S) (hc : c + 7 * rows.length < 1000000000000) :
    Gd (run G T (n+3) f__law_sparse [.ref r, .p (.tuple rows)] S) fun d S' => Wl r (c + 7 * rows.length) S' ∧ Kp r S S' ∧ ∃ xs, d = .p (.tuple xs) ∧ RwL xs ∧ xs.length = rows.length := by
  refine Gd_run T__law_sparse rfl fun Q hQ => ?_
  have h300 := R.len
  (try simp -implicitDefEqProofs [look, lookB, isOwn, bindT_nm, bindT_tp, bindT_tl, bindT_td, bindTs_n, bindTs_c, bTs_some, wipeT, wipeTs, canSet, fitsL, truth, toP, eqOk, sc, items_sq, items_zip, items_enum, items1, kApp, kExt, PyData.eqv, at_0, at_1, at_2, at_3, at_4, items_rngN _ rows.length (show rows.length ≤ 1000000 by omega)]); (try simp only [bind_assoc])
  refine Gd.bind (sparse_loop n R rows.length 0 c [] .un .un .un .un S h hc (by omega) rfl (fun i y e => by simp at e)) ?_
  rintro _ S1 ⟨w1, kp1, f', b3, b4, b5, b6, rfl, hl, hR⟩
  (try simp -implicitDefEqProofs [look, lookB, isOwn, bindT_nm, bindT_tp, bindT_tl, bindT_td, bindTs_n, bindTs_c, bTs_some, wipeT, wipeTs, canSet, fitsL, truth, toP, eqOk, sc, items_sq, items_zip, items_enum, items1, kApp, kExt, PyData.eqv, at_0, at_1, at_2, at_3, at_4]); (try simp only [bind_assoc])
  exact hQ _ _ ⟨w1, kp1, f', rfl, ⟨by omega, fun i x e => by rw [hl]; exact hR i x e⟩, hl⟩
/-! ### _law_same of a value and itself -/
theorem eqv_bQ (a b : Bool) : PyData.eqv (.bool a) (.bool b) = (a == b) := by simp [PyData.eqv]
theorem eqok_bQ (a b : Bool) : eqOk (.bool a) (.bool b) = true := rfl
theorem rng_mem {lo : Int} {n : Nat} {x : D} (h : x ∈ rngD lo n) : ∃ k : Nat, x = .p (.int (lo + k)) ∧ k < n := by
  obtain ⟨k, hk, rfl⟩ := List.mem_map.mp h
  exact ⟨k, rfl, List.mem_range.mp hk⟩
theorem same_run : ∀ (d n : Nat) (v : PyData) (S : Store), v.depth ≤ d → sm v = true → run G T (n+d+1) f__law_same [.p v, .p v] S = .ok (.p (.bool true)) S
  | d, n, v, S, hd, hs => by
    have key : ∀ (xs : List PyData) (g : List PyData → PyData), (g = .tuple ∨ g = .list) → v = g xs → 
        compL (stepC G (run G T (n+d)) (Tg.nm 2) [] (E.call f__law_same [] [E.pr Pr.idx [E.v 0, E.v 2], E.pr Pr.idx [E.v 1, E.v 2]]) [.v (.p v), .v (.p v), .un]) (rngD 0 xs.length) S = .ok ((rngD 0 xs.length).map fun x => PyData.bool ((fun _ : D => true) x)) S := by
      intro xs g hg hv
      have hx : ∀ x ∈ xs, x.depth + 1 ≤ d ∧ sm x = true := by
        intro x hx
        have := depth_mem hx
        rcases hg with rfl | rfl
        · subst hv
          simp only [PyData.depth, sm, Bool.and_eq_true] at hd hs
          exact ⟨by omega, sm_mem hs.2 hx⟩
        · subst hv
          simp only [PyData.depth, sm, Bool.and_eq_true] at hd hs
          exact ⟨by omega, sm_mem hs.2 hx⟩
      refine comp_all (fun _ => true) _ fun x hxr => ?_
      obtain ⟨k, rfl, hk⟩ := rng_mem hxr
      have ea : L2.atI xs (k : Int) = some xs[k] := by rw [atI_nat, List.getElem?_eq_getElem hk]
      obtain ⟨q1, q2⟩ := hx _ (List.getElem_mem hk)
      obtain ⟨d', rfl⟩ : ∃ d', d = d' + 1 := ⟨d - 1, by omega⟩
      have ih : run G T (n+(d'+1)) f__law_same [.p xs[k], .p xs[k]] S = .ok (.p (.bool true)) S := same_run d' n xs[k] S (by omega) q2
      rw [stepC_eq]
      generalize xs[k] = y at *
      rcases hg with rfl | rfl
      · subst hv
        (try simp -implicitDefEqProofs [look, lookB, isOwn, bindT_nm, bindT_tp, bindT_tl, bindT_td, bindTs_n, bindTs_c, bTs_some, wipeT, wipeTs, canSet, fitsL, truth, toP, eqOk, sc, items_sq, items_zip, items_enum, items1, kApp, kExt, PyData.eqv, at_0, at_1, at_2, at_3, at_4, ea, ih]); (try simp only [bind_assoc])
      · subst hv
        (try simp -implicitDefEqProofs [look, lookB, isOwn, bindT_nm, bindT_tp, bindT_tl, bindT_td, bindTs_n, bindTs_c, bTs_some, wipeT, wipeTs, canSet, fitsL, truth, toP, eqOk, sc, items_sq, items_zip, items_enum, items1, kApp, kExt, PyData.eqv, at_0, at_1, at_2, at_3, at_4, ea, ih]); (try simp only [bind_assoc])
    rw [run_succ _ _ _ _ _ _ rfl]
    have rl : ∀ k, (rngD 0 k).length = k := fun k => by simp [rngD]
    have boo : ∀ k, boolsOf ((rngD 0 k).map fun x => PyData.bool ((fun _ : D => true) x)) = some ((rngD 0 k).map fun _ => true) := fun k => bools_map _ _
    have alt : ∀ l : List D, (l.map fun _ => true).all id = true := fun l => by rw [List.all_eq_true]; intro x hx; obtain ⟨_, _, rfl⟩ := List.mem_map.mp hx; rfl
    cases v with
    | tuple xs =>
      have hl : xs.length ≤ 1000000 := by
        simp only [sm, Bool.and_eq_true, decide_eq_true_eq] at hs; omega
      have k1 := key xs .tuple (.inl rfl) rfl
      have fl : ((rngD 0 xs.length).map fun x => PyData.bool ((fun _ : D => true) x)).length ≤ 16777216 := by rw [List.length_map, rl]; omega
      generalize hy : ((rngD 0 xs.length).map fun x => PyData.bool ((fun _ : D => true) x)) = ys at k1 fl
      have bo : boolsOf ys = some ((rngD 0 xs.length).map fun _ => true) := by rw [← hy]; exact boo _
      have al := alt (rngD 0 xs.length)
      generalize ((rngD 0 xs.length).map fun _ => true) = bs at bo al
      (try simp -implicitDefEqProofs [look, lookB, isOwn, bindT_nm, bindT_tp, bindT_tl, bindT_td, bindTs_n, bindTs_c, bTs_some, wipeT, wipeTs, canSet, fitsL, truth, toP, eqOk, sc, items_sq, items_zip, items_enum, items1, kApp, kExt, PyData.eqv, at_0, at_1, at_2, at_3, at_4, T__law_same, fd__law_same, isTy, items_rngN, hl, k1, fl, bo, al, eqok_iQ, eqv_iQ, eqok_bQ, eqv_bQ]); (try simp only [bind_assoc])
    | list xs =>
      have hl : xs.length ≤ 1000000 := by
        simp only [sm, Bool.and_eq_true, decide_eq_true_eq] at hs; omega
      have k1 := key xs .list (.inr rfl) rfl
      have fl : ((rngD 0 xs.length).map fun x => PyData.bool ((fun _ : D => true) x)).length ≤ 16777216 := by rw [List.length_map, rl]; omega
      generalize hy : ((rngD 0 xs.length).map fun x => PyData.bool ((fun _ : D => true) x)) = ys at k1 fl
      have bo : boolsOf ys = some ((rngD 0 xs.length).map fun _ => true) := by rw [← hy]; exact boo _
      have al := alt (rngD 0 xs.length)
      generalize ((rngD 0 xs.length).map fun _ => true) = bs at bo al
      (try simp -implicitDefEqProofs [look, lookB, isOwn, bindT_nm, bindT_tp, bindT_tl, bindT_td, bindTs_n, bindTs_c, bTs_some, wipeT, wipeTs, canSet, fitsL, truth, toP, eqOk, sc, items_sq, items_zip, items_enum, items1, kApp, kExt, PyData.eqv, at_0, at_1, at_2, at_3, at_4, T__law_same, fd__law_same, isTy, items_rngN, hl, k1, fl, bo, al, eqok_iQ, eqv_iQ, eqok_bQ, eqv_bQ]); (try simp only [bind_assoc])
    | none => (try simp -implicitDefEqProofs [look, lookB, isOwn, bindT_nm, bindT_tp, bindT_tl, bindT_td, bindTs_n, bindTs_c, bTs_some, wipeT, wipeTs, canSet, fitsL, truth, toP, eqOk, sc, items_sq, items_zip, items_enum, items1, kApp, kExt, PyData.eqv, at_0, at_1, at_2, at_3, at_4, T__law_same, fd__law_same, isTy]); (try simp only [bind_assoc])
    | bool b => (try simp -implicitDefEqProofs [look, lookB, isOwn, bindT_nm, bindT_tp, bindT_tl, bindT_td, bindTs_n, bindTs_c, bTs_some, wipeT, wipeTs, canSet, fitsL, truth, toP, eqOk, sc, items_sq, items_zip, items_enum, items1, kApp, kExt, PyData.eqv, at_0, at_1, at_2, at_3, at_4, T__law_same, fd__law_same, isTy, eqok_bQ, eqv_bQ]); (try simp only [bind_assoc])
    | int i => (try simp -implicitDefEqProofs [look, lookB, isOwn, bindT_nm, bindT_tp, bindT_tl, bindT_td, bindTs_n, bindTs_c, bTs_some, wipeT, wipeTs, canSet, fitsL, truth, toP, eqOk, sc, items_sq, items_zip, items_enum, items1, kApp, kExt, PyData.eqv, at_0, at_1, at_2, at_3, at_4, T__law_same, fd__law_same, isTy, eqok_bQ, eqv_bQ, eqok_iQ, eqv_iQ]); (try simp only [bind_assoc])
    | str s => (try simp -implicitDefEqProofs [look, lookB, isOwn, bindT_nm, bindT_tp, bindT_tl, bindT_td, bindTs_n, bindTs_c, bTs_some, wipeT, wipeTs, canSet, fitsL, truth, toP, eqOk, sc, items_sq, items_zip, items_enum, items1, kApp, kExt, PyData.eqv, at_0, at_1, at_2, at_3, at_4, T__law_same, fd__law_same, isTy, eqok_bQ, eqv_bQ, eqok_sQ, eqv_strQ]); (try simp only [bind_assoc])
    | _ => cases hs
end EC

namespace EC
open PySem
/-! ### jumps -/
def jumpQ : PyData → Option Nat
  | .tuple [.str w, .int t] => if w = "go" then some t.toNat else none
  | .tuple [.str w, .int _, .int t] => if w = "if" ∨ w = "bare" then some t.toNat else none
  | _ => none
def goQ : PyData → Bool
  | .tuple [.str w, .int _] => decide (w = "go")
  | _ => false
def toQ : PyData → Nat → PyData
  | .tuple [.str w, .int a], t => if w = "go" then .tuple [.str w, .int t] else .tuple [.str w, .int a]
  | .tuple [.str w, .int q, .int a], t => if w = "if" ∨ w = "bare" then .tuple [.str w, .int q, .int t] else .tuple [.str w, .int q, .int a]
  | x, _ => x
inductive Shp : PyData → Prop
  | go (t : Nat) : Shp (.tuple [.str "go", .int t])
  | jmp (w : Str) (hw : w = "if" ∨ w = "bare") (q : Int) (t : Nat) : Shp (.tuple [.str w, .int q, .int t])
  | oth (w : Str) (ys : List PyData) (h1 : w ≠ "go") (h2 : w ≠ "if") (h3 : w ≠ "bare") : Shp (.tuple (.str w :: ys))
theorem jump_go (t : Nat) : jumpQ (.tuple [.str "go", .int t]) = some t := by simp [jumpQ]
theorem jump_jmp {w : Str} (hw : w = "if" ∨ w = "bare") (q : Int) (t : Nat) : jumpQ (.tuple [.str w, .int q, .int t]) = some t := by simp [jumpQ, hw]
theorem jump_oth {w : Str} {ys : List PyData} (h1 : w ≠ "go") (h2 : w ≠ "if") (h3 : w ≠ "bare") : jumpQ (.tuple (.str w :: ys)) = none := by
  unfold jumpQ; split <;> simp_all
theorem go_go (t : Nat) : goQ (.tuple [.str "go", .int t]) = true := by simp [goQ]
theorem go_jmp (w : Str) (q : Int) (t : Nat) : goQ (.tuple [.str w, .int q, .int t]) = false := by simp [goQ]
theorem go_oth {w : Str} {ys : List PyData} (h1 : w ≠ "go") : goQ (.tuple (.str w :: ys)) = false := by
  unfold goQ; split <;> simp_all
theorem to_go (t u : Nat) : toQ (.tuple [.str "go", .int t]) u = .tuple [.str "go", .int u] := by simp [toQ]
theorem to_jmp {w : Str} (hw : w = "if" ∨ w = "bare") (q : Int) (t u : Nat) : toQ (.tuple [.str w, .int q, .int t]) u = .tuple [.str w, .int q, .int u] := by simp [toQ, hw]
theorem to_oth {w : Str} {ys : List PyData} (h1 : w ≠ "go") (h2 : w ≠ "if") (h3 : w ≠ "bare") (u : Nat) : toQ (.tuple (.str w :: ys)) u = .tuple (.str w :: ys) := by
  unfold toQ; split <;> simp_all
section
variable {x : PyData} (h : Shp x)
include h
theorem Shp.to (u : Nat) : Shp (toQ x u) := by
  cases h with
  | go t => rw [to_go]; exact .go u
  | jmp w hw q t => rw [to_jmp hw]; exact .jmp w hw q u
  | oth w ys h1 h2 h3 => rw [to_oth h1 h2 h3]; exact .oth w ys h1 h2 h3
theorem Shp.to_to (u v : Nat) : toQ (toQ x u) v = toQ x v := by
  cases h with
  | go t => rw [to_go, to_go, to_go]
  | jmp w hw q t => rw [to_jmp hw, to_jmp hw, to_jmp hw]
  | oth w ys h1 h2 h3 => rw [to_oth h1 h2 h3, to_oth h1 h2 h3]
theorem Shp.jump_to (u : Nat) : jumpQ (toQ x u) = (jumpQ x).map fun _ => u := by
  cases h with
  | go t => rw [to_go, jump_go, jump_go]; rfl
  | jmp w hw q t => rw [to_jmp hw, jump_jmp hw, jump_jmp hw]; rfl
  | oth w ys h1 h2 h3 => rw [to_oth h1 h2 h3, jump_oth h1 h2 h3]; rfl
theorem Shp.go_to (u : Nat) : goQ (toQ x u) = goQ x := by
  cases h with
  | go t => rw [to_go, go_go, go_go]
  | jmp w hw q t => rw [to_jmp hw, go_jmp, go_jmp]
  | oth w ys h1 h2 h3 => rw [to_oth h1 h2 h3]
theorem Shp.self {t : Nat} (e : jumpQ x = some t) : toQ x t = x := by
  cases h with
  | go u => rw [jump_go] at e; cases e; rw [to_go]
  | jmp w hw q u => rw [jump_jmp hw] at e; cases e; rw [to_jmp hw]
  | oth w ys h1 h2 h3 => rw [jump_oth h1 h2 h3] at e; cases e
theorem Shp.idle (e : jumpQ x = none) (u : Nat) : toQ x u = x := by
  cases h with
  | go t => rw [jump_go] at e; cases e
  | jmp w hw q t => rw [jump_jmp hw] at e; cases e
  | oth w ys h1 h2 h3 => rw [to_oth h1 h2 h3]
theorem Shp.goes (e : goQ x = true) : ∃ t, x = .tuple [.str "go", .int (t : Nat)] := by
  cases h with
  | go t => exact ⟨t, rfl⟩
  | jmp w hw q t => rw [go_jmp] at e; cases e
  | oth w ys h1 h2 h3 => rw [go_oth h1] at e; cases e
end
theorem inB_int {lo hi : Int} {v : PyData} (h : inB lo hi v = true) : ∃ i, v = .int i ∧ lo ≤ i ∧ i ≤ hi := by
  cases v with
  | int i => simp only [inB, Bool.and_eq_true, decide_eq_true_eq] at h; exact ⟨i, rfl, h⟩
  | _ => cases h
theorem shp_of {a m : Int} (h0 : 0 ≤ a) {x : PyData} (h : rowB a m x = true) : Shp x ∧ ∀ t, jumpQ x = some t → a + 1 ≤ (t : Int) ∧ (t : Int) ≤ m := by
  unfold rowB at h
  split at h
  · rename_i w ys
    split at h
    · rename_i f hf
      rw [Bool.and_eq_true, beq_iff_eq] at h
      obtain ⟨hl, ha⟩ := h
      by_cases hg : w = Str.ofString "go"
      · subst hg
        have : formR (Str.ofString "go") = some (Str.ofString "t") := by decide +kernel
        rw [this] at hf
        cases hf
        have lt : (Str.ofString "t").length = 1 := by decide +kernel
        have ct : (Str.ofString "t").cps.toList = [116] := by decide +kernel
        rw [lt] at hl
        rw [ct] at ha
        match ys, hl, ha with
        | [y], _, ha =>
          have ha : inB (a + 1) m y = true := by simpa [memB] using ha
          obtain ⟨i, rfl, i0, i1⟩ := inB_int ha
          obtain ⟨t, rfl⟩ : ∃ t : Nat, i = (t : Int) := ⟨i.toNat, by omega⟩
          exact ⟨.go t, fun t' e => by rw [jump_go] at e; cases e; exact ⟨i0, i1⟩⟩
      · by_cases hi : w = Str.ofString "if"
        · subst hi
          have : formR (Str.ofString "if") = some (Str.ofString "ct") := by decide +kernel
          rw [this] at hf
          cases hf
          have lt : (Str.ofString "ct").length = 2 := by decide +kernel
          have ct : (Str.ofString "ct").cps.toList = [99, 116] := by decide +kernel
          rw [lt] at hl
          rw [ct] at ha
          match ys, hl, ha with
          | [z, y], _, ha =>
            have ha : inB 0 9999 z = true ∧ inB (a + 1) m y = true := by simpa [memB] using ha
            obtain ⟨q, rfl, _, _⟩ := inB_int ha.1
            obtain ⟨i, rfl, i0, i1⟩ := inB_int ha.2
            obtain ⟨t, rfl⟩ : ∃ t : Nat, i = (t : Int) := ⟨i.toNat, by omega⟩
            exact ⟨.jmp _ (.inl rfl) q t, fun t' e => by rw [jump_jmp (.inl rfl)] at e; cases e; exact ⟨i0, i1⟩⟩
        · by_cases hb : w = Str.ofString "bare"
          · subst hb
            have : formR (Str.ofString "bare") = some (Str.ofString "it") := by decide +kernel
            rw [this] at hf
            cases hf
            have lt : (Str.ofString "it").length = 2 := by decide +kernel
            have ct : (Str.ofString "it").cps.toList = [105, 116] := by decide +kernel
            rw [lt] at hl
            rw [ct] at ha
            match ys, hl, ha with
            | [z, y], _, ha =>
              have ha : inB 0 99 z = true ∧ inB (a + 1) m y = true := by simpa [memB] using ha
              obtain ⟨q, rfl, _, _⟩ := inB_int ha.1
              obtain ⟨i, rfl, i0, i1⟩ := inB_int ha.2
              obtain ⟨t, rfl⟩ : ∃ t : Nat, i = (t : Int) := ⟨i.toNat, by omega⟩
              exact ⟨.jmp _ (.inr rfl) q t, fun t' e => by rw [jump_jmp (.inr rfl)] at e; cases e; exact ⟨i0, i1⟩⟩
          · exact ⟨.oth w ys hg hi hb, fun t e => by rw [jump_oth hg hi hb] at e; cases e⟩
    · cases h
  · cases h
/-! ### where jumps lead -/
def nxQ (rows : List PyData) (j : Nat) : Option Nat := match rows[j]? with
  | some x => if goQ x then jumpQ x else none
  | none => none
def endQ (rows : List PyData) : Nat → Nat → Nat
  | 0, j => j
  | k + 1, j => match nxQ rows j with
    | some t => endQ rows k t
    | none => j
def lgQ (rows : List PyData) : Nat → Nat → Nat
  | 0, _ => 0
  | k + 1, j => match nxQ rows j with
    | some t => lgQ rows k t + 1
    | none => 0
/-- rows whose jumps lead ahead -/
structure Jr (rows : List PyData) : Prop where
  sh : ∀ (i : Nat) (x : PyData), rows[i]? = some x → Shp x
  lt : ∀ (i : Nat) (x : PyData) (t : Nat), rows[i]? = some x → jumpQ x = some t → i < t ∧ t ≤ rows.length
theorem RwL.jr {rows : List PyData} (h : RwL rows) : Jr rows :=
  ⟨fun i x e => (shp_of (by omega) (h.rw i x e).ok).1, fun i x t e j => by
    have := (shp_of (by omega) (h.rw i x e).ok).2 t j
    omega⟩
def resQ (rows : List PyData) (x : PyData) : PyData := match jumpQ x with
  | some t => toQ x (endQ rows rows.length t)
  | none => x
section
variable {rows : List PyData} (J : Jr rows)
include J
theorem Jr.nx {j t : Nat} (h : nxQ rows j = some t) : j < t ∧ t ≤ rows.length ∧ j < rows.length := by
  unfold nxQ at h
  split at h
  · rename_i x ex
    split at h
    · have := J.lt j x t ex h
      have := (List.getElem?_eq_some_iff.mp ex).1
      omega
    · cases h
  · cases h
theorem Jr.nx_out {j : Nat} (h : rows.length ≤ j) : nxQ rows j = none := by
  unfold nxQ
  rw [List.getElem?_eq_none h]
end
theorem Jr.end_st {rows : List PyData} (J : Jr rows) : ∀ (k j : Nat), rows.length ≤ j + k → endQ rows k j = endQ rows (k + 1) j
  | 0, j, h => by
    rw [endQ, endQ, J.nx_out (by omega)]
  | k + 1, j, h => by
    rw [endQ, endQ]
    cases q : nxQ rows j with
    | none => rfl
    | some t =>
      have := J.nx q
      exact J.end_st k t (by omega)
theorem Jr.lg_st {rows : List PyData} (J : Jr rows) : ∀ (k j : Nat), rows.length ≤ j + k → lgQ rows k j = lgQ rows (k + 1) j
  | 0, j, h => by
    rw [lgQ, lgQ, J.nx_out (by omega)]
  | k + 1, j, h => by
    rw [lgQ, lgQ]
    cases q : nxQ rows j with
    | none => rfl
    | some t =>
      have := J.nx q
      exact congrArg (· + 1) (J.lg_st k t (by omega))
section
variable {rows : List PyData} (J : Jr rows)
include J
theorem Jr.end_some {j t : Nat} (h : nxQ rows j = some t) : endQ rows rows.length j = endQ rows rows.length t := by
  rw [J.end_st rows.length j (by omega), endQ, h]
theorem Jr.end_none {j : Nat} (h : nxQ rows j = none) : endQ rows rows.length j = j := by
  rw [J.end_st rows.length j (by omega), endQ, h]
theorem Jr.lg_some {j t : Nat} (h : nxQ rows j = some t) : lgQ rows rows.length j = lgQ rows rows.length t + 1 := by
  rw [J.lg_st rows.length j (by omega), lgQ, h]
theorem Jr.lg_none {j : Nat} (h : nxQ rows j = none) : lgQ rows rows.length j = 0 := by
  rw [J.lg_st rows.length j (by omega), lgQ, h]
theorem Jr.lg_zero {j : Nat} (h : lgQ rows rows.length j = 0) : nxQ rows j = none := by
  cases q : nxQ rows j with
  | none => rfl
  | some t => rw [J.lg_some q] at h; omega
end
theorem lg_le (rows : List PyData) : ∀ (k j : Nat), lgQ rows k j ≤ k
  | 0, j => Nat.le_refl _
  | k + 1, j => by
    rw [lgQ]
    cases q : nxQ rows j with
    | none => exact Nat.zero_le _
    | some t => exact Nat.succ_le_succ (lg_le rows k t)
/-! ### the law's sweeps -/
def stepQ (cur : List PyData) (a : Nat) : List PyData := match cur[a]? with
  | some y => match jumpQ y with
    | some u => match cur[u]? with
      | some z => if goQ z then (match jumpQ z with
        | some v => cur.set a (toQ y v)
        | none => cur) else cur
      | none => cur
    | none => cur
  | none => cur
theorem st_none {cur : List PyData} {a : Nat} {y : PyData} (h : cur[a]? = some y) (j : jumpQ y = none) : stepQ cur a = cur := by simp [stepQ, h, j]
theorem st_out {cur : List PyData} {a u : Nat} {y : PyData} (h : cur[a]? = some y) (j : jumpQ y = some u) (e : cur[u]? = none) : stepQ cur a = cur := by simp [stepQ, h, j, e]
theorem st_ng {cur : List PyData} {a u : Nat} {y z : PyData} (h : cur[a]? = some y) (j : jumpQ y = some u) (e : cur[u]? = some z) (g : goQ z = false) : stepQ cur a = cur := by simp [stepQ, h, j, e, g]
theorem st_go {cur : List PyData} {a u v : Nat} {y z : PyData} (h : cur[a]? = some y) (j : jumpQ y = some u) (e : cur[u]? = some z) (g : goQ z = true) (j2 : jumpQ z = some v) : stepQ cur a = cur.set a (toQ y v) := by simp [stepQ, h, j, e, g, j2]
structure Inv (rows cur : List PyData) (b : Nat → Nat) : Prop where
  len : cur.length = rows.length
  at_ : ∀ (i : Nat) (x : PyData), rows[i]? = some x → ∃ u, cur[i]? = some (toQ x u) ∧ ∀ t, jumpQ x = some t → i < u ∧ u ≤ rows.length ∧ endQ rows rows.length u = endQ rows rows.length t ∧ lgQ rows rows.length u ≤ lgQ rows rows.length t ∧ lgQ rows rows.length u ≤ b i
theorem Inv.mono {rows cur : List PyData} {b b' : Nat → Nat} (h : Inv rows cur b) (hb : ∀ i, i < rows.length → b i ≤ b' i) : Inv rows cur b' :=
  ⟨h.len, fun i x e => by
    obtain ⟨u, h1, h2⟩ := h.at_ i x e
    have := hb i (List.getElem?_eq_some_iff.mp e).1
    exact ⟨u, h1, fun t et => by have := h2 t et; omega⟩⟩
theorem Inv.shp {rows cur : List PyData} {b : Nat → Nat} (J : Jr rows) (h : Inv rows cur b) : ∀ (i : Nat) (y : PyData), cur[i]? = some y → Shp y := fun i y e => by
  have hi : i < rows.length := by rw [← h.len]; exact (List.getElem?_eq_some_iff.mp e).1
  have ex : rows[i]? = some rows[i] := List.getElem?_eq_getElem hi
  obtain ⟨u, h1, _⟩ := h.at_ i _ ex
  rw [h1] at e
  cases e
  exact (J.sh i _ ex).to u
theorem Inv.start {rows : List PyData} (J : Jr rows) : Inv rows rows fun _ => rows.length := ⟨rfl, fun i x e => by
  cases q : jumpQ x with
  | none => exact ⟨0, by rw [(J.sh i x e).idle q, e], fun t et => by cases et⟩
  | some t =>
    refine ⟨t, by rw [(J.sh i x e).self q, e], fun t' et => ?_⟩
    cases et
    have := J.lt i x t e q
    exact ⟨this.1, this.2, rfl, Nat.le_refl _, lg_le _ _ _⟩⟩
theorem Inv.step {rows cur : List PyData} {b b' : Nat → Nat} (J : Jr rows) (h : Inv rows cur b) {a : Nat} (ha : a < rows.length) (hb : ∀ i, i ≠ a → b i ≤ b' i) (hba : b a ≤ b' a + 1) : Inv rows (stepQ cur a) b' := by
  have ex : rows[a]? = some rows[a] := List.getElem?_eq_getElem ha
  generalize rows[a] = x at ex
  obtain ⟨u, h1, h2⟩ := h.at_ a x ex
  have sx := J.sh a x ex
  have keep : (∀ t, jumpQ x = some t → lgQ rows rows.length u ≤ b' a) → Inv rows cur b' := fun hk => ⟨h.len, fun i y e => by
    by_cases hi : i = a
    · subst hi
      rw [ex] at e
      cases e
      exact ⟨u, h1, fun t et => by have := h2 t et; have := hk t et; omega⟩
    · obtain ⟨v, g1, g2⟩ := h.at_ i y e
      have := hb i hi
      exact ⟨v, g1, fun t et => by have := g2 t et; omega⟩⟩
  have jy := sx.jump_to u
  cases q : jumpQ x with
  | none =>
    rw [q] at jy
    rw [st_none h1 jy]
    exact keep fun t et => by rw [q] at et; cases et
  | some t =>
    rw [q] at jy
    have jy : jumpQ (toQ x u) = some u := jy
    obtain ⟨k1, k2, k3, k4, k5⟩ := h2 t q
    cases qz : cur[u]? with
    | none =>
      have hu : rows.length ≤ u := by rw [← h.len]; exact List.getElem?_eq_none_iff.mp qz
      rw [st_out h1 jy qz]
      exact keep fun t' et => by rw [J.lg_none (J.nx_out hu)]; exact Nat.zero_le _
    | some z =>
      have hu : u < rows.length := by rw [← h.len]; exact (List.getElem?_eq_some_iff.mp qz).1
      have e2 : rows[u]? = some rows[u] := List.getElem?_eq_getElem hu
      generalize rows[u] = x2 at e2
      obtain ⟨v, g1, g2⟩ := h.at_ u x2 e2
      have s2 := J.sh u x2 e2
      have gz := s2.go_to v
      have jz := s2.jump_to v
      rw [qz] at g1
      cases g1
      cases qg : goQ x2 with
      | false =>
        rw [qg] at gz
        have hn : nxQ rows u = none := by unfold nxQ; rw [e2]; simp [qg]
        rw [st_ng h1 jy qz gz]
        exact keep fun t' et => by rw [J.lg_none hn]; exact Nat.zero_le _
      | true =>
        rw [qg] at gz
        obtain ⟨t2, rfl⟩ := s2.goes qg
        rw [jump_go] at jz
        have jz : _ = some v := jz
        have hn : nxQ rows u = some t2 := by unfold nxQ; rw [e2]; simp [qg, jump_go]
        obtain ⟨m1, m2, m3, m4, m5⟩ := g2 t2 (jump_go t2)
        have n1 := J.end_some hn
        have n2 := J.lg_some hn
        rw [st_go h1 jy qz gz jz, sx.to_to]
        refine ⟨by rw [List.length_set]; exact h.len, fun i y e => ?_⟩
        by_cases hi : i = a
        · subst hi
          rw [ex] at e
          cases e
          refine ⟨v, List.getElem?_set_self (by rw [h.len]; exact ha), fun t' et => ?_⟩
          rw [q] at et
          cases et
          exact ⟨by omega, m2, by rw [m3, ← n1, k3], by omega, by omega⟩
        · obtain ⟨v', g1, g2⟩ := h.at_ i y e
          have := hb i hi
          exact ⟨v', by rw [List.getElem?_set_ne (fun z => hi z.symm)]; exact g1, fun t et => by have := g2 t et; omega⟩
theorem Inv.done {rows cur : List PyData} {b : Nat → Nat} (J : Jr rows) (h : Inv rows cur b) (hb : ∀ i, i < rows.length → b i = 0) : cur = rows.map (resQ rows) := by
  refine List.ext_getElem? fun i => ?_
  rw [List.getElem?_map]
  cases e : rows[i]? with
  | none =>
    have : rows.length ≤ i := List.getElem?_eq_none_iff.mp e
    rw [List.getElem?_eq_none (by rw [h.len]; exact this)]
    rfl
  | some x =>
    obtain ⟨u, h1, h2⟩ := h.at_ i x e
    rw [h1]
    show some (toQ x u) = some (resQ rows x)
    congr 1
    unfold resQ
    cases q : jumpQ x with
    | none => exact (J.sh i x e).idle q u
    | some t =>
      obtain ⟨k1, k2, k3, k4, k5⟩ := h2 t q
      rw [hb i (List.getElem?_eq_some_iff.mp e).1] at k5
      have := J.end_none (J.lg_zero (Nat.le_zero.mp k5))
      show toQ x u = toQ x (endQ rows rows.length t)
      rw [← k3, this]
end EC

namespace EC
open PySem
/-! ### goals, lists of two: for each pass of the rows -/
theorem Kp.toApp {S S' : Store} (h : Kp S.length S S') : ∃ E, S' = S ++ E := by
  refine ⟨S'.drop S.length, ?_⟩
  have e : S'.take S.length = S := by
    refine List.ext_getElem? fun i => ?_
    rw [List.getElem?_take]
    split
    · rename_i hi
      exact h.ob i (by omega) hi
    · rename_i hi
      rw [List.getElem?_eq_none (by omega)]
  have := List.take_append_drop S.length S'
  rw [e] at this
  exact this.symm
/-! ### the program's and the law's goals -/
def ogl : Option Nat → PyData
  | some t => .int t
  | none => .none
theorem cut2 (a b : PyData) : cut [a, b] none (some (-1)) = [a] := rfl
theorem cut3 (a b c : PyData) : cut [a, b, c] none (some (-1)) = [a, b] := rfl
theorem cut2' (a b : PyData) : cut [a, b] none (some 1) = [a] := rfl
theorem cut3' (a b c : PyData) : cut [a, b, c] none (some 2) = [a, b] := rfl
theorem at_m1 (xs : List PyData) (a : PyData) : L2.atI (xs ++ [a]) (-1) = some a := by
  have e : L2.ixN (xs ++ [a]).length (-1) = some xs.length := by
    simp [L2.ixN]
    omega
  unfold L2.atI
  rw [e]
  simp
theorem lgoal_run (n : Nat) {x : PyData} (h : Shp x) (S : Store) : run G T (n+1) f__law_goal [.p x] S = .ok (.p (ogl (jumpQ x))) S := by
  rw [run_succ _ _ _ _ _ _ rfl]
  cases h with
  | go t =>
    rw [jump_go]
    have e : L2.atI [PyData.str (Str.ofString "go"), .int t] (-1) = some (.int t) := at_m1 [_] _
    (try simp -implicitDefEqProofs [look, lookB, isOwn, bindT_nm, bindT_tp, bindT_tl, bindT_td, bindTs_n, bindTs_c, bTs_some, wipeT, wipeTs, canSet, fitsL, truth, toP, eqOk, sc, items_sq, items_zip, items_enum, items1, kApp, kExt, PyData.eqv, at_0, at_1, at_2, at_3, at_4, T__law_goal, fd__law_goal, eqv_strQ, -PyData.eqv, flat, e, ogl]); (try simp only [bind_assoc])
  | jmp w hw q t =>
    rw [jump_jmp hw]
    have e : L2.atI [PyData.str w, .int q, .int t] (-1) = some (.int t) := at_m1 [_, _] _
    rcases hw with rfl | rfl
    · (try simp -implicitDefEqProofs [look, lookB, isOwn, bindT_nm, bindT_tp, bindT_tl, bindT_td, bindTs_n, bindTs_c, bTs_some, wipeT, wipeTs, canSet, fitsL, truth, toP, eqOk, sc, items_sq, items_zip, items_enum, items1, kApp, kExt, PyData.eqv, at_0, at_1, at_2, at_3, at_4, T__law_goal, fd__law_goal, eqv_strQ, -PyData.eqv, flat, e, ogl]); (try simp only [bind_assoc])
    · (try simp -implicitDefEqProofs [look, lookB, isOwn, bindT_nm, bindT_tp, bindT_tl, bindT_td, bindTs_n, bindTs_c, bTs_some, wipeT, wipeTs, canSet, fitsL, truth, toP, eqOk, sc, items_sq, items_zip, items_enum, items1, kApp, kExt, PyData.eqv, at_0, at_1, at_2, at_3, at_4, T__law_goal, fd__law_goal, eqv_strQ, -PyData.eqv, flat, e, ogl]); (try simp only [bind_assoc])
  | oth w ys h1 h2 h3 =>
    rw [jump_oth h1 h2 h3]
    have b1 : (Str.ofString "go" == w) = false := beq_eq_false_iff_ne.mpr fun z => h1 z.symm
    have b2 : (Str.ofString "if" == w) = false := beq_eq_false_iff_ne.mpr fun z => h2 z.symm
    have b3 : (Str.ofString "bare" == w) = false := beq_eq_false_iff_ne.mpr fun z => h3 z.symm
    (try simp -implicitDefEqProofs [look, lookB, isOwn, bindT_nm, bindT_tp, bindT_tl, bindT_td, bindTs_n, bindTs_c, bTs_some, wipeT, wipeTs, canSet, fitsL, truth, toP, eqOk, sc, items_sq, items_zip, items_enum, items1, kApp, kExt, PyData.eqv, at_0, at_1, at_2, at_3, at_4, T__law_goal, fd__law_goal, eqv_strQ, -PyData.eqv, flat, b1, b2, b3, ogl]); (try simp only [bind_assoc])
theorem goal_run (n : Nat) {x : PyData} (h : Shp x) (S : Store) : run G T (n+1) f_goal_of [.p x] S = .ok (.p (ogl (jumpQ x))) S := by
  rw [run_succ _ _ _ _ _ _ rfl]
  have g1 : G g_JUMPING = .p (.tuple [.str "go", .str "if", .str "bare"]) := rfl
  cases h with
  | go t =>
    rw [jump_go]
    (try simp -implicitDefEqProofs [look, lookB, isOwn, bindT_nm, bindT_tp, bindT_tl, bindT_td, bindTs_n, bindTs_c, bTs_some, wipeT, wipeTs, canSet, fitsL, truth, toP, eqOk, sc, items_sq, items_zip, items_enum, items1, kApp, kExt, PyData.eqv, at_0, at_1, at_2, at_3, at_4, T_goal_of, fd_goal_of, g1, eqv_strQ, -PyData.eqv, flat, ogl]); (try simp only [bind_assoc])
  | jmp w hw q t =>
    rw [jump_jmp hw]
    have i2 : L2.atI [PyData.str w, .int q, .int t] 2 = some (.int t) := at_2 _ _ _ _
    rcases hw with rfl | rfl
    · (try simp -implicitDefEqProofs [look, lookB, isOwn, bindT_nm, bindT_tp, bindT_tl, bindT_td, bindTs_n, bindTs_c, bTs_some, wipeT, wipeTs, canSet, fitsL, truth, toP, eqOk, sc, items_sq, items_zip, items_enum, items1, kApp, kExt, PyData.eqv, at_0, at_1, at_2, at_3, at_4, T_goal_of, fd_goal_of, g1, eqv_strQ, -PyData.eqv, flat, ogl, i2]); (try simp only [bind_assoc])
    · (try simp -implicitDefEqProofs [look, lookB, isOwn, bindT_nm, bindT_tp, bindT_tl, bindT_td, bindTs_n, bindTs_c, bTs_some, wipeT, wipeTs, canSet, fitsL, truth, toP, eqOk, sc, items_sq, items_zip, items_enum, items1, kApp, kExt, PyData.eqv, at_0, at_1, at_2, at_3, at_4, T_goal_of, fd_goal_of, g1, eqv_strQ, -PyData.eqv, flat, ogl, i2]); (try simp only [bind_assoc])
  | oth w ys h1 h2 h3 =>
    rw [jump_oth h1 h2 h3]
    have b1 : (Str.ofString "go" == w) = false := beq_eq_false_iff_ne.mpr fun z => h1 z.symm
    have b2 : (Str.ofString "if" == w) = false := beq_eq_false_iff_ne.mpr fun z => h2 z.symm
    have b3 : (Str.ofString "bare" == w) = false := beq_eq_false_iff_ne.mpr fun z => h3 z.symm
    (try simp -implicitDefEqProofs [look, lookB, isOwn, bindT_nm, bindT_tp, bindT_tl, bindT_td, bindTs_n, bindTs_c, bTs_some, wipeT, wipeTs, canSet, fitsL, truth, toP, eqOk, sc, items_sq, items_zip, items_enum, items1, kApp, kExt, PyData.eqv, at_0, at_1, at_2, at_3, at_4, T_goal_of, fd_goal_of, g1, eqv_strQ, -PyData.eqv, flat, b1, b2, b3, ogl]); (try simp only [bind_assoc])
theorem with_run (n : Nat) {x : PyData} (h : Shp x) {t : Nat} (e : jumpQ x = some t) (v : Nat) (S : Store) : run G T (n+1) f_with_goal [.p x, .p (.int v)] S = .ok (.p (toQ x v)) S := by
  rw [run_succ _ _ _ _ _ _ rfl]
  cases h with
  | go t =>
    rw [to_go]
    (try simp -implicitDefEqProofs [look, lookB, isOwn, bindT_nm, bindT_tp, bindT_tl, bindT_td, bindTs_n, bindTs_c, bTs_some, wipeT, wipeTs, canSet, fitsL, truth, toP, eqOk, sc, items_sq, items_zip, items_enum, items1, kApp, kExt, PyData.eqv, at_0, at_1, at_2, at_3, at_4, T_with_goal, fd_with_goal, cut2']); (try simp only [bind_assoc])
  | jmp w hw q t =>
    rw [to_jmp hw]
    (try simp -implicitDefEqProofs [look, lookB, isOwn, bindT_nm, bindT_tp, bindT_tl, bindT_td, bindTs_n, bindTs_c, bTs_some, wipeT, wipeTs, canSet, fitsL, truth, toP, eqOk, sc, items_sq, items_zip, items_enum, items1, kApp, kExt, PyData.eqv, at_0, at_1, at_2, at_3, at_4, T_with_goal, fd_with_goal, cut3']); (try simp only [bind_assoc])
  | oth w ys h1 h2 h3 => rw [jump_oth h1 h2 h3] at e; cases e
/-- a jump's members but for its goal -/
theorem Shp.pre {x : PyData} (h : Shp x) {t : Nat} (e : jumpQ x = some t) : ∃ ys pre, x = .tuple ys ∧ cut ys none (some (-1)) = pre ∧ pre.length ≤ 2 ∧ ∀ v : Nat, toQ x v = .tuple (pre ++ [.int v]) := by
  cases h with
  | go t => exact ⟨_, _, rfl, cut2 _ _, by simp, fun v => to_go t v⟩
  | jmp w hw q t => exact ⟨_, _, rfl, cut3 _ _ _, by simp, fun v => to_jmp hw q t v⟩
  | oth w ys h1 h2 h3 => rw [jump_oth h1 h2 h3] at e; cases e
theorem Shp.word {x : PyData} (h : Shp x) : ∃ w ys, x = .tuple (.str w :: ys) ∧ (w == Str.ofString "go") = goQ x := by
  cases h with
  | go t => exact ⟨_, _, rfl, by rw [go_go]; rfl⟩
  | jmp w hw q t =>
    refine ⟨_, _, rfl, ?_⟩
    rw [go_jmp]
    rcases hw with rfl | rfl <;> decide +kernel
  | oth w ys h1 h2 h3 => exact ⟨_, _, rfl, by rw [go_oth h1]; exact beq_eq_false_iff_ne.mpr h1⟩
theorem sm_allT : ∀ {xs : List PyData}, (∀ x ∈ xs, sm x = true) → smAll xs = true
  | [], _ => rfl
  | x :: xs, h => by rw [smAll, h x List.mem_cons_self, sm_allT fun y hy => h y (List.mem_cons_of_mem _ hy)]; rfl
theorem sm_tup {xs : List PyData} (h : ∀ x ∈ xs, sm x = true ∧ x.depth ≤ 1) (hl : xs.length ≤ 1000) : sm (.tuple xs) = true ∧ (PyData.tuple xs).depth ≤ 2 := by
  have := depAll_le fun x hx => (h x hx).2
  exact ⟨by rw [sm, sm_allT fun x hx => (h x hx).1, decide_eq_true hl]; rfl, by simp only [PyData.depth]; omega⟩
theorem sm_lst2 {a b : PyData} (ha : sm a = true ∧ a.depth ≤ 2) (hb : sm b = true ∧ b.depth ≤ 2) : sm (.list [a, b]) = true ∧ (PyData.list [a, b]).depth ≤ 3 := by
  refine ⟨by rw [sm, smAll, smAll, smAll, ha.1, hb.1]; rfl, ?_⟩
  have := ha.2
  have := hb.2
  simp only [PyData.depth, PyData.depthAll]
  omega
@[simp] theorem kCall_0 (Fn : Nat → List D → Store → Out D) (f : Nat) (a : D) (S : Store) : kCall Fn f [0] [a] S = Fn f [a] S := rfl
theorem to_sm {x : PyData} (h : Shp x) (hs : sm x = true ∧ x.depth ≤ 1) (u : Nat) : sm (toQ x u) = true ∧ (toQ x u).depth ≤ 1 := by
  cases h with
  | go t => rw [to_go]; exact ⟨rfl, by simp [PyData.depth, PyData.depthAll]⟩
  | jmp w hw q t => rw [to_jmp hw]; exact ⟨rfl, by simp [PyData.depth, PyData.depthAll]⟩
  | oth w ys h1 h2 h3 => rw [to_oth h1 h2 h3]; exact hs
theorem kSs_appT {G : Nat → D} {Fn : Nat → List D → Store → Out D} : ∀ (a b : List EC.S) (ρ : Env) (S : Store), evSs G Fn (a ++ b) ρ S = (evSs G Fn a ρ S).bind (kSs G Fn b)
  | [], b, ρ, S => by rw [List.nil_append, evSs_nil, bind_ok, kSs_nx]
  | s :: a, b, ρ, S => by
    rw [List.cons_append, evSs_cons, evSs_cons, bind_assoc]
    congr 1
    funext f S1
    cases f with
    | nx ρ' => rw [kSs_nx, kSs_nx]; exact kSs_appT a b ρ' S1
    | rt d => rfl
    | bk ρ' => rfl
    | ct ρ' => rfl
theorem Gd_appT {G : Nat → D} {Fn : Nat → List D → Store → Out D} {a b : List EC.S} {ρ : Env} {S : Store} {P Q : Fl → Store → Prop} (h : Gd (evSs G Fn a ρ S) P) (hb : ∀ f S', P f S' → Gd (kSs G Fn b f S') Q) : Gd (evSs G Fn (a ++ b) ρ S) Q := by
  rw [kSs_appT]
  exact Gd.bind h hb
theorem mem_cutT {α : Type} {xs : List α} {lo hi : Option Int} {x : α} (h : x ∈ cut xs lo hi) : x ∈ xs := by
  unfold cut at h
  exact List.mem_of_mem_drop (List.mem_of_mem_take h)
theorem rngU_cons (m : Nat) : rngU (((m + 1 : Nat) : Int) - 1) (m + 1) = .p (.int m) :: rngU ((m : Int) - 1) m := by
  unfold rngU
  rw [List.range_succ_eq_map, List.map_cons, List.map_map]
  congr 1
  · congr 2; omega
  · refine List.map_congr_left fun i _ => ?_
    simp only [Function.comp, Nat.succ_eq_add_one]
    congr 2
    omega
theorem items_down (S : Store) (n : Nat) (h : n ≤ 1000000) : items S .rng [.p (.int ((n : Int) - 1)), .p (.int (-1)), .p (.int (-1))] = some (rngU ((n : Int) - 1) n) := by
  show (if _ then _ else _) = _
  rw [if_pos]
  · congr 2
    omega
  · rw [decide_eq_true_eq]
    have e : (2 : Int) ^ 62 = 4611686018427387904 := by decide +kernel
    rw [e]
    omega
end EC

namespace EC
open PySem
/-! ### rows that are kept, counted -/
def cntP (p : Nat → Bool) (g : Nat) : Nat := ((List.range g).filter p).length
theorem cnt_zero (p : Nat → Bool) : cntP p 0 = 0 := rfl
theorem cnt_succ (p : Nat → Bool) (g : Nat) : cntP p (g + 1) = cntP p g + if p g then 1 else 0 := by
  unfold cntP
  rw [List.range_succ, List.filter_append, List.length_append]
  cases h : p g <;> simp [h]
theorem cnt_le (p : Nat → Bool) : ∀ g, cntP p g ≤ g
  | 0 => Nat.le_refl _
  | g + 1 => by
    have := cnt_le p g
    rw [cnt_succ]
    split <;> omega
theorem cnt_not (p : Nat → Bool) : ∀ g, cntP p g + cntP (fun k => !p k) g = g
  | 0 => rfl
  | g + 1 => by
    have := cnt_not p g
    rw [cnt_succ, cnt_succ]
    cases h : p g <;> simp <;> omega
def idxL (p : Nat → Bool) : Nat → Nat → List Nat
  | _, 0 => []
  | k, m + 1 => if p k then k :: idxL p (k + 1) m else idxL p (k + 1) m
theorem idx_len (p : Nat → Bool) : ∀ (m k : Nat), (idxL p k m).length + cntP p k = cntP p (k + m)
  | 0, k => by simp [idxL]
  | m + 1, k => by
    have := idx_len p m (k + 1)
    rw [cnt_succ] at this
    rw [show k + (m + 1) = k + 1 + m from by omega, idxL]
    cases h : p k
    · simp only [h, Bool.false_eq_true, if_false] at this ⊢; omega
    · simp only [h, if_true, List.length_cons] at this ⊢; omega
theorem idx_le (p : Nat → Bool) : ∀ (m k : Nat), (idxL p k m).length ≤ m
  | 0, k => Nat.le_refl _
  | m + 1, k => by
    have := idx_le p m (k + 1)
    rw [idxL]
    split
    · rw [List.length_cons]; omega
    · omega
theorem idx_mem (p : Nat → Bool) : ∀ (m k j : Nat), j ∈ idxL p k m ↔ k ≤ j ∧ j < k + m ∧ p j = true
  | 0, k, j => by simp [idxL]; omega
  | m + 1, k, j => by
    have ih := idx_mem p m (k + 1) j
    rw [idxL]
    cases h : p k with
    | true =>
      rw [if_pos rfl, List.mem_cons, ih]
      constructor
      · rintro (rfl | ⟨h1, h2, h3⟩)
        · exact ⟨Nat.le_refl _, by omega, h⟩
        · exact ⟨by omega, by omega, h3⟩
      · rintro ⟨h1, h2, h3⟩
        by_cases e : j = k
        · exact .inl e
        · exact .inr ⟨by omega, by omega, h3⟩
    | false =>
      rw [if_neg (by simp), ih]
      constructor
      · rintro ⟨h1, h2, h3⟩; exact ⟨by omega, by omega, h3⟩
      · rintro ⟨h1, h2, h3⟩
        have : j ≠ k := fun e => by rw [e, h] at h3; cases h3
        exact ⟨by omega, by omega, h3⟩
theorem idx_below (p : Nat → Bool) (g : Nat) : ∀ (m k : Nat), ((idxL p k m).filter fun j => decide (j < g)).length + cntP p (min k g) = cntP p (min (k + m) g)
  | 0, k => by simp [idxL]
  | m + 1, k => by
    have ih := idx_below p g m (k + 1)
    rw [show k + (m + 1) = k + 1 + m from by omega, ← ih, idxL]
    by_cases hk : k < g
    · rw [show min k g = k from by omega, show min (k + 1) g = k + 1 from by omega, cnt_succ]
      cases h : p k
      · simp
      · simp [hk]; omega
    · rw [show min k g = g from by omega, show min (k + 1) g = g from by omega]
      cases h : p k
      · simp
      · simp [hk]
def il (M : List Nat) : List PyData := M.map fun (j : Nat) => PyData.int (j : Int)
theorem il_len (M : List Nat) : (il M).length = M.length := List.length_map ..
theorem il_app (M N : List Nat) : il M ++ il N = il (M ++ N) := (List.map_append ..).symm
theorem il_flat : ∀ M : List Nat, (il M).all flat = true
  | [] => rfl
  | _ :: M => by rw [il, List.map_cons, List.all_cons]; exact il_flat M
theorem il_any (k : Nat) : ∀ M : List Nat, ((il M).any fun y => PyData.eqv y (.int k)) = decide (k ∈ M)
  | [] => by simp [il]
  | j :: M => by
    have ih := il_any k M
    rw [il, List.map_cons, List.any_cons]
    show (PyData.eqv (.int j) (.int k) || (il M).any _) = _
    rw [ih, eqv_iQ]
    by_cases e : j = k
    · subst e; simp
    · have e1 : ((j : Int) == (k : Int)) = false := by rw [beq_eq_false_iff_ne]; omega
      have e2 : ¬ k = j := fun z => e z.symm
      rw [e1]
      simp [e2]
theorem mem_il (k : Nat) (M : List Nat) : p_mem [.p (.int k), .p (.list (il M))] = some (.p (.bool (decide (k ∈ M)))) := by
  rw [p_mem_0, il_flat, il_any]; rfl
theorem nmem_il (k : Nat) (M : List Nat) : p_nmem [.p (.int k), .p (.list (il M))] = some (.p (.bool (!decide (k ∈ M)))) := by
  rw [p_nmem_0, il_flat, il_any]; rfl
/-- a row whose goal is told anew, by how many rows ahead of it are kept -/
def lblQ (p : Nat → Bool) (x : PyData) : PyData := match jumpQ x with
  | some t => toQ x (cntP p t)
  | none => x
def keepL (p : Nat → Bool) : Nat → List PyData → List PyData
  | _, [] => []
  | k, x :: xs => if p k then lblQ p x :: keepL p (k + 1) xs else keepL p (k + 1) xs
theorem keep_len (p : Nat → Bool) : ∀ (xs : List PyData) (k : Nat), (keepL p k xs).length ≤ xs.length
  | [], k => Nat.le_refl _
  | x :: xs, k => by
    have := keep_len p xs (k + 1)
    rw [keepL]
    split
    · rw [List.length_cons, List.length_cons]; omega
    · rw [List.length_cons]; omega
theorem keep_mem (p : Nat → Bool) : ∀ (xs : List PyData) (k : Nat), ∀ y ∈ keepL p k xs, ∃ x ∈ xs, y = lblQ p x
  | [], k, y, h => by cases h
  | x :: xs, k, y, h => by
    rw [keepL] at h
    split at h
    · rcases List.mem_cons.mp h with rfl | h
      · exact ⟨x, List.mem_cons_self, rfl⟩
      · obtain ⟨z, h1, h2⟩ := keep_mem p xs (k + 1) y h
        exact ⟨z, List.mem_cons_of_mem _ h1, h2⟩
    · obtain ⟨z, h1, h2⟩ := keep_mem p xs (k + 1) y h
      exact ⟨z, List.mem_cons_of_mem _ h1, h2⟩
theorem keep_sm {rows : List PyData} (R : RwL rows) (p : Nat → Bool) : sm (.tuple (keepL p 0 rows)) = true ∧ (PyData.tuple (keepL p 0 rows)).depth ≤ 2 := by
  have h300 := R.len
  have kl := keep_len p rows 0
  refine sm_tup (fun y hy => ?_) (by omega)
  obtain ⟨x, hx, rfl⟩ := keep_mem p rows 0 y hy
  obtain ⟨i, hi, e⟩ := List.getElem_of_mem hx
  have t := R.mem x hx
  have sx := R.jr.sh i x (by rw [List.getElem?_eq_getElem hi, e])
  unfold lblQ
  cases jumpQ x with
  | none => exact ⟨t.s, t.dep⟩
  | some u => exact to_sm sx ⟨t.s, t.dep⟩ _
/-! ### dicts whose keys are whole numbers -/
theorem dfI_set {x : Int} {v : D} : ∀ (ks : List Int) (ds : List D), ks.length = ds.length → ∀ y, dfindI ks (ds.set (ks.idxOf x) v) y = if y = x ∧ x ∈ ks then some v else dfindI ks ds y
  | [], [], _, y => by simp [dfindI]
  | [], _ :: _, h, _ => nomatch h
  | _ :: _, [], h, _ => nomatch h
  | k :: ks, d :: ds, h, y => by
    have ih := dfI_set (x := x) (v := v) ks ds (by simpa using h) y
    by_cases e : k = x
    · subst e
      rw [List.idxOf_cons_self, List.set_cons_zero]
      unfold dfindI
      by_cases e2 : k = y
      · rw [if_pos e2, if_pos ⟨e2.symm, List.mem_cons_self⟩]
      · rw [if_neg e2, if_neg fun z => e2 z.1.symm, if_neg e2]
    · rw [show List.idxOf x (k :: ks) = ks.idxOf x + 1 from by rw [List.idxOf_cons, beq_false_of_ne e]; rfl, List.set_cons_succ]
      unfold dfindI
      by_cases e2 : k = y
      · rw [if_pos e2, if_neg fun z => e (e2.trans z.1), if_pos e2]
      · rw [if_neg e2, if_neg e2, ih]
        have : (x ∈ k :: ks) ↔ x ∈ ks := by simp [Ne.symm e]
        simp only [this]
theorem dfI_app {x : Int} {v : D} : ∀ (ks : List Int) (ds : List D), ks.length = ds.length → x ∉ ks → ∀ y, dfindI (ks ++ [x]) (ds ++ [v]) y = if y = x then some v else dfindI ks ds y
  | [], [], _, _, y => by
    simp only [List.nil_append]
    unfold dfindI
    by_cases e : y = x
    · rw [if_pos e.symm, if_pos e]
    · rw [if_neg fun z => e z.symm, if_neg e]; simp [dfindI]
  | [], _ :: _, h, _, _ => nomatch h
  | _ :: _, [], h, _, _ => nomatch h
  | k :: ks, d :: ds, h, hx, y => by
    have ih := dfI_app (x := x) (v := v) ks ds (by simpa using h) (fun z => hx (List.mem_cons_of_mem _ z)) y
    rw [List.cons_append, List.cons_append]
    unfold dfindI
    by_cases e : k = y
    · have : ¬ y = x := fun z => hx (by rw [← z, ← e]; exact List.mem_cons_self)
      rw [if_pos e, if_neg this, if_pos e]
    · rw [if_neg e, ih, if_neg e]
theorem setI_run {S : Store} {q : Nat} {ks : List Int} {ds : List D} (h : S[q]? = some (.dci ks ds)) (hl : ks.length = ds.length) (hz : ks.length < 1000000) (x : Int) (v : D) :
    ∃ ks' ds', setDk S v (.ref q) (.p (.int x)) = .ok () (S.set q (.dci ks' ds')) ∧ ks'.length = ds'.length ∧ ks'.length ≤ ks.length + 1 ∧ (∀ y, dfindI ks' ds' y = if y = x then some v else dfindI ks ds y) ∧ ∀ y, y ∈ ks' ↔ y = x ∨ y ∈ ks := by
  have e : setDk S v (.ref q) (.p (.int x)) = .ok () (S.set q (if x ∈ ks then .dci ks (ds.set (ks.idxOf x) v) else .dci (ks ++ [x]) (ds ++ [v]))) := by
    show (match S[q]? with
      | some (.dci ks ds) => if decide (ks.length < 1000000) then Out.ok () (S.set q (if x ∈ ks then .dci ks (ds.set (ks.idxOf x) v) else .dci (ks ++ [x]) (ds ++ [v]))) else .bad
      | _ => .bad) = _
    rw [h]
    show (if decide (ks.length < 1000000) then _ else _) = _
    rw [if_pos (decide_eq_true hz)]
  by_cases c : x ∈ ks
  · rw [if_pos c] at e
    refine ⟨ks, _, e, by rw [List.length_set]; exact hl, by omega, fun y => ?_, fun y => ⟨fun z => .inr z, fun z => z.elim (fun z => z ▸ c) id⟩⟩
    rw [dfI_set ks ds hl y]
    simp only [c, and_true]
  · rw [if_neg c] at e
    refine ⟨_, _, e, by rw [List.length_append, List.length_append, hl]; rfl, by rw [List.length_append]; exact Nat.le_refl _, fun y => dfI_app ks ds hl c y, fun y => ?_⟩
    rw [List.mem_append, List.mem_singleton, or_comm]
theorem memI_run {S : Store} {q : Nat} {ks : List Int} {ds : List D} (h : S[q]? = some (.dci ks ds)) (x : Int) : p_memK S [.p (.int x), .ref q] = some (.p (.bool (decide (x ∈ ks)))) := by
  show (match S[q]? with | some (.dci ks _) => some (D.p (.bool (decide (x ∈ ks)))) | _ => none) = _
  rw [h]
theorem getI_run {S : Store} {q : Nat} {ks : List Int} {ds : List D} (h : S[q]? = some (.dci ks ds)) (x : Int) : dgetO S (.ref q) (.p (.int x)) = some (dfindI ks ds x) := by
  rw [dgetO_eqI, h]
theorem isDI_run {S : Store} {q : Nat} {ks : List Int} {ds : List D} (h : S[q]? = some (.dci ks ds)) : isDc S (.ref q) = true := by
  rw [isDc_ref, h]
theorem atI_set {S : Store} {q : Nat} {o : Ob} (h : S[q]? = some o) (o' : Ob) : (S.set q o')[q]? = some o' := by
  rw [List.getElem?_set_self (List.getElem?_eq_some_iff.mp h).1]
/-! ### which rows are met -/
def nextQ (x : PyData) (k : Nat) : List Nat := (if goQ x then [] else [k + 1]) ++ (match jumpQ x with
  | some t => [t]
  | none => [])
def waysQ (x : PyData) (k : Nat) : List Nat := match jumpQ x with
  | some t => if goQ x then [t] else [k + 1, t]
  | none => [k + 1]
theorem ways_next {x : PyData} (h : Shp x) (k j : Nat) : j ∈ waysQ x k ↔ j ∈ nextQ x k := by
  unfold waysQ nextQ
  cases h with
  | go t => rw [jump_go, go_go]; simp
  | jmp w hw q t => rw [jump_jmp hw, go_jmp]; simp
  | oth w ys h1 h2 h3 => rw [jump_oth h1 h2 h3, go_oth h1]; simp
theorem next_len (x : PyData) (k : Nat) : (nextQ x k).length ≤ 2 := by
  unfold nextQ
  rw [List.length_append]
  cases goQ x <;> cases jumpQ x <;> simp
def metQ (rows : List PyData) : Nat → List Nat
  | 0 => [0]
  | k + 1 => if k ∈ metQ rows k then metQ rows k ++ (match rows[k]? with
    | some x => nextQ x k
    | none => []) else metQ rows k
theorem met_len (rows : List PyData) : ∀ k, (metQ rows k).length ≤ 1 + 2 * k
  | 0 => Nat.le_refl _
  | k + 1 => by
    have := met_len rows k
    rw [metQ]
    split
    · rw [List.length_append]
      cases rows[k]? with
      | none => simp; omega
      | some x =>
        have := next_len x k
        simp only
        omega
    · omega
theorem met_in {rows : List PyData} {k : Nat} {x : PyData} (e : rows[k]? = some x) (h : k ∈ metQ rows k) : metQ rows (k + 1) = metQ rows k ++ nextQ x k := by
  rw [metQ, if_pos h, e]
theorem met_out {rows : List PyData} {k : Nat} (h : k ∉ metQ rows k) : metQ rows (k + 1) = metQ rows k := by
  rw [metQ, if_neg h]
def pM (rows : List PyData) (k : Nat) : Bool := decide (k ∈ metQ rows rows.length)
end EC

namespace EC
open PySem
/-! ### k31: the law's way -/
theorem at_last (x : PyData) (xs : List PyData) : ∃ y, L2.atI (x :: xs) (-1) = some y ∧ y ∈ x :: xs := by
  refine ⟨(x :: xs).getLast (by simp), ?_, List.getLast_mem _⟩
  have := at_m1 (x :: xs).dropLast ((x :: xs).getLast (by simp))
  rwa [List.dropLast_concat_getLast] at this
theorem lnext_run (n : Nat) {x : PyData} (h : Shp x) (k : Nat) (S : Store) : run G T (n+1) f__law_next [.p x, .p (.int k)] S = .ok (.p (.list (il (nextQ x k)))) S := by
  rw [run_succ _ _ _ _ _ _ rfl]
  have e1 : ((k + 1 : Nat) : Int) = (k : Int) + 1 := by omega
  cases h with
  | go t =>
    have e : L2.atI [PyData.str (Str.ofString "go"), .int t] (-1) = some (.int t) := at_m1 [_] _
    (try simp -implicitDefEqProofs [look, lookB, isOwn, bindT_nm, bindT_tp, bindT_tl, bindT_td, bindTs_n, bindTs_c, bTs_some, wipeT, wipeTs, canSet, fitsL, truth, toP, eqOk, sc, items_sq, items_zip, items_enum, items1, kApp, kExt, PyData.eqv, at_0, at_1, at_2, at_3, at_4, T__law_next, fd__law_next, eqv_strQ, eqok_sQ, -PyData.eqv, flat, e, il, nextQ, go_go, jump_go]); (try simp only [bind_assoc])
  | jmp w hw q t =>
    have e : L2.atI [PyData.str w, .int q, .int t] (-1) = some (.int t) := at_m1 [_, _] _
    have j := jump_jmp hw q t
    have g := go_jmp w q t
    rcases hw with rfl | rfl
    · (try simp -implicitDefEqProofs [look, lookB, isOwn, bindT_nm, bindT_tp, bindT_tl, bindT_td, bindTs_n, bindTs_c, bTs_some, wipeT, wipeTs, canSet, fitsL, truth, toP, eqOk, sc, items_sq, items_zip, items_enum, items1, kApp, kExt, PyData.eqv, at_0, at_1, at_2, at_3, at_4, T__law_next, fd__law_next, eqv_strQ, eqok_sQ, -PyData.eqv, flat, e, il, nextQ, g, j, e1]); (try simp only [bind_assoc])
    · (try simp -implicitDefEqProofs [look, lookB, isOwn, bindT_nm, bindT_tp, bindT_tl, bindT_td, bindTs_n, bindTs_c, bTs_some, wipeT, wipeTs, canSet, fitsL, truth, toP, eqOk, sc, items_sq, items_zip, items_enum, items1, kApp, kExt, PyData.eqv, at_0, at_1, at_2, at_3, at_4, T__law_next, fd__law_next, eqv_strQ, eqok_sQ, -PyData.eqv, flat, e, il, nextQ, g, j, e1]); (try simp only [bind_assoc])
  | oth w ys h1 h2 h3 =>
    have b0 : (w == Str.ofString "go") = false := beq_eq_false_iff_ne.mpr h1
    have b1 : (Str.ofString "go" == w) = false := beq_eq_false_iff_ne.mpr fun z => h1 z.symm
    have b2 : (Str.ofString "if" == w) = false := beq_eq_false_iff_ne.mpr fun z => h2 z.symm
    have b3 : (Str.ofString "bare" == w) = false := beq_eq_false_iff_ne.mpr fun z => h3 z.symm
    obtain ⟨y, ey, _⟩ := at_last (.str w) ys
    have j := jump_oth (ys := ys) h1 h2 h3
    have g := go_oth (ys := ys) h1
    (try simp -implicitDefEqProofs [look, lookB, isOwn, bindT_nm, bindT_tp, bindT_tl, bindT_td, bindTs_n, bindTs_c, bTs_some, wipeT, wipeTs, canSet, fitsL, truth, toP, eqOk, sc, items_sq, items_zip, items_enum, items1, kApp, kExt, PyData.eqv, at_0, at_1, at_2, at_3, at_4, T__law_next, fd__law_next, eqv_strQ, eqok_sQ, -PyData.eqv, flat, b0, b1, b2, b3, ey, il, nextQ, g, j, e1]); (try simp only [bind_assoc])
theorem below_comp {Fn : Nat → List D → Store → Out D} (t : Int) (a0 a1 a2 a3 a4 a6 : Slot) (S : Store) : ∀ M : List Nat, compL (stepC G Fn (.nm 6) [.pr .lt [.v 6, .v 5]] (.v 6) [a0, a1, a2, a3, a4, .v (.p (.int t)), a6]) ((il M).map D.p) S = .ok (il (M.filter fun (j : Nat) => decide ((j : Int) < t))) S
  | [] => rfl
  | j :: M => by
    have ih := below_comp (Fn := Fn) t a0 a1 a2 a3 a4 a6 S M
    have e : (il (j :: M)).map D.p = .p (.int j) :: (il M).map D.p := rfl
    rw [e, compL_cons]
    by_cases c : (j : Int) < t
    · have st : stepC G Fn (.nm 6) [.pr .lt [.v 6, .v 5]] (.v 6) [a0, a1, a2, a3, a4, .v (.p (.int t)), a6] (.p (.int j)) S = .ok (some (.int j)) S := by
        rw [stepC_eq]
        (try simp -implicitDefEqProofs [look, lookB, isOwn, bindT_nm, bindT_tp, bindT_tl, bindT_td, bindTs_n, bindTs_c, bTs_some, wipeT, wipeTs, canSet, fitsL, truth, toP, eqOk, sc, items_sq, items_zip, items_enum, items1, kApp, kExt, PyData.eqv, at_0, at_1, at_2, at_3, at_4, c]); (try simp only [bind_assoc])
      rw [st, noX_ok, bind_ok, kComp_eq, ih, bind_ok, kAddO_eq, addO_some, List.filter_cons_of_pos (by simpa using c)]
      rfl
    · have st : stepC G Fn (.nm 6) [.pr .lt [.v 6, .v 5]] (.v 6) [a0, a1, a2, a3, a4, .v (.p (.int t)), a6] (.p (.int j)) S = .ok none S := by
        rw [stepC_eq]
        (try simp -implicitDefEqProofs [look, lookB, isOwn, bindT_nm, bindT_tp, bindT_tl, bindT_td, bindTs_n, bindTs_c, bTs_some, wipeT, wipeTs, canSet, fitsL, truth, toP, eqOk, sc, items_sq, items_zip, items_enum, items1, kApp, kExt, PyData.eqv, at_0, at_1, at_2, at_3, at_4, c]); (try simp only [bind_assoc])
      rw [st, noX_ok, bind_ok, kComp_eq, ih, bind_ok, kAddO_eq, List.filter_cons_of_neg (by simpa using c)]
      rfl
theorem lleft_loop (n : Nat) {rows : List PyData} (J : Jr rows) (h300 : rows.length ≤ 300) (p : Nat → Bool) (S : Store) : ∀ (xs : List PyData) (k : Nat) (f : List PyData) (a3 a4 a5 a6 : Slot), rows.drop k = xs → f.length ≤ k → k ≤ rows.length →
    ∃ b3 b4 b5 b6, forL (stepF G (run G T (n+1)) (.nm 3) [.ifs (.pr .nmem [.v 3, .v 1]) [.asg (.tup [.nm 4, .nm 5]) (.ef .mkt [.pr .idx [.v 0, .v 3], .call f__law_goal [] [.pr .idx [.v 0, .v 3]]]), .ifs (.pr .notN [.v 5]) [.asg (.nm 4) (.pr .add [.pr (.slice false true) [.v 4, .pr .neg [.c (.int 1)]], .ef .mkt [.pr .sub [.v 5, .pr .len [.comp (.nm 6) .sq [.v 1] [.pr .lt [.v 6, .v 5]] (.v 6)]]]])] [], .oapp 2 (.v 4)] []]) (rngD (k : Int) xs.length) [.v (.p (.tuple rows)), .v (.p (.list (il (idxL (fun j => !p j) 0 rows.length)))), .own f, a3, a4, a5, a6] S =
      .ok (.nx [.v (.p (.tuple rows)), .v (.p (.list (il (idxL (fun j => !p j) 0 rows.length)))), .own (f ++ keepL p k xs), b3, b4, b5, b6]) S
  | [], k, f, a3, a4, a5, a6, _, _, _ => ⟨a3, a4, a5, a6, by rw [keepL, List.append_nil]; rfl⟩
  | x :: xs, k, f, a3, a4, a5, a6, hd, hf, hk => by
    have lt : k < rows.length := by
      rcases Nat.lt_or_ge k rows.length with z | z
      · exact z
      · rw [List.drop_of_length_le z] at hd; cases hd
    have ex : rows[k]? = some x := by
      rw [List.drop_eq_getElem_cons lt] at hd
      injection hd with h1 _
      rw [List.getElem?_eq_getElem lt, h1]
    have hd2 : rows.drop (k + 1) = xs := by
      rw [List.drop_eq_getElem_cons lt] at hd
      injection hd
    have sx := J.sh k x ex
    have ea : L2.atI rows (k : Int) = some x := by rw [atI_nat]; exact ex
    have nm : p_nmem [.p (.int k), .p (.list (il (idxL (fun j => !p j) 0 rows.length)))] = some (.p (.bool (p k))) := by
      rw [nmem_il]
      congr 3
      cases h : p k with
      | true =>
        have : ¬ k ∈ idxL (fun j => !p j) 0 rows.length := by rw [idx_mem]; simp [h]
        simp [this]
      | false =>
        have : k ∈ idxL (fun j => !p j) 0 rows.length := by rw [idx_mem]; simp [h]; exact lt
        simp [this]
    have fl : f.length ≤ 16777215 := by omega
    have fl' : f.length + 1 ≤ 16777216 := by omega
    rw [List.length_cons, rngD_consT, forL_cons, stepF_eq, keepL]
    cases hp : p k with
    | false =>
      rw [hp] at nm
      obtain ⟨b3, b4, b5, b6, ih⟩ := lleft_loop n J h300 p S xs (k + 1) f (.v (.p (.int k))) a4 a5 a6 hd2 (by omega) (by omega)
      rw [show ((k + 1 : Nat) : Int) = (k : Int) + 1 from by omega] at ih
      refine ⟨b3, b4, b5, b6, ?_⟩
      (try simp -implicitDefEqProofs [look, lookB, isOwn, bindT_nm, bindT_tp, bindT_tl, bindT_td, bindTs_n, bindTs_c, bTs_some, wipeT, wipeTs, canSet, fitsL, truth, toP, eqOk, sc, items_sq, items_zip, items_enum, items1, kApp, kExt, PyData.eqv, at_0, at_1, at_2, at_3, at_4, nm, -p_nmem_0]); (try simp only [bind_assoc])
      exact ih
    | true =>
      rw [hp] at nm
      have e1 := lgoal_run n sx S
      cases qj : jumpQ x with
      | none =>
        rw [qj] at e1
        have e1 : run G T (n+1) f__law_goal [.p x] S = .ok (.p .none) S := e1
        have lb : lblQ p x = x := by unfold lblQ; rw [qj]
        obtain ⟨b3, b4, b5, b6, ih⟩ := lleft_loop n J h300 p S xs (k + 1) (f ++ [x]) (.v (.p (.int k))) (.v (.p x)) (.v (.p .none)) a6 hd2 (by rw [List.length_append, List.length_singleton]; omega) (by omega)
        rw [show ((k + 1 : Nat) : Int) = (k : Int) + 1 from by omega] at ih
        refine ⟨b3, b4, b5, b6, ?_⟩
        rw [if_pos rfl, lb, show f ++ x :: keepL p (k + 1) xs = (f ++ [x]) ++ keepL p (k + 1) xs from by simp]
        (try simp -implicitDefEqProofs [look, lookB, isOwn, bindT_nm, bindT_tp, bindT_tl, bindT_td, bindTs_n, bindTs_c, bTs_some, wipeT, wipeTs, canSet, fitsL, truth, toP, eqOk, sc, items_sq, items_zip, items_enum, items1, kApp, kExt, PyData.eqv, at_0, at_1, at_2, at_3, at_4, nm, ea, e1, fl, fl', -p_nmem_0, -List.append_assoc]); (try simp only [bind_assoc])
        exact ih
      | some t =>
        rw [qj] at e1
        have e1 : run G T (n+1) f__law_goal [.p x] S = .ok (.p (.int t)) S := e1
        have lb : lblQ p x = toQ x (cntP p t) := by unfold lblQ; rw [qj]
        obtain ⟨ys, pre, rfl, c1, c2, c3⟩ := sx.pre qj
        have tn := (J.lt k _ t ex qj).2
        have bc := fun (a0 a1 a2 a3 a4 a6 : Slot) => below_comp (Fn := run G T (n+1)) (t : Int) a0 a1 a2 a3 a4 a6 S (idxL (fun j => !p j) 0 rows.length)
        have ib := idx_below (fun j => !p j) t rows.length 0
        rw [Nat.zero_min, cnt_zero, Nat.add_zero, Nat.zero_add, Nat.min_eq_right tn] at ib
        have cn := cnt_not p t
        have hfil : ((idxL (fun j => !p j) 0 rows.length).filter fun (j : Nat) => decide ((j : Int) < (t : Int))) = (idxL (fun j => !p j) 0 rows.length).filter fun j => decide (j < t) := by
          congr 1
          funext j
          simp
        have hlen : (il ((idxL (fun j => !p j) 0 rows.length).filter fun (j : Nat) => decide ((j : Int) < (t : Int)))).length = t - cntP p t := by
          rw [il_len, hfil, ib]; omega
        have fit : (il ((idxL (fun j => !p j) 0 rows.length).filter fun (j : Nat) => decide ((j : Int) < (t : Int)))).length ≤ 16777216 := by rw [hlen]; omega
        have cl := cnt_le p t
        generalize (il ((idxL (fun j => !p j) 0 rows.length).filter fun (j : Nat) => decide ((j : Int) < (t : Int)))) = FL at *
        have sb : (t : Int) - (FL.length : Int) = ((cntP p t : Nat) : Int) := by rw [hlen]; omega
        have c4 : pre.length ≤ 16777215 := by omega
        have c5 : pre.length + 1 ≤ 16777216 := by omega
        obtain ⟨b3, b4, b5, b6, ih⟩ := lleft_loop n J h300 p S xs (k + 1) (f ++ [.tuple (pre ++ [.int (cntP p t : Nat)])]) (.v (.p (.int k))) (.v (.p (.tuple (pre ++ [.int (cntP p t : Nat)])))) (.v (.p (.int t))) a6 hd2 (by rw [List.length_append, List.length_singleton]; omega) (by omega)
        rw [show ((k + 1 : Nat) : Int) = (k : Int) + 1 from by omega] at ih
        refine ⟨b3, b4, b5, b6, ?_⟩
        rw [if_pos rfl, lb, c3, show ∀ z, f ++ z :: keepL p (k + 1) xs = (f ++ [z]) ++ keepL p (k + 1) xs from fun z => by simp]
        (try simp -implicitDefEqProofs [look, lookB, isOwn, bindT_nm, bindT_tp, bindT_tl, bindT_td, bindTs_n, bindTs_c, bTs_some, wipeT, wipeTs, canSet, fitsL, truth, toP, eqOk, sc, items_sq, items_zip, items_enum, items1, kApp, kExt, PyData.eqv, at_0, at_1, at_2, at_3, at_4, nm, ea, e1, fl, fl', c1, c4, c5, bc, fit, sb, -p_nmem_0, -List.append_assoc]); (try simp only [bind_assoc])
        exact ih
theorem lleft_run (n : Nat) {rows : List PyData} (J : Jr rows) (h300 : rows.length ≤ 300) (p : Nat → Bool) (S : Store) : run G T (n+2) f__law_left [.p (.tuple rows), .p (.list (il (idxL (fun j => !p j) 0 rows.length)))] S = .ok (.p (.tuple (keepL p 0 rows))) S := by
  obtain ⟨b3, b4, b5, b6, e⟩ := lleft_loop n J h300 p S rows 0 [] .un .un .un .un rfl (Nat.le_refl _) (Nat.zero_le _)
  have ir := items_rngN S rows.length (show rows.length ≤ 1000000 by omega)
  rw [run_succ _ _ _ _ _ _ rfl]
  (try simp -implicitDefEqProofs [look, lookB, isOwn, bindT_nm, bindT_tp, bindT_tl, bindT_td, bindTs_n, bindTs_c, bTs_some, wipeT, wipeTs, canSet, fitsL, truth, toP, eqOk, sc, items_sq, items_zip, items_enum, items1, kApp, kExt, PyData.eqv, at_0, at_1, at_2, at_3, at_4, T__law_left, fd__law_left, ir]); (try simp only [bind_assoc])
  erw [e]
  (try simp -implicitDefEqProofs [look, lookB, isOwn, bindT_nm, bindT_tp, bindT_tl, bindT_td, bindTs_n, bindTs_c, bTs_some, wipeT, wipeTs, canSet, fitsL, truth, toP, eqOk, sc, items_sq, items_zip, items_enum, items1, kApp, kExt, PyData.eqv, at_0, at_1, at_2, at_3, at_4]); (try simp only [bind_assoc])
theorem lmet_loop (n : Nat) {rows : List PyData} (J : Jr rows) (h300 : rows.length ≤ 300) (S : Store) : ∀ (m k : Nat) (a2 : Slot), k + m = rows.length →
    ∃ b2, forL (stepF G (run G T (n+1)) (.nm 2) [.ifs (.pr .mem [.v 2, .v 1]) [.asg (.nm 1) (.pr .add [.v 1, .call f__law_next [] [.pr .idx [.v 0, .v 2], .v 2]])] []]) (rngD (k : Int) m) [.v (.p (.tuple rows)), .v (.p (.list (il (metQ rows k)))), a2] S = .ok (.nx [.v (.p (.tuple rows)), .v (.p (.list (il (metQ rows rows.length)))), b2]) S
  | 0, k, a2, hm => ⟨a2, by rw [show k = rows.length from by omega]; rfl⟩
  | m + 1, k, a2, hm => by
    have lt : k < rows.length := by omega
    obtain ⟨x, ex⟩ : ∃ x, rows[k]? = some x := ⟨_, List.getElem?_eq_getElem lt⟩
    have ea : L2.atI rows (k : Int) = some x := by rw [atI_nat]; exact ex
    have mi := mem_il k (metQ rows k)
    obtain ⟨b2, ih⟩ := lmet_loop n J h300 S m (k + 1) (.v (.p (.int k))) (by omega)
    rw [show ((k + 1 : Nat) : Int) = (k : Int) + 1 from by omega] at ih
    refine ⟨b2, ?_⟩
    rw [rngD_consT, forL_cons, stepF_eq]
    by_cases c : k ∈ metQ rows k
    · rw [decide_eq_true c] at mi
      have e1 := lnext_run n (J.sh k x ex) k S
      rw [met_in ex c, ← il_app] at ih
      have ml := met_len rows k
      have nl := next_len x k
      have fit : (il (metQ rows k)).length + (il (nextQ x k)).length ≤ 16777216 := by rw [il_len, il_len]; omega
      generalize il (nextQ x k) = NX at *
      generalize hM : il (metQ rows k) = MM at *
      (try simp -implicitDefEqProofs [look, lookB, isOwn, bindT_nm, bindT_tp, bindT_tl, bindT_td, bindTs_n, bindTs_c, bTs_some, wipeT, wipeTs, canSet, fitsL, truth, toP, eqOk, sc, items_sq, items_zip, items_enum, items1, kApp, kExt, PyData.eqv, at_0, at_1, at_2, at_3, at_4, mi, ea, e1, fit, -p_mem_0]); (try simp only [bind_assoc])
      exact ih
    · rw [decide_eq_false c] at mi
      rw [met_out c] at ih
      generalize hM : il (metQ rows k) = MM at *
      (try simp -implicitDefEqProofs [look, lookB, isOwn, bindT_nm, bindT_tp, bindT_tl, bindT_td, bindTs_n, bindTs_c, bTs_some, wipeT, wipeTs, canSet, fitsL, truth, toP, eqOk, sc, items_sq, items_zip, items_enum, items1, kApp, kExt, PyData.eqv, at_0, at_1, at_2, at_3, at_4, mi, -p_mem_0]); (try simp only [bind_assoc])
      exact ih
theorem gone_comp {Fn : Nat → List D → Store → Out D} {rows : List PyData} (M : List Nat) (a0 a2 : Slot) (S : Store) : ∀ (m k : Nat), compL (stepC G Fn (.nm 2) [.pr .nmem [.v 2, .v 1]] (.v 2) [a0, .v (.p (.list (il M))), a2]) (rngD (k : Int) m) S = .ok (il (idxL (fun j => !decide (j ∈ M)) k m)) S
  | 0, k => rfl
  | m + 1, k => by
    have ih := gone_comp (Fn := Fn) (rows := rows) M a0 a2 S m (k + 1)
    rw [show ((k + 1 : Nat) : Int) = (k : Int) + 1 from by omega] at ih
    have mi := nmem_il k M
    rw [rngD_consT, compL_cons, idxL]
    generalize hM : il M = MM at *
    by_cases c : k ∈ M
    · rw [decide_eq_true c] at mi
      have st : stepC G Fn (.nm 2) [.pr .nmem [.v 2, .v 1]] (.v 2) [a0, .v (.p (.list MM)), a2] (.p (.int k)) S = .ok none S := by
        rw [stepC_eq]
        (try simp -implicitDefEqProofs [look, lookB, isOwn, bindT_nm, bindT_tp, bindT_tl, bindT_td, bindTs_n, bindTs_c, bTs_some, wipeT, wipeTs, canSet, fitsL, truth, toP, eqOk, sc, items_sq, items_zip, items_enum, items1, kApp, kExt, PyData.eqv, at_0, at_1, at_2, at_3, at_4, mi, -p_nmem_0]); (try simp only [bind_assoc])
      rw [st, noX_ok, bind_ok, kComp_eq, ih, bind_ok, kAddO_eq, if_neg (by simp [c])]
      rfl
    · rw [decide_eq_false c] at mi
      have st : stepC G Fn (.nm 2) [.pr .nmem [.v 2, .v 1]] (.v 2) [a0, .v (.p (.list MM)), a2] (.p (.int k)) S = .ok (some (.int k)) S := by
        rw [stepC_eq]
        (try simp -implicitDefEqProofs [look, lookB, isOwn, bindT_nm, bindT_tp, bindT_tl, bindT_td, bindTs_n, bindTs_c, bTs_some, wipeT, wipeTs, canSet, fitsL, truth, toP, eqOk, sc, items_sq, items_zip, items_enum, items1, kApp, kExt, PyData.eqv, at_0, at_1, at_2, at_3, at_4, mi, -p_nmem_0]); (try simp only [bind_assoc])
      rw [st, noX_ok, bind_ok, kComp_eq, ih, bind_ok, kAddO_eq, addO_some, if_pos (by simp [c])]
      rfl
theorem lreached_run (n : Nat) {rows : List PyData} (J : Jr rows) (h300 : rows.length ≤ 300) (S : Store) : run G T (n+3) f__law_reached [.p (.tuple rows)] S = .ok (.p (.tuple (keepL (pM rows) 0 rows))) S := by
  obtain ⟨b2, e⟩ := lmet_loop (n+1) J h300 S rows.length 0 .un (by omega)
  have ir := items_rngN S rows.length (show rows.length ≤ 1000000 by omega)
  have gc := gone_comp (Fn := run G T (n+2)) (rows := rows) (metQ rows rows.length) (.v (.p (.tuple rows))) (frz b2) S rows.length 0
  have e2 := lleft_run n J h300 (pM rows) S
  have il1 : (il (idxL (fun j => !pM rows j) 0 rows.length)).length ≤ 16777216 := by
    have := idx_le (fun j => !pM rows j) rows.length 0
    rw [il_len]; omega
  have gc : compL (stepC G (run G T (n+2)) (.nm 2) [.pr .nmem [.v 2, .v 1]] (.v 2) [.v (.p (.tuple rows)), .v (.p (.list (il (metQ rows rows.length)))), frz b2]) (rngD 0 rows.length) S = .ok (il (idxL (fun j => !pM rows j) 0 rows.length)) S := gc
  generalize il (idxL (fun j => !pM rows j) 0 rows.length) = GN at *
  rw [run_succ _ _ _ _ _ _ rfl]
  (try simp -implicitDefEqProofs [look, lookB, isOwn, bindT_nm, bindT_tp, bindT_tl, bindT_td, bindTs_n, bindTs_c, bTs_some, wipeT, wipeTs, canSet, fitsL, truth, toP, eqOk, sc, items_sq, items_zip, items_enum, items1, kApp, kExt, PyData.eqv, at_0, at_1, at_2, at_3, at_4, T__law_reached, fd__law_reached, ir]); (try simp only [bind_assoc])
  erw [e]
  generalize il (metQ rows rows.length) = MM at *
  (try simp -implicitDefEqProofs [look, lookB, isOwn, bindT_nm, bindT_tp, bindT_tl, bindT_td, bindTs_n, bindTs_c, bTs_some, wipeT, wipeTs, canSet, fitsL, truth, toP, eqOk, sc, items_sq, items_zip, items_enum, items1, kApp, kExt, PyData.eqv, at_0, at_1, at_2, at_3, at_4, ir, gc, il1, e2]); (try simp only [bind_assoc])
end EC

namespace EC
open PySem
/-! ### k31: the program's way -/
theorem ways_run (n : Nat) {x : PyData} (h : Shp x) (k : Nat) (S : Store) : run G T (n+2) f_ways_of [.p x, .p (.int k)] S = .ok (.p (.list (il (waysQ x k)))) S := by
  have e1 := goal_run n h S
  have e2 : ((k + 1 : Nat) : Int) = (k : Int) + 1 := by omega
  obtain ⟨w, ys, rfl, hw⟩ := h.word
  rw [run_succ _ _ _ _ _ _ rfl]
  unfold waysQ
  cases qj : jumpQ (.tuple (.str w :: ys)) with
  | none =>
    have hg : goQ (.tuple (.str w :: ys)) = false := by
      cases q : goQ (.tuple (.str w :: ys)) with
      | false => rfl
      | true =>
        obtain ⟨t, et⟩ := h.goes q
        rw [et, jump_go] at qj
        cases qj
    rw [hg] at hw
    rw [qj] at e1
    have e1 : run G T (n+1) f_goal_of [.p (.tuple (.str w :: ys))] S = .ok (.p .none) S := e1
    (try simp -implicitDefEqProofs [look, lookB, isOwn, bindT_nm, bindT_tp, bindT_tl, bindT_td, bindTs_n, bindTs_c, bTs_some, wipeT, wipeTs, canSet, fitsL, truth, toP, eqOk, sc, items_sq, items_zip, items_enum, items1, kApp, kExt, PyData.eqv, at_0, at_1, at_2, at_3, at_4, T_ways_of, fd_ways_of, e1, eqv_strQ, eqok_sQ, -PyData.eqv, hw, il, e2]); (try simp only [bind_assoc])
  | some t =>
    rw [qj] at e1
    have e1 : run G T (n+1) f_goal_of [.p (.tuple (.str w :: ys))] S = .ok (.p (.int t)) S := e1
    cases hg : goQ (.tuple (.str w :: ys)) with
    | true =>
      rw [hg] at hw
      (try simp -implicitDefEqProofs [look, lookB, isOwn, bindT_nm, bindT_tp, bindT_tl, bindT_td, bindTs_n, bindTs_c, bTs_some, wipeT, wipeTs, canSet, fitsL, truth, toP, eqOk, sc, items_sq, items_zip, items_enum, items1, kApp, kExt, PyData.eqv, at_0, at_1, at_2, at_3, at_4, T_ways_of, fd_ways_of, e1, eqv_strQ, eqok_sQ, -PyData.eqv, hw, il, e2]); (try simp only [bind_assoc])
    | false =>
      rw [hg] at hw
      (try simp -implicitDefEqProofs [look, lookB, isOwn, bindT_nm, bindT_tp, bindT_tl, bindT_td, bindTs_n, bindTs_c, bTs_some, wipeT, wipeTs, canSet, fitsL, truth, toP, eqOk, sc, items_sq, items_zip, items_enum, items1, kApp, kExt, PyData.eqv, at_0, at_1, at_2, at_3, at_4, T_ways_of, fd_ways_of, e1, eqv_strQ, eqok_sQ, -PyData.eqv, hw, il, e2]); (try simp only [bind_assoc])
/-! left_rows -/
def prsL : Nat → List Nat → List PyData
  | _, [] => []
  | c, j :: r => .tuple [.int j, .int c] :: prsL (c + 1) r
def zipc : Nat → List Nat → List (Int × PyData)
  | _, [] => []
  | c, j :: r => ((j : Int), .int c) :: zipc (c + 1) r
theorem prs_zip : ∀ (l : List Nat) (c : Nat), pairsI (prsL c l) = some (zipc c l)
  | [], c => rfl
  | j :: l, c => by
    rw [prsL, zipc, pairsI, prs_zip l (c + 1)]; rfl
theorem zipc_key : ∀ (l : List Nat) (c : Nat), (zipc c l).map (·.1) = l.map fun (j : Nat) => (j : Int)
  | [], c => rfl
  | j :: l, c => by rw [zipc, List.map_cons, List.map_cons, zipc_key l (c + 1)]
theorem zipc_len : ∀ (l : List Nat) (c : Nat), (zipc c l).length = l.length
  | [], c => rfl
  | j :: l, c => by rw [zipc, List.length_cons, List.length_cons, zipc_len l (c + 1)]
theorem enum_comp {Fn : Nat → List D → Store → Out D} (a0 a1 a2 a3 a4 a5 a6 a7 a8 : Slot) (S : Store) : ∀ (l : List Nat) (c : Nat), compL (stepC G Fn (.tup [.nm 8, .nm 3]) [] (.ef .mkt [.v 3, .v 8]) [a0, a1, a2, a3, a4, a5, a6, a7, a8]) (enumD (c : Int) ((il l).map D.p)) S = .ok (prsL c l) S
  | [], c => rfl
  | j :: l, c => by
    have ih := enum_comp (Fn := Fn) a0 a1 a2 a3 a4 a5 a6 a7 a8 S l (c + 1)
    rw [show ((c + 1 : Nat) : Int) = (c : Int) + 1 from by omega] at ih
    have st : stepC G Fn (.tup [.nm 8, .nm 3]) [] (.ef .mkt [.v 3, .v 8]) [a0, a1, a2, a3, a4, a5, a6, a7, a8] (.p (.tuple [.int c, .int j])) S = .ok (some (.tuple [.int j, .int c])) S := by
      rw [stepC_eq]
      (try simp -implicitDefEqProofs [look, lookB, isOwn, bindT_nm, bindT_tp, bindT_tl, bindT_td, bindTs_n, bindTs_c, bTs_some, wipeT, wipeTs, canSet, fitsL, truth, toP, eqOk, sc, items_sq, items_zip, items_enum, items1, kApp, kExt, PyData.eqv, at_0, at_1, at_2, at_3, at_4]); (try simp only [bind_assoc])
    show compL _ (.p (.tuple [.int c, .int j]) :: enumD ((c : Int) + 1) ((il l).map D.p)) S = _
    rw [compL_cons, st, noX_ok, bind_ok, kComp_eq, ih, bind_ok, kAddO_eq, addO_some, prsL]
theorem idx_nodup (p : Nat → Bool) : ∀ (m k : Nat), ((idxL p k m).map fun (j : Nat) => (j : Int)).Nodup
  | 0, k => by simp [idxL]
  | m + 1, k => by
    have ih := idx_nodup p m (k + 1)
    rw [idxL]
    split
    · rw [List.map_cons, List.nodup_cons]
      refine ⟨fun h => ?_, ih⟩
      obtain ⟨j, hj, e⟩ := List.mem_map.mp h
      have := ((idx_mem p m (k + 1) j).mp hj).1
      omega
    · exact ih
theorem kept_find (p : Nat → Bool) : ∀ (m k a : Nat), k ≤ a → a < k + m → dfindI ((zipc (cntP p k) (idxL p k m)).map (·.1)) ((zipc (cntP p k) (idxL p k m)).map fun q => D.p q.2) (a : Int) = if p a then some (.p (.int (cntP p a : Nat))) else none
  | 0, k, a, h1, h2 => by omega
  | m + 1, k, a, h1, h2 => by
    rw [idxL]
    cases hp : p k with
    | true =>
      rw [if_pos rfl, zipc, List.map_cons, List.map_cons]
      unfold dfindI
      by_cases e : k = a
      · subst e
        rw [if_pos rfl, hp, if_pos rfl]
      · rw [if_neg (by omega)]
        have := kept_find p m (k + 1) a (by omega) (by omega)
        rw [cnt_succ, hp, if_pos rfl] at this
        exact this
    | false =>
      rw [if_neg (by simp)]
      by_cases e : k = a
      · subst e
        rw [hp, if_neg (by simp)]
        have no : ∀ (l : List Nat) (c : Nat), k ∉ l → dfindI ((zipc c l).map (·.1)) ((zipc c l).map fun q => D.p q.2) (k : Int) = none := by
          intro l
          induction l with
          | nil => intro c _; simp [zipc, dfindI]
          | cons j l ih =>
            intro c hn
            rw [zipc, List.map_cons, List.map_cons]
            unfold dfindI
            rw [if_neg (by have : j ≠ k := fun z => hn (by rw [z]; exact List.mem_cons_self); omega)]
            exact ih (c + 1) fun z => hn (List.mem_cons_of_mem _ z)
        exact no _ _ fun z => by have := ((idx_mem p m (k + 1) k).mp z).1; omega
      · have := kept_find p m (k + 1) a (by omega) (by omega)
        rw [cnt_succ, hp, if_neg (by simp), Nat.add_zero] at this
        exact this
structure NI (p : Nat → Bool) (n a q : Nat) (S : Store) : Prop where
  ex : ∃ ks ds, S[q]? = some (.dci ks ds) ∧ ks.length = ds.length ∧ ks.length + a ≤ 1 + n ∧ ∀ j : Nat, a ≤ j → j ≤ n → dfindI ks ds (j : Int) = some (.p (.int (cntP p j : Nat)))
theorem num_loop (M : Nat) (p : Nat → Bool) {n : Nat} (hn : n ≤ 300) {q q2 : Nat} (hq : q2 ≠ q) {ks1 : List Int} {ds1 : List D} (hk : ∀ a, a < n → dfindI ks1 ds1 (a : Int) = if p a then some (.p (.int (cntP p a : Nat))) else none) (a0 a1 a4 a7 a8 : Slot) : ∀ (m : Nat) (a3 : Slot) (S : Store), m ≤ n → S[q2]? = some (.dci ks1 ds1) → NI p n m q S →
    ∃ S' b3, forL (stepF G (run G T M) (.nm 3) [.asg (.nm 6) (.dgetv (.v 2) (.v 3) (.v 6)), .setd (.v 5) (.v 3) (.v 6)]) (rngU ((m : Int) - 1) m) [a0, a1, .v (.ref q2), a3, a4, .v (.ref q), .v (.p (.int (cntP p m : Nat))), a7, a8] S = .ok (.nx [a0, a1, .v (.ref q2), b3, a4, .v (.ref q), .v (.p (.int (cntP p 0 : Nat))), a7, a8]) S' ∧ NI p n 0 q S' ∧ Kp q S S'
  | 0, a3, S, _, _, h => ⟨S, a3, rfl, h, Kp.refl q S⟩
  | m + 1, a3, S, hm, h2, h => by
    obtain ⟨ks, ds, h1, hl, hz, hf⟩ := h.ex
    have g2 := isDI_run h2
    have g3 := getI_run h2 (m : Int)
    rw [hk m (by omega)] at g3
    have cs := cnt_succ p m
    obtain ⟨ks', ds', st, l', z', f', _⟩ := setI_run h1 hl (by omega) (m : Int) (.p (.int (cntP p m : Nat)))
    have kp := Kp.set q S (.dci ks' ds')
    have n' : NI p n m q (S.set q (.dci ks' ds')) := ⟨ks', ds', atI_set h1 _, l', by omega, fun j hj1 hj2 => by
      rw [f']
      by_cases e : j = m
      · subst e; rw [if_pos rfl]
      · rw [if_neg (by omega)]; exact hf j (by omega) hj2⟩
    have h2' : (S.set q (.dci ks' ds'))[q2]? = some (.dci ks1 ds1) := by rw [List.getElem?_set_ne (fun z => hq z.symm)]; exact h2
    obtain ⟨S2, b3, e2, n2, k2⟩ := num_loop M p hn hq hk a0 a1 a4 a7 a8 m (.v (.p (.int m))) _ (by omega) h2' n'
    refine ⟨S2, b3, ?_, n2, kp.trans k2⟩
    rw [rngU_cons, forL_cons, stepF_eq]
    cases hp : p m with
    | true =>
      rw [hp] at g3
      have g3 : dgetO S (.ref q2) (.p (.int m)) = some (some (.p (.int (cntP p m : Nat)))) := g3
      (try simp -implicitDefEqProofs [look, lookB, isOwn, bindT_nm, bindT_tp, bindT_tl, bindT_td, bindTs_n, bindTs_c, bTs_some, wipeT, wipeTs, canSet, fitsL, truth, toP, eqOk, sc, items_sq, items_zip, items_enum, items1, kApp, kExt, PyData.eqv, at_0, at_1, at_2, at_3, at_4, g2, g3, st, oDd, -isDc_ref, -dgetO_eqI]); (try simp only [bind_assoc])
      exact e2
    | false =>
      rw [hp] at g3 cs
      have g3 : dgetO S (.ref q2) (.p (.int m)) = some none := g3
      have cs : cntP p (m + 1) = cntP p m := cs
      rw [cs]
      (try simp -implicitDefEqProofs [look, lookB, isOwn, bindT_nm, bindT_tp, bindT_tl, bindT_td, bindTs_n, bindTs_c, bTs_some, wipeT, wipeTs, canSet, fitsL, truth, toP, eqOk, sc, items_sq, items_zip, items_enum, items1, kApp, kExt, PyData.eqv, at_0, at_1, at_2, at_3, at_4, g2, g3, st, oDd, -isDc_ref, -dgetO_eqI]); (try simp only [bind_assoc])
      exact e2
theorem lst_loop (n : Nat) {rows : List PyData} (J : Jr rows) (h300 : rows.length ≤ 300) (p : Nat → Bool) {q : Nat} {S : Store} (h : NI p rows.length 0 q S) (a1 a2 a6 a8 : Slot) : ∀ (m k : Nat) (f : List PyData) (a3 a7 : Slot), k + m = rows.length → f.length ≤ k →
    ∃ b3 b7, forL (stepF G (run G T (n+1)) (.nm 3) [.asg (.nm 7) (.call f_goal_of [] [.pr .idx [.v 0, .v 3]]), .oapp 4 (.ite (.pr .isN [.v 7]) (.pr .idx [.v 0, .v 3]) (.call f_with_goal [] [.pr .idx [.v 0, .v 3], .dsub (.v 5) (.v 7)]))]) ((il (idxL p k m)).map D.p) [.v (.p (.tuple rows)), a1, a2, a3, .own f, .v (.ref q), a6, a7, a8] S = .ok (.nx [.v (.p (.tuple rows)), a1, a2, b3, .own (f ++ keepL p k (rows.drop k)), .v (.ref q), a6, b7, a8]) S
  | 0, k, f, a3, a7, hm, hf => ⟨a3, a7, by rw [show k = rows.length from by omega, List.drop_length, keepL, List.append_nil]; rfl⟩
  | m + 1, k, f, a3, a7, hm, hf => by
    have lt : k < rows.length := by omega
    have hd : rows.drop k = rows[k] :: rows.drop (k + 1) := List.drop_eq_getElem_cons lt
    have ex : rows[k]? = some rows[k] := List.getElem?_eq_getElem lt
    generalize rows[k] = x at hd ex
    have sx := J.sh k x ex
    have ea : L2.atI rows (k : Int) = some x := by rw [atI_nat]; exact ex
    have e1 := goal_run n sx S
    have fl : f.length ≤ 16777215 := by omega
    have fl' : f.length + 1 ≤ 16777216 := by omega
    rw [hd, keepL, idxL]
    cases hp : p k with
    | false => exact lst_loop n J h300 p h a1 a2 a6 a8 m (k + 1) f a3 a7 (by omega) (by omega)
    | true =>
      rw [if_pos rfl, if_pos rfl]
      have ei : (il (k :: idxL p (k + 1) m)).map D.p = .p (.int k) :: (il (idxL p (k + 1) m)).map D.p := rfl
      rw [ei, forL_cons, stepF_eq]
      cases qj : jumpQ x with
      | none =>
        rw [qj] at e1
        have e1 : run G T (n+1) f_goal_of [.p x] S = .ok (.p .none) S := e1
        have lb : lblQ p x = x := by unfold lblQ; rw [qj]
        obtain ⟨b3, b7, ih⟩ := lst_loop n J h300 p h a1 a2 a6 a8 m (k + 1) (f ++ [x]) (.v (.p (.int k))) (.v (.p .none)) (by omega) (by rw [List.length_append, List.length_singleton]; omega)
        refine ⟨b3, b7, ?_⟩
        rw [lb, show f ++ x :: keepL p (k + 1) (rows.drop (k + 1)) = (f ++ [x]) ++ keepL p (k + 1) (rows.drop (k + 1)) from by simp]
        (try simp -implicitDefEqProofs [look, lookB, isOwn, bindT_nm, bindT_tp, bindT_tl, bindT_td, bindTs_n, bindTs_c, bTs_some, wipeT, wipeTs, canSet, fitsL, truth, toP, eqOk, sc, items_sq, items_zip, items_enum, items1, kApp, kExt, PyData.eqv, at_0, at_1, at_2, at_3, at_4, ea, e1, fl, fl', -List.append_assoc]); (try simp only [bind_assoc])
        exact ih
      | some t =>
        rw [qj] at e1
        have e1 : run G T (n+1) f_goal_of [.p x] S = .ok (.p (.int t)) S := e1
        have lb : lblQ p x = toQ x (cntP p t) := by unfold lblQ; rw [qj]
        obtain ⟨ks, ds, h1, hl, hz, hfd⟩ := h.ex
        have g3 := getI_run h1 (t : Int)
        rw [hfd t (Nat.zero_le _) (J.lt k x t ex qj).2] at g3
        have e2 := with_run n sx qj (cntP p t) S
        obtain ⟨b3, b7, ih⟩ := lst_loop n J h300 p h a1 a2 a6 a8 m (k + 1) (f ++ [toQ x (cntP p t)]) (.v (.p (.int k))) (.v (.p (.int t))) (by omega) (by rw [List.length_append, List.length_singleton]; omega)
        refine ⟨b3, b7, ?_⟩
        rw [lb, show f ++ toQ x (cntP p t) :: keepL p (k + 1) (rows.drop (k + 1)) = (f ++ [toQ x (cntP p t)]) ++ keepL p (k + 1) (rows.drop (k + 1)) from by simp]
        generalize toQ x (cntP p t) = y at *
        (try simp -implicitDefEqProofs [look, lookB, isOwn, bindT_nm, bindT_tp, bindT_tl, bindT_td, bindTs_n, bindTs_c, bTs_some, wipeT, wipeTs, canSet, fitsL, truth, toP, eqOk, sc, items_sq, items_zip, items_enum, items1, kApp, kExt, PyData.eqv, at_0, at_1, at_2, at_3, at_4, ea, e1, fl, fl', g3, oD, e2, -List.append_assoc, -dgetO_eqI]); (try simp only [bind_assoc])
        exact ih
theorem left_run (n : Nat) {rows : List PyData} (J : Jr rows) (h300 : rows.length ≤ 300) (p : Nat → Bool) (S : Store) : ∃ E, run G T (n+2) f_left_rows [.p (.tuple rows), .p (.list (il (idxL p 0 rows.length)))] S = .ok (.p (.tuple (keepL p 0 rows))) (S ++ E) := by
  have ln : (idxL p 0 rows.length).length = cntP p rows.length := by
    have := idx_len p rows.length 0
    rw [cnt_zero, Nat.zero_add] at this
    omega
  have lle := idx_le p rows.length 0
  have kk := kept_find p rows.length 0
  rw [cnt_zero] at kk
  have hpr := prs_zip (idxL p 0 rows.length) 0
  have hzl := zipc_len (idxL p 0 rows.length) 0
  have hnd : ((zipc 0 (idxL p 0 rows.length)).map (·.1)).Nodup ∧ (zipc 0 (idxL p 0 rows.length)).length ≤ 1000000 := ⟨by rw [zipc_key]; exact idx_nodup p _ _, by omega⟩
  have ec : ∀ (a2 a3 a4 a5 a6 a7 a8 : Slot) (S : Store), compL (stepC G (run G T (n+1)) (.tup [.nm 8, .nm 3]) [] (.ef .mkt [.v 3, .v 8]) [.v (.p (.tuple rows)), .v (.p (.list (il (idxL p 0 rows.length)))), a2, a3, a4, a5, a6, a7, a8]) (enumD 0 ((il (idxL p 0 rows.length)).map D.p)) S = .ok (prsL 0 (idxL p 0 rows.length)) S := fun a2 a3 a4 a5 a6 a7 a8 S => enum_comp (Fn := run G T (n+1)) (.v (.p (.tuple rows))) (.v (.p (.list (il (idxL p 0 rows.length))))) a2 a3 a4 a5 a6 a7 a8 S (idxL p 0 rows.length) 0
  have plen : (prsL 0 (idxL p 0 rows.length)).length ≤ 16777216 := by
    have : ∀ (l : List Nat) (c : Nat), (prsL c l).length = l.length := by
      intro l
      induction l with
      | nil => intro c; rfl
      | cons j l ih => intro c; rw [prsL, List.length_cons, List.length_cons, ih]
    rw [this]; omega
  have nd : kNewdp (.p (.list (prsL 0 (idxL p 0 rows.length)))) (S ++ [.dci [(rows.length : Int)] [.p (.int ((il (idxL p 0 rows.length)).length : Nat))]]) = .ok (.ref (S.length + 1)) (S ++ [.dci [(rows.length : Int)] [.p (.int ((il (idxL p 0 rows.length)).length : Nat))], .dci ((zipc 0 (idxL p 0 rows.length)).map (·.1)) ((zipc 0 (idxL p 0 rows.length)).map fun q => D.p q.2)]) := by
    unfold kNewdp
    dsimp only
    rw [hpr]
    dsimp only
    rw [if_pos (decide_eq_true hnd)]
    simp
  have n0 : NI p rows.length rows.length S.length (S ++ [.dci [(rows.length : Int)] [.p (.int ((il (idxL p 0 rows.length)).length : Nat))], .dci ((zipc 0 (idxL p 0 rows.length)).map (·.1)) ((zipc 0 (idxL p 0 rows.length)).map fun q => D.p q.2)]) :=
    ⟨[(rows.length : Int)], [.p (.int ((il (idxL p 0 rows.length)).length : Nat))], by simp, rfl, by simp, fun j h1 h2 => by
      have : j = rows.length := by omega
      subst this
      unfold dfindI
      rw [if_pos rfl, il_len, ln]⟩
  have q2 : (S ++ [.dci [(rows.length : Int)] [.p (.int ((il (idxL p 0 rows.length)).length : Nat))], .dci ((zipc 0 (idxL p 0 rows.length)).map (·.1)) ((zipc 0 (idxL p 0 rows.length)).map fun q => D.p q.2)])[S.length + 1]? = some (.dci ((zipc 0 (idxL p 0 rows.length)).map (·.1)) ((zipc 0 (idxL p 0 rows.length)).map fun q => D.p q.2)) := by
    rw [List.getElem?_append_right (by omega)]
    simp
  have kp0 := Kp.app S.length S [.dci [(rows.length : Int)] [.p (.int ((il (idxL p 0 rows.length)).length : Nat))], .dci ((zipc 0 (idxL p 0 rows.length)).map (·.1)) ((zipc 0 (idxL p 0 rows.length)).map fun q => D.p q.2)]
  obtain ⟨S2, b3, e3, n3, k3⟩ := num_loop (n+1) p h300 (q := S.length) (q2 := S.length + 1) (by omega) (fun a ha => kk a (Nat.zero_le _) (by omega)) (.v (.p (.tuple rows))) (.v (.p (.list (il (idxL p 0 rows.length))))) .un .un .un rows.length .un _ (Nat.le_refl _) q2 n0
  obtain ⟨E, eE⟩ := (kp0.trans k3).toApp
  obtain ⟨c3, c7, e4⟩ := lst_loop n J h300 p n3 (.v (.p (.list (il (idxL p 0 rows.length))))) (.v (.ref (S.length + 1))) (.v (.p (.int (cntP p 0 : Nat)))) .un rows.length 0 [] b3 .un (by omega) (Nat.le_refl _)
  refine ⟨E, ?_⟩
  rw [← eE]
  have ir := fun S => items_down S rows.length (by omega)
  have ilen : (il (idxL p 0 rows.length)).length = cntP p rows.length := by rw [il_len, ln]
  rw [run_succ _ _ _ _ _ _ rfl]
  rw [ilen] at nd e3
  generalize hIL : il (idxL p 0 rows.length) = IL at *
  generalize prsL 0 (idxL p 0 rows.length) = PL at *
  generalize zipc 0 (idxL p 0 rows.length) = ZC at *
  (try simp -implicitDefEqProofs [look, lookB, isOwn, bindT_nm, bindT_tp, bindT_tl, bindT_td, bindTs_n, bindTs_c, bTs_some, wipeT, wipeTs, canSet, fitsL, truth, toP, eqOk, sc, items_sq, items_zip, items_enum, items1, kApp, kExt, PyData.eqv, at_0, at_1, at_2, at_3, at_4, T_left_rows, fd_left_rows, ilen, ec, plen, nd, ir, -List.append_assoc]); (try simp only [bind_assoc])
  erw [e3]
  (try simp -implicitDefEqProofs [look, lookB, isOwn, bindT_nm, bindT_tp, bindT_tl, bindT_td, bindTs_n, bindTs_c, bTs_some, wipeT, wipeTs, canSet, fitsL, truth, toP, eqOk, sc, items_sq, items_zip, items_enum, items1, kApp, kExt, PyData.eqv, at_0, at_1, at_2, at_3, at_4]); (try simp only [bind_assoc])
  erw [e4]
  (try simp -implicitDefEqProofs [look, lookB, isOwn, bindT_nm, bindT_tp, bindT_tl, bindT_td, bindTs_n, bindTs_c, bTs_some, wipeT, wipeTs, canSet, fitsL, truth, toP, eqOk, sc, items_sq, items_zip, items_enum, items1, kApp, kExt, PyData.eqv, at_0, at_1, at_2, at_3, at_4]); (try simp only [bind_assoc])
end EC

namespace EC
open PySem
/-! ### k31: the rows that are met -/
theorem set_loop (M : Nat) {q : Nat} (a0 a2 : Slot) : ∀ (l : List Nat) (a3 : Slot) (S : Store) (ks : List Int) (ds : List D), S[q]? = some (.dci ks ds) → ks.length = ds.length → ks.length + l.length ≤ 1000000 →
    ∃ S' ks' ds' b3, forL (stepF G (run G T M) (.nm 3) [.setd (.v 1) (.v 3) (.c (.bool true))]) ((il l).map D.p) [a0, .v (.ref q), a2, a3] S = .ok (.nx [a0, .v (.ref q), a2, b3]) S' ∧ S'[q]? = some (.dci ks' ds') ∧ ks'.length = ds'.length ∧ ks'.length ≤ ks.length + l.length ∧ (∀ j : Nat, (j : Int) ∈ ks' ↔ (j : Int) ∈ ks ∨ j ∈ l) ∧ Kp q S S'
  | [], a3, S, ks, ds, h, hl, hz => ⟨S, ks, ds, a3, rfl, h, hl, Nat.le_refl _, fun j => by simp, Kp.refl q S⟩
  | t :: l, a3, S, ks, ds, h, hl, hz => by
    rw [List.length_cons] at hz
    obtain ⟨ks1, ds1, st, l1, z1, _, m1⟩ := setI_run h hl (by omega) (t : Int) (.p (.bool true))
    obtain ⟨S2, ks2, ds2, b3, e2, h2, l2, z2, m2, k2⟩ := set_loop M a0 a2 l (.v (.p (.int t))) (S.set q (.dci ks1 ds1)) ks1 ds1 (atI_set h _) l1 (by omega)
    refine ⟨S2, ks2, ds2, b3, ?_, h2, l2, by rw [List.length_cons]; omega, fun j => ?_, (Kp.set q S _).trans k2⟩
    · have ei : (il (t :: l)).map D.p = .p (.int t) :: (il l).map D.p := rfl
      rw [ei, forL_cons, stepF_eq]
      (try simp -implicitDefEqProofs [look, lookB, isOwn, bindT_nm, bindT_tp, bindT_tl, bindT_td, bindTs_n, bindTs_c, bTs_some, wipeT, wipeTs, canSet, fitsL, truth, toP, eqOk, sc, items_sq, items_zip, items_enum, items1, kApp, kExt, PyData.eqv, at_0, at_1, at_2, at_3, at_4, st]); (try simp only [bind_assoc])
      exact e2
    · rw [m2, m1, List.mem_cons]
      constructor
      · rintro ((h | h) | h)
        · exact .inr (.inl (by omega))
        · exact .inl h
        · exact .inr (.inr h)
      · rintro (h | h | h)
        · exact .inl (.inr h)
        · exact .inl (.inl (by omega))
        · exact .inr h
structure MI (rows : List PyData) (k q : Nat) (S : Store) : Prop where
  ex : ∃ ks ds, S[q]? = some (.dci ks ds) ∧ ks.length = ds.length ∧ ks.length ≤ 1 + 2 * k ∧ ∀ j : Nat, (j : Int) ∈ ks ↔ j ∈ metQ rows k
theorem ways_len (x : PyData) (k : Nat) : (waysQ x k).length ≤ 2 := by
  unfold waysQ
  cases jumpQ x with
  | none => simp
  | some t => simp only; split <;> simp
theorem rmet_loop (n : Nat) {rows : List PyData} (J : Jr rows) (h300 : rows.length ≤ 300) {q : Nat} : ∀ (m k : Nat) (a2 a3 : Slot) (S : Store), k + m = rows.length → MI rows k q S →
    ∃ S' b2 b3, forL (stepF G (run G T (n+2)) (.nm 2) [.ifs (.pr .memK [.v 2, .v 1]) [.for_ (.nm 3) .sq [.call f_ways_of [] [.pr .idx [.v 0, .v 2], .v 2]] [.setd (.v 1) (.v 3) (.c (.bool true))]] []]) (rngD (k : Int) m) [.v (.p (.tuple rows)), .v (.ref q), a2, a3] S = .ok (.nx [.v (.p (.tuple rows)), .v (.ref q), b2, b3]) S' ∧ MI rows rows.length q S' ∧ Kp q S S'
  | 0, k, a2, a3, S, hm, h => ⟨S, a2, a3, rfl, by rw [show rows.length = k from by omega]; exact h, Kp.refl q S⟩
  | m + 1, k, a2, a3, S, hm, h => by
    have lt : k < rows.length := by omega
    obtain ⟨x, ex⟩ : ∃ x, rows[k]? = some x := ⟨_, List.getElem?_eq_getElem lt⟩
    have ea : L2.atI rows (k : Int) = some x := by rw [atI_nat]; exact ex
    obtain ⟨ks, ds, h1, hl, hz, hm1⟩ := h.ex
    have g1 := memI_run h1 (k : Int)
    by_cases c : k ∈ metQ rows k
    · rw [decide_eq_true ((hm1 k).mpr c)] at g1
      have e1 := ways_run n (J.sh k x ex) k S
      have wl := ways_len x k
      obtain ⟨S1, ks1, ds1, b3, e2, h2, l2, z2, m2, k2⟩ := set_loop (n+2) (.v (.p (.tuple rows))) (.v (.p (.int k))) (waysQ x k) a3 S ks ds h1 hl (by omega)
      have h' : MI rows (k + 1) q S1 := ⟨ks1, ds1, h2, l2, by omega, fun j => by rw [m2, hm1, met_in ex c, List.mem_append, ways_next (J.sh k x ex)]⟩
      obtain ⟨S3, c2, c3, e3, h3, k3⟩ := rmet_loop n J h300 m (k + 1) (.v (.p (.int k))) b3 S1 (by omega) h'
      rw [show ((k + 1 : Nat) : Int) = (k : Int) + 1 from by omega] at e3
      refine ⟨S3, c2, c3, ?_, h3, k2.trans k3⟩
      rw [rngD_consT, forL_cons, stepF_eq]
      generalize hW : il (waysQ x k) = WL at *
      have pk : ∀ S, prim S .memK = p_memK S := fun S => rfl
      (try simp -implicitDefEqProofs [look, lookB, isOwn, bindT_nm, bindT_tp, bindT_tl, bindT_td, bindTs_n, bindTs_c, bTs_some, wipeT, wipeTs, canSet, fitsL, truth, toP, eqOk, sc, items_sq, items_zip, items_enum, items1, kApp, kExt, PyData.eqv, at_0, at_1, at_2, at_3, at_4, g1, ea, e1, pk]); (try simp only [bind_assoc])
      erw [e2]
      (try simp -implicitDefEqProofs [look, lookB, isOwn, bindT_nm, bindT_tp, bindT_tl, bindT_td, bindTs_n, bindTs_c, bTs_some, wipeT, wipeTs, canSet, fitsL, truth, toP, eqOk, sc, items_sq, items_zip, items_enum, items1, kApp, kExt, PyData.eqv, at_0, at_1, at_2, at_3, at_4]); (try simp only [bind_assoc])
      exact e3
    · rw [decide_eq_false (fun z => c ((hm1 k).mp z))] at g1
      have h' : MI rows (k + 1) q S := ⟨ks, ds, h1, hl, by omega, fun j => by rw [hm1, met_out c]⟩
      obtain ⟨S3, c2, c3, e3, h3, k3⟩ := rmet_loop n J h300 m (k + 1) (.v (.p (.int k))) a3 S (by omega) h'
      rw [show ((k + 1 : Nat) : Int) = (k : Int) + 1 from by omega] at e3
      refine ⟨S3, c2, c3, ?_, h3, k3⟩
      rw [rngD_consT, forL_cons, stepF_eq]
      have pk : ∀ S, prim S .memK = p_memK S := fun S => rfl
      (try simp -implicitDefEqProofs [look, lookB, isOwn, bindT_nm, bindT_tp, bindT_tl, bindT_td, bindTs_n, bindTs_c, bTs_some, wipeT, wipeTs, canSet, fitsL, truth, toP, eqOk, sc, items_sq, items_zip, items_enum, items1, kApp, kExt, PyData.eqv, at_0, at_1, at_2, at_3, at_4, g1, pk]); (try simp only [bind_assoc])
      exact e3
theorem kept_comp {Fn : Nat → List D → Store → Out D} {q : Nat} {S : Store} {ks : List Int} {ds : List D} (h : S[q]? = some (.dci ks ds)) (a0 a2 a3 : Slot) : ∀ (m k : Nat), compL (stepC G Fn (.nm 2) [.pr .memK [.v 2, .v 1]] (.v 2) [a0, .v (.ref q), a2, a3]) (rngD (k : Int) m) S = .ok (il (idxL (fun j => decide ((j : Int) ∈ ks)) k m)) S
  | 0, k => rfl
  | m + 1, k => by
    have ih := kept_comp (Fn := Fn) h a0 a2 a3 m (k + 1)
    rw [show ((k + 1 : Nat) : Int) = (k : Int) + 1 from by omega] at ih
    have mi := memI_run h (k : Int)
    have pk : ∀ S, prim S .memK = p_memK S := fun S => rfl
    rw [rngD_consT, compL_cons, idxL]
    by_cases c : (k : Int) ∈ ks
    · rw [decide_eq_true c] at mi
      have st : stepC G Fn (.nm 2) [.pr .memK [.v 2, .v 1]] (.v 2) [a0, .v (.ref q), a2, a3] (.p (.int k)) S = .ok (some (.int k)) S := by
        rw [stepC_eq]
        (try simp -implicitDefEqProofs [look, lookB, isOwn, bindT_nm, bindT_tp, bindT_tl, bindT_td, bindTs_n, bindTs_c, bTs_some, wipeT, wipeTs, canSet, fitsL, truth, toP, eqOk, sc, items_sq, items_zip, items_enum, items1, kApp, kExt, PyData.eqv, at_0, at_1, at_2, at_3, at_4, mi, pk]); (try simp only [bind_assoc])
      rw [st, noX_ok, bind_ok, kComp_eq, ih, bind_ok, kAddO_eq, addO_some, if_pos (by simp [c])]
      rfl
    · rw [decide_eq_false c] at mi
      have st : stepC G Fn (.nm 2) [.pr .memK [.v 2, .v 1]] (.v 2) [a0, .v (.ref q), a2, a3] (.p (.int k)) S = .ok none S := by
        rw [stepC_eq]
        (try simp -implicitDefEqProofs [look, lookB, isOwn, bindT_nm, bindT_tp, bindT_tl, bindT_td, bindTs_n, bindTs_c, bTs_some, wipeT, wipeTs, canSet, fitsL, truth, toP, eqOk, sc, items_sq, items_zip, items_enum, items1, kApp, kExt, PyData.eqv, at_0, at_1, at_2, at_3, at_4, mi, pk]); (try simp only [bind_assoc])
      rw [st, noX_ok, bind_ok, kComp_eq, ih, bind_ok, kAddO_eq, if_neg (by simp [c])]
      rfl
theorem rreached_run (n : Nat) {rows : List PyData} (J : Jr rows) (h300 : rows.length ≤ 300) (S : Store) : ∃ E, run G T (n+3) f_reached_rows [.p (.tuple rows)] S = .ok (.p (.tuple (keepL (pM rows) 0 rows))) (S ++ E) := by
  have m0 : MI rows 0 S.length (S ++ [.dci [0] [.p (.bool true)]]) := ⟨[0], [.p (.bool true)], by simp, rfl, by simp, fun j => by
    rw [metQ, List.mem_singleton, List.mem_singleton]; omega⟩
  have kp0 := Kp.app S.length S [.dci [0] [.p (.bool true)]]
  obtain ⟨S1, b2, b3, e1, h1, k1⟩ := rmet_loop n J h300 rows.length 0 .un .un _ (by omega) m0
  obtain ⟨E1, eE⟩ := (kp0.trans k1).toApp
  obtain ⟨ks, ds, g1, hl, hz, hm⟩ := h1.ex
  have pe : (fun j : Nat => decide ((j : Int) ∈ ks)) = pM rows := by
    funext j
    unfold pM
    exact decide_eq_decide.mpr (hm j)
  have kc := fun (a2 a3 : Slot) => kept_comp (Fn := run G T (n+2)) g1 (.v (.p (.tuple rows))) a2 a3 rows.length 0
  rw [pe] at kc
  have kc : ∀ a2 a3 : Slot, compL (stepC G (run G T (n+2)) (.nm 2) [.pr .memK [.v 2, .v 1]] (.v 2) [.v (.p (.tuple rows)), .v (.ref S.length), a2, a3]) (rngD 0 rows.length) S1 = .ok (il (idxL (pM rows) 0 rows.length)) S1 := kc
  obtain ⟨E2, e2⟩ := left_run n J h300 (pM rows) S1
  have il1 : (il (idxL (pM rows) 0 rows.length)).length ≤ 16777216 := by
    have := idx_le (pM rows) rows.length 0
    rw [il_len]; omega
  refine ⟨E1 ++ E2, ?_⟩
  rw [← List.append_assoc, ← eE]
  have ir := fun S => items_rngN S rows.length (show rows.length ≤ 1000000 by omega)
  generalize il (idxL (pM rows) 0 rows.length) = IL at *
  rw [run_succ _ _ _ _ _ _ rfl]
  (try simp -implicitDefEqProofs [look, lookB, isOwn, bindT_nm, bindT_tp, bindT_tl, bindT_td, bindTs_n, bindTs_c, bTs_some, wipeT, wipeTs, canSet, fitsL, truth, toP, eqOk, sc, items_sq, items_zip, items_enum, items1, kApp, kExt, PyData.eqv, at_0, at_1, at_2, at_3, at_4, T_reached_rows, fd_reached_rows, ir]); (try simp only [bind_assoc])
  erw [e1]
  (try simp -implicitDefEqProofs [look, lookB, isOwn, bindT_nm, bindT_tp, bindT_tl, bindT_td, bindTs_n, bindTs_c, bTs_some, wipeT, wipeTs, canSet, fitsL, truth, toP, eqOk, sc, items_sq, items_zip, items_enum, items1, kApp, kExt, PyData.eqv, at_0, at_1, at_2, at_3, at_4, ir, kc, il1, e2]); (try simp only [bind_assoc])
theorem reached_run (n : Nat) {rows : List PyData} (R : RwL rows) (S : Store) : ∃ E, run G T (n+7) f_reached [.p (.tuple rows)] S = .ok (.p (.tuple (keepL (pM rows) 0 rows))) (S ++ E) := by
  obtain ⟨E1, e1⟩ := R.check n S
  obtain ⟨E2, e2⟩ := rreached_run (n+3) R.jr R.len (S ++ E1)
  refine ⟨E1 ++ E2, ?_⟩
  rw [run_succ _ _ _ _ _ _ rfl]
  (try simp -implicitDefEqProofs [look, lookB, isOwn, bindT_nm, bindT_tp, bindT_tl, bindT_td, bindTs_n, bindTs_c, bTs_some, wipeT, wipeTs, canSet, fitsL, truth, toP, eqOk, sc, items_sq, items_zip, items_enum, items1, kApp, kExt, PyData.eqv, at_0, at_1, at_2, at_3, at_4, T_reached, fd_reached, e1, e2]); (try simp only [bind_assoc])
end EC

namespace EC
open PySem
/-! ### k31: the law's loops -/
theorem tail_run (N : Nat) {rows : List PyData} (R : RwL rows) {r c : Nat} {S : Store} (h : Wl r c S) (a0 a1 a3 a5 a6 : Slot) :
    Gd (evSs G (run G T (N+10)) [.par 5 6 (.pr .repr [.v 4]) (.call f__law_reached [] [.v 4]), .ifs (.or (.not (.call f__law_same [] [.ef .mkl [.call f_reached [] [.v 4], .call f_reached [0] [.v 4]], .ef .mkl [.v 6, .v 6]])) (.pr .ne [.pr .repr [.v 4], .v 5])) [.ret (.c (.bool false))] []] [a0, a1, .v (.ref r), a3, .v (.p (.tuple rows)), a5, a6] S) fun f S' => Wl r c S' ∧ ∃ b5 b6, f = .nx [a0, a1, .v (.ref r), a3, .v (.p (.tuple rows)), b5, b6] := by
  refine Gd.gen fun Q hQ => ?_
  have rok := R.repr
  have rp : ∀ S, prim S .repr [.p (.tuple rows)] = some (.p (.str (PyData.tuple rows).shown)) := fun S => by
    show (if reprOk (.tuple rows) = true then some (D.p (.str (PyData.tuple rows).shown)) else none) = _
    rw [if_pos rok]
  have e1 := lreached_run (N+7) R.jr R.len S
  obtain ⟨E2, e2⟩ := reached_run (N+3) R S
  obtain ⟨E3, e3⟩ := reached_run (N+3) R (S ++ E2)
  have rs := keep_sm R (pM rows)
  obtain ⟨s1, d1⟩ := sm_lst2 rs rs
  have sr := same_run 3 (N+6) _ (S ++ E2 ++ E3) d1 s1
  have w3 := (h.app E2).app E3
  generalize PyData.tuple (keepL (pM rows) 0 rows) = RS at *
  (try simp -implicitDefEqProofs [look, lookB, isOwn, bindT_nm, bindT_tp, bindT_tl, bindT_td, bindTs_n, bindTs_c, bTs_some, wipeT, wipeTs, canSet, fitsL, truth, toP, eqOk, sc, items_sq, items_zip, items_enum, items1, kApp, kExt, PyData.eqv, at_0, at_1, at_2, at_3, at_4, rp, e1, e2, e3, sr, eqok_sQ, eqv_strQ, -PyData.eqv, -prim_repr, -List.append_assoc]); (try simp only [bind_assoc])
  exact hQ _ _ ⟨w3, _, _, rfl⟩
theorem head_run (N : Nat) {r c : Nat} {S : Store} (h : Wl r c S) (hc : c + 500 < 1000000000000) (a0 a1 a3 a4 a5 a6 : Slot) :
    Gd (evSs G (run G T (N+10)) [.asg (.nm 4) (.call f__law_rows_drawn [] [.v 2, .call f__law_dip [] [.v 2, .pr .idx [.ef .mkl [.c (.int 9), .c (.int 25)], .call f__law_dip [] [.v 2, .c (.int 2)]]], .c (.int 2)]), .ifs (.pr .eq [.call f__law_dip [] [.v 2, .c (.int 2)], .c (.int 0)]) [.asg (.nm 4) (.call f__law_sparse [] [.v 2, .v 4])] []] [a0, a1, .v (.ref r), a3, a4, a5, a6] S) fun f S' => Wl r (c + 500) S' ∧ ∃ rows, RwL rows ∧ f = .nx [a0, a1, .v (.ref r), a3, .v (.p (.tuple rows)), a5, a6] := by
  refine Gd.gen fun Q hQ => ?_
  have hQ : ∀ (rows : List PyData) S', RwL rows → Wl r (c + 500) S' → Q (.nx [a0, a1, .v (.ref r), a3, .v (.p (.tuple rows)), a5, a6]) S' := fun rows S' a b => hQ _ _ ⟨b, rows, a, rfl⟩
  (try simp -implicitDefEqProofs [look, lookB, isOwn, bindT_nm, bindT_tp, bindT_tl, bindT_td, bindTs_n, bindTs_c, bTs_some, wipeT, wipeTs, canSet, fitsL, truth, toP, eqOk, sc, items_sq, items_zip, items_enum, items1, kApp, kExt, PyData.eqv, at_0, at_1, at_2, at_3, at_4]); (try simp only [bind_assoc])
  refine Gd.bind (dip (N+9) 2 (by decide) (by decide) h (by omega)) ?_
  rintro _ S1 ⟨w1, _, v1, rfl, a1', b1'⟩
  obtain ⟨mx, emx, hmx⟩ := at_int (ws := [9, 25]) a1' b1'
  have emx : L2.atI [PyData.int 9, .int 25] v1 = some (.int mx) := emx
  have m0 : 0 < mx ∧ mx ≤ 25 := by
    simp only [List.mem_cons, List.not_mem_nil, or_false] at hmx
    rcases hmx with rfl | rfl <;> decide
  (try simp -implicitDefEqProofs [look, lookB, isOwn, bindT_nm, bindT_tp, bindT_tl, bindT_td, bindTs_n, bindTs_c, bTs_some, wipeT, wipeTs, canSet, fitsL, truth, toP, eqOk, sc, items_sq, items_zip, items_enum, items1, kApp, kExt, PyData.eqv, at_0, at_1, at_2, at_3, at_4, emx]); (try simp only [bind_assoc])
  refine Gd.bind (dip (N+9) mx m0.1 (by omega) w1 (by omega)) ?_
  rintro _ S2 ⟨w2, _, v2, rfl, a2', b2'⟩
  obtain ⟨many, rfl⟩ : ∃ k : Nat, v2 = (k : Int) := ⟨v2.toNat, by omega⟩
  (try simp -implicitDefEqProofs [look, lookB, isOwn, bindT_nm, bindT_tp, bindT_tl, bindT_td, bindTs_n, bindTs_c, bTs_some, wipeT, wipeTs, canSet, fitsL, truth, toP, eqOk, sc, items_sq, items_zip, items_enum, items1, kApp, kExt, PyData.eqv, at_0, at_1, at_2, at_3, at_4]); (try simp only [bind_assoc])
  refine Gd.bind (drawn_run (N+7) many (by omega) w2 (by omega)) ?_
  rintro _ S3 ⟨w3, _, rows, rfl, R, hl⟩
  (try simp -implicitDefEqProofs [look, lookB, isOwn, bindT_nm, bindT_tp, bindT_tl, bindT_td, bindTs_n, bindTs_c, bTs_some, wipeT, wipeTs, canSet, fitsL, truth, toP, eqOk, sc, items_sq, items_zip, items_enum, items1, kApp, kExt, PyData.eqv, at_0, at_1, at_2, at_3, at_4]); (try simp only [bind_assoc])
  refine Gd.bind (dip (N+9) 2 (by decide) (by decide) w3 (by omega)) ?_
  rintro _ S4 ⟨w4, _, v4, rfl, a4', b4'⟩
  by_cases hv : v4 = 0
  · (try simp -implicitDefEqProofs [look, lookB, isOwn, bindT_nm, bindT_tp, bindT_tl, bindT_td, bindTs_n, bindTs_c, bTs_some, wipeT, wipeTs, canSet, fitsL, truth, toP, eqOk, sc, items_sq, items_zip, items_enum, items1, kApp, kExt, PyData.eqv, at_0, at_1, at_2, at_3, at_4, hv, eqv_iQ, -PyData.eqv]); (try simp only [bind_assoc])
    refine Gd.bind (sparse_run (N+7) R w4 (by omega)) ?_
    rintro _ S5 ⟨w5, _, rows', rfl, R', hl'⟩
    (try simp -implicitDefEqProofs [look, lookB, isOwn, bindT_nm, bindT_tp, bindT_tl, bindT_td, bindTs_n, bindTs_c, bTs_some, wipeT, wipeTs, canSet, fitsL, truth, toP, eqOk, sc, items_sq, items_zip, items_enum, items1, kApp, kExt, PyData.eqv, at_0, at_1, at_2, at_3, at_4]); (try simp only [bind_assoc])
    exact hQ _ _ R' (w5.up (by omega))
  · have hv' : (v4 == 0) = false := by simpa using hv
    (try simp -implicitDefEqProofs [look, lookB, isOwn, bindT_nm, bindT_tp, bindT_tl, bindT_td, bindTs_n, bindTs_c, bTs_some, wipeT, wipeTs, canSet, fitsL, truth, toP, eqOk, sc, items_sq, items_zip, items_enum, items1, kApp, kExt, PyData.eqv, at_0, at_1, at_2, at_3, at_4, hv', eqv_iQ, -PyData.eqv]); (try simp only [bind_assoc])
    exact hQ _ _ R (w4.up (by omega))
theorem loop3 (N : Nat) {r : Nat} (a0 a1 : Slot) : ∀ (m lo c : Nat) (a3 a4 a5 a6 : Slot) (S : Store), Wl r c S → c + 500 * m < 1000000000000 →
    Gd (forL (stepF G (run G T (N+10)) (.nm 3) [.asg (.nm 4) (.call f__law_rows_drawn [] [.v 2, .call f__law_dip [] [.v 2, .pr .idx [.ef .mkl [.c (.int 9), .c (.int 25)], .call f__law_dip [] [.v 2, .c (.int 2)]]], .c (.int 2)]), .ifs (.pr .eq [.call f__law_dip [] [.v 2, .c (.int 2)], .c (.int 0)]) [.asg (.nm 4) (.call f__law_sparse [] [.v 2, .v 4])] [], .par 5 6 (.pr .repr [.v 4]) (.call f__law_reached [] [.v 4]), .ifs (.or (.not (.call f__law_same [] [.ef .mkl [.call f_reached [] [.v 4], .call f_reached [0] [.v 4]], .ef .mkl [.v 6, .v 6]])) (.pr .ne [.pr .repr [.v 4], .v 5])) [.ret (.c (.bool false))] []]) (rngD (lo : Int) m) [a0, a1, .v (.ref r), a3, a4, a5, a6] S) fun f S' => ∃ b3 b4 b5 b6, f = .nx [a0, a1, .v (.ref r), b3, b4, b5, b6]
  | 0, lo, c, a3, a4, a5, a6, S, h, _ => ⟨_, S, rfl, a3, a4, a5, a6, rfl⟩
  | m + 1, lo, c, a3, a4, a5, a6, S, h, hc => by
    rw [rngD_consT, forL_cons, stepF_eq]
    have hd := head_run N h (by omega) a0 a1 (.v (.p (.int lo))) a4 a5 a6
    have key : Gd (evSs G (run G T (N+10)) ([.asg (.nm 4) (.call f__law_rows_drawn [] [.v 2, .call f__law_dip [] [.v 2, .pr .idx [.ef .mkl [.c (.int 9), .c (.int 25)], .call f__law_dip [] [.v 2, .c (.int 2)]]], .c (.int 2)]), .ifs (.pr .eq [.call f__law_dip [] [.v 2, .c (.int 2)], .c (.int 0)]) [.asg (.nm 4) (.call f__law_sparse [] [.v 2, .v 4])] []] ++ [.par 5 6 (.pr .repr [.v 4]) (.call f__law_reached [] [.v 4]), .ifs (.or (.not (.call f__law_same [] [.ef .mkl [.call f_reached [] [.v 4], .call f_reached [0] [.v 4]], .ef .mkl [.v 6, .v 6]])) (.pr .ne [.pr .repr [.v 4], .v 5])) [.ret (.c (.bool false))] []]) [a0, a1, .v (.ref r), .v (.p (.int lo)), a4, a5, a6] S) fun f S' => Wl r (c + 500) S' ∧ ∃ b4 b5 b6, f = .nx [a0, a1, .v (.ref r), .v (.p (.int lo)), b4, b5, b6] := by
      refine Gd_appT hd ?_
      rintro f S1 ⟨w1, rows, R, rfl⟩
      rw [kSs_nx]
      refine Gd.mono (tail_run N R w1 a0 a1 (.v (.p (.int lo))) a5 a6) ?_
      rintro f S2 ⟨w2, b5, b6, rfl⟩
      exact ⟨w2, _, _, _, rfl⟩
    (try simp -implicitDefEqProofs [look, lookB, isOwn, bindT_nm, bindT_tp, bindT_tl, bindT_td, bindTs_n, bindTs_c, bTs_some, wipeT, wipeTs, canSet, fitsL, truth, toP, eqOk, sc, items_sq, items_zip, items_enum, items1, kApp, kExt, PyData.eqv, at_0, at_1, at_2, at_3, at_4, -evSs_cons, -evSs_nil]); (try simp only [bind_assoc])
    refine Gd.bind key ?_
    rintro f S1 ⟨w1, b4, b5, b6, rfl⟩
    have ih := loop3 N a0 a1 m (lo + 1) (c + 500) (.v (.p (.int lo))) b4 b5 b6 S1 w1 (by omega)
    rw [show ((lo + 1 : Nat) : Int) = (lo : Int) + 1 from by omega] at ih
    exact ih
theorem cell_loop (N : Nat) (a0 : Slot) : ∀ (xs : List PyData), (∀ x ∈ xs, ∃ c : Int, x = .int c) → ∀ (a1 a2 a3 a4 a5 a6 : Slot) (S : Store),
    Gd (forL (stepF G (run G T (N+10)) (.nm 1) [.asg (.nm 2) (.call f__law_well [] [.v 1]), .for_ (.nm 3) .rng [.c (.int 6)] [.asg (.nm 4) (.call f__law_rows_drawn [] [.v 2, .call f__law_dip [] [.v 2, .pr .idx [.ef .mkl [.c (.int 9), .c (.int 25)], .call f__law_dip [] [.v 2, .c (.int 2)]]], .c (.int 2)]), .ifs (.pr .eq [.call f__law_dip [] [.v 2, .c (.int 2)], .c (.int 0)]) [.asg (.nm 4) (.call f__law_sparse [] [.v 2, .v 4])] [], .par 5 6 (.pr .repr [.v 4]) (.call f__law_reached [] [.v 4]), .ifs (.or (.not (.call f__law_same [] [.ef .mkl [.call f_reached [] [.v 4], .call f_reached [0] [.v 4]], .ef .mkl [.v 6, .v 6]])) (.pr .ne [.pr .repr [.v 4], .v 5])) [.ret (.c (.bool false))] []]]) (xs.map D.p) [a0, a1, a2, a3, a4, a5, a6] S) fun f S' => ∃ b1 b2 b3 b4 b5 b6, f = .nx [a0, b1, b2, b3, b4, b5, b6]
  | [], _, a1, a2, a3, a4, a5, a6, S => ⟨_, S, rfl, a1, a2, a3, a4, a5, a6, rfl⟩
  | x :: xs, hx, a1, a2, a3, a4, a5, a6, S => by
    obtain ⟨cell, rfl⟩ := hx x List.mem_cons_self
    rw [List.map_cons, forL_cons, stepF_eq]
    (try simp -implicitDefEqProofs [look, lookB, isOwn, bindT_nm, bindT_tp, bindT_tl, bindT_td, bindTs_n, bindTs_c, bTs_some, wipeT, wipeTs, canSet, fitsL, truth, toP, eqOk, sc, items_sq, items_zip, items_enum, items1, kApp, kExt, PyData.eqv, at_0, at_1, at_2, at_3, at_4]); (try simp only [bind_assoc])
    refine Gd.bind (well_run (N+9) cell S) ?_
    rintro _ S1 ⟨rfl, w1, _⟩
    (try simp -implicitDefEqProofs [look, lookB, isOwn, bindT_nm, bindT_tp, bindT_tl, bindT_td, bindTs_n, bindTs_c, bTs_some, wipeT, wipeTs, canSet, fitsL, truth, toP, eqOk, sc, items_sq, items_zip, items_enum, items1, kApp, kExt, PyData.eqv, at_0, at_1, at_2, at_3, at_4]); (try simp only [bind_assoc])
    rw [show items S1 Ik.rng [D.p (PyData.int 6)] = some (rngD 0 6) from items_rngN S1 6 (by decide)]
    (try simp -implicitDefEqProofs [look, lookB, isOwn, bindT_nm, bindT_tp, bindT_tl, bindT_td, bindTs_n, bindTs_c, bTs_some, wipeT, wipeTs, canSet, fitsL, truth, toP, eqOk, sc, items_sq, items_zip, items_enum, items1, kApp, kExt, PyData.eqv, at_0, at_1, at_2, at_3, at_4]); (try simp only [bind_assoc])
    refine Gd.bind (loop3 N a0 (.v (.p (.int cell))) 6 0 0 a3 a4 a5 a6 S1 w1 (by decide)) ?_
    rintro f S2 ⟨b3, b4, b5, b6, rfl⟩
    (try simp -implicitDefEqProofs [look, lookB, isOwn, bindT_nm, bindT_tp, bindT_tl, bindT_td, bindTs_n, bindTs_c, bTs_some, wipeT, wipeTs, canSet, fitsL, truth, toP, eqOk, sc, items_sq, items_zip, items_enum, items1, kApp, kExt, PyData.eqv, at_0, at_1, at_2, at_3, at_4]); (try simp only [bind_assoc])
    exact cell_loop N a0 xs (fun y hy => hx y (List.mem_cons_of_mem _ hy)) _ _ _ _ _ _ S2
theorem law_run (N : Nat) (ns : List Int) (hl : ns.length ≤ 63) : Gd (run G T (N+11) f_law [.p (.list (ns.map .int))] []) fun d S' => d = .p (.bool true) := by
  refine Gd_run T_law rfl fun Q hQ => ?_
  have cl : (cut (ns.map PyData.int) none (some 6)).length ≤ 63 := by
    have : (cut (ns.map PyData.int) none (some 6)).length ≤ (ns.map PyData.int).length := by
      unfold cut
      rw [List.length_take, List.length_drop]
      omega
    rw [List.length_map] at this
    omega
  have hc : ∀ x ∈ cut (ns.map PyData.int) none (some 6), ∃ c : Int, x = .int c := fun x hx => by
    obtain ⟨c, _, rfl⟩ := List.mem_map.mp (mem_cutT hx)
    exact ⟨c, rfl⟩
  have c3 : 2 + (cut (ns.map PyData.int) none (some 6)).length ≤ 16777216 := by omega
  have lp := cell_loop N (.v (.p (.list (ns.map .int)))) (.int 3100 :: .int 10147808829414345923316083210206383297601 :: cut (ns.map PyData.int) none (some 6)) (fun x hx => by
    rcases List.mem_cons.mp hx with rfl | hx
    · exact ⟨_, rfl⟩
    · rcases List.mem_cons.mp hx with rfl | hx
      · exact ⟨_, rfl⟩
      · exact hc x hx) .un .un .un .un .un .un []
  (try simp -implicitDefEqProofs [look, lookB, isOwn, bindT_nm, bindT_tp, bindT_tl, bindT_td, bindTs_n, bindTs_c, bTs_some, wipeT, wipeTs, canSet, fitsL, truth, toP, eqOk, sc, items_sq, items_zip, items_enum, items1, kApp, kExt, PyData.eqv, at_0, at_1, at_2, at_3, at_4, c3]); (try simp only [bind_assoc])
  refine Gd.bind lp ?_
  rintro f S1 ⟨b1, b2, b3, b4, b5, b6, rfl⟩
  (try simp -implicitDefEqProofs [look, lookB, isOwn, bindT_nm, bindT_tp, bindT_tl, bindT_td, bindTs_n, bindTs_c, bTs_some, wipeT, wipeTs, canSet, fitsL, truth, toP, eqOk, sc, items_sq, items_zip, items_enum, items1, kApp, kExt, PyData.eqv, at_0, at_1, at_2, at_3, at_4]); (try simp only [bind_assoc])
  exact hQ _ _ rfl
theorem law_true (ns : List Int) (h : ns.length ≤ 63) : ∃ S, run G T 11 f_law [.p (.list (ns.map .int))] [] = .ok (.p (.bool true)) S := by
  obtain ⟨d, S, e, rfl⟩ := law_run 0 ns h
  exact ⟨S, e⟩
end EC

set_option pp.maxSteps 300
namespace EC
open PySem PySem.Spec PyProof.Rows L2
section
variable [CA]
theorem dformsG {K : PySem.W.Frag} {w : World} {d : Addr} {es : Array DictEntry} {n : Nat} (lk : K.lookup d = some ⟨.type "dict", none, .dict es n, #[]⟩) (kl : PySem.W.KeysLit w.params es.toList) : ∀ (l : List (Str × PyData)), (∀ p ∈ l, ∃ u v, PySem.W.nsIn K d p.1 = some (some u) ∧ RelV v u ∧ ∀ F, Dq K F v p.2) →
    ∀ z data, dlook (.p (.dict (l.map fun p => (.str p.1, p.2)))) z = some data → ∃ v, KDct K w d z v ∧ ∀ F, Dq K F v data
  | [], _, z, data, h => by simp [dlook] at h
  | p :: l, hp, z, data, h => by
    rw [List.map_cons, dlook_cons] at h
    by_cases e : p.1 = z
    · obtain ⟨u, v, ht, hr, hd⟩ := hp p List.mem_cons_self
      rw [if_pos e] at h
      cases h
      rw [e] at ht
      exact ⟨v, ⟨es, n, u, lk, kl, ht, hr⟩, hd⟩
    · rw [if_neg e] at h
      exact dformsG lk kl l (fun q hq => hp q (List.mem_cons_of_mem _ hq)) z data h
theorem dlook_keys : ∀ (l : List (Str × PyData)) (z : Str), (dlook (.p (.dict (l.map fun p => (.str p.1, p.2)))) z).isSome = (l.map (·.1)).contains z
  | [], z => rfl
  | p :: l, z => by
    rw [List.map_cons, dlook_cons, List.map_cons, List.contains_cons]
    by_cases e : p.1 = z
    · rw [if_pos e, e, beq_self_eq_true]; rfl
    · rw [if_neg e, dlook_keys l z, show (z == p.1) = false from by simpa using fun w => e w.symm]; rfl
theorem tupD {K : PySem.W.Frag} {a : Addr} {od : Option Addr} {n : Nat} {sl : Array (Option Value)} {its : Array Value} {vs : List V} {xs : List PyData} (lk : K.lookup a = some ⟨.type "tuple", od, .seq its n, sl⟩) (hz : its.size ≤ sizeLine) (r : Vals vs its.toList) (F : Hp) (d : DqAll K F vs xs) : Dq K F (.ref a) (.tuple xs) := .tup (.inr ⟨_, its, n, lk, rfl, rfl, hz, r⟩) d
theorem lvls {P : Program} {w : World} {K : PySem.W.Frag} {mg : Str → Option Value} {base : Heap} {ca : Nat → Addr} {f0 f1 f2 f3 f4 f5 f6 f7 f8 f9 f10 f11 f12 f13 f14 f15 f16 f17 f18 f19 f20 f21 f22 f23 : Addr} {d0 d1 d2 d3 d4 d5 d6 d7 d8 d9 d10 d11 d12 d13 d14 d15 d16 d17 d18 d19 d20 d21 d22 d23 : FuncData} (F0 : Fun K "is_integer" "is_integer" s_is_integer f0 d0) (F1 : Fun K "is_between" "is_between" s_is_between f1 d1) (F2 : Fun K "is_word" "is_word" s_is_word f2 d2) (F3 : Fun K "is_member" "is_member" s_is_member f3 d3) (F4 : Fun K "is_row" "is_row" s_is_row f4 d4) (F5 : Fun K "is_rows" "is_rows" s_is_rows f5 d5) (F6 : Fun K "check_rows" "check_rows" s_check_rows f6 d6) (F7 : Fun K "goal_of" "goal_of" s_goal_of f7 d7) (F8 : Fun K "with_goal" "with_goal" s_with_goal f8 d8) (F9 : Fun K "ways_of" "ways_of" s_ways_of f9 d9) (F10 : Fun K "left_rows" "left_rows" s_left_rows f10 d10) (F11 : Fun K "reached_rows" "reached_rows" s_reached_rows f11 d11) (F12 : Fun K "reached" "reached" s_reached f12 d12) (F13 : Fun K "_law_well" "_law_well" s__law_well f13 d13) (F14 : Fun K "_law_dip" "_law_dip" s__law_dip f14 d14) (F15 : Fun K "_law_same" "_law_same" s__law_same f15 d15) (F16 : Fun K "_law_row" "_law_row" s__law_row f16 d16) (F17 : Fun K "_law_rows_drawn" "_law_rows_drawn" s__law_rows_drawn f17 d17) (F18 : Fun K "_law_goal" "_law_goal" s__law_goal f18 d18) (F19 : Fun K "_law_next" "_law_next" s__law_next f19 d19) (F20 : Fun K "_law_left" "_law_left" s__law_left f20 d20) (F21 : Fun K "_law_reached" "_law_reached" s__law_reached f21 d21) (F22 : Fun K "_law_sparse" "_law_sparse" s__law_sparse f22 d22) (F23 : Fun K "law" "law" s_law f23 d23) (m0 : mg "is_integer" = some (.ref f0)) (m1 : mg "is_between" = some (.ref f1)) (m2 : mg "is_word" = some (.ref f2)) (m3 : mg "is_member" = some (.ref f3)) (m4 : mg "is_row" = some (.ref f4)) (m5 : mg "is_rows" = some (.ref f5)) (m6 : mg "check_rows" = some (.ref f6)) (m7 : mg "goal_of" = some (.ref f7)) (m8 : mg "with_goal" = some (.ref f8)) (m9 : mg "ways_of" = some (.ref f9)) (m10 : mg "left_rows" = some (.ref f10)) (m11 : mg "reached_rows" = some (.ref f11)) (m12 : mg "reached" = some (.ref f12)) (m13 : mg "_law_well" = some (.ref f13)) (m14 : mg "_law_dip" = some (.ref f14)) (m15 : mg "_law_same" = some (.ref f15)) (m16 : mg "_law_row" = some (.ref f16)) (m17 : mg "_law_rows_drawn" = some (.ref f17)) (m18 : mg "_law_goal" = some (.ref f18)) (m19 : mg "_law_next" = some (.ref f19)) (m20 : mg "_law_left" = some (.ref f20)) (m21 : mg "_law_reached" = some (.ref f21)) (m22 : mg "_law_sparse" = some (.ref f22)) (m23 : mg "law" = some (.ref f23)) (b0 : Binds K d0 r_is_integer.ps []) (b1 : Binds K d1 r_is_between.ps []) (b2 : Binds K d2 r_is_word.ps []) (b3 : Binds K d3 r_is_member.ps []) (b4 : Binds K d4 r_is_row.ps []) (b5 : Binds K d5 r_is_rows.ps []) (b6 : Binds K d6 r_check_rows.ps []) (b7 : Binds K d7 r_goal_of.ps []) (b8 : Binds K d8 r_with_goal.ps []) (b9 : Binds K d9 r_ways_of.ps []) (b10 : Binds K d10 r_left_rows.ps []) (b11 : Binds K d11 r_reached_rows.ps []) (b12 : Binds K d12 r_reached.ps []) (b13 : Binds K d13 r__law_well.ps []) (b14 : Binds K d14 r__law_dip.ps []) (b15 : Binds K d15 r__law_same.ps []) (b16 : Binds K d16 r__law_row.ps []) (b17 : Binds K d17 r__law_rows_drawn.ps []) (b18 : Binds K d18 r__law_goal.ps []) (b19 : Binds K d19 r__law_next.ps []) (b20 : Binds K d20 r__law_left.ps []) (b21 : Binds K d21 r__law_reached.ps []) (b22 : Binds K d22 r__law_sparse.ps []) (b23 : Binds K d23 r_law.ps []) (M : Mo P ca K w mg) : ∀ n, Lvl true P w K mg base ca G T tab n
  | 0 => fun i r h => by
    match i, h with
    | 0, h => cases h; exact ⟨f0, d0, FnG.zero rfl, (place_fn rfl m0 F0.kp), b0, F0⟩
    | 1, h => cases h; exact ⟨f1, d1, FnG.zero rfl, (place_fn rfl m1 F1.kp), b1, F1⟩
    | 2, h => cases h; exact ⟨f2, d2, FnG.zero rfl, (place_fn rfl m2 F2.kp), b2, F2⟩
    | 3, h => cases h; exact ⟨f3, d3, FnG.zero rfl, (place_fn rfl m3 F3.kp), b3, F3⟩
    | 4, h => cases h; exact ⟨f4, d4, FnG.zero rfl, (place_fn rfl m4 F4.kp), b4, F4⟩
    | 5, h => cases h; exact ⟨f5, d5, FnG.zero rfl, (place_fn rfl m5 F5.kp), b5, F5⟩
    | 6, h => cases h; exact ⟨f6, d6, FnG.zero rfl, (place_fn rfl m6 F6.kp), b6, F6⟩
    | 7, h => cases h; exact ⟨f7, d7, FnG.zero rfl, (place_fn rfl m7 F7.kp), b7, F7⟩
    | 8, h => cases h; exact ⟨f8, d8, FnG.zero rfl, (place_fn rfl m8 F8.kp), b8, F8⟩
    | 9, h => cases h; exact ⟨f9, d9, FnG.zero rfl, (place_fn rfl m9 F9.kp), b9, F9⟩
    | 10, h => cases h; exact ⟨f10, d10, FnG.zero rfl, (place_fn rfl m10 F10.kp), b10, F10⟩
    | 11, h => cases h; exact ⟨f11, d11, FnG.zero rfl, (place_fn rfl m11 F11.kp), b11, F11⟩
    | 12, h => cases h; exact ⟨f12, d12, FnG.zero rfl, (place_fn rfl m12 F12.kp), b12, F12⟩
    | 13, h => cases h; exact ⟨f13, d13, FnG.zero rfl, (place_fn rfl m13 F13.kp), b13, F13⟩
    | 14, h => cases h; exact ⟨f14, d14, FnG.zero rfl, (place_fn rfl m14 F14.kp), b14, F14⟩
    | 15, h => cases h; exact ⟨f15, d15, FnG.zero rfl, (place_fn rfl m15 F15.kp), b15, F15⟩
    | 16, h => cases h; exact ⟨f16, d16, FnG.zero rfl, (place_fn rfl m16 F16.kp), b16, F16⟩
    | 17, h => cases h; exact ⟨f17, d17, FnG.zero rfl, (place_fn rfl m17 F17.kp), b17, F17⟩
    | 18, h => cases h; exact ⟨f18, d18, FnG.zero rfl, (place_fn rfl m18 F18.kp), b18, F18⟩
    | 19, h => cases h; exact ⟨f19, d19, FnG.zero rfl, (place_fn rfl m19 F19.kp), b19, F19⟩
    | 20, h => cases h; exact ⟨f20, d20, FnG.zero rfl, (place_fn rfl m20 F20.kp), b20, F20⟩
    | 21, h => cases h; exact ⟨f21, d21, FnG.zero rfl, (place_fn rfl m21 F21.kp), b21, F21⟩
    | 22, h => cases h; exact ⟨f22, d22, FnG.zero rfl, (place_fn rfl m22 F22.kp), b22, F22⟩
    | 23, h => cases h; exact ⟨f23, d23, FnG.zero rfl, (place_fn rfl m23 F23.kp), b23, F23⟩
    | i + 24, h => exact absurd h (by simp [tab])
  | n + 1 => fun i r h => by
    have L := lvls (P := P) (base := base) F0 F1 F2 F3 F4 F5 F6 F7 F8 F9 F10 F11 F12 F13 F14 F15 F16 F17 F18 F19 F20 F21 F22 F23 m0 m1 m2 m3 m4 m5 m6 m7 m8 m9 m10 m11 m12 m13 m14 m15 m16 m17 m18 m19 m20 m21 m22 m23 b0 b1 b2 b3 b4 b5 b6 b7 b8 b9 b10 b11 b12 b13 b14 b15 b16 b17 b18 b19 b20 b21 b22 b23 M n
    match i, h with
    | 0, h => cases h; exact ⟨f0, d0, ok_is_integer F0 L M, (place_fn rfl m0 F0.kp), b0, F0⟩
    | 1, h => cases h; exact ⟨f1, d1, ok_is_between F1 L M, (place_fn rfl m1 F1.kp), b1, F1⟩
    | 2, h => cases h; exact ⟨f2, d2, ok_is_word F2 L M, (place_fn rfl m2 F2.kp), b2, F2⟩
    | 3, h => cases h; exact ⟨f3, d3, ok_is_member F3 L M, (place_fn rfl m3 F3.kp), b3, F3⟩
    | 4, h => cases h; exact ⟨f4, d4, ok_is_row F4 L M, (place_fn rfl m4 F4.kp), b4, F4⟩
    | 5, h => cases h; exact ⟨f5, d5, ok_is_rows F5 L M, (place_fn rfl m5 F5.kp), b5, F5⟩
    | 6, h => cases h; exact ⟨f6, d6, ok_check_rows F6 L M, (place_fn rfl m6 F6.kp), b6, F6⟩
    | 7, h => cases h; exact ⟨f7, d7, ok_goal_of F7 L M, (place_fn rfl m7 F7.kp), b7, F7⟩
    | 8, h => cases h; exact ⟨f8, d8, ok_with_goal F8 L M, (place_fn rfl m8 F8.kp), b8, F8⟩
    | 9, h => cases h; exact ⟨f9, d9, ok_ways_of F9 L M, (place_fn rfl m9 F9.kp), b9, F9⟩
    | 10, h => cases h; exact ⟨f10, d10, ok_left_rows F10 L M, (place_fn rfl m10 F10.kp), b10, F10⟩
    | 11, h => cases h; exact ⟨f11, d11, ok_reached_rows F11 L M, (place_fn rfl m11 F11.kp), b11, F11⟩
    | 12, h => cases h; exact ⟨f12, d12, ok_reached F12 L M, (place_fn rfl m12 F12.kp), b12, F12⟩
    | 13, h => cases h; exact ⟨f13, d13, ok__law_well F13 L M, (place_fn rfl m13 F13.kp), b13, F13⟩
    | 14, h => cases h; exact ⟨f14, d14, ok__law_dip F14 L M, (place_fn rfl m14 F14.kp), b14, F14⟩
    | 15, h => cases h; exact ⟨f15, d15, ok__law_same F15 L M, (place_fn rfl m15 F15.kp), b15, F15⟩
    | 16, h => cases h; exact ⟨f16, d16, ok__law_row F16 L M, (place_fn rfl m16 F16.kp), b16, F16⟩
    | 17, h => cases h; exact ⟨f17, d17, ok__law_rows_drawn F17 L M, (place_fn rfl m17 F17.kp), b17, F17⟩
    | 18, h => cases h; exact ⟨f18, d18, ok__law_goal F18 L M, (place_fn rfl m18 F18.kp), b18, F18⟩
    | 19, h => cases h; exact ⟨f19, d19, ok__law_next F19 L M, (place_fn rfl m19 F19.kp), b19, F19⟩
    | 20, h => cases h; exact ⟨f20, d20, ok__law_left F20 L M, (place_fn rfl m20 F20.kp), b20, F20⟩
    | 21, h => cases h; exact ⟨f21, d21, ok__law_reached F21 L M, (place_fn rfl m21 F21.kp), b21, F21⟩
    | 22, h => cases h; exact ⟨f22, d22, ok__law_sparse F22 L M, (place_fn rfl m22 F22.kp), b22, F22⟩
    | 23, h => cases h; exact ⟨f23, d23, ok_law F23 L M, (place_fn rfl m23 F23.kp), b23, F23⟩
    | i + 24, h => exact absurd h (by simp [tab])
end
theorem all_mk {l : PySem.W.OpenLaw} {w : World} {K : PySem.W.Frag} {h : Heap} {mg : Str → Option Value} {fa : Addr} (X : K.In h) (G0 : h.Ns mainGlobals mg) (hfa : mg "law" = some (.ref fa)) {f0 f1 f2 f3 f4 f5 f6 f7 f8 f9 f10 f11 f12 f13 f14 f15 f16 f17 f18 f19 f20 f21 f22 f23 : Addr} {od0 an0 od1 an1 od2 an2 od3 an3 od4 an4 od5 an5 od6 an6 od7 an7 od8 an8 od9 an9 od10 an10 od11 an11 od12 an12 od13 an13 od14 an14 od15 an15 od16 an16 od17 an17 od18 an18 od19 an19 od20 an20 od21 an21 od22 an22 od23 an23 : Option Addr} {sl0 sl1 sl2 sl3 sl4 sl5 sl6 sl7 sl8 sl9 sl10 sl11 sl12 sl13 sl14 sl15 sl16 sl17 sl18 sl19 sl20 sl21 sl22 sl23 : Array (Option Value)} {oc0 kV0 dc0 pm0 cd0 ct0 oc1 kV1 dc1 pm1 cd1 ct1 oc2 kV2 dc2 pm2 cd2 ct2 oc3 kV3 dc3 pm3 cd3 ct3 oc4 kV4 dc4 pm4 cd4 ct4 oc5 kV5 dc5 pm5 cd5 ct5 oc6 kV6 dc6 pm6 cd6 ct6 oc7 kV7 dc7 pm7 cd7 ct7 oc8 kV8 dc8 pm8 cd8 ct8 oc9 kV9 dc9 pm9 cd9 ct9 oc10 kV10 dc10 pm10 cd10 ct10 oc11 kV11 dc11 pm11 cd11 ct11 oc12 kV12 dc12 pm12 cd12 ct12 oc13 kV13 dc13 pm13 cd13 ct13 oc14 kV14 dc14 pm14 cd14 ct14 oc15 kV15 dc15 pm15 cd15 ct15 oc16 kV16 dc16 pm16 cd16 ct16 oc17 kV17 dc17 pm17 cd17 ct17 oc18 kV18 dc18 pm18 cd18 ct18 oc19 kV19 dc19 pm19 cd19 ct19 oc20 kV20 dc20 pm20 cd20 ct20 oc21 kV21 dc21 pm21 cd21 ct21 oc22 kV22 dc22 pm22 cd22 ct22 oc23 kV23 dc23 pm23 cd23 ct23 : Value} {kC0 kC1 : Addr} {uv1 : Tok} {uv2 : Tok} {uv3 : Tok} {tA0 : Addr} {oT0 : Option Addr} {nT0 : Nat} {sT0 : Array (Option Value)} {uv4 : Tok} {uv5 : Tok} {uv6 : Tok} {dG7 : Addr} {esG7 : Array DictEntry} {nG7 : Nat} {uv8 : Tok} {uv9 : Tok} {uv10 : Tok} {uv11 : Tok} {uv12 : Tok} {uv13 : Tok} {uv14 : Tok} {uv15 : Tok} {uv16 : Tok} {uv17 : Tok} {uv18 : Tok} {uv19 : Tok} {uv20 : Tok} {uv21 : Tok} {uv22 : Tok} {uv23 : Tok} {uv24 : Tok} {uv25 : Tok} {uv27 : Tok} {uv28 : Tok} {uv29 : Tok} {tA26 : Addr} {oT26 : Option Addr} {nT26 : Nat} {sT26 : Array (Option Value)}
    (a0 : PySem.W.nsIn K mainGlobals "is_integer" = some (some (.ref f0))) (l0 : K.lookup f0 = some ⟨oc0, od0, .func (PySem.W.fnOf "is_integer" "is_integer" (defArgs s_is_integer) (defBody s_is_integer) (defScope s_is_integer) .none kV0 dc0 pm0 an0 cd0 ct0), sl0⟩) (c0 : PySem.W.codeIn K cd0 "is_integer" = true) (k0 : PySem.W.keepIn K (.ref f0) = true)
    (a1 : PySem.W.nsIn K mainGlobals "is_between" = some (some (.ref f1))) (l1 : K.lookup f1 = some ⟨oc1, od1, .func (PySem.W.fnOf "is_between" "is_between" (defArgs s_is_between) (defBody s_is_between) (defScope s_is_between) .none kV1 dc1 pm1 an1 cd1 ct1), sl1⟩) (c1 : PySem.W.codeIn K cd1 "is_between" = true) (k1 : PySem.W.keepIn K (.ref f1) = true)
    (a2 : PySem.W.nsIn K mainGlobals "is_word" = some (some (.ref f2))) (l2 : K.lookup f2 = some ⟨oc2, od2, .func (PySem.W.fnOf "is_word" "is_word" (defArgs s_is_word) (defBody s_is_word) (defScope s_is_word) .none kV2 dc2 pm2 an2 cd2 ct2), sl2⟩) (c2 : PySem.W.codeIn K cd2 "is_word" = true) (k2 : PySem.W.keepIn K (.ref f2) = true)
    (a3 : PySem.W.nsIn K mainGlobals "is_member" = some (some (.ref f3))) (l3 : K.lookup f3 = some ⟨oc3, od3, .func (PySem.W.fnOf "is_member" "is_member" (defArgs s_is_member) (defBody s_is_member) (defScope s_is_member) .none kV3 dc3 pm3 an3 cd3 ct3), sl3⟩) (c3 : PySem.W.codeIn K cd3 "is_member" = true) (k3 : PySem.W.keepIn K (.ref f3) = true)
    (a4 : PySem.W.nsIn K mainGlobals "is_row" = some (some (.ref f4))) (l4 : K.lookup f4 = some ⟨oc4, od4, .func (PySem.W.fnOf "is_row" "is_row" (defArgs s_is_row) (defBody s_is_row) (defScope s_is_row) .none kV4 dc4 pm4 an4 cd4 ct4), sl4⟩) (c4 : PySem.W.codeIn K cd4 "is_row" = true) (k4 : PySem.W.keepIn K (.ref f4) = true)
    (a5 : PySem.W.nsIn K mainGlobals "is_rows" = some (some (.ref f5))) (l5 : K.lookup f5 = some ⟨oc5, od5, .func (PySem.W.fnOf "is_rows" "is_rows" (defArgs s_is_rows) (defBody s_is_rows) (defScope s_is_rows) .none kV5 dc5 pm5 an5 cd5 ct5), sl5⟩) (c5 : PySem.W.codeIn K cd5 "is_rows" = true) (k5 : PySem.W.keepIn K (.ref f5) = true)
    (a6 : PySem.W.nsIn K mainGlobals "check_rows" = some (some (.ref f6))) (l6 : K.lookup f6 = some ⟨oc6, od6, .func (PySem.W.fnOf "check_rows" "check_rows" (defArgs s_check_rows) (defBody s_check_rows) (defScope s_check_rows) .none kV6 dc6 pm6 an6 cd6 ct6), sl6⟩) (c6 : PySem.W.codeIn K cd6 "check_rows" = true) (k6 : PySem.W.keepIn K (.ref f6) = true)
    (a7 : PySem.W.nsIn K mainGlobals "goal_of" = some (some (.ref f7))) (l7 : K.lookup f7 = some ⟨oc7, od7, .func (PySem.W.fnOf "goal_of" "goal_of" (defArgs s_goal_of) (defBody s_goal_of) (defScope s_goal_of) .none kV7 dc7 pm7 an7 cd7 ct7), sl7⟩) (c7 : PySem.W.codeIn K cd7 "goal_of" = true) (k7 : PySem.W.keepIn K (.ref f7) = true)
    (a8 : PySem.W.nsIn K mainGlobals "with_goal" = some (some (.ref f8))) (l8 : K.lookup f8 = some ⟨oc8, od8, .func (PySem.W.fnOf "with_goal" "with_goal" (defArgs s_with_goal) (defBody s_with_goal) (defScope s_with_goal) .none kV8 dc8 pm8 an8 cd8 ct8), sl8⟩) (c8 : PySem.W.codeIn K cd8 "with_goal" = true) (k8 : PySem.W.keepIn K (.ref f8) = true)
    (a9 : PySem.W.nsIn K mainGlobals "ways_of" = some (some (.ref f9))) (l9 : K.lookup f9 = some ⟨oc9, od9, .func (PySem.W.fnOf "ways_of" "ways_of" (defArgs s_ways_of) (defBody s_ways_of) (defScope s_ways_of) .none kV9 dc9 pm9 an9 cd9 ct9), sl9⟩) (c9 : PySem.W.codeIn K cd9 "ways_of" = true) (k9 : PySem.W.keepIn K (.ref f9) = true)
    (a10 : PySem.W.nsIn K mainGlobals "left_rows" = some (some (.ref f10))) (l10 : K.lookup f10 = some ⟨oc10, od10, .func (PySem.W.fnOf "left_rows" "left_rows" (defArgs s_left_rows) (defBody s_left_rows) (defScope s_left_rows) .none kV10 dc10 pm10 an10 cd10 ct10), sl10⟩) (c10 : PySem.W.codeIn K cd10 "left_rows" = true) (k10 : PySem.W.keepIn K (.ref f10) = true)
    (a11 : PySem.W.nsIn K mainGlobals "reached_rows" = some (some (.ref f11))) (l11 : K.lookup f11 = some ⟨oc11, od11, .func (PySem.W.fnOf "reached_rows" "reached_rows" (defArgs s_reached_rows) (defBody s_reached_rows) (defScope s_reached_rows) .none kV11 dc11 pm11 an11 cd11 ct11), sl11⟩) (c11 : PySem.W.codeIn K cd11 "reached_rows" = true) (k11 : PySem.W.keepIn K (.ref f11) = true)
    (a12 : PySem.W.nsIn K mainGlobals "reached" = some (some (.ref f12))) (l12 : K.lookup f12 = some ⟨oc12, od12, .func (PySem.W.fnOf "reached" "reached" (defArgs s_reached) (defBody s_reached) (defScope s_reached) .none kV12 dc12 pm12 an12 cd12 ct12), sl12⟩) (c12 : PySem.W.codeIn K cd12 "reached" = true) (k12 : PySem.W.keepIn K (.ref f12) = true)
    (a13 : PySem.W.nsIn K mainGlobals "_law_well" = some (some (.ref f13))) (l13 : K.lookup f13 = some ⟨oc13, od13, .func (PySem.W.fnOf "_law_well" "_law_well" (defArgs s__law_well) (defBody s__law_well) (defScope s__law_well) .none kV13 dc13 pm13 an13 cd13 ct13), sl13⟩) (c13 : PySem.W.codeIn K cd13 "_law_well" = true) (k13 : PySem.W.keepIn K (.ref f13) = true)
    (a14 : PySem.W.nsIn K mainGlobals "_law_dip" = some (some (.ref f14))) (l14 : K.lookup f14 = some ⟨oc14, od14, .func (PySem.W.fnOf "_law_dip" "_law_dip" (defArgs s__law_dip) (defBody s__law_dip) (defScope s__law_dip) .none kV14 dc14 pm14 an14 cd14 ct14), sl14⟩) (c14 : PySem.W.codeIn K cd14 "_law_dip" = true) (k14 : PySem.W.keepIn K (.ref f14) = true)
    (a15 : PySem.W.nsIn K mainGlobals "_law_same" = some (some (.ref f15))) (l15 : K.lookup f15 = some ⟨oc15, od15, .func (PySem.W.fnOf "_law_same" "_law_same" (defArgs s__law_same) (defBody s__law_same) (defScope s__law_same) .none kV15 dc15 pm15 an15 cd15 ct15), sl15⟩) (c15 : PySem.W.codeIn K cd15 "_law_same" = true) (k15 : PySem.W.keepIn K (.ref f15) = true)
    (a16 : PySem.W.nsIn K mainGlobals "_law_row" = some (some (.ref f16))) (l16 : K.lookup f16 = some ⟨oc16, od16, .func (PySem.W.fnOf "_law_row" "_law_row" (defArgs s__law_row) (defBody s__law_row) (defScope s__law_row) .none kV16 dc16 pm16 an16 cd16 ct16), sl16⟩) (c16 : PySem.W.codeIn K cd16 "_law_row" = true) (k16 : PySem.W.keepIn K (.ref f16) = true)
    (a17 : PySem.W.nsIn K mainGlobals "_law_rows_drawn" = some (some (.ref f17))) (l17 : K.lookup f17 = some ⟨oc17, od17, .func (PySem.W.fnOf "_law_rows_drawn" "_law_rows_drawn" (defArgs s__law_rows_drawn) (defBody s__law_rows_drawn) (defScope s__law_rows_drawn) .none kV17 dc17 pm17 an17 cd17 ct17), sl17⟩) (c17 : PySem.W.codeIn K cd17 "_law_rows_drawn" = true) (k17 : PySem.W.keepIn K (.ref f17) = true)
    (a18 : PySem.W.nsIn K mainGlobals "_law_goal" = some (some (.ref f18))) (l18 : K.lookup f18 = some ⟨oc18, od18, .func (PySem.W.fnOf "_law_goal" "_law_goal" (defArgs s__law_goal) (defBody s__law_goal) (defScope s__law_goal) .none kV18 dc18 pm18 an18 cd18 ct18), sl18⟩) (c18 : PySem.W.codeIn K cd18 "_law_goal" = true) (k18 : PySem.W.keepIn K (.ref f18) = true)
    (a19 : PySem.W.nsIn K mainGlobals "_law_next" = some (some (.ref f19))) (l19 : K.lookup f19 = some ⟨oc19, od19, .func (PySem.W.fnOf "_law_next" "_law_next" (defArgs s__law_next) (defBody s__law_next) (defScope s__law_next) .none kV19 dc19 pm19 an19 cd19 ct19), sl19⟩) (c19 : PySem.W.codeIn K cd19 "_law_next" = true) (k19 : PySem.W.keepIn K (.ref f19) = true)
    (a20 : PySem.W.nsIn K mainGlobals "_law_left" = some (some (.ref f20))) (l20 : K.lookup f20 = some ⟨oc20, od20, .func (PySem.W.fnOf "_law_left" "_law_left" (defArgs s__law_left) (defBody s__law_left) (defScope s__law_left) .none kV20 dc20 pm20 an20 cd20 ct20), sl20⟩) (c20 : PySem.W.codeIn K cd20 "_law_left" = true) (k20 : PySem.W.keepIn K (.ref f20) = true)
    (a21 : PySem.W.nsIn K mainGlobals "_law_reached" = some (some (.ref f21))) (l21 : K.lookup f21 = some ⟨oc21, od21, .func (PySem.W.fnOf "_law_reached" "_law_reached" (defArgs s__law_reached) (defBody s__law_reached) (defScope s__law_reached) .none kV21 dc21 pm21 an21 cd21 ct21), sl21⟩) (c21 : PySem.W.codeIn K cd21 "_law_reached" = true) (k21 : PySem.W.keepIn K (.ref f21) = true)
    (a22 : PySem.W.nsIn K mainGlobals "_law_sparse" = some (some (.ref f22))) (l22 : K.lookup f22 = some ⟨oc22, od22, .func (PySem.W.fnOf "_law_sparse" "_law_sparse" (defArgs s__law_sparse) (defBody s__law_sparse) (defScope s__law_sparse) .none kV22 dc22 pm22 an22 cd22 ct22), sl22⟩) (c22 : PySem.W.codeIn K cd22 "_law_sparse" = true) (k22 : PySem.W.keepIn K (.ref f22) = true)
    (a23 : PySem.W.nsIn K mainGlobals "law" = some (some (.ref f23))) (l23 : K.lookup f23 = some ⟨oc23, od23, .func (PySem.W.fnOf "law" "law" (defArgs s_law) (defBody s_law) (defScope s_law) .none kV23 dc23 pm23 an23 cd23 ct23), sl23⟩) (c23 : PySem.W.codeIn K cd23 "law" = true) (k23 : PySem.W.keepIn K (.ref f23) = true)
    (z_all : PySem.W.nsIn K mainGlobals "all" = some none) (z_bool : PySem.W.nsIn K mainGlobals "bool" = some none) (z_dict : PySem.W.nsIn K mainGlobals "dict" = some none) (z_enumerate : PySem.W.nsIn K mainGlobals "enumerate" = some none) (z_int : PySem.W.nsIn K mainGlobals "int" = some none) (z_isinstance : PySem.W.nsIn K mainGlobals "isinstance" = some none) (z_len : PySem.W.nsIn K mainGlobals "len" = some none) (z_list : PySem.W.nsIn K mainGlobals "list" = some none) (z_min : PySem.W.nsIn K mainGlobals "min" = some none) (z_range : PySem.W.nsIn K mainGlobals "range" = some none) (z_repr : PySem.W.nsIn K mainGlobals "repr" = some none) (z_str : PySem.W.nsIn K mainGlobals "str" = some none) (z_tuple : PySem.W.nsIn K mainGlobals "tuple" = some none) (z_zip : PySem.W.nsIn K mainGlobals "zip" = some none)
    (aC0 : PySem.W.nsIn K mainGlobals "CaseError" = some (some (.ref kC0))) (aC1 : PySem.W.nsIn K mainGlobals "InvalidRows" = some (some (.ref kC1))) (aG0 : PySem.W.nsIn K mainGlobals "ROUNDINGS" = some (some (.ref tA0))) (lT0 : K.lookup tA0 = some ⟨.type "tuple", oT0, .seq #[.str "down" uv1, .str "up" uv2, .str "near" uv3] nT0, sT0⟩) (aG4 : PySem.W.nsIn K mainGlobals "MOST_ROWS" = some (some (.int 20000 uv4))) (aG5 : PySem.W.nsIn K mainGlobals "MOST_CELL" = some (some (.int 9999 uv5))) (aG6 : PySem.W.nsIn K mainGlobals "MOST_INDEX" = some (some (.int 99 uv6))) (aG7 : PySem.W.nsIn K mainGlobals "FORMS" = some (some (.ref dG7))) (lG7 : K.lookup dG7 = some ⟨.type "dict", none, .dict esG7 nG7, #[]⟩) (kG7 : PySem.W.KeysLit w.params esG7.toList) (eG7_0 : PySem.W.nsIn K dG7 "put" = some (some (.str "cn" uv8))) (eG7_1 : PySem.W.nsIn K dG7 "copy" = some (some (.str "cc" uv9))) (eG7_2 : PySem.W.nsIn K dG7 "file" = some (some (.str "ci" uv10))) (eG7_3 : PySem.W.nsIn K dG7 "told" = some (some (.str "ci" uv11))) (eG7_4 : PySem.W.nsIn K dG7 "add" = some (some (.str "ccc" uv12))) (eG7_5 : PySem.W.nsIn K dG7 "take" = some (some (.str "ccc" uv13))) (eG7_6 : PySem.W.nsIn K dG7 "least" = some (some (.str "ccc" uv14))) (eG7_7 : PySem.W.nsIn K dG7 "most" = some (some (.str "ccc" uv15))) (eG7_8 : PySem.W.nsIn K dG7 "times" = some (some (.str "cmc" uv16))) (eG7_9 : PySem.W.nsIn K dG7 "share" = some (some (.str "ccpqw" uv17))) (eG7_10 : PySem.W.nsIn K dG7 "less" = some (some (.str "ccc" uv18))) (eG7_11 : PySem.W.nsIn K dG7 "same" = some (some (.str "ccc" uv19))) (eG7_12 : PySem.W.nsIn K dG7 "go" = some (some (.str "t" uv20))) (eG7_13 : PySem.W.nsIn K dG7 "if" = some (some (.str "ct" uv21))) (eG7_14 : PySem.W.nsIn K dG7 "bare" = some (some (.str "it" uv22))) (eG7_15 : PySem.W.nsIn K dG7 "note" = some (some (.str "l" uv23))) (eG7_16 : PySem.W.nsIn K dG7 "tell" = some (some (.str "cs" uv24))) (eG7_17 : PySem.W.nsIn K dG7 "hangs" = some (some (.str "i" uv25))) (hG7 : esG7.toList.map (fun e => match e.key with | .str x _ => some x | _ => none) = (["put", "copy", "file", "told", "add", "take", "least", "most", "times", "share", "less", "same", "go", "if", "bare", "note", "tell", "hangs"] : List Str).map some) (oG7 : (dG7 == PySem.sysModules) = false) (aG26 : PySem.W.nsIn K mainGlobals "JUMPING" = some (some (.ref tA26))) (lT26 : K.lookup tA26 = some ⟨.type "tuple", oT26, .seq #[.str "go" uv27, .str "if" uv28, .str "bare" uv29] nT26, sT26⟩) :
    ∃ fd : FuncData, (∀ (s : Shared) (v : Value), BindsTo s fd ⟨[v], []⟩ [("script", v)]) ∧ ∀ base : Heap, K.In base → base.Ns mainGlobals mg → FnG true l.prog w K mg base (L2.CX l.prog w) 22 fa fd ["script"] (@spG (caI [kC0, kC1] []) (caL [kC0, kC1]) K 1 (run G T 11 f_law)) := by
  letI : CA := (caI [kC0, kC1] [])
  have e := hfa.symm.trans (PySem.W.mg_of X G0 a23)
  cases e
  have F0 := fun_mk (st := s_is_integer) l0 c0 k0
  have b0 := F0.binds (ps := r_is_integer.ps) fun _ _ _ _ _ _ us hl => match us, hl with | [_], _ => rfl
  have F1 := fun_mk (st := s_is_between) l1 c1 k1
  have b1 := F1.binds (ps := r_is_between.ps) fun _ _ _ _ _ _ us hl => match us, hl with | [_, _, _], _ => rfl
  have F2 := fun_mk (st := s_is_word) l2 c2 k2
  have b2 := F2.binds (ps := r_is_word.ps) fun _ _ _ _ _ _ us hl => match us, hl with | [_], _ => rfl
  have F3 := fun_mk (st := s_is_member) l3 c3 k3
  have b3 := F3.binds (ps := r_is_member.ps) fun _ _ _ _ _ _ us hl => match us, hl with | [_, _, _, _], _ => rfl
  have F4 := fun_mk (st := s_is_row) l4 c4 k4
  have b4 := F4.binds (ps := r_is_row.ps) fun _ _ _ _ _ _ us hl => match us, hl with | [_, _, _], _ => rfl
  have F5 := fun_mk (st := s_is_rows) l5 c5 k5
  have b5 := F5.binds (ps := r_is_rows.ps) fun _ _ _ _ _ _ us hl => match us, hl with | [_], _ => rfl
  have F6 := fun_mk (st := s_check_rows) l6 c6 k6
  have b6 := F6.binds (ps := r_check_rows.ps) fun _ _ _ _ _ _ us hl => match us, hl with | [_], _ => rfl
  have F7 := fun_mk (st := s_goal_of) l7 c7 k7
  have b7 := F7.binds (ps := r_goal_of.ps) fun _ _ _ _ _ _ us hl => match us, hl with | [_], _ => rfl
  have F8 := fun_mk (st := s_with_goal) l8 c8 k8
  have b8 := F8.binds (ps := r_with_goal.ps) fun _ _ _ _ _ _ us hl => match us, hl with | [_, _], _ => rfl
  have F9 := fun_mk (st := s_ways_of) l9 c9 k9
  have b9 := F9.binds (ps := r_ways_of.ps) fun _ _ _ _ _ _ us hl => match us, hl with | [_, _], _ => rfl
  have F10 := fun_mk (st := s_left_rows) l10 c10 k10
  have b10 := F10.binds (ps := r_left_rows.ps) fun _ _ _ _ _ _ us hl => match us, hl with | [_, _], _ => rfl
  have F11 := fun_mk (st := s_reached_rows) l11 c11 k11
  have b11 := F11.binds (ps := r_reached_rows.ps) fun _ _ _ _ _ _ us hl => match us, hl with | [_], _ => rfl
  have F12 := fun_mk (st := s_reached) l12 c12 k12
  have b12 := F12.binds (ps := r_reached.ps) fun _ _ _ _ _ _ us hl => match us, hl with | [_], _ => rfl
  have F13 := fun_mk (st := s__law_well) l13 c13 k13
  have b13 := F13.binds (ps := r__law_well.ps) fun _ _ _ _ _ _ us hl => match us, hl with | [_], _ => rfl
  have F14 := fun_mk (st := s__law_dip) l14 c14 k14
  have b14 := F14.binds (ps := r__law_dip.ps) fun _ _ _ _ _ _ us hl => match us, hl with | [_, _], _ => rfl
  have F15 := fun_mk (st := s__law_same) l15 c15 k15
  have b15 := F15.binds (ps := r__law_same.ps) fun _ _ _ _ _ _ us hl => match us, hl with | [_, _], _ => rfl
  have F16 := fun_mk (st := s__law_row) l16 c16 k16
  have b16 := F16.binds (ps := r__law_row.ps) fun _ _ _ _ _ _ us hl => match us, hl with | [_, _, _, _], _ => rfl
  have F17 := fun_mk (st := s__law_rows_drawn) l17 c17 k17
  have b17 := F17.binds (ps := r__law_rows_drawn.ps) fun _ _ _ _ _ _ us hl => match us, hl with | [_, _, _], _ => rfl
  have F18 := fun_mk (st := s__law_goal) l18 c18 k18
  have b18 := F18.binds (ps := r__law_goal.ps) fun _ _ _ _ _ _ us hl => match us, hl with | [_], _ => rfl
  have F19 := fun_mk (st := s__law_next) l19 c19 k19
  have b19 := F19.binds (ps := r__law_next.ps) fun _ _ _ _ _ _ us hl => match us, hl with | [_, _], _ => rfl
  have F20 := fun_mk (st := s__law_left) l20 c20 k20
  have b20 := F20.binds (ps := r__law_left.ps) fun _ _ _ _ _ _ us hl => match us, hl with | [_, _], _ => rfl
  have F21 := fun_mk (st := s__law_reached) l21 c21 k21
  have b21 := F21.binds (ps := r__law_reached.ps) fun _ _ _ _ _ _ us hl => match us, hl with | [_], _ => rfl
  have F22 := fun_mk (st := s__law_sparse) l22 c22 k22
  have b22 := F22.binds (ps := r__law_sparse.ps) fun _ _ _ _ _ _ us hl => match us, hl with | [_, _], _ => rfl
  have F23 := fun_mk (st := s_law) l23 c23 k23
  have b23 := F23.binds (ps := r_law.ps) fun _ _ _ _ _ _ us hl => match us, hl with | [_], _ => rfl
  have M : Mo l.prog (caL [kC0, kC1]) K w mg := ⟨PySem.W.mg_none_of X G0 z_all, PySem.W.mg_none_of X G0 z_bool, PySem.W.mg_none_of X G0 z_dict, PySem.W.mg_none_of X G0 z_enumerate, PySem.W.mg_none_of X G0 z_int, PySem.W.mg_none_of X G0 z_isinstance, PySem.W.mg_none_of X G0 z_len, PySem.W.mg_none_of X G0 z_list, PySem.W.mg_none_of X G0 z_min, PySem.W.mg_none_of X G0 z_range, PySem.W.mg_none_of X G0 z_repr, PySem.W.mg_none_of X G0 z_str, PySem.W.mg_none_of X G0 z_tuple, PySem.W.mg_none_of X G0 z_zip, ⟨V.ref tA0, _, PySem.W.mg_of X G0 aG0, rfl, fun F ι => rep_p.mpr (tupD (vs := [V.str "down", V.str "up", V.str "near"]) lT0 (by simp [sizeLine]) (.cons ⟨uv1, rfl⟩ (.cons ⟨uv2, rfl⟩ (.cons ⟨uv3, rfl⟩ (.nil)))) F (.cons (.str _) (.cons (.str _) (.cons (.str _) (.nil)))))⟩, ⟨V.int 20000, _, PySem.W.mg_of X G0 aG4, ⟨uv4, rfl⟩, fun F ι => rep_p.mpr (.int _)⟩, ⟨V.int 9999, _, PySem.W.mg_of X G0 aG5, ⟨uv5, rfl⟩, fun F ι => rep_p.mpr (.int _)⟩, ⟨V.int 99, _, PySem.W.mg_of X G0 aG6, ⟨uv6, rfl⟩, fun F ι => rep_p.mpr (.int _)⟩, ⟨dG7, PySem.W.mg_of X G0 aG7, dformsG lG7 kG7 [("put", .str "cn"), ("copy", .str "cc"), ("file", .str "ci"), ("told", .str "ci"), ("add", .str "ccc"), ("take", .str "ccc"), ("least", .str "ccc"), ("most", .str "ccc"), ("times", .str "cmc"), ("share", .str "ccpqw"), ("less", .str "ccc"), ("same", .str "ccc"), ("go", .str "t"), ("if", .str "ct"), ("bare", .str "it"), ("note", .str "l"), ("tell", .str "cs"), ("hangs", .str "i")] (by
    intro p hp
    simp only [List.mem_cons, List.not_mem_nil, or_false] at hp
    rcases hp with rfl | rfl | rfl | rfl | rfl | rfl | rfl | rfl | rfl | rfl | rfl | rfl | rfl | rfl | rfl | rfl | rfl | rfl
    · exact ⟨_, V.str "cn", eG7_0, ⟨uv8, rfl⟩, fun F => (.str _)⟩
    · exact ⟨_, V.str "cc", eG7_1, ⟨uv9, rfl⟩, fun F => (.str _)⟩
    · exact ⟨_, V.str "ci", eG7_2, ⟨uv10, rfl⟩, fun F => (.str _)⟩
    · exact ⟨_, V.str "ci", eG7_3, ⟨uv11, rfl⟩, fun F => (.str _)⟩
    · exact ⟨_, V.str "ccc", eG7_4, ⟨uv12, rfl⟩, fun F => (.str _)⟩
    · exact ⟨_, V.str "ccc", eG7_5, ⟨uv13, rfl⟩, fun F => (.str _)⟩
    · exact ⟨_, V.str "ccc", eG7_6, ⟨uv14, rfl⟩, fun F => (.str _)⟩
    · exact ⟨_, V.str "ccc", eG7_7, ⟨uv15, rfl⟩, fun F => (.str _)⟩
    · exact ⟨_, V.str "cmc", eG7_8, ⟨uv16, rfl⟩, fun F => (.str _)⟩
    · exact ⟨_, V.str "ccpqw", eG7_9, ⟨uv17, rfl⟩, fun F => (.str _)⟩
    · exact ⟨_, V.str "ccc", eG7_10, ⟨uv18, rfl⟩, fun F => (.str _)⟩
    · exact ⟨_, V.str "ccc", eG7_11, ⟨uv19, rfl⟩, fun F => (.str _)⟩
    · exact ⟨_, V.str "t", eG7_12, ⟨uv20, rfl⟩, fun F => (.str _)⟩
    · exact ⟨_, V.str "ct", eG7_13, ⟨uv21, rfl⟩, fun F => (.str _)⟩
    · exact ⟨_, V.str "it", eG7_14, ⟨uv22, rfl⟩, fun F => (.str _)⟩
    · exact ⟨_, V.str "l", eG7_15, ⟨uv23, rfl⟩, fun F => (.str _)⟩
    · exact ⟨_, V.str "cs", eG7_16, ⟨uv24, rfl⟩, fun F => (.str _)⟩
    · exact ⟨_, V.str "i", eG7_17, ⟨uv25, rfl⟩, fun F => (.str _)⟩)⟩, ⟨dG7, esG7, nG7, PySem.W.mg_of X G0 aG7, ⟨lG7, kG7, oG7⟩, fun z => by
    obtain ⟨r, e1, e2⟩ := nsIn_keys lG7 ["put", "copy", "file", "told", "add", "take", "least", "most", "times", "share", "less", "same", "go", "if", "bare", "note", "tell", "hangs"] hG7 z
    exact ⟨r, e1, e2.trans (dlook_keys [("put", .str "cn"), ("copy", .str "cc"), ("file", .str "ci"), ("told", .str "ci"), ("add", .str "ccc"), ("take", .str "ccc"), ("least", .str "ccc"), ("most", .str "ccc"), ("times", .str "cmc"), ("share", .str "ccpqw"), ("less", .str "ccc"), ("same", .str "ccc"), ("go", .str "t"), ("if", .str "ct"), ("bare", .str "it"), ("note", .str "l"), ("tell", .str "cs"), ("hangs", .str "i")] z).symm⟩⟩, ⟨V.ref tA26, _, PySem.W.mg_of X G0 aG26, rfl, fun F ι => rep_p.mpr (tupD (vs := [V.str "go", V.str "if", V.str "bare"]) lT26 (by simp [sizeLine]) (.cons ⟨uv27, rfl⟩ (.cons ⟨uv28, rfl⟩ (.cons ⟨uv29, rfl⟩ (.nil)))) F (.cons (.str _) (.cons (.str _) (.cons (.str _) (.nil)))))⟩⟩
  refine ⟨PySem.W.fnOf "law" "law" (defArgs s_law) (defBody s_law) (defScope s_law) .none kV23 dc23 pm23 an23 cd23 ct23, fun s v => .of_eq rfl, fun base _ _ => ?_⟩
  have Lv := lvls (P := l.prog) (w := w) (base := base) F0 F1 F2 F3 F4 F5 F6 F7 F8 F9 F10 F11 F12 F13 F14 F15 F16 F17 F18 F19 F20 F21 F22 F23 (PySem.W.mg_of X G0 a0) (PySem.W.mg_of X G0 a1) (PySem.W.mg_of X G0 a2) (PySem.W.mg_of X G0 a3) (PySem.W.mg_of X G0 a4) (PySem.W.mg_of X G0 a5) (PySem.W.mg_of X G0 a6) (PySem.W.mg_of X G0 a7) (PySem.W.mg_of X G0 a8) (PySem.W.mg_of X G0 a9) (PySem.W.mg_of X G0 a10) (PySem.W.mg_of X G0 a11) (PySem.W.mg_of X G0 a12) (PySem.W.mg_of X G0 a13) (PySem.W.mg_of X G0 a14) (PySem.W.mg_of X G0 a15) (PySem.W.mg_of X G0 a16) (PySem.W.mg_of X G0 a17) (PySem.W.mg_of X G0 a18) (PySem.W.mg_of X G0 a19) (PySem.W.mg_of X G0 a20) (PySem.W.mg_of X G0 a21) (PySem.W.mg_of X G0 a22) (PySem.W.mg_of X G0 a23) b0 b1 b2 b3 b4 b5 b6 b7 b8 b9 b10 b11 b12 b13 b14 b15 b16 b17 b18 b19 b20 b21 b22 b23 M 11
  have LL := lvls (P := l.prog) (w := w) (base := base) F0 F1 F2 F3 F4 F5 F6 F7 F8 F9 F10 F11 F12 F13 F14 F15 F16 F17 F18 F19 F20 F21 F22 F23 (PySem.W.mg_of X G0 a0) (PySem.W.mg_of X G0 a1) (PySem.W.mg_of X G0 a2) (PySem.W.mg_of X G0 a3) (PySem.W.mg_of X G0 a4) (PySem.W.mg_of X G0 a5) (PySem.W.mg_of X G0 a6) (PySem.W.mg_of X G0 a7) (PySem.W.mg_of X G0 a8) (PySem.W.mg_of X G0 a9) (PySem.W.mg_of X G0 a10) (PySem.W.mg_of X G0 a11) (PySem.W.mg_of X G0 a12) (PySem.W.mg_of X G0 a13) (PySem.W.mg_of X G0 a14) (PySem.W.mg_of X G0 a15) (PySem.W.mg_of X G0 a16) (PySem.W.mg_of X G0 a17) (PySem.W.mg_of X G0 a18) (PySem.W.mg_of X G0 a19) (PySem.W.mg_of X G0 a20) (PySem.W.mg_of X G0 a21) (PySem.W.mg_of X G0 a22) (PySem.W.mg_of X G0 a23) b0 b1 b2 b3 b4 b5 b6 b7 b8 b9 b10 b11 b12 b13 b14 b15 b16 b17 b18 b19 b20 b21 b22 b23 M 10
  exact ok_law F23 LL M
theorem walk {kC0 kC1 : PySem.Addr} {l : PySem.W.OpenLaw} {q : Program} {loose : List Str} {XP : (Str → Option Value) → Heap → Prop} {YP : World → Heap → Prop} {d : DefRec} {K : Params → PySem.W.Frag} (hn : l.most = some 63) (hdf : d.params.defaults = [])
    (hY : ∀ (w : World) (h : Heap), YP w h → (K w.params).In h)
    (F : ∀ (w : World) (mg : Str → Option Value) (fa : Addr) (h : Heap), (K w.params).In h → h.Ns mainGlobals mg → mg d.name = some (.ref fa) →
      ∃ fd : FuncData, (∀ (s : Shared) (u : Value), BindsTo s fd ⟨[u], []⟩ [("script", u)]) ∧ ∀ base : Heap, (K w.params).In base → base.Ns mainGlobals mg → FnG true l.prog w (K w.params) mg base (L2.CX l.prog w) 22 fa fd ["script"] (@spG (caI [kC0, kC1] []) (caL [kC0, kC1]) (K w.params) 1 (run G T 11 f_law))) :
    PySem.W.WalkO q loose XP YP l.row.toRowW d [] (fun f vs => PySem.call f vs) :=
  haveI : CA := (caI [kC0, kC1] [])
  walk_ofG (gb := true) (n := 63) (k := 22) (x := "script") (CX := fun w => L2.CX l.prog w) (sp := fun w => @spG (caI [kC0, kC1] []) (caL [kC0, kC1]) (K w.params) 1 (run G T 11 f_law)) hn (by decide) hdf ⟨rfl, by decide, by decide⟩ hY F (fun w H a ns hl hO hS => @law_sp (caI [kC0, kC1] []) w _ _ _ _ _ _ hO hS (law_true ns hl)) fun w H s e s' z => by
    obtain ⟨_, _, _, _, _, _, _, _, _, _, _, _, h⟩ := z
    exact h
end EC
open PySem PySem.W PyProof.Rows
set_option maxRecDepth 100000 in
set_option maxHeartbeats 0 in
theorem PySem.Challenge.cw_everycase_k31_rows_reached_holds : PySem.Challenge.rw_everycase_k31_rows_reached.Holds := by
  w_on; o_law; k_head; (case hw => w_witness2)
  k_fill
  refine' EC.walk (l := PySem.Challenge.rw_everycase_k31_rows_reached) rfl rfl (fun w h Y => PySem.W.kIn_of Y) ?F
  case F =>
    intro w mg fa h KX G hmg
    refine' EC.all_mk KX G hmg ?a0 ?l0 ?c0 ?k0 ?a1 ?l1 ?c1 ?k1 ?a2 ?l2 ?c2 ?k2 ?a3 ?l3 ?c3 ?k3 ?a4 ?l4 ?c4 ?k4 ?a5 ?l5 ?c5 ?k5 ?a6 ?l6 ?c6 ?k6 ?a7 ?l7 ?c7 ?k7 ?a8 ?l8 ?c8 ?k8 ?a9 ?l9 ?c9 ?k9 ?a10 ?l10 ?c10 ?k10 ?a11 ?l11 ?c11 ?k11 ?a12 ?l12 ?c12 ?k12 ?a13 ?l13 ?c13 ?k13 ?a14 ?l14 ?c14 ?k14 ?a15 ?l15 ?c15 ?k15 ?a16 ?l16 ?c16 ?k16 ?a17 ?l17 ?c17 ?k17 ?a18 ?l18 ?c18 ?k18 ?a19 ?l19 ?c19 ?k19 ?a20 ?l20 ?c20 ?k20 ?a21 ?l21 ?c21 ?k21 ?a22 ?l22 ?c22 ?k22 ?a23 ?l23 ?c23 ?k23 ?z_all ?z_bool ?z_dict ?z_enumerate ?z_int ?z_isinstance ?z_len ?z_list ?z_min ?z_range ?z_repr ?z_str ?z_tuple ?z_zip ?aC0 ?aC1 ?aG0 ?lT0 ?aG4 ?aG5 ?aG6 ?aG7 ?lG7 ?kG7 ?eG7_0 ?eG7_1 ?eG7_2 ?eG7_3 ?eG7_4 ?eG7_5 ?eG7_6 ?eG7_7 ?eG7_8 ?eG7_9 ?eG7_10 ?eG7_11 ?eG7_12 ?eG7_13 ?eG7_14 ?eG7_15 ?eG7_16 ?eG7_17 ?hG7 ?oG7 ?aG26 ?lT26
    (case a0 => k_is); (case l0 => k_is); (case c0 => k_is); (case k0 => k_is)
    (case a1 => k_is); (case l1 => k_is); (case c1 => k_is); (case k1 => k_is)
    (case a2 => k_is); (case l2 => k_is); (case c2 => k_is); (case k2 => k_is)
    (case a3 => k_is); (case l3 => k_is); (case c3 => k_is); (case k3 => k_is)
    (case a4 => k_is); (case l4 => k_is); (case c4 => k_is); (case k4 => k_is)
    (case a5 => k_is); (case l5 => k_is); (case c5 => k_is); (case k5 => k_is)
    (case a6 => k_is); (case l6 => k_is); (case c6 => k_is); (case k6 => k_is)
    (case a7 => k_is); (case l7 => k_is); (case c7 => k_is); (case k7 => k_is)
    (case a8 => k_is); (case l8 => k_is); (case c8 => k_is); (case k8 => k_is)
    (case a9 => k_is); (case l9 => k_is); (case c9 => k_is); (case k9 => k_is)
    (case a10 => k_is); (case l10 => k_is); (case c10 => k_is); (case k10 => k_is)
    (case a11 => k_is); (case l11 => k_is); (case c11 => k_is); (case k11 => k_is)
    (case a12 => k_is); (case l12 => k_is); (case c12 => k_is); (case k12 => k_is)
    (case a13 => k_is); (case l13 => k_is); (case c13 => k_is); (case k13 => k_is)
    (case a14 => k_is); (case l14 => k_is); (case c14 => k_is); (case k14 => k_is)
    (case a15 => k_is); (case l15 => k_is); (case c15 => k_is); (case k15 => k_is)
    (case a16 => k_is); (case l16 => k_is); (case c16 => k_is); (case k16 => k_is)
    (case a17 => k_is); (case l17 => k_is); (case c17 => k_is); (case k17 => k_is)
    (case a18 => k_is); (case l18 => k_is); (case c18 => k_is); (case k18 => k_is)
    (case a19 => k_is); (case l19 => k_is); (case c19 => k_is); (case k19 => k_is)
    (case a20 => k_is); (case l20 => k_is); (case c20 => k_is); (case k20 => k_is)
    (case a21 => k_is); (case l21 => k_is); (case c21 => k_is); (case k21 => k_is)
    (case a22 => k_is); (case l22 => k_is); (case c22 => k_is); (case k22 => k_is)
    (case a23 => k_is); (case l23 => k_is); (case c23 => k_is); (case k23 => k_is)
    (case z_all => k_is)
    (case z_bool => k_is)
    (case z_dict => k_is)
    (case z_enumerate => k_is)
    (case z_int => k_is)
    (case z_isinstance => k_is)
    (case z_len => k_is)
    (case z_list => k_is)
    (case z_min => k_is)
    (case z_range => k_is)
    (case z_repr => k_is)
    (case z_str => k_is)
    (case z_tuple => k_is)
    (case z_zip => k_is)
    (case aC0 => k_is)
    (case aC1 => k_is)
    (case aG0 => k_is)
    (case lT0 => k_is)
    (case aG4 => k_is)
    (case aG5 => k_is)
    (case aG6 => k_is)
    (case aG7 => k_is)
    (case lG7 => k_is)
    (case kG7 => k_keys)
    (case eG7_0 => k_is)
    (case eG7_1 => k_is)
    (case eG7_2 => k_is)
    (case eG7_3 => k_is)
    (case eG7_4 => k_is)
    (case eG7_5 => k_is)
    (case eG7_6 => k_is)
    (case eG7_7 => k_is)
    (case eG7_8 => k_is)
    (case eG7_9 => k_is)
    (case eG7_10 => k_is)
    (case eG7_11 => k_is)
    (case eG7_12 => k_is)
    (case eG7_13 => k_is)
    (case eG7_14 => k_is)
    (case eG7_15 => k_is)
    (case eG7_16 => k_is)
    (case eG7_17 => k_is)
    (case hG7 => rfl)
    (case oG7 => rfl)
    (case aG26 => k_is)
    (case lT26 => k_is)

