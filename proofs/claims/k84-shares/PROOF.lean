import PyProof.Rows.All
import Wide.All
import OpenK.AllK
import Wide.FinOn
import HandS.ForMost
import HandS.ForExc
import HandS.Wide
import HandS.IsInst
import HandS.Style
import HandS.CallSlots
import HandS.TryMany
import HandS.ExcCtx
import HandS.Flow
import HandS.SortInts
import HandS.More
import HandS.SetKeys
import HandS.StrMore
import HandS.WideBits
import HandS.ExcIs
import HandS.ExcField
import HandS.Defaults
import HandS.Head0
import HandS.Head1
import HandS.Head2
import HandS.HeadEnd
import HandS.HeadHook1
import HandS.HeadHook2
import PySem.Challenge.RW_quotatree_k84_shares_shown
set_option Elab.async false
set_option linter.all false
set_option maxRecDepth 100000
set_option maxHeartbeats 4000000
set_option exponentiation.threshold 2000
/-! QM1: a small machine of our own: cells with numbers, values, the defs as terms, what they come to -/
namespace QM
open PySem L2

inductive Cell where
  | lst (xs : List V) | tup (xs : List V) | dct (kvs : List (Key × V)) | ins (C : Nat) (fs : List (Nat × V)) | xd (fs : List (Nat × V)) | frz (c : Cell) | opq
  deriving DecidableEq
abbrev Hh := List Cell
abbrev Sl := List (Option V)

inductive Res (α : Type) where
  | ok (a : α) (h : Hh) | exc (c : Nat) (d : Option Nat) (h : Hh) | bad
def Res.bind {α β : Type} (r : Res α) (k : α → Hh → Res β) : Res β :=
  match r with
  | .ok a h => k a h
  | .exc c d h => .exc c d h
  | .bad => .bad
@[simp] theorem bind_ok {α β : Type} (a : α) (h : Hh) (k : α → Hh → Res β) : (Res.ok a h).bind k = k a h := rfl
@[simp] theorem bind_exc {α β : Type} (c : Nat) (d : Option Nat) (h : Hh) (k : α → Hh → Res β) : (Res.exc c d h : Res α).bind k = .exc c d h := rfl
@[simp] theorem bind_bad {α β : Type} (k : α → Hh → Res β) : (Res.bad : Res α).bind k = .bad := rfl

/-! reading -/
def lstAt (h : Hh) : V → Option (List V)
  | .ref i => match h[i]? with
    | some (.lst xs) => some xs
    | some (.frz (.lst xs)) => some xs
    | _ => none
  | _ => none
def tupAt (h : Hh) : V → Option (List V)
  | .ref i => match h[i]? with
    | some (.tup xs) => some xs
    | _ => none
  | _ => none
def dctAt (h : Hh) : V → Option (List (Key × V))
  | .ref i => match h[i]? with
    | some (.dct kvs) => some kvs
    | some (.frz (.dct kvs)) => some kvs
    | _ => none
  | _ => none
def seqAt (h : Hh) (v : V) : Option (List V) := match lstAt h v with
  | some xs => some xs
  | none => tupAt h v

def LINE : Nat := 16777216
def big : Nat := 2 ^ 400000

/-! data, for == -/
def dats (dat : V → Option PyData) : List V → Option (List PyData)
  | [] => some []
  | v :: r => match dat v, dats dat r with
    | some d, some ds => some (d :: ds)
    | _, _ => none
def dat (h : Hh) : Nat → V → Option PyData
  | _, .non => some .none
  | _, .bl b => some (.bool b)
  | _, .int i => some (.int i)
  | _, .str x => some (.str x)
  | 0, _ => none
  | n + 1, v => match lstAt h v with
    | some xs => (dats (dat h n) xs).map .list
    | none => match tupAt h v with
      | some xs => (dats (dat h n) xs).map .tuple
      | none => none

def keyOf : V → Option Key
  | .int i => some (.inl i)
  | .str x => some (.inr x)
  | _ => none
inductive Bop where
  | add | sub | mul | fdiv | mod | pow | eq | ne | lt | le | gt | ge | is | isNot | isin | notin
  deriving DecidableEq

def okI (h : Hh) (i : Int) : Res V := .ok (.int i) h
def okB (h : Hh) (b : Bool) : Res V := .ok (.bl b) h

def bAdd (h : Hh) : V → V → Res V
  | .int i, .int j => .ok (.int (i + j)) h
  | .str x, .str y => if x.length + y.length ≤ LINE then .ok (.str (x ++ y)) h else .bad
  | .ref i, .ref j => match h[i]?, h[j]? with
    | some (.lst xs), some (.lst ys) => if xs.length + ys.length ≤ LINE then .ok (.ref h.length) (h ++ [.lst (xs ++ ys)]) else .bad
    | _, _ => .bad
  | _, _ => .bad
def bSub (h : Hh) : V → V → Res V
  | .int i, .int j => .ok (.int (i - j)) h
  | _, _ => .bad
def bMul (h : Hh) : V → V → Res V
  | .int i, .int j => if i.natAbs < big ∧ j.natAbs < big then .ok (.int (i * j)) h else .bad
  | _, _ => .bad
def bDiv (h : Hh) : V → V → Res V
  | .int i, .int j => if j ≠ 0 ∧ j.natAbs.log2 < 9000 then .ok (.int (i.fdiv j)) h else .bad
  | _, _ => .bad
def bMod (h : Hh) : V → V → Res V
  | .int i, .int j => if j ≠ 0 then .ok (.int (i.fmod j)) h else .bad
  | _, _ => .bad
def bPow (h : Hh) : V → V → Res V
  | .int i, .int j => if 0 ≤ j ∧ j ≤ 1000000 ∧ i.natAbs < 2 ^ 64 then .ok (.int (i ^ j.toNat)) h else .bad
  | _, _ => .bad
/-- == (neg: !=) -/
def bEq (neg : Bool) (h : Hh) (x y : V) : Res V :=
  if scal x y = true then .ok (.bl (if neg then !decide (x = y) else decide (x = y))) h
  else match dat h 60 x, dat h 60 y with
    | some d, some e => if SeqAt.shaped d = true ∧ SeqAt.shaped e = true then .ok (.bl (if neg then !PyData.eqv d e else PyData.eqv d e)) h else .bad
    | _, _ => .bad
def bLt (h : Hh) : V → V → Res V
  | .int i, .int j => .ok (.bl (decide (i < j))) h
  | .str i, .str j => .ok (.bl (decide (i.cps.toList < j.cps.toList))) h
  | _, _ => .bad
def bLe (h : Hh) : V → V → Res V
  | .int i, .int j => .ok (.bl (decide (i ≤ j))) h
  | _, _ => .bad
def bGt (h : Hh) : V → V → Res V
  | .int i, .int j => .ok (.bl (decide (j < i))) h
  | _, _ => .bad
def bGe (h : Hh) : V → V → Res V
  | .int i, .int j => .ok (.bl (decide (j ≤ i))) h
  | _, _ => .bad
def bIs (neg : Bool) (h : Hh) : V → V → Res V
  | x, .non => .ok (.bl (if neg then !decide (x = .non) else decide (x = .non))) h
  | .bl a, .bl b => .ok (.bl (if neg then !decide (a = b) else decide (a = b))) h
  | _, _ => .bad
def bIn (neg : Bool) (h : Hh) (x y : V) : Res V :=
  match y with
  | .str j => match x with
    | .str i => .ok (.bl (if neg then (Builtin.Str.occurrences j i 0 j.length 1).isEmpty else !(Builtin.Str.occurrences j i 0 j.length 1).isEmpty)) h
    | _ => .bad
  | y => match seqAt h y with
    | some xs => if flatV x = true ∧ xs.all flatV = true then .ok (.bl (if neg then !inV x xs else inV x xs)) h else .bad
    | none => match dctAt h y, keyOf x with
      | some kvs, some k => .ok (.bl (if neg then !(valV kvs k).isSome else (valV kvs k).isSome)) h
      | _, _ => .bad
def bop (o : Bop) (x y : V) (h : Hh) : Res V :=
  match o with
  | .add => bAdd h x y
  | .sub => bSub h x y
  | .mul => bMul h x y
  | .fdiv => bDiv h x y
  | .mod => bMod h x y
  | .pow => bPow h x y
  | .eq => bEq false h x y
  | .ne => bEq true h x y
  | .lt => bLt h x y
  | .le => bLe h x y
  | .gt => bGt h x y
  | .ge => bGe h x y
  | .is => bIs false h x y
  | .isNot => bIs true h x y
  | .isin => bIn false h x y
  | .notin => bIn true h x y

/-- o[i] -/
def ixs (x y : V) (h : Hh) : Res V :=
  match x with
  | .str z => match y with
    | .int i => if z.length ≤ LINE then (match atI z.cps.toList i with
        | some c => .ok (.str ⟨#[c]⟩) h
        | none => .bad) else .bad
    | _ => .bad
  | x => match seqAt h x with
    | some xs => match y with
      | .int i => match atI xs i with
        | some v => .ok v h
        | none => .bad
      | _ => .bad
    | none => match dctAt h x, keyOf y with
      | some kvs, some k => match valV kvs k with
        | some v => .ok v h
        | none => .bad
      | _, _ => .bad

/-- truth -/
def tru (v : V) (h : Hh) : Res Bool :=
  match v with
  | .non => .ok false h
  | .bl b => .ok b h
  | .int i => .ok (i != 0) h
  | .str y => if y.length ≤ LINE then .ok ((y.length : Int) != 0) h else .bad
  | .ref i => match seqAt h (.ref i) with
    | some xs => .ok (!xs.isEmpty) h
    | none => match h[i]? with
      | some (.dct kvs) => .ok (!kvs.isEmpty) h
      | _ => .bad
  | _ => .bad

/-- a value's type (none: an own class) -/
inductive Kd where
  | non | bl | int | str | list | tuple | dict | own (C : Nat)
  deriving DecidableEq
def kd (h : Hh) : V → Option Kd
  | .non => some .non
  | .bl _ => some .bl
  | .int _ => some .int
  | .str _ => some .str
  | .ref i => match h[i]? with
    | some (.lst _) => some .list
    | some (.frz (.lst _)) => some .list
    | some (.tup _) => some .tuple
    | some (.dct _) => some .dict
    | some (.frz (.dct _)) => some .dict
    | some (.ins C _) => some (.own C)
    | _ => none
  | _ => none
/-- the built-in functions by name -/
inductive Bi where
  | len | abs | max | min | int | str | divmod | list | tuple | sum | any | sorted | dict
  deriving DecidableEq
/-- the strings of a list -/
def strsOf : List V → Option (List Str)
  | [] => some []
  | .str x :: r => (strsOf r).map (x :: ·)
  | _ => none
def intsOf : List V → Option (List Int)
  | [] => some []
  | .int x :: r => (intsOf r).map (x :: ·)
  | _ => none
def blsOf : List V → Option (List Bool)
  | [] => some []
  | .bl x :: r => (blsOf r).map (x :: ·)
  | _ => none
/-- in the texts' order -/
def sLe (x y : Str) : Bool := !decide (y.cps.toList < x.cps.toList)
def insS (x : Str) : List Str → List Str
  | [] => [x]
  | y :: r => if sLe x y then x :: y :: r else y :: insS x r
def sortS : List Str → List Str
  | [] => []
  | x :: r => insS x (sortS r)
def insI (x : Int) : List Int → List Int
  | [] => [x]
  | y :: r => if x ≤ y then x :: y :: r else y :: insI x r
def sortI : List Int → List Int
  | [] => []
  | x :: r => insI x (sortI r)
def maxI : Int → List Int → Int
  | m, [] => m
  | m, x :: r => maxI (if x > m then x else m) r
def minI : Int → List Int → Int
  | m, [] => m
  | m, x :: r => minI (if x < m then x else m) r
def bLen (v : V) (h : Hh) : Res V :=
  match v with
  | .str y => if y.length ≤ LINE then .ok (.int (y.length : Int)) h else .bad
  | v => match seqAt h v with
    | some xs => .ok (.int (xs.length : Int)) h
    | none => match dctAt h v with
      | some kvs => .ok (.int (kvs.length : Int)) h
      | none => .bad
def bStr (v : V) (h : Hh) : Res V :=
  match v with
  | .int i => if i.natAbs.log2 < 1920 then .ok (.str (toString i)) h else .bad
  | _ => .bad
def bDivmod (x y : V) (h : Hh) : Res V :=
  match x, y with
  | .int i, .int j => if 0 < j ∧ j.natAbs.log2 < 9000 then .ok (.ref h.length) (h ++ [.tup [.int (i / j), .int (i % j)]]) else .bad
  | _, _ => .bad
def bList (v : V) (h : Hh) : Res V :=
  match seqAt h v with
  | some xs => .ok (.ref h.length) (h ++ [.lst xs])
  | none => match dctAt h v with
    | some kvs => .ok (.ref h.length) (h ++ [.lst (kvs.map fun kv => kV kv.1)])
    | none => .bad
def bTuple (v : V) (h : Hh) : Res V :=
  match lstAt h v with
  | some xs => .ok (.ref h.length) (h ++ [.tup xs])
  | none => match tupAt h v with
    | some _ => .ok v h
    | none => .bad
def bSum (v : V) (h : Hh) : Res V :=
  match lstAt h v with
  | some xs => match intsOf xs with
    | some ns => .ok (.int ns.sum) h
    | none => .bad
  | none => .bad
def bAny (v : V) (h : Hh) : Res V :=
  match lstAt h v with
  | some xs => match blsOf xs with
    | some bs => .ok (.bl (bs.any id)) h
    | none => .bad
  | none => .bad
def bMaxL (v : V) (h : Hh) : Res V :=
  match lstAt h v with
  | some xs => match intsOf xs with
    | some (n :: r) => .ok (.int (maxI n r)) h
    | _ => .bad
  | none => .bad
def bMinL (v : V) (h : Hh) : Res V :=
  match lstAt h v with
  | some xs => match intsOf xs with
    | some (n :: r) => .ok (.int (minI n r)) h
    | _ => .bad
  | none => .bad
def bSort (xs : List V) (h : Hh) : Res V :=
  match strsOf xs with
  | some ss => if ss.length < 64 then .ok (.ref h.length) (h ++ [.lst ((sortS ss).map .str)]) else .bad
  | none => match intsOf xs with
    | some ns => .ok (.ref h.length) (h ++ [.lst ((sortI ns).map .int)])
    | none => .bad
def bSorted (v : V) (h : Hh) : Res V :=
  match lstAt h v with
  | some xs => bSort xs h
  | none => match dctAt h v with
    | some kvs => match strsOf (kvs.map fun kv => kV kv.1) with
      | some ss => if ss.length < 64 then .ok (.ref h.length) (h ++ [.lst ((sortS ss).map .str)]) else .bad
      | none => .bad
    | none => .bad
def bDict (v : V) (h : Hh) : Res V :=
  match dctAt h v with
  | some kvs => .ok (.ref h.length) (h ++ [.dct kvs])
  | none => .bad
def bi (f : Bi) (vs : List V) (h : Hh) : Res V :=
  match f, vs with
  | .len, [v] => bLen v h
  | .abs, [.int i] => .ok (.int (if i < 0 then -i else i)) h
  | .max, [.int i, .int j] => .ok (.int (if j > i then j else i)) h
  | .min, [.int i, .int j] => .ok (.int (if j < i then j else i)) h
  | .max, [v] => bMaxL v h
  | .min, [v] => bMinL v h
  | .int, [.int i] => .ok (.int i) h
  | .int, [.bl b] => .ok (.int (if b then 1 else 0)) h
  | .int, [.str x] => match PySem.intText? x with
    | some n => if x.length ≤ 640 then .ok (.int n) h else .bad
    | none => .bad
  | .str, [v] => bStr v h
  | .divmod, [x, y] => bDivmod x y h
  | .list, [v] => bList v h
  | .tuple, [v] => bTuple v h
  | .sum, [v] => bSum v h
  | .any, [v] => bAny v h
  | .sorted, [v] => bSorted v h
  | .dict, [v] => bDict v h
  | _, _ => .bad

/-- the methods of the built-in types -/
inductive Bm where
  | append | extend | popEnd | lclear | index | get1 | get2 | dcopy | dpop | dclear | setdefault | update | join | split | partition | upper | reverse
  deriving DecidableEq
/-- where an item stands first -/
def idxV (y : V) : List V → Option Nat
  | [] => none
  | x :: r => if eqV x y = true then some 0 else (idxV y r).map (· + 1)
def bmX (m : Bm) (xs : List V) (vs : List V) (h : Hh) : Res V :=
  match m with
  | .index => match vs with
    | [y] => if flatV y = true ∧ xs.all flatV = true then (match idxV y xs with
      | some j => .ok (.int (j : Nat)) h
      | none => .bad) else .bad
    | _ => .bad
  | _ => .bad
def bmL (m : Bm) (i : Nat) (xs : List V) (vs : List V) (h : Hh) : Res V :=
  match m with
  | .append => match vs with
    | [v] => if xs.length < LINE then .ok .non (h.set i (.lst (xs ++ [v]))) else .bad
    | _ => .bad
  | .extend => match vs with
    | [.ref j] => match h[j]? with
      | some (.lst ys) => if xs.length + ys.length ≤ LINE then .ok .non (h.set i (.lst (xs ++ ys))) else .bad
      | _ => .bad
    | _ => .bad
  | .popEnd => match vs with
    | [] => match xs[xs.length - 1]? with
      | some y => .ok y (h.set i (.lst xs.dropLast))
      | none => .bad
    | _ => .bad
  | .lclear => match vs with
    | [] => .ok .non (h.set i (.lst []))
    | _ => .bad
  | .reverse => match vs with
    | [] => .ok .non (h.set i (.lst xs.reverse))
    | _ => .bad
  | m => bmX m xs vs h
/-- reading -/
def bmR (m : Bm) (kvs : List (Key × V)) (vs : List V) (h : Hh) : Res V :=
  match m with
  | .get1 => match vs with
    | [k] => match keyOf k with
      | some k => .ok ((valV kvs k).getD .non) h
      | none => .bad
    | _ => .bad
  | .get2 => match vs with
    | [k, d] => match keyOf k with
      | some k => .ok ((valV kvs k).getD d) h
      | none => .bad
    | _ => .bad
  | .dcopy => match vs with
    | [] => .ok (.ref h.length) (h ++ [.dct kvs])
    | _ => .bad
  | _ => .bad
def bmD (m : Bm) (i : Nat) (kvs : List (Key × V)) (vs : List V) (h : Hh) : Res V :=
  match m with
  | .dpop => match vs with
    | [k] => match keyOf k with
      | some k => match valV kvs k with
        | some v => .ok v (h.set i (.dct (dropK kvs k)))
        | none => .bad
      | none => .bad
    | _ => .bad
  | .dclear => match vs with
    | [] => .ok .non (h.set i (.dct []))
    | _ => .bad
  | .setdefault => match vs with
    | [k, d] => match keyOf k with
      | some k => if kvs.length < LINE then (match valV kvs k with
        | some v => .ok v h
        | none => .ok d (h.set i (.dct (putK kvs k d)))) else .bad
      | none => .bad
    | _ => .bad
  | m => bmR m kvs vs h
def bmS (m : Bm) (a : Str) (vs : List V) (h : Hh) : Res V :=
  match m with
  | .partition => match vs with
    | [.str b] => if (b.length == 0) = false ∧ a.length ≤ LINE then .ok (.ref h.length) (h ++ [.tup [.str (Txt.partition a b).1, .str (Txt.partition a b).2.1, .str (Txt.partition a b).2.2]]) else .bad
    | _ => .bad
  | .split => match vs with
    | [.str b] => if (b.length == 0) = false ∧ a.length + 2 ≤ LINE then .ok (.ref h.length) (h ++ [.lst ((Txt.split a b).map .str)]) else .bad
    | _ => .bad
  | .upper => match vs with
    | [] => if a.length ≤ 5592405 then .ok (.str (Txt.upper a)) h else .bad
    | _ => .bad
  | .join => match vs with
    | [v] => match seqAt h v with
      | some xs => match strsOf xs with
        | some ss => if (ss.map Str.length).sum + ss.length * a.length ≤ LINE then .ok (.str (Txt.join a ss)) h else .bad
        | none => .bad
      | none => .bad
    | _ => .bad
  | _ => .bad
def bm (m : Bm) (x : V) (vs : List V) (h : Hh) : Res V :=
  match x with
  | .ref i => match h[i]? with
    | some (.lst xs) => bmL m i xs vs h
    | some (.frz (.lst xs)) => bmX m xs vs h
    | some (.dct kvs) => bmD m i kvs vs h
    | some (.frz (.dct kvs)) => bmR m kvs vs h
    | _ => .bad
  | .str a => bmS m a vs h
  | _ => .bad
/-- the type a method is looked up at -/
def Bm.kd : Bm → Kd
  | .append | .extend | .popEnd | .lclear | .index | .reverse => .list
  | .get1 | .get2 | .dcopy | .dpop | .dclear | .setdefault | .update => .dict
  | .join | .split | .partition | .upper => .str

/-- the built-in types of isinstance -/
inductive Ty where
  | int | bool | str | list | tuple | dict
  deriving DecidableEq
def Ty.name : Ty → String
  | .int => "int" | .bool => "bool" | .str => "str" | .list => "list" | .tuple => "tuple" | .dict => "dict"
def Kd.isTy : Kd → Ty → Bool
  | .bl, .bool => true
  | .bl, .int => true
  | .int, .int => true
  | .str, .str => true
  | .list, .list => true
  | .tuple, .tuple => true
  | .dict, .dict => true
  | _, _ => false
def isTy (t : Ty) (v : V) (h : Hh) : Res V :=
  match kd h v with
  | some k => .ok (.bl (k.isTy t)) h
  | none => .bad

/-! what a loop walks -/
inductive Sk where
  | it | rng | keys | vals | items | enum | zip | rev
  deriving DecidableEq
inductive Item where
  | val (v : V) | tup (vs : List V)
def Item.lay : Item → Hh → V × Hh
  | .val v, h => (v, h)
  | .tup vs, h => (.ref h.length, h ++ [.tup vs])
/-- what stays as it is while the loop runs: lists by their items, locked dicts -/
structure Walk where
  items : List Item
  lists : List (V × List V)
  tups : List (V × List V)
  dicts : List (Nat × List (Key × V))
  lock : Option (Nat × List (Key × V))
def Walk.ok (w : Walk) (h : Hh) : Prop := (∀ p ∈ w.lists, lstAt h p.1 = some p.2) ∧ (∀ p ∈ w.tups, tupAt h p.1 = some p.2) ∧ ∀ p ∈ w.dicts, h[p.1]? = some (.frz (.dct p.2))
instance (w : Walk) (h : Hh) : Decidable (w.ok h) := by unfold Walk.ok; exact inferInstance
/-- nothing that is walked has changed -/
def okW (lists tups : List (V × List V)) (dicts : List (Nat × List (Key × V))) (h : Hh) : Bool := (lists.all fun p => decide (lstAt h p.1 = some p.2)) && (tups.all fun p => decide (tupAt h p.1 = some p.2)) && dicts.all fun p => decide (h[p.1]? = some (.frz (.dct p.2)))
abbrev Walk.okb (w : Walk) : Hh → Bool := okW w.lists w.tups w.dicts
theorem okb_iff {w : Walk} {h : Hh} : w.okb h = true ↔ w.ok h := by
  unfold Walk.okb okW Walk.ok
  simp only [Bool.and_eq_true, List.all_eq_true, decide_eq_true_eq]
  exact ⟨fun h => ⟨h.1.1, h.1.2, h.2⟩, fun h => ⟨⟨h.1, h.2.1⟩, h.2.2⟩⟩
def enumI : Nat → List V → List Item
  | _, [] => []
  | i, x :: r => .tup [.int i, x] :: enumI (i + 1) r
def zipI : List V → List V → List Item
  | x :: xs, y :: ys => .tup [x, y] :: zipI xs ys
  | _, _ => []
def rngI (lo : Int) : Nat → List Item
  | 0 => []
  | n + 1 => .val (.int lo) :: rngI (lo + 1) n
def R62 : Int := 2 ^ 62
/-- a dict is locked while it is walked (unless it is already) -/
def dWalk (h : Hh) (v : V) (g : List (Key × V) → List Item) : Option (Walk × Hh) :=
  match v with
  | .ref i => match h[i]? with
    | some (.dct kvs) => some (⟨g kvs, [], [], [(i, kvs)], some (i, kvs)⟩, h.set i (.frz (.dct kvs)))
    | some (.frz (.dct kvs)) => some (⟨g kvs, [], [], [(i, kvs)], none⟩, h)
    | _ => none
  | _ => none
def itW (v : V) (h : Hh) : Option (Walk × Hh) :=
  match v with
  | .str x => some (⟨x.cps.toList.map fun c => .val (.str ⟨#[c]⟩), [], [], [], none⟩, h)
  | v => match lstAt h v with
    | some xs => some (⟨xs.map .val, [(v, xs)], [], [], none⟩, h)
    | none => match tupAt h v with
      | some xs => some (⟨xs.map .val, [], [(v, xs)], [], none⟩, h)
      | none => dWalk h v fun kvs => kvs.map fun kv => .val (kV kv.1)
def rngW (vs : List V) (h : Hh) : Option (Walk × Hh) :=
  match vs with
  | [.int j] => if -R62 ≤ j ∧ j < R62 then some (⟨rngI 0 j.toNat, [], [], [], none⟩, h) else none
  | [.int i, .int j] => if (-R62 ≤ i ∧ i < R62) ∧ -R62 ≤ j ∧ j < R62 then some (⟨rngI i (j - i).toNat, [], [], [], none⟩, h) else none
  | _ => none
def enumW (v : V) (h : Hh) : Option (Walk × Hh) :=
  match lstAt h v with
  | some xs => some (⟨enumI 0 xs, [(v, xs)], [], [], none⟩, h)
  | none => none
def zipW (v w : V) (h : Hh) : Option (Walk × Hh) :=
  match lstAt h v, lstAt h w with
  | some xs, some ys => some (⟨zipI xs ys, [(v, xs), (w, ys)], [], [], none⟩, h)
  | _, _ => none
def revW (v : V) (h : Hh) : Option (Walk × Hh) :=
  match lstAt h v with
  | some xs => some (⟨xs.reverse.map .val, [(v, xs)], [], [], none⟩, h)
  | none => none
def walk (k : Sk) (vs : List V) (h : Hh) : Option (Walk × Hh) :=
  match k with
  | .it => match vs with
    | [v] => itW v h
    | _ => none
  | .rng => rngW vs h
  | .vals => match vs with
    | [v] => dWalk h v fun kvs => kvs.map fun kv => .val kv.2
    | _ => none
  | .items => match vs with
    | [v] => dWalk h v fun kvs => kvs.map fun kv => .tup [kV kv.1, kv.2]
    | _ => none
  | .enum => match vs with
    | [v] => enumW v h
    | _ => none
  | .zip => match vs with
    | [v, w] => zipW v w h
    | _ => none
  | .rev => match vs with
    | [v] => revW v h
    | _ => none
  | .keys => none
/-- the lock is taken off -/
def Walk.free (w : Walk) (h : Hh) : Option Hh :=
  match w.lock with
  | none => some h
  | some (i, kvs) => if h[i]? = some (.frz (.dct kvs)) then some (h.set i (.dct kvs)) else none

/-- a target: a name, or several -/
inductive Tg where
  | one (i : Nat) | many (is : List Nat)
/-- several names at once -/
def sets : List Nat → List V → Sl → Option Sl
  | [], [], σ => some σ
  | i :: is, v :: vs, σ => sets is vs (σ.set i (some v))
  | _, _, _ => none
def Tg.put (t : Tg) (v : V) (σ : Sl) (h : Hh) : Option Sl :=
  match t with
  | .one i => some (σ.set i (some v))
  | .many is => match tupAt h v with
    | some xs => sets is xs σ
    | none => none
def wipeQ (σ : Sl) : List Nat → Sl
  | [] => σ
  | v :: vs => (wipeQ σ vs).set v none

/-! terms -/
inductive E where
  | c (v : V)
  | v (i : Nat)
  | g (k : Nat)
  | bin (o : Bop) (a b : E)
  | neg (a : E)
  | not (a : E)
  | and (a b : E)
  | or (a b : E)
  | chain (o o' : Bop) (a b c : E)
  | ix (a b : E)
  | slice (a : E) (lo hi : Option E)
  | bi (f : Bi) (es : List E)
  | isTy (t : Ty) (a : E)
  | isOwn (C : Nat) (a : E)
  | lst (es : List E)
  | tup (es : List E)
  | dct (kvs : List E)
  | call (f : Nat) (es : List E)
  | new (C : Nat) (es : List E)
  | bm (m : Bm) (o : E) (es : List E)
  | attr (o : E) (f : Nat)
  | meth (o : E) (m : Nat) (es : List E)
  | lc (own : List Nat) (t : Tg) (k : Sk) (es : List E) (cond : Option E) (elt : E)
  | exIs (i C : Nat)
  | exTy (i : Nat)
  | exAt (i f : Nat)

/-- names and attributes of names alone -/
def isPath : E → Bool
  | .v _ => true
  | .attr o _ => isPath o
  | _ => false
structure Cxt where
  call : Nat → List V → Hh → Res V
  /-- a class's __init__ -/
  init : Nat → Option Nat
  /-- a class's method -/
  mth : Nat → Nat → Option Nat
  /-- a def's arguments, with its defaults behind -/
  fill : Nat → List V → List V
  /-- is a class under another one -/
  sub : Nat → Nat → Bool
  /-- an error class -/
  isx : Nat → Bool
  /-- the module's constants -/
  glo : Nat → Option V
  /-- the error that is handled: its class, its fields, its own cell -/
  cur : Option (Nat × Option Nat × Nat)

def cut (xs : List V) (lo hi : Option Int) : List V := cutV xs lo hi
def sliced (x : V) (lo hi : Option Int) (h : Hh) : Res V :=
  match x with
  | .str z => if z.length ≤ LINE then .ok (.str (cutS z lo hi)) h else .bad
  | x => match lstAt h x with
    | some xs => .ok (.ref h.length) (h ++ [.lst (cutV xs lo hi)])
    | none => match tupAt h x with
      | some xs => if (cutV xs lo hi).length = xs.length then .bad else .ok (.ref h.length) (h ++ [.tup (cutV xs lo hi)])
      | none => .bad
def attrAt (x : V) (f : Nat) (h : Hh) : Res V :=
  match x with
  | .ref i => match h[i]? with
    | some (.ins _ fs) => match fs.lookup f with
      | some v => .ok v h
      | none => .bad
    | _ => .bad
  | _ => .bad
/-- a display's pairs, told one after the other -/
def pairsOf : List V → Option (List (Key × V))
  | [] => some []
  | k :: v :: r => match keyOf k, pairsOf r with
    | some k, some r => some ((k, v) :: r)
    | _, _ => none
  | _ => none
def optInt : Option V → Option (Option Int)
  | none => some none
  | some (.int i) => some (some i)
  | _ => none
/-- a comprehension's turns: the new list stands at D -/
def lcL (ok : Hh → Bool) (D : Nat) (put : V → Hh → Option Sl) (cond : Sl → Hh → Res Bool) (elt : Sl → Hh → Res V) : List Item → Hh → Res V
  | [], h => if ok h = true then .ok (.ref D) h else .bad
  | x :: r, h => if ok h = true then
      match put (x.lay h).1 (x.lay h).2 with
      | some σ => match cond σ (x.lay h).2 with
        | .ok true h => match elt σ h with
          | .ok v h => match h[D]? with
            | some (.lst acc) => if acc.length < LINE then lcL ok D put cond elt r (h.set D (.lst (acc ++ [v]))) else .bad
            | _ => .bad
          | _ => .bad
        | .ok false h => lcL ok D put cond elt r h
        | _ => .bad
      | none => .bad
    else .bad

mutual
def evE (G : Cxt) : E → Sl → Hh → Res V
  | .c v, _, h => .ok v h
  | .v i, σ, h => match σ[i]? with
    | some (some v) => .ok v h
    | _ => .bad
  | .g k, _, h => match G.glo k with
    | some v => .ok v h
    | none => .bad
  | .bin o a b, σ, h => (evE G a σ h).bind fun x h => (evE G b σ h).bind fun y h => bop o x y h
  | .neg a, σ, h => (evE G a σ h).bind fun x h => match x with
    | .int i => .ok (.int (-i)) h
    | _ => .bad
  | .not a, σ, h => (evE G a σ h).bind fun x h => (tru x h).bind fun b h => .ok (.bl (!b)) h
  | .and a b, σ, h => (evE G a σ h).bind fun x h => match x with
    | .bl true => evE G b σ h
    | .bl false => .ok (.bl false) h
    | _ => .bad
  | .or a b, σ, h => (evE G a σ h).bind fun x h => match x with
    | .bl true => .ok (.bl true) h
    | .bl false => evE G b σ h
    | _ => .bad
  | .chain o o' a b c, σ, h => (evE G a σ h).bind fun x h => (evE G b σ h).bind fun y h => (bop o x y h).bind fun z h => match z with
    | .bl true => (evE G c σ h).bind fun w h => bop o' y w h
    | .bl false => .ok (.bl false) h
    | _ => .bad
  | .ix a b, σ, h => (evE G a σ h).bind fun x h => (evE G b σ h).bind fun y h => ixs x y h
  | .slice a lo hi, σ, h => (evE G a σ h).bind fun x h => (evO G lo σ h).bind fun l h => match optInt l with
    | some l => (evO G hi σ h).bind fun u h => match optInt u with
      | some u => sliced x l u h
      | none => .bad
    | none => .bad
  | .bi f es, σ, h => (evEs G es σ h).bind fun vs h => bi f vs h
  | .isTy t a, σ, h => (evE G a σ h).bind fun x h => isTy t x h
  | .isOwn C a, σ, h => (evE G a σ h).bind fun x h => match kd h x with
    | some (.own D) => .ok (.bl (G.sub D C)) h
    | some _ => .ok (.bl false) h
    | none => .bad
  | .lst es, σ, h => (evEs G es σ h).bind fun vs h => if vs.length ≤ LINE then .ok (.ref h.length) (h ++ [.lst vs]) else .bad
  | .tup es, σ, h => (evEs G es σ h).bind fun vs h => if vs.length ≤ LINE then .ok (.ref h.length) (h ++ [.tup vs]) else .bad
  | .dct es, σ, h => (evEs G es σ (h ++ [.dct []])).bind fun vs g => match g[h.length]?, pairsOf vs with
    | some (.dct []), some kvs => if kvs.length ≤ 15 then .ok (.ref h.length) (g.set h.length (.dct (mergeK [] kvs))) else .bad
    | _, _ => .bad
  | .call f es, σ, h => (evEs G es σ h).bind fun vs h => G.call f (G.fill f vs) h
  | .new C es, σ, h => (evEs G es σ h).bind fun vs h => match G.init C with
    | some f => (G.call f (G.fill f (.ref h.length :: vs)) (h ++ [.ins C []])).bind fun v g => if v = .non then .ok (.ref h.length) g else .bad
    | none => .bad
  | .bm m o es, σ, h => (evE G o σ h).bind fun x h => if kd h x = some m.kd then (evEs G es σ h).bind fun vs h => bm m x vs h else .bad
  | .attr o f, σ, h => (evE G o σ h).bind fun x h => attrAt x f h
  | .meth o m es, σ, h => (evE G o σ h).bind fun x h => match kd h x with
    | some (.own C) => match G.mth C m with
      | some f => (evEs G es σ h).bind fun vs h => G.call f (G.fill f (x :: vs)) h
      | none => .bad
    | _ => .bad
  | .lc own t k es cond elt, σ, h => (evEs G es σ h).bind fun vs h => match walk k vs h with
    | some (w, h) => if !w.dicts.isEmpty && !es.all isPath then .bad else match lcL w.okb h.length (fun v h => t.put v (wipeQ σ own) h) (fun σ h => match evO G cond σ h with
        | .ok none h => .ok true h
        | .ok (some v) h => tru v h
        | _ => .bad) (evE G elt) w.items (h ++ [.lst []]) with
      | .ok v h => match w.free h with
        | some h => .ok v h
        | none => .bad
      | _ => .bad
    | none => .bad
  | .exIs i C, σ, h => match G.cur with
    | some (D, none, j) => if σ[i]? = some (some (.ref j)) then .ok (.bl (G.sub D C)) h else .bad
    | _ => .bad
  | .exTy i, σ, h => match G.cur with
    | some (_, none, j) => if σ[i]? = some (some (.ref j)) then .ok (.bl true) h else .bad
    | _ => .bad
  | .exAt i f, σ, h => match G.cur with
    | some (_, some d, j) => if σ[i]? = some (some (.ref j)) then (match h[d]? with
      | some (.xd fs) => match fs.lookup f with
        | some v => .ok v h
        | none => .bad
      | _ => .bad) else .bad
    | _ => .bad
def evEs (G : Cxt) : List E → Sl → Hh → Res (List V)
  | [], _, h => .ok [] h
  | e :: r, σ, h => (evE G e σ h).bind fun v h => (evEs G r σ h).bind fun vs h => .ok (v :: vs) h
/-- a part of a slice, a comprehension's test -/
def evO (G : Cxt) : Option E → Sl → Hh → Res (Option V)
  | none, _, h => .ok none h
  | some e, σ, h => (evE G e σ h).bind fun v h => .ok (some v) h
end
def evT (G : Cxt) (e : E) (σ : Sl) (h : Hh) : Res Bool := (evE G e σ h).bind tru

inductive Out where
  | nx (σ : Sl) (h : Hh) | ret (v : V) (h : Hh) | exc (c : Nat) (d : Option Nat) (σ : Sl) (h : Hh) | brk (σ : Sl) (h : Hh) | ct (σ : Sl) (h : Hh) | bad
def Out.seq (r : Out) (k : Sl → Hh → Out) : Out :=
  match r with
  | .nx σ h => k σ h
  | r => r
@[simp] theorem seq_nx (σ : Sl) (h : Hh) (k : Sl → Hh → Out) : (Out.nx σ h).seq k = k σ h := rfl
@[simp] theorem seq_ret (v : V) (h : Hh) (k : Sl → Hh → Out) : (Out.ret v h).seq k = .ret v h := rfl
@[simp] theorem seq_exc (c : Nat) (d : Option Nat) (σ : Sl) (h : Hh) (k : Sl → Hh → Out) : (Out.exc c d σ h).seq k = .exc c d σ h := rfl
@[simp] theorem seq_brk (σ : Sl) (h : Hh) (k : Sl → Hh → Out) : (Out.brk σ h).seq k = .brk σ h := rfl
@[simp] theorem seq_ct (σ : Sl) (h : Hh) (k : Sl → Hh → Out) : (Out.ct σ h).seq k = .ct σ h := rfl
@[simp] theorem seq_bad (k : Sl → Hh → Out) : Out.bad.seq k = .bad := rfl
/-- an expression's end in a statement -/
def Res.out {α : Type} (r : Res α) (σ : Sl) (k : α → Hh → Out) : Out :=
  match r with
  | .ok a h => k a h
  | .exc c d h => .exc c d σ h
  | .bad => .bad
@[simp] theorem out_ok {α : Type} (a : α) (h : Hh) (σ : Sl) (k : α → Hh → Out) : (Res.ok a h).out σ k = k a h := rfl
@[simp] theorem out_exc {α : Type} (c : Nat) (d : Option Nat) (h : Hh) (σ : Sl) (k : α → Hh → Out) : (Res.exc c d h : Res α).out σ k = .exc c d σ h := rfl
@[simp] theorem out_bad {α : Type} (σ : Sl) (k : α → Hh → Out) : (Res.bad : Res α).out σ k = .bad := rfl

/-- what an error class's own __init__ keeps: fields in their order, a list copied or not -/
abbrev EInit := List (Nat × Bool)

mutual
inductive S where
  | set (i : Nat) (e : E)
  | tup (is : List Nat) (e : E)
  | par (i j : Nat) (a b : E)
  | setIx (o i e : E)
  | setAt (o : E) (f : Nat) (e : E)
  | ret (e : E)
  | ite (c : E) (a b : List S)
  | whl (c : E) (b : List S)
  | for_ (t : Tg) (k : Sk) (es : List E) (b : List S)
  | expr (e : E)
  | pass
  | cont
  | brk
  | raise (C : Nat) (es : List E)
  | try_ (b : List S) (hs : List Hd)
inductive Hd where
  | mk (C : Nat) (slot : Option Nat) (b : List S)
end

def FUEL : Nat := 10 ^ 1000
def whileN (c : Sl → Hh → Res Bool) (b : Sl → Hh → Out) : Nat → Sl → Hh → Out
  | 0, _, _ => .bad
  | n + 1, σ, h => (c σ h).out σ fun t h => if t = true then (match b σ h with
      | .nx σ' h' => whileN c b n σ' h'
      | .ct σ' h' => whileN c b n σ' h'
      | .brk σ' h' => .nx σ' h'
      | r => r) else .nx σ h
def forL (ok : Hh → Bool) (t : Tg) (b : Sl → Hh → Out) : List Item → Sl → Hh → Out
  | [], σ, h => if ok h = true then .nx σ h else .bad
  | x :: r, σ, h => if ok h = true then
      match t.put (x.lay h).1 σ (x.lay h).2 with
      | some σ' => match b σ' (x.lay h).2 with
        | .nx σ2 h2 => forL ok t b r σ2 h2
        | .ct σ2 h2 => forL ok t b r σ2 h2
        | .brk σ2 h2 => .nx σ2 h2
        | o => o
      | none => .bad
    else .bad
/-- behind a loop over a dict -/
def Out.free (w : Walk) (o : Out) : Out :=
  match o with
  | .nx σ h => match w.free h with
    | some h => .nx σ h
    | none => .bad
  | .ret v h => match w.free h with
    | some h => .ret v h
    | none => .bad
  | .exc c d σ h => match w.free h with
    | some h => .exc c d σ h
    | none => .bad
  | _ => .bad
/-- o[i] = v -/
def putIx (o i v : V) (h : Hh) : Res Unit :=
  match o with
  | .ref p => match h[p]? with
    | some (.lst xs) => match i with
      | .int k => match ixN xs.length k with
        | some j => .ok () (h.set p (.lst (xs.set j v)))
        | none => .bad
      | _ => .bad
    | some (.dct kvs) => match keyOf i with
      | some k => if kvs.length < LINE then .ok () (h.set p (.dct (putK kvs k v))) else .bad
      | none => .bad
    | _ => .bad
  | _ => .bad
def putN (f : Nat) (v : V) : List (Nat × V) → List (Nat × V)
  | [] => [(f, v)]
  | (g, w) :: r => if g = f then (g, v) :: r else (g, w) :: putN f v r
def putAt (o : V) (f : Nat) (v : V) (h : Hh) : Res Unit :=
  match o with
  | .ref p => match h[p]? with
    | some (.ins C fs) => if fs.length < 1000 then .ok () (h.set p (.ins C (putN f v fs))) else .bad
    | _ => .bad
  | _ => .bad

/-- the fields that an error's __init__ keeps -/
def einit : EInit → List V → Hh → Option (List (Nat × V) × Hh)
  | [], [], h => some ([], h)
  | (f, false) :: fs, v :: vs, h => (einit fs vs h).map fun p => ((f, v) :: p.1, p.2)
  | (f, true) :: fs, v :: vs, h => match seqAt h v with
    | some xs => (einit fs vs (h ++ [.lst xs])).map fun p => ((f, .ref h.length) :: p.1, p.2)
    | none => none
  | _, _, _ => none
mutual
def evS (G : Cxt) (ei : Nat → Option EInit) : S → Sl → Hh → Out
  | .set i e, σ, h => (evE G e σ h).out σ fun v h => .nx (σ.set i (some v)) h
  | .tup is e, σ, h => (evE G e σ h).out σ fun v h => match tupAt h v with
    | some xs => match sets is xs σ with
      | some σ' => .nx σ' h
      | none => .bad
    | none => .bad
  | .par i j a b, σ, h => (evE G a σ h).out σ fun x h => (evE G b σ h).out σ fun y h => .nx ((σ.set i (some x)).set j (some y)) h
  | .setIx o i e, σ, h => (evE G e σ h).out σ fun v h => (evE G o σ h).out σ fun x h => (evE G i σ h).out σ fun y h => (putIx x y v h).out σ fun _ h => .nx σ h
  | .setAt o f e, σ, h => (evE G e σ h).out σ fun v h => (evE G o σ h).out σ fun x h => (putAt x f v h).out σ fun _ h => .nx σ h
  | .ret e, σ, h => (evE G e σ h).out σ fun v h => .ret v h
  | .ite c a b, σ, h => (evT G c σ h).out σ fun t h => if t = true then evSs G ei a σ h else evSs G ei b σ h
  | .whl c b, σ, h => whileN (evT G c) (evSs G ei b) FUEL σ h
  | .for_ t k es b, σ, h => (evEs G es σ h).out σ fun vs h => match walk k vs h with
    | some (w, h) => if !w.dicts.isEmpty && !es.all isPath then .bad else (forL w.okb t (evSs G ei b) w.items σ h).free w
    | none => .bad
  | .expr e, σ, h => (evE G e σ h).out σ fun _ h => .nx σ h
  | .pass, σ, h => .nx σ h
  | .cont, σ, h => .ct σ h
  | .brk, σ, h => .brk σ h
  | .raise C es, σ, h => match ei C with
    | none => .exc C none σ h
    | some fs => (evEs G es σ h).out σ fun vs h => match einit fs vs h with
      | some (xs, h) => .exc C (some h.length) σ (h ++ [.xd xs])
      | none => .bad
  | .try_ b hs, σ, h => match evSs G ei b σ h with
    | .exc c d σ' h' => evHs G ei c d hs σ' h'
    | o => o
def evSs (G : Cxt) (ei : Nat → Option EInit) : List S → Sl → Hh → Out
  | [], σ, h => .nx σ h
  | s :: r, σ, h => (evS G ei s σ h).seq fun σ h => evSs G ei r σ h
def evHs (G : Cxt) (ei : Nat → Option EInit) (c : Nat) (d : Option Nat) : List Hd → Sl → Hh → Out
  | [], σ, h => .exc c d σ h
  | hd :: r, σ, h => evH G ei c d hd σ h (evHs G ei c d r σ h)
def evH (G : Cxt) (ei : Nat → Option EInit) (c : Nat) (d : Option Nat) : Hd → Sl → Hh → Out → Out
  | .mk C none b, σ, h, o => if (G.isx c && G.isx C) = false then .bad else if G.sub c C = true then
      (match evSs G ei b σ h with
      | .exc _ _ _ _ => .bad
      | o => o) else o
  | .mk C (some i) b, σ, h, o => if (G.isx c && G.isx C) = false then .bad else if G.sub c C = true then
      (match evSs { G with cur := some (c, d, h.length) } ei b (σ.set i (some (.ref h.length))) (h ++ [.opq]) with
      | .nx σ h => .nx (σ.set i none) h
      | .brk σ h => .brk (σ.set i none) h
      | .ct σ h => .ct (σ.set i none) h
      | .exc _ _ _ _ => .bad
      | o => o) else o
end
/-- a def: its name, how many of its names are parameters, its defaults, its names, its body -/
structure FD where
  name : Str
  np : Nat
  df : List V := []
  glob : Bool := true
  N : List Str
  body : List S
def startQ (n : Nat) (vs : List V) : Sl := vs.map some ++ List.replicate (n - vs.length) none
def runF (G : Cxt) (ei : Nat → Option EInit) (f : FD) (vs : List V) (h : Hh) : Res V :=
  if vs.length = f.np then
    match evSs G ei f.body (startQ f.N.length vs) h with
    | .nx _ h => .ok .non h
    | .ret v h => .ok v h
    | .exc c d _ h => .exc c d h
    | _ => .bad
  else .bad
/-- a class: its name, its def's name of __init__, its methods by the attributes' numbers, the classes it stands under (itself too), an error's own fields -/
structure CD where
  name : Str
  init : Option Nat := none
  meths : List (Nat × Nat) := []
  sup : List Nat
  exc : Bool := false
  ei : Option EInit := none
structure Prog where
  fns : List FD
  cls : List CD
  glo : List V
def Prog.fill (p : Prog) (f : Nat) (vs : List V) : List V :=
  match p.fns[f]? with
  | some fd => vs ++ fd.df.drop (vs.length + fd.df.length - fd.np)
  | none => vs
def Prog.ei (p : Prog) (C : Nat) : Option EInit := (p.cls[C]?).bind (·.ei)
def Prog.sub (p : Prog) (D C : Nat) : Bool := match p.cls[D]? with
  | some cd => cd.sup.contains C
  | none => false
def Prog.isx (p : Prog) (C : Nat) : Bool := match p.cls[C]? with
  | some cd => cd.exc
  | none => false
def cxt (p : Prog) : Nat → Cxt
  | 0 => ⟨fun _ _ _ => .bad, fun _ => none, fun _ _ => none, p.fill, p.sub, p.isx, fun k => p.glo[k]?, none⟩
  | d + 1 => ⟨fun f vs h => match p.fns[f]? with
    | some fd => runF (cxt p d) p.ei fd vs h
    | none => .bad, fun C => (p.cls[C]?).bind (·.init), fun C m => (p.cls[C]?).bind fun cd => cd.meths.lookup m, p.fill, p.sub, p.isx, fun k => p.glo[k]?, none⟩
end QM

/-! QM2: the machine against the hand layer: how cells and values lie in the model's heap -/
namespace QM
open PySem L2 PyProof.Rows

def RV (am : List Addr) : V → V → Prop
  | .ref i, w => ∃ a, am[i]? = some a ∧ w = .ref a
  | v, w => w = v
abbrev RVs (am : List Addr) : List V → List V → Prop := Paired (RV am)
abbrev RK (am : List Addr) : List (Key × V) → List (Key × V) → Prop := Paired fun p q => p.1 = q.1 ∧ RV am p.2 q.2

/-- prefix -/
def Pf (a b : List Addr) : Prop := ∃ c, b = a ++ c
theorem Pf.refl (a : List Addr) : Pf a a := ⟨[], by simp⟩
theorem Pf.trans {a b c : List Addr} (h : Pf a b) (k : Pf b c) : Pf a c := by
  obtain ⟨x, rfl⟩ := h
  obtain ⟨y, rfl⟩ := k
  exact ⟨x ++ y, by simp⟩
theorem Pf.snoc (a : List Addr) (p : Addr) : Pf a (a ++ [p]) := ⟨[p], rfl⟩
theorem Pf.get {a b : List Addr} (h : Pf a b) {i : Nat} {p : Addr} (e : a[i]? = some p) : b[i]? = some p := by
  obtain ⟨c, rfl⟩ := h
  obtain ⟨hi, e'⟩ := List.getElem?_eq_some_iff.mp e
  rw [List.getElem?_append_left hi]
  exact e

theorem RV.mono {am am' : List Addr} (p : Pf am am') : ∀ {v w : V}, RV am v w → RV am' v w
  | .ref i, _, ⟨a, e, q⟩ => ⟨a, p.get e, q⟩
  | .non, _, h => h
  | .bl _, _, h => h
  | .int _, _, h => h
  | .str _, _, h => h
  | .byt _, _, h => h
  | .flt _, _, h => h
  | .ty _, _, h => h
theorem Paired.imp {α β : Type} {F G : α → β → Prop} (h : ∀ a b, F a b → G a b) : ∀ {xs : List α} {ys : List β}, Paired F xs ys → Paired G xs ys
  | _, _, .nil => .nil
  | _, _, .cons r t => .cons (h _ _ r) (Paired.imp h t)
theorem RVs.mono {am am' : List Addr} (p : Pf am am') {xs ys : List V} (h : RVs am xs ys) : RVs am' xs ys := Paired.imp (fun _ _ r => RV.mono p r) h
theorem RK.mono {am am' : List Addr} (p : Pf am am') {xs ys : List (Key × V)} (h : RK am xs ys) : RK am' xs ys := Paired.imp (fun _ _ r => ⟨r.1, RV.mono p r.2⟩) h
/-- slots -/
def RS (am : List Addr) : Option V → Option V → Prop
  | some v, some w => RV am v w
  | none, none => True
  | _, _ => False
abbrev RSl (am : List Addr) : Sl → L2.St → Prop := Paired (RS am)
theorem RS.mono {am am' : List Addr} (p : Pf am am') : ∀ {v w : Option V}, RS am v w → RS am' v w
  | some _, some _, h => RV.mono p h
  | none, none, h => h
  | some _, none, h => h
  | none, some _, h => h
theorem RSl.mono {am am' : List Addr} (p : Pf am am') {xs : Sl} {ys : L2.St} (h : RSl am xs ys) : RSl am' xs ys := Paired.imp (fun _ _ r => RS.mono p r) h
theorem Paired.get {α β : Type} {F : α → β → Prop} : ∀ {xs : List α} {ys : List β} {i : Nat} {x : α}, Paired F xs ys → xs[i]? = some x → ∃ y, ys[i]? = some y ∧ F x y
  | _, _, _, _, .nil, e => by simp at e
  | _, _, 0, _, .cons r _, e => by
    simp at e
    subst e
    exact ⟨_, rfl, r⟩
  | _, _, i + 1, _, .cons _ t, e => by
    obtain ⟨y, h1, h2⟩ := Paired.get (i := i) t (by simpa using e)
    exact ⟨y, by simpa using h1, h2⟩
theorem Paired.set {α β : Type} {F : α → β → Prop} {x : α} {y : β} (r : F x y) : ∀ {xs : List α} {ys : List β} (i : Nat), Paired F xs ys → Paired F (xs.set i x) (ys.set i y)
  | _, _, _, .nil => .nil
  | _, _, 0, .cons _ t => .cons r t
  | _, _, i + 1, .cons q t => .cons q (Paired.set r i t)
theorem Paired.app {α β : Type} {F : α → β → Prop} : ∀ {xs xs' : List α} {ys ys' : List β}, Paired F xs ys → Paired F xs' ys' → Paired F (xs ++ xs') (ys ++ ys')
  | _, _, _, _, .nil, h => h
  | _, _, _, _, .cons r t, h => .cons r (Paired.app t h)
theorem Paired.len {α β : Type} {F : α → β → Prop} : ∀ {xs : List α} {ys : List β}, Paired F xs ys → xs.length = ys.length
  | _, _, .nil => rfl
  | _, _, .cons _ t => by simp [Paired.len t]

/-! ### cells -/
/-- the names of classes and of attributes: where a class stands, what an attribute is called -/
structure Nm where
  K : PySem.W.Frag
  ca : Nat → Addr
  fn : Nat → Str
  okc : Nat → Prop
  glo : List (V × V)
  fa : Nat → Addr
  frz : List (Addr × Obj × HO)
def RC (W : Nm) (am : List Addr) (H : Hp) (a : Addr) : Cell → Prop
  | .lst xs => ∃ ys, RVs am xs ys ∧ H a = some (.lst ys)
  | .tup xs => ∃ ys, RVs am xs ys ∧ SqT W.K H a ys
  | .dct kvs => ∃ ls, RK am kvs ls ∧ H a = some (.dK ls)
  | .ins C fs => ∃ dx ys, H a = some (.ins (W.ca C) dx ys) ∧ W.okc C ∧ Paired (fun p q => W.fn p.1 = q.1 ∧ RV am p.2 q.2) fs ys
  | .xd fs => ∃ ys, H a = some (.xd ys) ∧ Paired (fun p q => W.fn p.1 = q.1 ∧ RV am p.2 q.2) fs ys
  | .frz (.lst xs) => ∃ ys, RVs am xs ys ∧ SqL W.K H a ys
  | .frz (.dct kvs) => ∃ ls o, RK am kvs ls ∧ H a = some (.frz o (.dK ls))
  | .frz _ => False
  | .opq => True
theorem RC.mono {W : Nm} {am am' : List Addr} (p : Pf am am') {H H' : Hp} {a : Addr} (e : H' a = H a) : ∀ {c : Cell}, RC W am H a c → RC W am' H' a c
  | .lst xs, ⟨ys, r, q⟩ => ⟨ys, r.mono p, e.trans q⟩
  | .tup xs, ⟨ys, r, q⟩ => ⟨ys, r.mono p, by
      rcases q with (q | ⟨o, q⟩) | q
      · exact .inl (.inl (e.trans q))
      · exact .inl (.inr ⟨o, e.trans q⟩)
      · exact .inr q⟩
  | .dct kvs, ⟨ys, r, q⟩ => ⟨ys, RK.mono p r, e.trans q⟩
  | .ins C fs, ⟨dx, ys, q, k, r⟩ => ⟨dx, ys, e.trans q, k, Paired.imp (fun _ _ r => ⟨r.1, RV.mono p r.2⟩) r⟩
  | .xd fs, ⟨ys, q, r⟩ => ⟨ys, e.trans q, Paired.imp (fun _ _ r => ⟨r.1, RV.mono p r.2⟩) r⟩
  | .frz (.lst xs), ⟨ys, r, q⟩ => ⟨ys, r.mono p, by
      rcases q with (q | ⟨o, q⟩) | q
      · exact .inl (.inl (e.trans q))
      · exact .inl (.inr ⟨o, e.trans q⟩)
      · exact .inr q⟩
  | .frz (.dct kvs), ⟨ys, o, r, q⟩ => ⟨ys, o, RK.mono p r, e.trans q⟩
  | .frz (.tup _), h => h.elim
  | .frz (.ins _ _), h => h.elim
  | .frz (.xd _), h => h.elim
  | .frz (.frz _), h => h.elim
  | .frz .opq, h => h.elim
  | .opq, h => h

/-- an object of the module itself -/
def RCK (W : Nm) (am : List Addr) (a : Addr) : Cell → Prop
  | .tup xs => ∃ ys, RVs am xs ys ∧ ∀ H, SqT W.K H a ys
  | .frz (.lst xs) => ∃ ys, RVs am xs ys ∧ ∀ H, SqL W.K H a ys
  | .opq => True
  | _ => False
theorem RCK.rc {W : Nm} {am : List Addr} {H : Hp} {a : Addr} : ∀ {c : Cell}, RCK W am a c → RC W am H a c
  | .tup _, ⟨ys, r, q⟩ => ⟨ys, r, q H⟩
  | .frz (.lst _), ⟨ys, r, q⟩ => ⟨ys, r, q H⟩
  | .lst _, h => h.elim
  | .dct _, h => h.elim
  | .ins _ _, h => h.elim
  | .xd _, h => h.elim
  | .frz (.dct _), h => h.elim
  | .frz (.tup _), h => h.elim
  | .frz (.ins _ _), h => h.elim
  | .frz (.xd _), h => h.elim
  | .frz (.frz _), h => h.elim
  | .frz .opq, h => h.elim
  | .opq, h => h
theorem RCK.mono {W : Nm} {am am' : List Addr} {a : Addr} (p : Pf am am') : ∀ {c : Cell}, RCK W am a c → RCK W am' a c
  | .tup _, ⟨ys, r, q⟩ => ⟨ys, r.mono p, q⟩
  | .frz (.lst _), ⟨ys, r, q⟩ => ⟨ys, r.mono p, q⟩
  | .lst _, h => h.elim
  | .dct _, h => h.elim
  | .ins _ _, h => h.elim
  | .xd _, h => h.elim
  | .frz (.dct _), h => h.elim
  | .frz (.tup _), h => h.elim
  | .frz (.ins _ _), h => h.elim
  | .frz (.xd _), h => h.elim
  | .frz (.frz _), h => h.elim
  | .frz .opq, h => h.elim
  | .opq, h => h
theorem RC.kl {W : Nm} {am : List Addr} {H : Hp} {a : Addr} (hn : H a = none) : ∀ {c : Cell}, RC W am H a c → RCK W am a c
  | .lst _, ⟨_, _, q⟩ => by rw [hn] at q; cases q
  | .tup _, ⟨ys, r, q⟩ => ⟨ys, r, fun H' => by
      rcases q with (q | ⟨o, q⟩) | q
      · rw [hn] at q; cases q
      · rw [hn] at q; cases q
      · exact .inr q⟩
  | .dct _, ⟨_, _, q⟩ => by rw [hn] at q; cases q
  | .ins _ _, ⟨_, _, q, _⟩ => by rw [hn] at q; cases q
  | .xd _, ⟨_, q, _⟩ => by rw [hn] at q; cases q
  | .frz (.lst _), ⟨ys, r, q⟩ => ⟨ys, r, fun H' => by
      rcases q with (q | ⟨o, q⟩) | q
      · rw [hn] at q; cases q
      · rw [hn] at q; cases q
      · exact .inr q⟩
  | .frz (.dct _), ⟨_, _, _, q⟩ => by rw [hn] at q; cases q
  | .frz (.tup _), h => h.elim
  | .frz (.ins _ _), h => h.elim
  | .frz (.xd _), h => h.elim
  | .frz (.frz _), h => h.elim
  | .frz .opq, h => h.elim
  | .opq, h => h

structure Sim (W : Nm) (am : List Addr) (h : Hh) (H : Hp) : Prop where
  len : am.length = h.length
  cell : ∀ (i : Nat) (c : Cell) (a : Addr), h[i]? = some c → am[i]? = some a → RC W am H a c
  inj : ∀ (i j : Nat) (a : Addr) (c d : Cell), am[i]? = some a → am[j]? = some a → h[i]? = some c → h[j]? = some d → i ≠ j → RCK W am a c ∨ RCK W am a d
  gl : ∀ p ∈ W.glo, RV am p.1 p.2
  fz : ∀ p ∈ W.frz, H p.1 = some (.frz p.2.1 p.2.2)

section
variable {W : Nm} {am : List Addr} {h : Hh} {H : Hp}
theorem get_snoc {α : Type} {l : List α} {x y : α} {i : Nat} (e : (l ++ [x])[i]? = some y) : (i < l.length ∧ l[i]? = some y) ∨ (i = l.length ∧ x = y) := by
  by_cases hi : i < l.length
  · rw [List.getElem?_append_left hi] at e
    exact .inl ⟨hi, e⟩
  · rw [List.getElem?_append_right (Nat.le_of_not_lt hi)] at e
    cases hz : i - l.length with
    | zero =>
      rw [hz] at e
      simp at e
      exact .inr ⟨by omega, e⟩
    | succ n =>
      rw [hz] at e
      simp at e
/-- a new object -/
theorem Sim.push (S : Sim W am h H) {p : Addr} {o : HO} {c : Cell} (hp : H p = none) (rc : RC W (am ++ [p]) (upd H p o) p c) : Sim W (am ++ [p]) (h ++ [c]) (upd H p o) := by
  have kl : ∀ (i : Nat) (c' : Cell), h[i]? = some c' → am[i]? = some p → RCK W (am ++ [p]) p c' := fun i c' hc ha => ((S.cell i c' p hc ha).kl hp).mono (Pf.snoc _ _)
  refine ⟨by simp [S.len], fun i c' a hc ha => ?_, fun i j a c1 c2 hi hj h1 h2 ne => ?_, fun p hp => RV.mono (Pf.snoc _ _) (S.gl p hp), fun q hq => by
    have e := S.fz q hq
    rw [upd_ne (fun z => by rw [z, hp] at e; cases e)]
    exact e⟩
  · rcases get_snoc hc with ⟨l1, hc2⟩ | ⟨l1, e1⟩
    · rcases get_snoc ha with ⟨l2, ha2⟩ | ⟨l2, e2⟩
      · by_cases q : a = p
        · subst q
          exact (kl i c' hc2 ha2).rc
        · exact (S.cell i c' a hc2 ha2).mono (Pf.snoc _ _) (upd_ne q)
      · have := S.len
        omega
    · rcases get_snoc ha with ⟨l2, ha⟩ | ⟨l2, e2⟩
      · have := S.len
        omega
      · subst e1 e2
        exact rc
  · have L := S.len
    rcases get_snoc hi with ⟨l1, hi⟩ | ⟨l1, e1⟩
    · rcases get_snoc h1 with ⟨l3, h1⟩ | ⟨l3, e3⟩
      · rcases get_snoc hj with ⟨l2, hj⟩ | ⟨l2, e2⟩
        · rcases get_snoc h2 with ⟨l4, h2⟩ | ⟨l4, e4⟩
          · rcases S.inj i j a c1 c2 hi hj h1 h2 ne with z | z
            · exact .inl (z.mono (Pf.snoc _ _))
            · exact .inr (z.mono (Pf.snoc _ _))
          · omega
        · subst e2
          exact .inl (kl i c1 h1 hi)
      · omega
    · subst e1
      rcases get_snoc hj with ⟨l2, hj⟩ | ⟨l2, e2⟩
      · rcases get_snoc h2 with ⟨l4, h2⟩ | ⟨l4, e4⟩
        · exact .inr (kl j c2 h2 hj)
        · omega
      · omega
/-- an object changed -/
theorem Sim.set (S : Sim W am h H) {i : Nat} {a : Addr} {c c' : Cell} {o : HO} (hi : h[i]? = some c) (ha : am[i]? = some a) (nk : ¬ RCK W am a c) (rc : RC W am (upd H a o) a c') (nk' : ¬ RCK W am a c') (nz : ∀ o u, H a ≠ some (.frz o u)) : Sim W am (h.set i c') (upd H a o) := by
  have il := (List.getElem?_eq_some_iff.mp hi).1
  have get : ∀ (j : Nat) (d : Cell), (h.set i c')[j]? = some d → (j = i ∧ d = c') ∨ (j ≠ i ∧ h[j]? = some d) := fun j d e => by
    by_cases q : j = i
    · subst q
      rw [List.getElem?_set_self il] at e
      exact .inl ⟨rfl, (Option.some.inj e).symm⟩
    · rw [List.getElem?_set_ne (Ne.symm q)] at e
      exact .inr ⟨q, e⟩
  have other : ∀ (j : Nat) (d : Cell), j ≠ i → h[j]? = some d → am[j]? = some a → RCK W am a d := fun j d ne hd hj => by
    rcases S.inj i j a c d ha hj hi hd (Ne.symm ne) with z | z
    · exact absurd z nk
    · exact z
  refine ⟨by rw [List.length_set]; exact S.len, fun j d b hd hb => ?_, fun j k b d e hj hk h1 h2 ne => ?_, S.gl, fun q hq => by
    have e := S.fz q hq
    rw [upd_ne (fun z => by rw [z] at e; exact nz _ _ e)]
    exact e⟩
  · rcases get j d hd with ⟨rfl, rfl⟩ | ⟨ne, hd⟩
    · rw [ha] at hb
      cases hb
      exact rc
    · by_cases q : b = a
      · subst q
        exact (other j d ne hd hb).rc
      · exact (S.cell j d b hd hb).mono (Pf.refl _) (upd_ne q)
  · rcases get j d h1 with ⟨e1, e2⟩ | ⟨nj, h1'⟩
    · rw [e1, ha] at hj
      cases hj
      rcases get k e h2 with ⟨e3, e4⟩ | ⟨nk2, h2'⟩
      · exact absurd (e1.trans e3.symm) ne
      · exact .inr (other k e nk2 h2' hk)
    · rcases get k e h2 with ⟨e1, e2⟩ | ⟨nk2, h2'⟩
      · rw [e1, ha] at hk
        cases hk
        exact .inl (other j d nj h1' hj)
      · exact S.inj j k b d e hj hk h1' h2' ne
/-- a thing of no weight -/
theorem Sim.opq (S : Sim W am h H) {p : Addr} (hp : H p = none) : Sim W (am ++ [p]) (h ++ [.opq]) H := by
  have kl : ∀ (i : Nat) (c' : Cell), h[i]? = some c' → am[i]? = some p → RCK W (am ++ [p]) p c' := fun i c' hc ha => ((S.cell i c' p hc ha).kl hp).mono (Pf.snoc _ _)
  refine ⟨by simp [S.len], fun i c' a hc ha => ?_, fun i j a c1 c2 hi hj h1 h2 ne => ?_, fun p hp => RV.mono (Pf.snoc _ _) (S.gl p hp), S.fz⟩
  · rcases get_snoc hc with ⟨l1, hc2⟩ | ⟨l1, e1⟩
    · rcases get_snoc ha with ⟨l2, ha2⟩ | ⟨l2, e2⟩
      · exact (S.cell i c' a hc2 ha2).mono (Pf.snoc _ _) rfl
      · have := S.len
        omega
    · subst e1
      exact trivial
  · have L := S.len
    rcases get_snoc h1 with ⟨l3, h1'⟩ | ⟨l3, e3⟩
    · rcases get_snoc h2 with ⟨l4, h2'⟩ | ⟨l4, e4⟩
      · rcases get_snoc hi with ⟨l1, hi'⟩ | ⟨l1, e1⟩
        · rcases get_snoc hj with ⟨l2, hj'⟩ | ⟨l2, e2⟩
          · rcases S.inj i j a c1 c2 hi' hj' h1' h2' ne with z | z
            · exact .inl (z.mono (Pf.snoc _ _))
            · exact .inr (z.mono (Pf.snoc _ _))
          · omega
        · omega
      · subst e4
        exact .inr trivial
    · subst e3
      exact .inl trivial
/-- other known things -/
abbrev Nm.ext (W : Nm) (g : List (V × V)) (z : List (Addr × Obj × HO)) : Nm := { W with glo := g, frz := z }
theorem RC.ext {g : List (V × V)} {z : List (Addr × Obj × HO)} {a : Addr} {c : Cell} : RC (W.ext g z) am H a c ↔ RC W am H a c := by
  cases c with
  | frz c => cases c <;> exact Iff.rfl
  | _ => exact Iff.rfl
theorem RCK.ext {g : List (V × V)} {z : List (Addr × Obj × HO)} {a : Addr} {c : Cell} : RCK (W.ext g z) am a c ↔ RCK W am a c := by
  cases c with
  | frz c => cases c <;> exact Iff.rfl
  | _ => exact Iff.rfl
theorem Sim.ext (S : Sim W am h H) {g : List (V × V)} {z : List (Addr × Obj × HO)} (hg : ∀ p ∈ g, RV am p.1 p.2) (hz : ∀ p ∈ z, H p.1 = some (.frz p.2.1 p.2.2)) : Sim (W.ext g z) am h H :=
  ⟨S.len, fun i c a hc ha => RC.ext.mpr (S.cell i c a hc ha), fun i j a c d h1 h2 h3 h4 ne => (S.inj i j a c d h1 h2 h3 h4 ne).elim (fun z => .inl (RCK.ext.mpr z)) fun z => .inr (RCK.ext.mpr z), hg, hz⟩
theorem Sim.unext {g : List (V × V)} {z : List (Addr × Obj × HO)} (S : Sim (W.ext g z) am h H) (hg : ∀ p ∈ W.glo, p ∈ g) (hz : ∀ p ∈ W.frz, p ∈ z) : Sim W am h H :=
  ⟨S.len, fun i c a hc ha => RC.ext.mp (S.cell i c a hc ha), fun i j a c d h1 h2 h3 h4 ne => (S.inj i j a c d h1 h2 h3 h4 ne).elim (fun z => .inl (RCK.ext.mp z)) fun z => .inr (RCK.ext.mp z), fun p hp => S.gl p (hg p hp), fun p hp => S.fz p (hz p hp)⟩
/-- a dict is locked, and set free -/
theorem Sim.lock (S : Sim W am h H) {i : Nat} {a : Addr} {kvs ls : List (Key × V)} {od : Obj} (hi : h[i]? = some (.dct kvs)) (ha : am[i]? = some a) (rk : RK am kvs ls) (hH : H a = some (.dK ls)) :
    Sim (W.ext W.glo ((a, od, .dK ls) :: W.frz)) am (h.set i (.frz (.dct kvs))) (upd H a (.frz od (.dK ls))) := by
  have S1 : Sim W am (h.set i (.frz (.dct kvs))) (upd H a (.frz od (.dK ls))) := S.set hi ha id ⟨ls, od, rk, upd_same⟩ id (fun o u z => by rw [hH] at z; cases z)
  refine S1.ext S1.gl fun p hp => ?_
  rcases List.mem_cons.mp hp with rfl | hp
  · exact upd_same
  · exact S1.fz p hp
theorem Sim.free {a : Addr} {ls : List (Key × V)} {od : Obj} (S : Sim (W.ext W.glo ((a, od, .dK ls) :: W.frz)) am h H) {i : Nat} {kvs : List (Key × V)} (hi : h[i]? = some (.frz (.dct kvs))) (ha : am[i]? = some a) (nW : ∀ p ∈ W.frz, p.1 ≠ a) :
    Sim W am (h.set i (.dct kvs)) (upd H a (.dK ls)) := by
  have hH : H a = some (.frz od (.dK ls)) := S.fz _ List.mem_cons_self
  obtain ⟨ls', o', rk, e⟩ := S.cell i _ a hi ha
  have el : ls' = ls := by rw [hH] at e; cases e; rfl
  subst el
  have S0 : Sim (W.ext W.glo []) am h H := S.ext (W := W.ext W.glo ((a, od, .dK ls') :: W.frz)) S.gl fun p hp => by cases hp
  have il := (List.getElem?_eq_some_iff.mp hi).1
  have S1 : Sim W am (h.set i (.dct kvs)) (upd H a (.dK ls')) := by
    have get : ∀ (j : Nat) (d : Cell), (h.set i (.dct kvs))[j]? = some d → (j = i ∧ d = .dct kvs) ∨ (j ≠ i ∧ h[j]? = some d) := fun j d e => by
      by_cases q : j = i
      · subst q
        rw [List.getElem?_set_self il] at e
        exact .inl ⟨rfl, (Option.some.inj e).symm⟩
      · rw [List.getElem?_set_ne (Ne.symm q)] at e
        exact .inr ⟨q, e⟩
    have other : ∀ (j : Nat) (d : Cell), j ≠ i → h[j]? = some d → am[j]? = some a → RCK W am a d := fun j d ne hd hj => by
      rcases S.inj i j a _ d ha hj hi hd (Ne.symm ne) with z | z
      · exact False.elim z
      · exact RCK.ext.mp z
    refine ⟨by rw [List.length_set]; exact S.len, fun j d b hd hb => ?_, fun j k b d e hj hk h1 h2 ne => ?_, S.gl, fun p hp => ?_⟩
    · rcases get j d hd with ⟨rfl, rfl⟩ | ⟨ne, hd⟩
      · rw [ha] at hb
        cases hb
        exact ⟨ls', rk, upd_same⟩
      · by_cases q : b = a
        · subst q
          exact (other j d ne hd hb).rc
        · exact (RC.ext.mp (S.cell j d b hd hb)).mono (Pf.refl _) (upd_ne q)
    · rcases get j d h1 with ⟨e1, e2⟩ | ⟨nj, h1'⟩
      · rw [e1, ha] at hj
        cases hj
        rcases get k e h2 with ⟨e3, e4⟩ | ⟨nk2, h2'⟩
        · exact absurd (e1.trans e3.symm) ne
        · exact .inr (other k e nk2 h2' hk)
      · rcases get k e h2 with ⟨e1, e2⟩ | ⟨nk2, h2'⟩
        · rw [e1, ha] at hk
          cases hk
          exact .inl (other j d nj h1' hj)
        · rcases S.inj j k b d e hj hk h1' h2' ne with z | z
          · exact .inl (RCK.ext.mp z)
          · exact .inr (RCK.ext.mp z)
    · rw [upd_ne (nW p hp)]
      exact S.fz p (List.mem_cons_of_mem _ hp)
  exact S1
theorem Sim.addr (S : Sim W am h H) {i : Nat} {c : Cell} (hi : h[i]? = some c) : ∃ a, am[i]? = some a := by
  have il := (List.getElem?_eq_some_iff.mp hi).1
  rw [← S.len] at il
  exact ⟨_, List.getElem?_eq_getElem il⟩

/-! ### reading -/
theorem Sim.lst (S : Sim W am h H) {v w : V} {xs : List V} (r : RV am v w) (e : lstAt h v = some xs) : ∃ p ys, w = .ref p ∧ SqL W.K H p ys ∧ RVs am xs ys := by
  cases v with
  | ref i =>
    obtain ⟨a, ha, rfl⟩ := r
    unfold lstAt at e
    dsimp only at e
    split at e
    · rename_i zs hc
      cases e
      obtain ⟨ys, q, z⟩ := S.cell i _ a hc ha
      exact ⟨a, ys, rfl, .of z, q⟩
    · rename_i zs hc
      cases e
      obtain ⟨ys, q, z⟩ := S.cell i _ a hc ha
      exact ⟨a, ys, rfl, z, q⟩
    · cases e
  | _ => cases e
theorem Sim.tup (S : Sim W am h H) {v w : V} {xs : List V} (r : RV am v w) (e : tupAt h v = some xs) : ∃ p ys, w = .ref p ∧ SqT W.K H p ys ∧ RVs am xs ys := by
  cases v with
  | ref i =>
    obtain ⟨a, ha, rfl⟩ := r
    unfold tupAt at e
    dsimp only at e
    split at e
    · rename_i zs hc
      cases e
      obtain ⟨ys, q, z⟩ := S.cell i _ a hc ha
      exact ⟨a, ys, rfl, z, q⟩
    · cases e
  | _ => cases e
theorem Sim.dct (S : Sim W am h H) {v w : V} {kvs : List (Key × V)} (r : RV am v w) (e : dctAt h v = some kvs) : ∃ p ls, w = .ref p ∧ Rd H p (.dK ls) ∧ RK am kvs ls := by
  cases v with
  | ref i =>
    obtain ⟨a, ha, rfl⟩ := r
    unfold dctAt at e
    dsimp only at e
    split at e
    · rename_i zs hc
      cases e
      obtain ⟨ys, q, z⟩ := S.cell i _ a hc ha
      exact ⟨a, ys, rfl, .inl z, q⟩
    · rename_i zs hc
      cases e
      obtain ⟨ys, o, q, z⟩ := S.cell i _ a hc ha
      exact ⟨a, ys, rfl, .inr ⟨o, z⟩, q⟩
    · cases e
  | _ => cases e
/-- keys -/
theorem RK.val {am : List Addr} {kvs ls : List (Key × V)} (r : RK am kvs ls) (k : Key) : RS am (valV kvs k) (valV ls k) := by
  induction r with
  | nil => exact trivial
  | @cons p q ps qs a t ih =>
    by_cases e : p.1 = k
    · rw [valV_pos e, valV_pos (a.1.symm.trans e)]
      exact a.2
    · rw [valV_neg e, valV_neg fun z => e (a.1.trans z)]
      exact ih
theorem RK.len {am : List Addr} {kvs ls : List (Key × V)} (r : RK am kvs ls) : kvs.length = ls.length := Paired.len r
theorem RK.keys {am : List Addr} {kvs ls : List (Key × V)} (r : RK am kvs ls) : kvs.map (·.1) = ls.map (·.1) := by
  induction r with
  | nil => rfl
  | cons a t ih => rw [List.map_cons, List.map_cons, ih, a.1]
theorem RK.any {am : List Addr} {kvs ls : List (Key × V)} (r : RK am kvs ls) (k : Key) : (kvs.any fun kv => decide (kv.1 = k)) = ls.any fun kv => decide (kv.1 = k) := by
  induction r with
  | nil => rfl
  | cons a t ih => rw [List.any_cons, List.any_cons, ih, a.1]
theorem RK.repl {am : List Addr} {kvs ls : List (Key × V)} (r : RK am kvs ls) (k : Key) {v w : V} (rv : RV am v w) : RK am (kvs.map fun kv => if kv.1 = k then (kv.1, v) else kv) (ls.map fun kv => if kv.1 = k then (kv.1, w) else kv) := by
  induction r with
  | nil => exact .nil
  | @cons p q ps qs a t ih =>
    rw [List.map_cons, List.map_cons]
    refine .cons ?_ ih
    by_cases e : p.1 = k
    · rw [if_pos e, if_pos (a.1.symm.trans e)]
      exact ⟨a.1, rv⟩
    · rw [if_neg e, if_neg fun z => e (a.1.trans z)]
      exact a
theorem RK.put {am : List Addr} {kvs ls : List (Key × V)} (r : RK am kvs ls) (k : Key) {v w : V} (rv : RV am v w) : RK am (putK kvs k v) (putK ls k w) := by
  unfold putK
  rw [RK.any r k]
  split
  · exact RK.repl r k rv
  · exact Paired.app r (.cons ⟨rfl, rv⟩ .nil)
theorem RK.drop {am : List Addr} {kvs ls : List (Key × V)} (r : RK am kvs ls) (k : Key) : RK am (dropK kvs k) (dropK ls k) := by
  unfold dropK
  induction r with
  | nil => exact .nil
  | @cons p q ps qs a t ih =>
    by_cases e : p.1 = k
    · rw [List.filter_cons, if_neg (by simp [e]), List.filter_cons, if_neg (by simp [← a.1, e])]
      exact ih
    · rw [List.filter_cons, if_pos (by simp [e]), List.filter_cons, if_pos (by simp [← a.1, e])]
      exact .cons a ih
theorem RK.merge {am : List Addr} : ∀ {more mores : List (Key × V)} {kvs ls : List (Key × V)}, RK am more mores → RK am kvs ls → RK am (mergeK kvs more) (mergeK ls mores)
  | _, _, _, _, .nil, r => r
  | p :: ps, q :: qs, kvs, ls, .cons a t, r => by
    have e := RK.put r p.1 a.2
    show RK am (mergeK (putK kvs p.1 p.2) ps) (mergeK (putK ls q.1 q.2) qs)
    refine RK.merge t ?_
    rw [← a.1]
    exact e
theorem Sim.seq (S : Sim W am h H) {v w : V} {xs : List V} (r : RV am v w) (e : seqAt h v = some xs) : ∃ p ys, w = .ref p ∧ (SqL W.K H p ys ∨ SqT W.K H p ys) ∧ RVs am xs ys := by
  unfold seqAt at e
  split at e
  · rename_i zs hz
    cases e
    obtain ⟨p, ys, a, b, c⟩ := S.lst r hz
    exact ⟨p, ys, a, .inl b, c⟩
  · obtain ⟨p, ys, a, b, c⟩ := S.tup r e
    exact ⟨p, ys, a, .inr b, c⟩
theorem flat_of {am : List Addr} : ∀ {v w : V}, RV am v w → flatV v = true → w = v
  | .non, _, h, _ => h
  | .bl _, _, h, _ => h
  | .int _, _, h, _ => h
  | .str _, _, h, _ => h
  | .byt _, _, _, f => Bool.noConfusion f
  | .flt _, _, _, f => Bool.noConfusion f
  | .ty _, _, _, f => Bool.noConfusion f
  | .ref _, _, _, f => Bool.noConfusion f
theorem flats_of {am : List Addr} : ∀ {xs ys : List V}, RVs am xs ys → xs.all flatV = true → ys = xs
  | _, _, .nil, _ => rfl
  | _, _, .cons r t, f => by
    rw [List.all_cons, Bool.and_eq_true] at f
    rw [flat_of r f.1, flats_of t f.2]
theorem atI_rel {am : List Addr} {xs ys : List V} {i : Int} {v : V} (r : RVs am xs ys) (e : atI xs i = some v) : ∃ w, atI ys i = some w ∧ RV am v w := by
  unfold atI at e ⊢
  rw [← Paired.len r]
  cases q : ixN xs.length i with
  | none => rw [q] at e; cases e
  | some j =>
    rw [q] at e
    obtain ⟨w, h1, h2⟩ := Paired.get r (show xs[j]? = some v from e)
    exact ⟨w, h1, h2⟩
mutual
theorem dat_dp (S : Sim W am h H) : ∀ (n : Nat) {v w : V} {d : PyData}, RV am v w → dat h n v = some d → Dp W.K H w d
  | 0, .non, _, _, r, e => by cases r; cases e; exact .non
  | 0, .bl _, _, _, r, e => by cases r; cases e; exact .bl _
  | 0, .int _, _, _, r, e => by cases r; cases e; exact .int _
  | 0, .str _, _, _, r, e => by cases r; cases e; exact .str _
  | 0, .byt _, _, _, _, e => by cases e
  | 0, .flt _, _, _, _, e => by cases e
  | 0, .ty _, _, _, _, e => by cases e
  | 0, .ref _, _, _, _, e => by cases e
  | n + 1, .non, _, _, r, e => by cases r; cases e; exact .non
  | n + 1, .bl _, _, _, r, e => by cases r; cases e; exact .bl _
  | n + 1, .int _, _, _, r, e => by cases r; cases e; exact .int _
  | n + 1, .str _, _, _, r, e => by cases r; cases e; exact .str _
  | n + 1, .byt _, _, _, _, e => by simp [dat, lstAt, tupAt] at e
  | n + 1, .flt _, _, _, _, e => by simp [dat, lstAt, tupAt] at e
  | n + 1, .ty _, _, _, _, e => by simp [dat, lstAt, tupAt] at e
  | n + 1, .ref i, w, d, r, e => by
    rw [dat] at e
    split at e
    · rename_i xs hx
      obtain ⟨p, ys, rfl, q, rs⟩ := S.lst r hx
      cases hd : dats (dat h n) xs with
      | none => rw [hd] at e; cases e
      | some ds =>
        rw [hd] at e
        cases e
        exact .lst q (dats_dp S n rs hd)
    · split at e
      · rename_i xs hx
        obtain ⟨p, ys, rfl, q, rs⟩ := S.tup r hx
        cases hd : dats (dat h n) xs with
        | none => rw [hd] at e; cases e
        | some ds =>
          rw [hd] at e
          cases e
          exact .tup q (dats_dp S n rs hd)
      · cases e
    · intro z; cases z
    · intro z q; cases q
    · intro z q; cases q
    · intro z q; cases q
theorem dats_dp (S : Sim W am h H) : ∀ (n : Nat) {xs ys : List V} {ds : List PyData}, RVs am xs ys → dats (dat h n) xs = some ds → DpAll W.K H ys ds
  | n, [], _, _, .nil, e => by cases e; exact .nil
  | n, x :: xs, _, ds, .cons r t, e => by
    rw [dats] at e
    split at e
    · rename_i d ds' h1 h2
      cases e
      exact .cons (dat_dp S n r h1) (dats_dp S n t h2)
    · cases e
end
end
end QM

/-! QM3: operations -/
namespace QM
open PySem L2 PyProof.Rows

def RD (am : List Addr) : Option Nat → Option Addr → Prop
  | none, none => True
  | some i, some a => am[i]? = some a
  | _, _ => False
theorem RD.mono {am am' : List Addr} (p : Pf am am') : ∀ {d : Option Nat} {e : Option Addr}, RD am d e → RD am' d e
  | none, none, h => h
  | some _, some _, h => p.get h
  | none, some _, h => h.elim
  | some _, none, h => h.elim
section
variable {α β γ δ : Type}
def Post (W : Nm) (wx : WX) (R : List Addr → α → β → Prop) (am : List Addr) (σ : L2.St) (r : Res α) (Q : β → Hp → Prop) : Prop :=
  match r with
  | .ok v h => ∀ am' w H', Pf am am' → Sim W am' h H' → R am' v w → Q w H'
  | .exc c d h => ∀ am' dd H', Pf am am' → Sim W am' h H' → RD am' d dd → wx (.ref (W.ca c)) dd σ H'
  | .bad => False
def tR (W : Nm) (wx : WX) (R : List Addr → α → β → Prop) (sem : Sl → Hh → Res α) : L2.St → Hp → (β → Hp → Prop) → Prop :=
  fun σ H Q => ∃ am s h, RSl am s σ ∧ Sim W am h H ∧ Post W wx R am σ (sem s h) Q
abbrev tE (W : Nm) (wx : WX) (sem : Sl → Hh → Res V) : TE := tR W wx RV sem
abbrev RB : List Addr → Bool → Bool → Prop := fun _ a b => b = a
abbrev tT (W : Nm) (wx : WX) (sem : Sl → Hh → Res Bool) : TT := tR W wx RB sem
abbrev tA (W : Nm) (wx : WX) (sem : Sl → Hh → Res (List V)) : TA := tR W wx RVs sem
variable {W : Nm} {wx : WX} {R : List Addr → α → β → Prop} {R2 : List Addr → γ → δ → Prop} {am : List Addr} {σ : L2.St}
theorem Post.mono {am' : List Addr} (p : Pf am am') {r : Res α} {Q : β → Hp → Prop} (h : Post W wx R am σ r Q) : Post W wx R am' σ r Q := by
  cases r with
  | ok v h' => exact fun am2 w H' p2 S r => h am2 w H' (p.trans p2) S r
  | exc c d h' => exact fun am2 w H' p2 S r => h am2 w H' (p.trans p2) S r
  | bad => exact h
theorem Post.of_bind {r : Res α} {k : α → Hh → Res γ} {Q : δ → Hp → Prop} {Q1 : β → Hp → Prop} (h : Post W wx R2 am σ (r.bind k) Q)
    (f : ∀ am' v w h' H', Pf am am' → Sim W am' h' H' → R am' v w → Post W wx R2 am' σ (k v h') Q → Q1 w H') : Post W wx R am σ r Q1 := by
  cases r with
  | ok v h' => exact fun am' w H' p S rv => f am' v w h' H' p S rv (Post.mono p h)
  | exc c d h' => exact h
  | bad => exact h
theorem Post.at {v : α} {w : β} {h' : Hh} {H' : Hp} {Q : β → Hp → Prop} (P : Post W wx R am σ (.ok v h') Q) (S : Sim W am h' H') (r : R am v w) : Q w H' := P am w H' (Pf.refl _) S r
end

/-- an operation's good end -/
abbrev Ok1 (W : Nm) (am : List Addr) (r : Res V) (Q : VK) : Prop :=
  match r with
  | .ok v h2 => ∀ am' w H', Pf am am' → Sim W am' h2 H' → RV am' v w → Q w H'
  | _ => False
theorem Ok1.at {W : Nm} {am : List Addr} {v w : V} {h : Hh} {H : Hp} {Q : VK} (P : Ok1 W am (.ok v h) Q) (S : Sim W am h H) (r : RV am v w) : Q w H := P am w H (Pf.refl _) S r
/-- a machine's operation on two values, as a reading -/
def rS (W : Nm) (sem : V → V → Hh → Res V) : L2.R2 := fun x y H Q => ∃ am x' y' h, RV am x' x ∧ RV am y' y ∧ Sim W am h H ∧ Ok1 W am (sem x' y' h) Q
def NX (sem : V → V → Hh → Res V) : Prop := ∀ x y h c d h', sem x y h ≠ .exc c d h'
theorem rS_of {W : Nm} {wx : WX} {sem : V → V → Hh → Res V} (nx : NX sem) {am : List Addr} {x y x' y' : V} {h : Hh} {H : Hp} {σ : L2.St} {Q : VK} (rx : RV am x' x) (ry : RV am y' y) (S : Sim W am h H) (P : Post W wx RV am σ (sem x' y' h) Q) : rS W sem x y H Q := by
  refine ⟨am, x', y', h, rx, ry, S, ?_⟩
  cases e : sem x' y' h with
  | ok v h2 => rw [e] at P; exact P
  | exc c d h2 => exact absurd e (nx _ _ _ _ _ _)
  | bad => rw [e] at P; exact P

/-! ### // by any divisor but 0 below 2 ^ 9000 -/
def CDivA (_ j : Int) : Prop := j ≠ 0 ∧ j.natAbs.log2 < 9000
theorem op_fdivA {X : Cx} : OpR X (binaryOp .FloorDiv) (rI CDivA fun i j => .int (i.fdiv j)) := opI fun _ _ _ _ _ _ _ hc q => floordiv_int hc.1 q (.inl (PyProof.noPylong_of_log2 hc.2))
theorem log2_le (n : Nat) (k : Nat) (h : n < 2 ^ k) (hk : 0 < k) : n.log2 < k := PySem.Flt.log2_lt_of hk h
theorem mul_ok {i j : Int} (h1 : i.natAbs < big) (h2 : j.natAbs < big) : CMulW i j := by
  unfold big at h1 h2
  exact wide_mul h1 h2 (by decide) (by decide) (by decide)
theorem line_eq : LINE = sizeLine := by rw [sizeLine_eq]; rfl

theorem keyOf_kV : ∀ {v : V} {k : Key}, keyOf v = some k → v = kV k
  | .int _, _, h => by cases h; rfl
  | .str _, _, h => by cases h; rfl
  | .non, _, h => by cases h
  | .bl _, _, h => by cases h
  | .byt _, _, h => by cases h
  | .flt _, _, h => by cases h
  | .ref _, _, h => by cases h
  | .ty _, _, h => by cases h
theorem keyOf_rel {am : List Addr} {v w : V} {k : Key} (r : RV am v w) (h : keyOf v = some k) : w = kV k := by
  have e := keyOf_kV h
  subst e
  cases k <;> exact r
theorem RS.isSome {am : List Addr} {o u : Option V} (r : RS am o u) : u.isSome = o.isSome := by
  cases o <;> cases u <;> first | rfl | exact r.elim
theorem op_dinR {X : Cx} (hu : X.A.units + 64 < cLine) : OpR X (compareOp .In) (fun y x H Q => ∃ a o, x = .ref a ∧ DGet H a y o ∧ Q (.bl o.isSome) H) := by
  intro pins s σ H y x v u Q I ry rx ⟨a, o, ex, g, q⟩
  subst ex
  obtain rfl : u = Value.ref a := rx
  exact d_in (by omega) I g ry fun s3 I3 => ⟨.bl o.isSome, H, I3, rfl, q⟩
theorem op_dnotinR {X : Cx} (hu : X.A.units + 64 < cLine) : OpR X (compareOp .NotIn) (fun y x H Q => ∃ a o, x = .ref a ∧ DGet H a y o ∧ Q (.bl (!o.isSome)) H) := by
  intro pins s σ H y x v u Q I ry rx ⟨a, o, ex, g, q⟩
  subst ex
  obtain rfl : u = Value.ref a := rx
  exact d_notIn (by omega) I g ry fun s3 I3 => ⟨.bl (!o.isSome), H, I3, rfl, q⟩
section
variable {X : Cx} {W : Nm} (hK : X.K = W.K)
theorem opS_add : OpR X (binaryOp .Add) (rS W (bop .add)) := by
  intro pins s σ H x y v u Q I rx ry ⟨am, x', y', h, r1, r2, S, P⟩
  have hb : bop .add x' y' h = bAdd h x' y' := rfl
  rw [hb] at P
  cases x' with
  | int i =>
    cases y' with
    | int j =>
      cases r1; cases r2
      exact op_add pins s σ H _ _ v u Q I rx ry ⟨i, j, rfl, rfl, P am _ _ (Pf.refl _) S rfl⟩
    | _ => exact P.elim
  | str i =>
    cases y' with
    | str j =>
      cases r1; cases r2
      unfold bAdd at P
      dsimp only at P
      split at P
      · rename_i hl
        have P := Ok1.at P S (w := .str (i ++ j)) rfl
        exact op_add_str pins s σ H _ _ v u Q I rx ry ⟨i, j, rfl, rfl, by rw [← line_eq]; exact hl, P⟩
      · exact P.elim
    | _ => exact P.elim
  | ref i =>
    cases y' with
    | ref j =>
      obtain ⟨a, ha, rfl⟩ := r1
      obtain ⟨b, hb', rfl⟩ := r2
      unfold bAdd at P
      dsimp only at P
      split at P
      · rename_i xs ys hx hy
        obtain ⟨xs', q1, e1⟩ := S.cell i _ a hx ha
        obtain ⟨ys', q2, e2⟩ := S.cell j _ b hy hb'
        by_cases hl : xs.length + ys.length ≤ LINE
        · rw [if_pos hl] at P
          refine op_cat pins s σ H _ _ v u Q I rx ry ⟨a, b, xs', ys', rfl, rfl, e1, e2, by rw [← Paired.len q1, ← Paired.len q2, ← line_eq]; exact hl, fun p hp => ?_⟩
          refine P _ _ _ (Pf.snoc am p) (S.push hp ⟨xs' ++ ys', RVs.mono (Pf.snoc _ _) (Paired.app q1 q2), upd_same⟩) ⟨p, ?_, rfl⟩
          rw [← S.len]
          simp
        · rw [if_neg hl] at P
          exact P.elim
      · exact P.elim
    | _ => exact P.elim
  | _ => exact P.elim
theorem opS_sub : OpR X (binaryOp .Sub) (rS W (bop .sub)) := by
  intro pins s σ H x y v u Q I rx ry ⟨am, x', y', h, r1, r2, S, P⟩
  cases x' with
  | int i =>
    cases y' with
    | int j =>
      cases r1; cases r2
      exact op_sub pins s σ H _ _ v u Q I rx ry ⟨i, j, rfl, rfl, P am _ _ (Pf.refl _) S rfl⟩
    | _ => exact P.elim
  | _ => exact P.elim
theorem opS_mul : OpR X (binaryOp .Mult) (rS W (bop .mul)) := by
  intro pins s σ H x y v u Q I rx ry ⟨am, x', y', h, r1, r2, S, P⟩
  have hb : bop .mul x' y' h = bMul h x' y' := rfl
  rw [hb] at P
  cases x' with
  | int i =>
    cases y' with
    | int j =>
      cases r1; cases r2
      unfold bMul at P
      dsimp only at P
      split at P
      · rename_i hc
        exact op_mulW pins s σ H _ _ v u Q I rx ry ⟨i, j, rfl, rfl, mul_ok hc.1 hc.2, P am _ _ (Pf.refl _) S rfl⟩
      · exact P.elim
    | _ => exact P.elim
  | _ => exact P.elim
theorem opS_fdiv : OpR X (binaryOp .FloorDiv) (rS W (bop .fdiv)) := by
  intro pins s σ H x y v u Q I rx ry ⟨am, x', y', h, r1, r2, S, P⟩
  have hb : bop .fdiv x' y' h = bDiv h x' y' := rfl
  rw [hb] at P
  cases x' with
  | int i =>
    cases y' with
    | int j =>
      cases r1; cases r2
      unfold bDiv at P
      dsimp only at P
      split at P
      · rename_i hc
        exact op_fdivA pins s σ H _ _ v u Q I rx ry ⟨i, j, rfl, rfl, hc, P am _ _ (Pf.refl _) S rfl⟩
      · exact P.elim
    | _ => exact P.elim
  | _ => exact P.elim
theorem opS_mod : OpR X (binaryOp .Mod) (rS W (bop .mod)) := by
  intro pins s σ H x y v u Q I rx ry ⟨am, x', y', h, r1, r2, S, P⟩
  have hb : bop .mod x' y' h = bMod h x' y' := rfl
  rw [hb] at P
  cases x' with
  | int i =>
    cases y' with
    | int j =>
      cases r1; cases r2
      unfold bMod at P
      dsimp only at P
      split at P
      · rename_i hc
        exact op_modN pins s σ H _ _ v u Q I rx ry ⟨i, j, rfl, rfl, hc, P am _ _ (Pf.refl _) S rfl⟩
      · exact P.elim
    | _ => exact P.elim
  | _ => exact P.elim
theorem opS_pow : OpR X (binaryOp .Pow) (rS W (bop .pow)) := by
  intro pins s σ H x y v u Q I rx ry ⟨am, x', y', h, r1, r2, S, P⟩
  have hb : bop .pow x' y' h = bPow h x' y' := rfl
  rw [hb] at P
  cases x' with
  | int i =>
    cases y' with
    | int j =>
      cases r1; cases r2
      unfold bPow at P
      dsimp only at P
      split at P
      · rename_i hc
        exact op_pow pins s σ H _ _ v u Q I rx ry ⟨i, j, rfl, rfl, hc, P am _ _ (Pf.refl _) S rfl⟩
      · exact P.elim
    | _ => exact P.elim
  | _ => exact P.elim
theorem scal_flat : ∀ {x y : V}, scal x y = true → (flatV x = true ∧ flatV y = true) ∨ (∃ a b, x = .byt a ∧ y = .byt b) := by
  intro x y h
  cases x <;> cases y <;> first | exact .inl ⟨rfl, rfl⟩ | exact .inr ⟨_, _, rfl, rfl⟩ | exact Bool.noConfusion h
theorem scal_rel {am : List Addr} {x y x' y' : V} (h : scal x' y' = true) (r1 : RV am x' x) (r2 : RV am y' y) : x = x' ∧ y = y' := by
  rcases scal_flat h with ⟨a, b⟩ | ⟨a, b, rfl, rfl⟩
  · exact ⟨flat_of r1 a, flat_of r2 b⟩
  · exact ⟨r1, r2⟩
include hK in
theorem opS_eq (hu : X.A.units + 64 < cLine) : OpR X (compareOp .Eq) (rS W (bop .eq)) := by
  intro pins s σ H x y v u Q I rx ry ⟨am, x', y', h, r1, r2, S, P⟩
  have hb : bop .eq x' y' h = bEq false h x' y' := rfl
  rw [hb] at P
  unfold bEq at P
  split at P
  · rename_i hs
    obtain ⟨e1, e2⟩ := scal_rel hs r1 r2
    subst e1 e2
    exact op_eq pins s σ H _ _ v u Q I rx ry ⟨hs, P am _ _ (Pf.refl _) S rfl⟩
  · split at P
    · rename_i d e h1 h2
      split at P
      · rename_i hs
        exact op_eqD hu pins s σ H _ _ v u Q I rx ry ⟨d, e, by rw [hK]; exact dat_dp S _ r1 h1, by rw [hK]; exact dat_dp S _ r2 h2, hs.1, hs.2, P am _ _ (Pf.refl _) S rfl⟩
      · exact P.elim
    · exact P.elim
include hK in
theorem opS_ne (hu : X.A.units + 64 < cLine) : OpR X (compareOp .NotEq) (rS W (bop .ne)) := by
  intro pins s σ H x y v u Q I rx ry ⟨am, x', y', h, r1, r2, S, P⟩
  have hb : bop .ne x' y' h = bEq true h x' y' := rfl
  rw [hb] at P
  unfold bEq at P
  split at P
  · rename_i hs
    obtain ⟨e1, e2⟩ := scal_rel hs r1 r2
    subst e1 e2
    exact op_ne pins s σ H _ _ v u Q I rx ry ⟨hs, P am _ _ (Pf.refl _) S rfl⟩
  · split at P
    · rename_i d e h1 h2
      split at P
      · rename_i hs
        exact op_neD hu pins s σ H _ _ v u Q I rx ry ⟨d, e, by rw [hK]; exact dat_dp S _ r1 h1, by rw [hK]; exact dat_dp S _ r2 h2, hs.1, hs.2, P am _ _ (Pf.refl _) S rfl⟩
      · exact P.elim
    · exact P.elim
theorem opS_lt : OpR X (compareOp .Lt) (rS W (bop .lt)) := by
  intro pins s σ H x y v u Q I rx ry ⟨am, x', y', h, r1, r2, S, P⟩
  cases x' with
  | int i =>
    cases y' with
    | int j =>
      cases r1; cases r2
      exact op_lt pins s σ H _ _ v u Q I rx ry ⟨i, j, rfl, rfl, P am _ _ (Pf.refl _) S rfl⟩
    | _ => exact P.elim
  | str i =>
    cases y' with
    | str j =>
      cases r1; cases r2
      exact op_lt_str pins s σ H _ _ v u Q I rx ry ⟨i, j, rfl, rfl, P am _ _ (Pf.refl _) S rfl⟩
    | _ => exact P.elim
  | _ => exact P.elim
theorem opS_le : OpR X (compareOp .LtE) (rS W (bop .le)) := by
  intro pins s σ H x y v u Q I rx ry ⟨am, x', y', h, r1, r2, S, P⟩
  cases x' with
  | int i =>
    cases y' with
    | int j =>
      cases r1; cases r2
      exact op_le pins s σ H _ _ v u Q I rx ry ⟨i, j, rfl, rfl, P am _ _ (Pf.refl _) S rfl⟩
    | _ => exact P.elim
  | _ => exact P.elim
theorem opS_gt : OpR X (compareOp .Gt) (rS W (bop .gt)) := by
  intro pins s σ H x y v u Q I rx ry ⟨am, x', y', h, r1, r2, S, P⟩
  cases x' with
  | int i =>
    cases y' with
    | int j =>
      cases r1; cases r2
      exact op_gt pins s σ H _ _ v u Q I rx ry ⟨i, j, rfl, rfl, P am _ _ (Pf.refl _) S rfl⟩
    | _ => exact P.elim
  | _ => exact P.elim
theorem opS_ge : OpR X (compareOp .GtE) (rS W (bop .ge)) := by
  intro pins s σ H x y v u Q I rx ry ⟨am, x', y', h, r1, r2, S, P⟩
  cases x' with
  | int i =>
    cases y' with
    | int j =>
      cases r1; cases r2
      exact op_ge pins s σ H _ _ v u Q I rx ry ⟨i, j, rfl, rfl, P am _ _ (Pf.refl _) S rfl⟩
    | _ => exact P.elim
  | _ => exact P.elim
theorem non_rel {am : List Addr} {x' x : V} (r : RV am x' x) : decide (x = .non) = decide (x' = .non) := by
  cases x' with
  | ref i =>
    obtain ⟨a, _, rfl⟩ := r
    rfl
  | _ => cases r; rfl
theorem opS_is : OpR X (compareOp .Is) (rS W (bop .is)) := by
  intro pins s σ H x y v u Q I rx ry ⟨am, x', y', h, r1, r2, S, P⟩
  have hb : bop .is x' y' h = bIs false h x' y' := rfl
  rw [hb] at P
  cases y' with
  | non =>
    cases r2
    refine op_isN pins s σ H _ _ v u Q I rx ry ⟨rfl, ?_⟩
    have P : ∀ am' w H', Pf am am' → Sim W am' h H' → RV am' (.bl (decide (x' = .non))) w → Q w H' := by cases x' <;> exact P
    rw [non_rel r1]
    exact P am _ _ (Pf.refl _) S rfl
  | bl b =>
    cases x' with
    | bl a =>
      cases r1; cases r2
      exact op_isBl pins s σ H _ _ v u Q I rx ry ⟨a, b, rfl, rfl, P am _ _ (Pf.refl _) S rfl⟩
    | _ => exact P.elim
  | _ => cases x' <;> exact P.elim
theorem opS_isNot : OpR X (compareOp .IsNot) (rS W (bop .isNot)) := by
  intro pins s σ H x y v u Q I rx ry ⟨am, x', y', h, r1, r2, S, P⟩
  have hb : bop .isNot x' y' h = bIs true h x' y' := rfl
  rw [hb] at P
  cases y' with
  | non =>
    cases r2
    refine op_notN pins s σ H _ _ v u Q I rx ry ⟨rfl, ?_⟩
    have P : ∀ am' w H', Pf am am' → Sim W am' h H' → RV am' (.bl (!decide (x' = .non))) w → Q w H' := by cases x' <;> exact P
    rw [non_rel r1]
    exact P am _ _ (Pf.refl _) S rfl
  | bl b =>
    cases x' with
    | bl a =>
      cases r1; cases r2
      exact op_notBl pins s σ H _ _ v u Q I rx ry ⟨a, b, rfl, rfl, P am _ _ (Pf.refl _) S rfl⟩
    | _ => exact P.elim
  | _ => cases x' <;> exact P.elim
include hK in
theorem opS_in (hu : X.A.units + 64 < cLine) : OpR X (compareOp .In) (rS W (bop .isin)) := by
  intro pins s σ H x y v u Q I rx ry ⟨am, x', y', h, r1, r2, S, P⟩
  have hb : bop .isin x' y' h = bIn false h x' y' := rfl
  rw [hb] at P
  cases y' with
  | str j =>
    cases x' with
    | str i =>
      cases r1; cases r2
      exact op_in_str pins s σ H _ _ v u Q I rx ry ⟨i, j, rfl, rfl, P am _ _ (Pf.refl _) S rfl⟩
    | _ => exact P.elim
  | ref k =>
    unfold bIn at P
    dsimp only at P
    cases hx : seqAt h (V.ref k) with
    | none =>
      rw [hx] at P
      dsimp only at P
      cases hd : dctAt h (V.ref k) with
      | none => rw [hd] at P; exact P.elim
      | some kvs =>
        cases hk : keyOf x' with
        | none => rw [hd, hk] at P; exact P.elim
        | some q =>
          rw [hd, hk] at P
          obtain ⟨p, ls, rfl, rd, rk⟩ := S.dct r2 hd
          have P := Ok1.at P S (w := .bl ((valV kvs q).isSome)) rfl
          have e := (RK.val rk q).isSome
          refine op_dinR hu pins s σ H _ _ v u Q I rx ry ⟨p, valV ls q, rfl, .inl ⟨ls, q, rd, keyOf_rel r1 hk, rfl⟩, ?_⟩
          rw [e]
          exact P
    | some xs =>
      rw [hx] at P
      dsimp only at P
      obtain ⟨p, ys, rfl, q, rs⟩ := S.seq r2 hx
      by_cases hf : flatV x' = true ∧ xs.all flatV = true
      · rw [if_pos hf] at P
        have e1 := flat_of r1 hf.1
        have e2 := flats_of rs hf.2
        subst e1 e2
        exact op_in_seq pins s σ H _ _ v u Q I rx ry ⟨p, _, rfl, by rw [hK]; exact q, hf.1, hf.2, P am _ _ (Pf.refl _) S rfl⟩
      · rw [if_neg hf] at P
        exact P.elim
  | _ => exact P.elim
include hK in
theorem opS_notin (hu : X.A.units + 64 < cLine) : OpR X (compareOp .NotIn) (rS W (bop .notin)) := by
  intro pins s σ H x y v u Q I rx ry ⟨am, x', y', h, r1, r2, S, P⟩
  have hb : bop .notin x' y' h = bIn true h x' y' := rfl
  rw [hb] at P
  cases y' with
  | str j =>
    cases x' with
    | str i =>
      cases r1; cases r2
      refine op_notin_str pins s σ H _ _ v u Q I rx ry ⟨i, j, rfl, rfl, ?_⟩
      rw [Bool.not_not]
      exact P am _ _ (Pf.refl _) S rfl
    | _ => exact P.elim
  | ref k =>
    unfold bIn at P
    dsimp only at P
    cases hx : seqAt h (V.ref k) with
    | none =>
      rw [hx] at P
      dsimp only at P
      cases hd : dctAt h (V.ref k) with
      | none => rw [hd] at P; exact P.elim
      | some kvs =>
        cases hk : keyOf x' with
        | none => rw [hd, hk] at P; exact P.elim
        | some q =>
          rw [hd, hk] at P
          obtain ⟨p, ls, rfl, rd, rk⟩ := S.dct r2 hd
          have P := Ok1.at P S (w := .bl (!(valV kvs q).isSome)) rfl
          have e := (RK.val rk q).isSome
          refine op_dnotinR hu pins s σ H _ _ v u Q I rx ry ⟨p, valV ls q, rfl, .inl ⟨ls, q, rd, keyOf_rel r1 hk, rfl⟩, ?_⟩
          rw [e]
          exact P
    | some xs =>
      rw [hx] at P
      dsimp only at P
      obtain ⟨p, ys, rfl, q, rs⟩ := S.seq r2 hx
      by_cases hf : flatV x' = true ∧ xs.all flatV = true
      · rw [if_pos hf] at P
        have e1 := flat_of r1 hf.1
        have e2 := flats_of rs hf.2
        subst e1 e2
        exact op_notIn_seq pins s σ H _ _ v u Q I rx ry ⟨p, _, rfl, by rw [hK]; exact q, hf.1, hf.2, P am _ _ (Pf.refl _) S rfl⟩
      · rw [if_neg hf] at P
        exact P.elim
  | _ => exact P.elim
end
def arith : Bop → Option Operator
  | .add => some .Add | .sub => some .Sub | .mul => some .Mult | .fdiv => some .FloorDiv | .mod => some .Mod | .pow => some .Pow
  | _ => none
def cmpo : Bop → Option CmpOp
  | .eq => some .Eq | .ne => some .NotEq | .lt => some .Lt | .le => some .LtE | .gt => some .Gt | .ge => some .GtE
  | .is => some .Is | .isNot => some .IsNot | .isin => some .In | .notin => some .NotIn
  | _ => none
theorem arith_ok {X : Cx} {W : Nm} {o : Bop} {op : Operator} (e : arith o = some op) : OpR X (binaryOp op) (rS W (bop o)) := by
  cases o <;> cases e
  · exact opS_add
  · exact opS_sub
  · exact opS_mul
  · exact opS_fdiv
  · exact opS_mod
  · exact opS_pow
theorem cmp_ok {X : Cx} {W : Nm} (hK : X.K = W.K) (hu : X.A.units + 64 < cLine) {o : Bop} {op : CmpOp} (e : cmpo o = some op) : OpR X (compareOp op) (rS W (bop o)) := by
  cases o <;> cases e
  · exact opS_eq hK hu
  · exact opS_ne hK hu
  · exact opS_lt
  · exact opS_le
  · exact opS_gt
  · exact opS_ge
  · exact opS_is
  · exact opS_isNot
  · exact opS_in hK hu
  · exact opS_notin hK hu
theorem bop_nx (o : Bop) : NX (bop o) := by
  intro x y h c d h' e
  cases o <;> simp only [bop] at e
  all_goals
    first
    | (unfold bAdd at e; split at e <;> (try split at e) <;> (try split at e) <;> cases e)
    | (unfold bSub at e; split at e <;> (try split at e) <;> cases e)
    | (unfold bMul at e; split at e <;> (try split at e) <;> cases e)
    | (unfold bDiv at e; split at e <;> (try split at e) <;> cases e)
    | (unfold bMod at e; split at e <;> (try split at e) <;> cases e)
    | (unfold bPow at e; split at e <;> (try split at e) <;> cases e)
    | (unfold bEq at e; split at e <;> (try split at e) <;> (try split at e) <;> cases e)
    | (unfold bLt at e; split at e <;> (try split at e) <;> cases e)
    | (unfold bLe at e; split at e <;> (try split at e) <;> cases e)
    | (unfold bGt at e; split at e <;> (try split at e) <;> cases e)
    | (unfold bGe at e; split at e <;> (try split at e) <;> cases e)
    | (unfold bIs at e; split at e <;> (try split at e) <;> cases e)
    | (unfold bIn at e; split at e <;> (try split at e) <;> (try split at e) <;> (try split at e) <;> cases e)
end QM

/-! QM4: truth, subscripts, built-in functions -/
namespace QM
open PySem L2 PyProof.Rows
theorem PE.imp {X : Cx} {e : PySem.Expr} {t t' : TE} (h : PE X e t) (k : ∀ σ H Q, t' σ H Q → t σ H Q) : PE X e t' := ⟨fun pins s σ H Q I q => h.run pins s σ H Q I (k σ H Q q)⟩
theorem PT.imp {X : Cx} {e : PySem.Expr} {t t' : TT} (h : PT X e t) (k : ∀ σ H Q, t' σ H Q → t σ H Q) : PT X e t' := ⟨fun pins s σ H Q I q => h.run pins s σ H Q I (k σ H Q q)⟩
theorem PW.imp {X : Cx} {e : PySem.Expr} {t t' : TT} (h : PW X e t) (k : ∀ σ H Q, t' σ H Q → t σ H Q) : PW X e t' := ⟨fun whole pins s σ H Q I q => h.run whole pins s σ H Q I (k σ H Q q)⟩
theorem PA.imp {X : Cx} {e : List PySem.Expr} {t t' : TA} (h : PA X e t) (k : ∀ σ H Q, t' σ H Q → t σ H Q) : PA X e t' := ⟨fun pos pins s σ H Q I q => h.run pos pins s σ H Q I (k σ H Q q)⟩

/-! ### truth -/
theorem tru_ok' {W : Nm} {K : PySem.W.Frag} (hK : K = W.K) {am : List Addr} {h h2 : Hh} {H : Hp} {v w : V} {b : Bool} (S : Sim W am h H) (r : RV am v w) (e : tru v h = .ok b h2) : h2 = h ∧ TruV K w H b := by
  subst hK
  cases v with
  | non => cases r; cases e; exact ⟨rfl, rfl⟩
  | bl c => cases r; cases e; exact ⟨rfl, rfl⟩
  | int i => cases r; cases e; exact ⟨rfl, rfl⟩
  | str y =>
    cases r
    unfold tru at e
    dsimp only at e
    split at e
    · rename_i hl
      cases e
      exact ⟨rfl, by rw [← line_eq]; exact hl, rfl⟩
    · cases e
  | ref i =>
    unfold tru at e
    dsimp only at e
    cases hx : seqAt h (V.ref i) with
    | none =>
      rw [hx] at e
      dsimp only at e
      split at e
      · rename_i kvs hc
        cases e
        obtain ⟨a, ha, rfl⟩ := r
        obtain ⟨ls, q, z⟩ := S.cell i _ a hc ha
        refine ⟨rfl, .inr (.inr ⟨ls, z, ?_⟩)⟩
        cases q <;> rfl
      · cases e
    | some xs =>
      rw [hx] at e
      cases e
      obtain ⟨p, ys, rfl, q, rs⟩ := S.seq r hx
      have el : ys.isEmpty = xs.isEmpty := by cases rs <;> rfl
      refine ⟨rfl, ?_⟩
      rcases q with q | q
      · exact .inl ⟨ys, q, by rw [el]⟩
      · exact .inr (.inl ⟨ys, q, by rw [el]⟩)
  | _ => cases e
theorem tru_nx {v : V} {h h' : Hh} {c : Nat} {d : Option Nat} : tru v h ≠ .exc c d h' := by
  intro e
  cases v <;> unfold tru at e <;> dsimp only at e <;> (try split at e) <;> (try split at e) <;> cases e
/-- a truth's end -/
theorem tru_end {W : Nm} {wx : WX} {K : PySem.W.Frag} (hK : K = W.K) {am : List Addr} {h : Hh} {H : Hp} {σ : L2.St} {v w : V} {Q : Bool → Hp → Prop} (S : Sim W am h H) (r : RV am v w) (P : Post W wx RB am σ (tru v h) Q) : ∃ k, TruV K w H k ∧ Q k H := by
  cases e : tru v h with
  | ok b h2 =>
    obtain ⟨rfl, t⟩ := tru_ok' hK S r e
    rw [e] at P
    exact ⟨b, t, Post.at P S rfl⟩
  | exc c d h2 => exact absurd e tru_nx
  | bad => rw [e] at P; exact P.elim


/-! ### o[i] -/
theorem ixs_nx : NX ixs := by
  intro x y h c d h' e
  unfold ixs at e
  split at e
  · split at e
    · split at e
      · split at e <;> cases e
      · cases e
    · cases e
  · split at e
    · split at e
      · split at e <;> cases e
      · cases e
    · split at e
      · split at e <;> cases e
      · cases e
theorem ix_dict {X : Cx} (hu : X.A.units + 64 < cLine) : IxR X (fun x y H Q => ∃ a v, x = .ref a ∧ DGet H a y (some v) ∧ Q v H) := by
  intro value slice pins s σ H x y v u Q I rx ry ⟨a, z, ex, g, q⟩ hs
  subst ex
  obtain rfl : v = Value.ref a := rx
  exact tail_any (dict_typeIs I g) PySem.F.slot_dict_getitem.lookup (d_getItem (by omega) I g ry fun w' s3 I3 rw' => ⟨z, H, I3, rw', q⟩) hs
theorem ix_seqs {X : Cx} (hu : X.A.units + 64 < cLine) : IxR X (fun x y H Q => rIxL X.K x y H Q ∨ rIxT X.K x y H Q ∨ rIxS x y H Q ∨ ∃ a v, x = .ref a ∧ DGet H a y (some v) ∧ Q v H) := by
  intro value slice pins s σ H x y v u Q I rx ry h hs
  rcases h with h | h | h | h
  · exact ix_list value slice pins s σ H x y v u Q I rx ry h hs
  · exact ix_tup value slice pins s σ H x y v u Q I rx ry h hs
  · exact ix_str value slice pins s σ H x y v u Q I rx ry h hs
  · exact ix_dict hu value slice pins s σ H x y v u Q I rx ry h hs
theorem ix_ok {X : Cx} {W : Nm} (hK : X.K = W.K) (hu : X.A.units + 64 < cLine) : IxR X (rS W ixs) := by
  intro value slice pins s σ H x y v u Q I rx ry ⟨am, x', y', h, r1, r2, S, P⟩ hs
  refine ix_seqs hu value slice pins s σ H x y v u Q I rx ry ?_ hs
  cases x' with
  | str z =>
    cases y' with
    | int i =>
      cases r1; cases r2
      unfold ixs at P
      dsimp only at P
      by_cases hl : z.length ≤ LINE
      · rw [if_pos hl] at P
        cases ha : atI z.cps.toList i with
        | none => rw [ha] at P; exact P.elim
        | some c =>
          rw [ha] at P
          exact .inr (.inr (.inl ⟨z, i, c, rfl, rfl, by rw [← line_eq]; exact hl, ha, Ok1.at P S rfl⟩))
      · rw [if_neg hl] at P
        exact P.elim
    | _ => exact (show False from P).elim
  | ref k =>
    unfold ixs at P
    dsimp only at P
    cases hx : seqAt h (V.ref k) with
    | some xs =>
      rw [hx] at P
      dsimp only at P
      cases y' with
      | int i =>
        cases r2
        dsimp only at P
        cases ha : atI xs i with
        | none => rw [ha] at P; exact P.elim
        | some v =>
          rw [ha] at P
          obtain ⟨p, ys, rfl, q, rs⟩ := S.seq r1 hx
          obtain ⟨w, hw, rw'⟩ := atI_rel rs ha
          rcases q with q | q
          · exact .inl ⟨p, ys, i, w, rfl, rfl, by rw [hK]; exact q, hw, Ok1.at P S rw'⟩
          · exact .inr (.inl ⟨p, ys, i, w, rfl, rfl, by rw [hK]; exact q, hw, Ok1.at P S rw'⟩)
      | _ => exact (show False from P).elim
    | none =>
      rw [hx] at P
      dsimp only at P
      cases hd : dctAt h (V.ref k) with
      | none => rw [hd] at P; exact P.elim
      | some kvs =>
        cases hk : keyOf y' with
        | none => rw [hd, hk] at P; exact P.elim
        | some q =>
          rw [hd, hk] at P
          dsimp only at P
          obtain ⟨p, ls, rfl, rd, rk⟩ := S.dct r1 hd
          have e := RK.val rk q
          cases hv : valV kvs q with
          | none => rw [hv] at P; exact P.elim
          | some v =>
            rw [hv] at P e
            cases hl : valV ls q with
            | none => rw [hl] at e; exact e.elim
            | some w =>
              rw [hl] at e
              exact .inr (.inr (.inr ⟨p, w, rfl, .inl ⟨ls, q, rd, keyOf_rel r2 hk, hl.symm⟩, Ok1.at P S e⟩))
  | _ => exact (show False from P).elim

/-! ### sorting -/
theorem perm_one {α : Type} {le : α → α → Prop} (anti : ∀ a b, le a b → le b a → a = b) : ∀ {l m : List α}, l.Perm m → l.Pairwise le → m.Pairwise le → l = m
  | [], m, p, _, _ => (List.nil_perm.mp p).symm
  | a :: l, [], p, _, _ => by
    have := p.length_eq
    simp at this
  | a :: l, b :: m, p, h1, h2 => by
    have ha : a ∈ b :: m := p.mem_iff.mp List.mem_cons_self
    have hb : b ∈ a :: l := p.mem_iff.mpr List.mem_cons_self
    have e : a = b := by
      rcases List.mem_cons.mp ha with e | ha
      · exact e
      · rcases List.mem_cons.mp hb with e | hb
        · exact e.symm
        · exact anti a b (List.rel_of_pairwise_cons h1 hb) (List.rel_of_pairwise_cons h2 ha)
    subst e
    rw [perm_one anti p.cons_inv (List.pairwise_cons.mp h1).2 (List.pairwise_cons.mp h2).2]
def LeS (x y : Str) : Prop := sLe x y = true
theorem leS_iff {x y : Str} : LeS x y ↔ x.cps.toList ≤ y.cps.toList := by
  unfold LeS sLe
  rw [Bool.not_eq_true', decide_eq_false_iff_not, List.not_lt]
theorem leS_anti (x y : Str) (h : LeS x y) (k : LeS y x) : x = y := by
  have e := List.le_antisymm (leS_iff.mp h) (leS_iff.mp k)
  exact Str.ext' (Array.toList_inj.mp e)
theorem leS_trans {x y z : Str} (h : LeS x y) (k : LeS y z) : LeS x z := leS_iff.mpr (List.le_trans (leS_iff.mp h) (leS_iff.mp k))
theorem leS_total (x y : Str) : LeS x y ∨ LeS y x := by
  rcases List.le_total x.cps.toList y.cps.toList with h | h
  · exact .inl (leS_iff.mpr h)
  · exact .inr (leS_iff.mpr h)
theorem rising_pw : ∀ (l : List Str) (p : Str), risingS p l = true → (p :: l).Pairwise LeS
  | [], p, _ => List.pairwise_singleton _ _
  | x :: r, p, h => by
    have h : (!Spec.ltCps x.cps.toList p.cps.toList && risingS x r) = true := h
    rw [Bool.and_eq_true] at h
    have ih := rising_pw r x h.2
    have hx : LeS p x := by
      have h1 := h.1
      rw [ltCps_eq] at h1
      exact h1
    refine List.pairwise_cons.mpr ⟨fun y hy => ?_, ih⟩
    rcases List.mem_cons.mp hy with e | hy
    · rw [e]; exact hx
    · exact leS_trans hx (List.rel_of_pairwise_cons ih hy)
theorem sorted_pw {l : List Str} (h : sortedS l = true) : l.Pairwise LeS := by
  cases l with
  | nil => exact .nil
  | cons x r => exact rising_pw r x h
theorem insS_perm (x : Str) : ∀ l : List Str, (insS x l).Perm (x :: l)
  | [] => List.Perm.refl _
  | y :: r => by
    unfold insS
    split
    · exact List.Perm.refl _
    · exact ((insS_perm x r).cons y).trans (List.Perm.swap x y r)
theorem insS_pw (x : Str) : ∀ {l : List Str}, l.Pairwise LeS → (insS x l).Pairwise LeS
  | [], _ => List.pairwise_singleton _ _
  | y :: r, h => by
    unfold insS
    split
    · rename_i hx
      refine List.pairwise_cons.mpr ⟨fun z hz => ?_, h⟩
      rcases List.mem_cons.mp hz with e | hz
      · rw [e]; exact hx
      · exact leS_trans hx (List.rel_of_pairwise_cons h hz)
    · rename_i hx
      refine List.pairwise_cons.mpr ⟨fun z hz => ?_, insS_pw x (List.pairwise_cons.mp h).2⟩
      rcases List.mem_cons.mp ((insS_perm x r).mem_iff.mp hz) with e | hz
      · rw [e]
        rcases leS_total x y with q | q
        · exact absurd q hx
        · exact q
      · exact List.rel_of_pairwise_cons h hz
theorem sortS_perm : ∀ l : List Str, (sortS l).Perm l
  | [] => List.Perm.refl _
  | x :: r => (insS_perm x _).trans ((sortS_perm r).cons x)
theorem sortS_pw : ∀ l : List Str, (sortS l).Pairwise LeS
  | [] => .nil
  | x :: r => insS_pw x (sortS_pw r)
theorem sortS_one {ys ss : List Str} (p : ys.Perm ss) (h : sortedS ys = true) : ys = sortS ss := perm_one leS_anti (p.trans (sortS_perm ss).symm) (sorted_pw h) (sortS_pw ss)
theorem insI_perm (x : Int) : ∀ l : List Int, (insI x l).Perm (x :: l)
  | [] => List.Perm.refl _
  | y :: r => by
    unfold insI
    split
    · exact List.Perm.refl _
    · exact ((insI_perm x r).cons y).trans (List.Perm.swap x y r)
theorem insI_pw (x : Int) : ∀ {l : List Int}, l.Pairwise (· ≤ ·) → (insI x l).Pairwise (· ≤ ·)
  | [], _ => List.pairwise_singleton _ _
  | y :: r, h => by
    unfold insI
    split
    · rename_i hx
      refine List.pairwise_cons.mpr ⟨fun z hz => ?_, h⟩
      rcases List.mem_cons.mp hz with e | hz
      · rw [e]; exact hx
      · exact Int.le_trans hx (List.rel_of_pairwise_cons h hz)
    · rename_i hx
      refine List.pairwise_cons.mpr ⟨fun z hz => ?_, insI_pw x (List.pairwise_cons.mp h).2⟩
      rcases List.mem_cons.mp ((insI_perm x r).mem_iff.mp hz) with e | hz
      · rw [e]; omega
      · exact List.rel_of_pairwise_cons h hz
theorem sortI_perm : ∀ l : List Int, (sortI l).Perm l
  | [] => List.Perm.refl _
  | x :: r => (insI_perm x _).trans ((sortI_perm r).cons x)
theorem sortI_pw : ∀ l : List Int, (sortI l).Pairwise (· ≤ ·)
  | [] => .nil
  | x :: r => insI_pw x (sortI_pw r)
theorem sortI_one {ys ss : List Int} (p : ys.Perm ss) (h : ys.Pairwise (· ≤ ·)) : ys = sortI ss := perm_one (fun a b h k => Int.le_antisymm h k) (p.trans (sortI_perm ss).symm) h (sortI_pw ss)

/-! ### lists of one kind -/
theorem strsOf_eq : ∀ {xs : List V} {ss : List Str}, strsOf xs = some ss → xs = ss.map .str
  | [], _, h => by cases h; rfl
  | x :: r, ss, h => by
    cases x <;> first | (cases h; done) | skip
    rename_i z
    rw [strsOf] at h
    cases e : strsOf r with
    | none => rw [e] at h; cases h
    | some q =>
      rw [e] at h
      cases h
      rw [strsOf_eq e]
      rfl
theorem intsOf_eq : ∀ {xs : List V} {ss : List Int}, intsOf xs = some ss → xs = ss.map .int
  | [], _, h => by cases h; rfl
  | x :: r, ss, h => by
    cases x <;> first | (cases h; done) | skip
    rename_i z
    rw [intsOf] at h
    cases e : intsOf r with
    | none => rw [e] at h; cases h
    | some q =>
      rw [e] at h
      cases h
      rw [intsOf_eq e]
      rfl
theorem blsOf_eq : ∀ {xs : List V} {ss : List Bool}, blsOf xs = some ss → xs = ss.map .bl
  | [], _, h => by cases h; rfl
  | x :: r, ss, h => by
    cases x <;> first | (cases h; done) | skip
    rename_i z
    rw [blsOf] at h
    cases e : blsOf r with
    | none => rw [e] at h; cases h
    | some q =>
      rw [e] at h
      cases h
      rw [blsOf_eq e]
      rfl
theorem flat_map_str (ss : List Str) : (ss.map V.str).all flatV = true := by rw [List.all_map]; exact List.all_eq_true.mpr fun _ _ => rfl
theorem flat_map_int (ss : List Int) : (ss.map V.int).all flatV = true := by rw [List.all_map]; exact List.all_eq_true.mpr fun _ _ => rfl
theorem flat_map_bl (ss : List Bool) : (ss.map V.bl).all flatV = true := by rw [List.all_map]; exact List.all_eq_true.mpr fun _ _ => rfl
theorem rvs_flat {am : List Addr} : ∀ {xs : List V}, xs.all flatV = true → RVs am xs xs
  | [], _ => .nil
  | x :: r, h => by
    rw [List.all_cons, Bool.and_eq_true] at h
    refine .cons ?_ (rvs_flat h.2)
    cases x <;> first | rfl | exact Bool.noConfusion h.1
theorem maxI_ge : ∀ (r : List Int) (m : Int), m ≤ maxI m r ∧ (∀ y ∈ r, y ≤ maxI m r) ∧ (maxI m r = m ∨ maxI m r ∈ r)
  | [], m => ⟨Int.le_refl _, fun _ h => absurd h (by simp), .inl rfl⟩
  | x :: r, m => by
    obtain ⟨a, b, c⟩ := maxI_ge r (if x > m then x else m)
    have e : maxI m (x :: r) = maxI (if x > m then x else m) r := rfl
    rw [e]
    split at a <;> rename_i hx
    · simp only [hx, if_true] at b c ⊢
      refine ⟨by omega, fun y hy => ?_, ?_⟩
      · rcases List.mem_cons.mp hy with z | hy
        · rw [z]; exact a
        · exact b y hy
      · rcases c with c | c
        · exact .inr (by rw [c]; exact List.mem_cons_self)
        · exact .inr (List.mem_cons_of_mem _ c)
    · simp only [hx, if_false] at b c ⊢
      refine ⟨a, fun y hy => ?_, ?_⟩
      · rcases List.mem_cons.mp hy with z | hy
        · rw [z]; omega
        · exact b y hy
      · rcases c with c | c
        · exact .inl c
        · exact .inr (List.mem_cons_of_mem _ c)
theorem minI_le : ∀ (r : List Int) (m : Int), minI m r ≤ m ∧ (∀ y ∈ r, minI m r ≤ y) ∧ (minI m r = m ∨ minI m r ∈ r)
  | [], m => ⟨Int.le_refl _, fun _ h => absurd h (by simp), .inl rfl⟩
  | x :: r, m => by
    obtain ⟨a, b, c⟩ := minI_le r (if x < m then x else m)
    have e : minI m (x :: r) = minI (if x < m then x else m) r := rfl
    rw [e]
    split at a <;> rename_i hx
    · simp only [hx, if_true] at b c ⊢
      refine ⟨by omega, fun y hy => ?_, ?_⟩
      · rcases List.mem_cons.mp hy with z | hy
        · rw [z]; exact a
        · exact b y hy
      · rcases c with c | c
        · exact .inr (by rw [c]; exact List.mem_cons_self)
        · exact .inr (List.mem_cons_of_mem _ c)
    · simp only [hx, if_false] at b c ⊢
      refine ⟨a, fun y hy => ?_, ?_⟩
      · rcases List.mem_cons.mp hy with z | hy
        · rw [z]; omega
        · exact b y hy
      · rcases c with c | c
        · exact .inl c
        · exact .inr (List.mem_cons_of_mem _ c)
end QM

/-! QM4b: built-in functions, methods of built-in types, isinstance -/
namespace QM
open PySem L2 PyProof.Rows
def rB (W : Nm) (sem : List V → Hh → Res V) : List V → Hp → VK → Prop := fun xs H Q => ∃ am vs h, RVs am vs xs ∧ Sim W am h H ∧ Ok1 W am (sem vs h) Q
def Bi.name : Bi → Str
  | .len => "len" | .abs => "abs" | .max => "max" | .min => "min" | .int => "int" | .str => "str" | .divmod => "divmod" | .list => "list" | .tuple => "tuple" | .sum => "sum" | .any => "any" | .sorted => "sorted" | .dict => "dict"
def Bi.val : Bi → Value
  | .len => .builtin "len" | .abs => .builtin "abs" | .max => .builtin "max" | .min => .builtin "min" | .int => .type "int" | .str => .type "str" | .divmod => .builtin "divmod" | .list => .type "list" | .tuple => .type "tuple"
  | .sum => .builtin "sum" | .any => .builtin "any" | .sorted => .builtin "sorted" | .dict => .type "dict"
theorem bi_boot (f : Bi) : bootBuiltins f.name = some f.val := by cases f <;> decide +kernel
section
variable {X : Cx} {W : Nm} {am : List Addr} {h : Hh} {H : Hp} {Q : VK}
/-- a new cell at the end of a good run -/
theorem Ok1.new (S : Sim W am h H) {c : Cell} (P : Ok1 W am (.ok (.ref h.length) (h ++ [c])) Q) {p : Addr} {o : HO} (hp : H p = none) (rc : RC W (am ++ [p]) (upd H p o) p c) : Q (.ref p) (upd H p o) := by
  refine P _ _ _ (Pf.snoc am p) (S.push hp rc) ⟨p, ?_, rfl⟩
  rw [← S.len]
  simp
theorem Ok1.lst (S : Sim W am h H) {xs ys : List V} (r : RVs am xs ys) (P : Ok1 W am (.ok (.ref h.length) (h ++ [.lst xs])) Q) {p : Addr} (hp : H p = none) : Q (.ref p) (upd H p (.lst ys)) :=
  P.new S hp ⟨ys, RVs.mono (Pf.snoc _ _) r, upd_same⟩
theorem Ok1.tupl (S : Sim W am h H) {xs ys : List V} (r : RVs am xs ys) (P : Ok1 W am (.ok (.ref h.length) (h ++ [.tup xs])) Q) {p : Addr} (hp : H p = none) : Q (.ref p) (upd H p (.tup ys)) :=
  P.new S hp ⟨ys, RVs.mono (Pf.snoc _ _) r, .of upd_same⟩
theorem call_lenA (hc : X.calm = true) : CallR X (.builtin "len") (fun xs H Q => (∃ x : Str, xs = [V.str x] ∧ x.length ≤ sizeLine ∧ Q (.int x.length) H) ∨ (∃ p ys, xs = [V.ref p] ∧ (SqL X.K H p ys ∨ SqT X.K H p ys) ∧ Q (.int ys.length) H) ∨
    ∃ p kvs, xs = [V.ref p] ∧ Rd H p (.dK kvs) ∧ Q (.int kvs.length) H) := by
  intro pins s σ H xs us Q I r h
  rcases h with ⟨x, e, hl, q⟩ | ⟨p, ys, e, hq, q⟩ | ⟨p, kvs, e, hd, q⟩
  · exact call_len_str pins s σ H xs us Q I r ⟨x, e, hl, q⟩
  · exact call_len_seq pins s σ H xs us Q I r ⟨p, ys, e, hq, q⟩
  · subst e
    obtain ⟨u, rfl, ru⟩ := r.one
    cases ru
    exact d_len I hd fun t s' I' => ⟨.int kvs.length, H, I', ⟨t, rfl⟩, q⟩
theorem len_ok (hK : X.K = W.K) {v w : V} (r : RV am v w) (S : Sim W am h H) (P : Ok1 W am (bLen v h) Q) :
    (∃ x : Str, [w] = [V.str x] ∧ x.length ≤ sizeLine ∧ Q (.int x.length) H) ∨ (∃ p ys, [w] = [V.ref p] ∧ (SqL X.K H p ys ∨ SqT X.K H p ys) ∧ Q (.int ys.length) H) ∨ ∃ p kvs, [w] = [V.ref p] ∧ Rd H p (.dK kvs) ∧ Q (.int kvs.length) H := by
  cases v with
  | str y =>
    cases r
    unfold bLen at P
    dsimp only at P
    by_cases hl : y.length ≤ LINE
    · rw [if_pos hl] at P
      exact .inl ⟨y, rfl, by rw [← line_eq]; exact hl, Ok1.at P S rfl⟩
    · rw [if_neg hl] at P
      exact P.elim
  | ref k =>
    unfold bLen at P
    dsimp only at P
    cases hx : seqAt h (V.ref k) with
    | none =>
      rw [hx] at P
      dsimp only at P
      cases hd : dctAt h (V.ref k) with
      | none => rw [hd] at P; exact P.elim
      | some kvs =>
        rw [hd] at P
        obtain ⟨p, ls, rfl, rd, rk⟩ := S.dct r hd
        refine .inr (.inr ⟨p, ls, rfl, rd, ?_⟩)
        rw [← RK.len rk]
        exact Ok1.at P S rfl
    | some xs =>
      rw [hx] at P
      obtain ⟨p, ys, rfl, q, rs⟩ := S.seq r hx
      refine .inr (.inl ⟨p, ys, rfl, by rw [hK]; exact q, ?_⟩)
      rw [← Paired.len rs]
      exact Ok1.at P S rfl
  | _ => exact (show False from P).elim
theorem one_arg {sem : List V → Hh → Res V} {xs : List V} (n0 : ∀ h, sem [] h = .bad) (n2 : ∀ a b r h, sem (a :: b :: r) h = .bad) (q : rB W sem xs H Q) : ∃ am v w h, xs = [w] ∧ RV am v w ∧ Sim W am h H ∧ Ok1 W am (sem [v] h) Q := by
  obtain ⟨am, vs, h, rs, S, P⟩ := q
  cases rs with
  | nil => rw [n0] at P; exact P.elim
  | cons r1 t =>
    cases t with
    | nil => exact ⟨am, _, _, h, rfl, r1, S, P⟩
    | cons _ _ => rw [n2] at P; exact P.elim
theorem RVs.strs {ss : List Str} {ys : List V} (r : RVs am (ss.map V.str) ys) : ys = ss.map V.str := flats_of r (flat_map_str ss)
theorem RVs.ints {ss : List Int} {ys : List V} (r : RVs am (ss.map V.int) ys) : ys = ss.map V.int := flats_of r (flat_map_int ss)
theorem RVs.bls {ss : List Bool} {ys : List V} (r : RVs am (ss.map V.bl) ys) : ys = ss.map V.bl := flats_of r (flat_map_bl ss)
theorem kV_rel (k : Key) : RV am (kV k) (kV k) := by cases k <;> rfl
theorem keys_rel {kvs ls : List (Key × V)} (r : RK am kvs ls) : RVs am (kvs.map fun kv => kV kv.1) (ls.map fun kv => kV kv.1) := by
  induction r with
  | nil => exact .nil
  | cons a t ih =>
    rw [List.map_cons, List.map_cons]
    refine .cons ?_ ih
    rw [a.1]
    exact kV_rel _
theorem keys_strs : ∀ {kvs : List (Key × V)} {ss : List Str}, strsOf (kvs.map fun kv => kV kv.1) = some ss → kvs.map (·.1) = ss.map Sum.inr
  | [], _, h => by cases h; rfl
  | (k, v) :: r, ss, h => by
    rw [List.map_cons] at h
    cases k with
    | inl i => cases h
    | inr x =>
      have h : (strsOf (r.map fun kv => kV kv.1)).map (x :: ·) = some ss := h
      cases e : strsOf (r.map fun kv => kV kv.1) with
      | none => rw [e] at h; cases h
      | some q =>
        rw [e] at h
        cases h
        rw [List.map_cons, List.map_cons, keys_strs e]
theorem bi_ok (hK : X.K = W.K) (hc : X.calm = true) (f : Bi) : CallR X f.val (rB W (bi f)) := by
  intro pins s σ H xs us Q I r q
  cases f with
  | len =>
    obtain ⟨am, v, w, h, rfl, r1, S, P⟩ := one_arg (fun _ => rfl) (fun _ _ _ _ => rfl) q
    exact call_lenA hc pins s σ H _ us Q I r (len_ok hK r1 S P)
  | abs =>
    obtain ⟨am, v, w, h, rfl, r1, S, P⟩ := one_arg (fun _ => rfl) (fun a _ _ _ => by cases a <;> rfl) q
    cases v with
    | int i => cases r1; exact call_abs pins s σ H _ us Q I r ⟨i, rfl, Ok1.at P S rfl⟩
    | _ => exact P.elim
  | int =>
    obtain ⟨am, v, w, h, rfl, r1, S, P⟩ := one_arg (fun _ => rfl) (fun a _ _ _ => by cases a <;> rfl) q
    cases v with
    | int i => cases r1; exact call_int1 pins s σ H _ us Q I r (.inl ⟨i, rfl, Ok1.at P S rfl⟩)
    | bl c => cases r1; exact call_int1 pins s σ H _ us Q I r (.inr ⟨c, rfl, Ok1.at P S rfl⟩)
    | str x =>
      cases r1
      have P : Ok1 W am (match PySem.intText? x with
        | some n => if x.length ≤ 640 then .ok (.int n) h else .bad
        | none => .bad) Q := P
      cases e : PySem.intText? x with
      | none => rw [e] at P; exact P.elim
      | some n =>
        rw [e] at P
        dsimp only at P
        by_cases hl : x.length ≤ 640
        · rw [if_pos hl] at P
          exact call_int_str pins s σ H _ us Q I r ⟨x, n, rfl, e, hl, Ok1.at P S rfl⟩
        · rw [if_neg hl] at P
          exact P.elim
    | _ => exact P.elim
  | str =>
    obtain ⟨am, v, w, h, rfl, r1, S, P⟩ := one_arg (fun _ => rfl) (fun _ _ _ _ => rfl) q
    have P : Ok1 W am (bStr v h) Q := P
    unfold bStr at P
    cases v with
    | int i =>
      cases r1
      dsimp only at P
      by_cases hl : i.natAbs.log2 < 1920
      · rw [if_pos hl] at P
        exact call_str_int pins s σ H _ us Q I r ⟨i, rfl, hl, Ok1.at P S rfl⟩
      · rw [if_neg hl] at P
        exact P.elim
    | _ => exact P.elim
  | divmod =>
    obtain ⟨am, vs, h, rs, S, P⟩ := q
    cases rs with
    | nil => exact P.elim
    | @cons a b l1 l2 r1 t =>
      cases t with
      | nil => exact P.elim
      | @cons a2 b2 l3 l4 r2 t2 =>
        cases t2 with
        | cons _ _ => exact P.elim
        | nil =>
          have P : Ok1 W am (bDivmod a a2 h) Q := P
          unfold bDivmod at P
          cases a with
          | int i =>
            cases a2 with
            | int j =>
              cases r1; cases r2
              dsimp only at P
              by_cases hl : 0 < j ∧ j.natAbs.log2 < 9000
              · rw [if_pos hl] at P
                exact call_divmodW pins s σ H _ us Q I r ⟨i, j, rfl, ⟨hl.1, PyProof.noPylong_of_log2 hl.2⟩, fun p hp => P.tupl S (rvs_flat (xs := [.int (i / j), .int (i % j)]) rfl) hp⟩
              · rw [if_neg hl] at P
                exact P.elim
            | _ => exact P.elim
          | _ => exact P.elim
  | list =>
    obtain ⟨am, v, w, h, rfl, r1, S, P⟩ := one_arg (fun _ => rfl) (fun _ _ _ _ => rfl) q
    have P : Ok1 W am (bList v h) Q := P
    unfold bList at P
    cases hx : seqAt h v with
    | some ys =>
      rw [hx] at P
      obtain ⟨p, zs, rfl, q, rs⟩ := S.seq r1 hx
      exact call_list_of pins s σ H _ us Q I r ⟨p, zs, rfl, by rw [hK]; exact q, fun l hl => P.lst S rs hl⟩
    | none =>
      rw [hx] at P
      dsimp only at P
      cases hd : dctAt h v with
      | none => rw [hd] at P; exact P.elim
      | some kvs =>
        rw [hd] at P
        obtain ⟨p, ls, rfl, rd, rk⟩ := S.dct r1 hd
        exact call_listD hc pins s σ H _ us Q I r ⟨p, ls, rfl, rd, fun l hl => P.lst S (keys_rel rk) hl⟩
  | tuple =>
    obtain ⟨am, v, w, h, rfl, r1, S, P⟩ := one_arg (fun _ => rfl) (fun _ _ _ _ => rfl) q
    have P : Ok1 W am (bTuple v h) Q := P
    unfold bTuple at P
    cases hx : lstAt h v with
    | some ys =>
      rw [hx] at P
      obtain ⟨p, zs, rfl, q, rs⟩ := S.lst r1 hx
      exact call_tuple_of pins s σ H _ us Q I r ⟨p, zs, rfl, .inl ⟨by rw [hK]; exact q, fun l hl => P.tupl S rs hl⟩⟩
    | none =>
      rw [hx] at P
      dsimp only at P
      cases hd : tupAt h v with
      | none => rw [hd] at P; exact P.elim
      | some ys =>
        rw [hd] at P
        obtain ⟨p, zs, rfl, q, rs⟩ := S.tup r1 hd
        exact call_tuple_of pins s σ H _ us Q I r ⟨p, zs, rfl, .inr ⟨by rw [hK]; exact q, Ok1.at P S r1⟩⟩
  | sum =>
    obtain ⟨am, v, w, h, rfl, r1, S, P⟩ := one_arg (fun _ => rfl) (fun _ _ _ _ => rfl) q
    have P : Ok1 W am (bSum v h) Q := P
    unfold bSum at P
    cases hx : lstAt h v with
    | none => rw [hx] at P; exact P.elim
    | some ys =>
      rw [hx] at P
      dsimp only at P
      cases hi : intsOf ys with
      | none => rw [hi] at P; exact P.elim
      | some ns =>
        rw [hi] at P
        obtain ⟨p, zs, rfl, q, rs⟩ := S.lst r1 hx
        rw [intsOf_eq hi] at rs
        have e := rs.ints
        subst e
        exact cr_sum hc pins s σ H _ us Q I r ⟨p, ns, rfl, by rw [hK]; exact q, Ok1.at P S rfl⟩
  | any =>
    obtain ⟨am, v, w, h, rfl, r1, S, P⟩ := one_arg (fun _ => rfl) (fun _ _ _ _ => rfl) q
    have P : Ok1 W am (bAny v h) Q := P
    unfold bAny at P
    cases hx : lstAt h v with
    | none => rw [hx] at P; exact P.elim
    | some ys =>
      rw [hx] at P
      dsimp only at P
      cases hi : blsOf ys with
      | none => rw [hi] at P; exact P.elim
      | some ns =>
        rw [hi] at P
        obtain ⟨p, zs, rfl, q, rs⟩ := S.lst r1 hx
        rw [blsOf_eq hi] at rs
        have e := rs.bls
        subst e
        exact cr_any hc pins s σ H _ us Q I r ⟨p, ns, rfl, by rw [hK]; exact q, Ok1.at P S rfl⟩
  | dict =>
    obtain ⟨am, v, w, h, rfl, r1, S, P⟩ := one_arg (fun _ => rfl) (fun _ _ _ _ => rfl) q
    have P : Ok1 W am (bDict v h) Q := P
    unfold bDict at P
    cases hd : dctAt h v with
    | none => rw [hd] at P; exact P.elim
    | some kvs =>
      rw [hd] at P
      obtain ⟨p, ls, rfl, rd, rk⟩ := S.dct r1 hd
      exact call_dictD pins s σ H _ us Q I r ⟨p, ls, rfl, rd, fun l hl => P.new S hl ⟨ls, RK.mono (Pf.snoc _ _) rk, upd_same⟩⟩
  | sorted =>
    obtain ⟨am, v, w, h, rfl, r1, S, P⟩ := one_arg (fun _ => rfl) (fun _ _ _ _ => rfl) q
    have P : Ok1 W am (bSorted v h) Q := P
    unfold bSorted at P
    cases hx : lstAt h v with
    | some ys =>
      rw [hx] at P
      dsimp only at P
      unfold bSort at P
      obtain ⟨p, zs, rfl, q, rs⟩ := S.lst r1 hx
      cases hs : strsOf ys with
      | some ss =>
        rw [hs] at P
        dsimp only at P
        by_cases hl : ss.length < 64
        · rw [if_pos hl] at P
          rw [strsOf_eq hs] at rs
          have e := rs.strs
          subst e
          refine cr_sortedS pins s σ H _ us Q I r ⟨p, ss, rfl, by rw [hK]; exact q, hl, fun ys l h1 h2 h3 => ?_⟩
          rw [sortS_one h1 h2]
          exact P.lst S (rvs_flat (flat_map_str _)) h3
        · rw [if_neg hl] at P
          exact P.elim
      | none =>
        rw [hs] at P
        dsimp only at P
        cases hi : intsOf ys with
        | none => rw [hi] at P; exact P.elim
        | some ns =>
          rw [hi] at P
          rw [intsOf_eq hi] at rs
          have e := rs.ints
          subst e
          refine cr_sortedI pins s σ H _ us Q I r ⟨p, ns, rfl, by rw [hK]; exact q, fun ys l h1 h2 h3 => ?_⟩
          rw [sortI_one h1 h2]
          exact P.lst S (rvs_flat (flat_map_int _)) h3
    | none =>
      rw [hx] at P
      dsimp only at P
      cases hd : dctAt h v with
      | none => rw [hd] at P; exact P.elim
      | some kvs =>
        rw [hd] at P
        dsimp only at P
        obtain ⟨p, ls, rfl, rd, rk⟩ := S.dct r1 hd
        cases hs : strsOf (kvs.map fun kv => kV kv.1) with
        | some ss =>
          rw [hs] at P
          dsimp only at P
          by_cases hl : ss.length < 64
          · rw [if_pos hl] at P
            refine call_sortedD hc pins s σ H _ us Q I r ⟨p, ls, ss, rfl, rd, (RK.keys rk).symm.trans (keys_strs hs), hl, fun ys l h1 h2 h3 => ?_⟩
            rw [sortS_one h1 h2]
            exact P.lst S (rvs_flat (flat_map_str _)) h3
          · rw [if_neg hl] at P
            exact P.elim
        | none =>
          rw [hs] at P
          exact P.elim
  | max =>
    obtain ⟨am, vs, h, rs, S, P⟩ := q
    cases rs with
    | nil => exact P.elim
    | @cons a b l1 l2 r1 t =>
      cases t with
      | nil =>
        have P : Ok1 W am (bMaxL a h) Q := by cases a <;> exact P
        unfold bMaxL at P
        cases hx : lstAt h a with
        | none => rw [hx] at P; exact P.elim
        | some ys =>
          rw [hx] at P
          dsimp only at P
          cases hi : intsOf ys with
          | none => rw [hi] at P; exact P.elim
          | some ns =>
            rw [hi] at P
            cases ns with
            | nil => exact P.elim
            | cons n ns =>
              obtain ⟨p, zs, rfl, q, rs⟩ := S.lst r1 hx
              rw [intsOf_eq hi] at rs
              have e := rs.ints
              subst e
              refine cr_max hc pins s σ H _ us Q I r ⟨p, n :: ns, rfl, by rw [hK]; exact q, Nat.succ_pos _, fun m h1 h2 => ?_⟩
              obtain ⟨a1, a2, a3⟩ := maxI_ge ns n
              have e : m = maxI n ns := by
                have k1 : maxI n ns ∈ n :: ns := by
                  rcases a3 with a3 | a3
                  · rw [a3]; exact List.mem_cons_self
                  · exact List.mem_cons_of_mem _ a3
                have k2 := h2 _ k1
                have k3 : m ≤ maxI n ns := by
                  rcases List.mem_cons.mp h1 with e | h1
                  · rw [e]; exact a1
                  · exact a2 m h1
                omega
              rw [e]
              exact Ok1.at P S rfl
      | @cons a2 b2 l3 l4 r2 t2 =>
        cases t2 with
        | nil =>
          cases a with
          | int i =>
            cases a2 with
            | int j => cases r1; cases r2; exact call_max2 hc pins s σ H _ us Q I r ⟨i, j, rfl, Ok1.at P S rfl⟩
            | _ => exact P.elim
          | _ => cases a2 <;> exact P.elim
        | cons _ _ => cases a <;> cases a2 <;> exact P.elim
  | min =>
    obtain ⟨am, vs, h, rs, S, P⟩ := q
    cases rs with
    | nil => exact P.elim
    | @cons a b l1 l2 r1 t =>
      cases t with
      | nil =>
        have P : Ok1 W am (bMinL a h) Q := by cases a <;> exact P
        unfold bMinL at P
        cases hx : lstAt h a with
        | none => rw [hx] at P; exact P.elim
        | some ys =>
          rw [hx] at P
          dsimp only at P
          cases hi : intsOf ys with
          | none => rw [hi] at P; exact P.elim
          | some ns =>
            rw [hi] at P
            cases ns with
            | nil => exact P.elim
            | cons n ns =>
              obtain ⟨p, zs, rfl, q, rs⟩ := S.lst r1 hx
              rw [intsOf_eq hi] at rs
              have e := rs.ints
              subst e
              refine cr_min hc pins s σ H _ us Q I r ⟨p, n :: ns, rfl, by rw [hK]; exact q, Nat.succ_pos _, fun m h1 h2 => ?_⟩
              obtain ⟨a1, a2, a3⟩ := minI_le ns n
              have e : m = minI n ns := by
                have k1 : minI n ns ∈ n :: ns := by
                  rcases a3 with a3 | a3
                  · rw [a3]; exact List.mem_cons_self
                  · exact List.mem_cons_of_mem _ a3
                have k2 := h2 _ k1
                have k3 : minI n ns ≤ m := by
                  rcases List.mem_cons.mp h1 with e | h1
                  · rw [e]; exact a1
                  · exact a2 m h1
                omega
              rw [e]
              exact Ok1.at P S rfl
      | @cons a2 b2 l3 l4 r2 t2 =>
        cases t2 with
        | nil =>
          cases a with
          | int i =>
            cases a2 with
            | int j => cases r1; cases r2; exact call_min2 hc pins s σ H _ us Q I r ⟨i, j, rfl, Ok1.at P S rfl⟩
            | _ => exact P.elim
          | _ => cases a2 <;> exact P.elim
        | cons _ _ => cases a <;> cases a2 <;> exact P.elim
end
theorem bi_nx (f : Bi) {vs : List V} {h h' : Hh} {c : Nat} {d : Option Nat} : bi f vs h ≠ .exc c d h' := by
  intro e
  unfold bi at e
  split at e
  all_goals
    first
    | (cases e; done)
    | (unfold bLen at e; split at e <;> (try split at e) <;> (try split at e) <;> cases e; done)
    | (unfold bMaxL at e; split at e <;> (try split at e) <;> cases e; done)
    | (unfold bMinL at e; split at e <;> (try split at e) <;> cases e; done)
    | (unfold bStr at e; split at e <;> (try split at e) <;> cases e; done)
    | (unfold bDivmod at e; split at e <;> (try split at e) <;> cases e; done)
    | (unfold bList at e; split at e <;> (try split at e) <;> cases e; done)
    | (unfold bTuple at e; split at e <;> (try split at e) <;> cases e; done)
    | (unfold bSum at e; split at e <;> (try split at e) <;> cases e; done)
    | (unfold bAny at e; split at e <;> (try split at e) <;> cases e; done)
    | (unfold bSorted bSort at e; split at e <;> (try split at e) <;> (try split at e) <;> (try split at e) <;> cases e; done)
    | (unfold bDict at e; split at e <;> cases e; done)
    | (split at e <;> (try split at e) <;> cases e; done)
theorem rB_of {W : Nm} {wx : WX} {sem : List V → Hh → Res V} (nx : ∀ vs h c d h', sem vs h ≠ .exc c d h') {am : List Addr} {vs xs : List V} {h : Hh} {H : Hp} {σ : L2.St} {Q : VK} (r : RVs am vs xs) (S : Sim W am h H) (P : Post W wx RV am σ (sem vs h) Q) : rB W sem xs H Q := by
  refine ⟨am, vs, h, r, S, ?_⟩
  cases e : sem vs h with
  | ok v h2 => rw [e] at P; exact P
  | exc c d h2 => exact absurd e (nx _ _ _ _ _)
  | bad => rw [e] at P; exact P
/-- the type of a value of ours -/
def Kd.ty : Kd → String
  | .non => "NoneType" | .bl => "bool" | .int => "int" | .str => "str" | .list => "list" | .tuple => "tuple" | .dict => "dict" | .own _ => ""
theorem kd_ok {W : Nm} {am : List Addr} {h : Hh} {H : Hp} {v w : V} {k : Kd} (S : Sim W am h H) (r : RV am v w) (e : kd h v = some k) (no : ∀ C, k ≠ .own C) : TyX W.K H w (.type k.ty) := by
  cases v with
  | non => cases r; cases e; exact .base .non
  | bl b => cases r; cases e; exact .base (.bl b)
  | int i => cases r; cases e; exact .base (.int i)
  | str x => cases r; cases e; exact .base (.str x)
  | ref i =>
    obtain ⟨a, ha, rfl⟩ := r
    unfold kd at e
    dsimp only at e
    split at e
    · rename_i xs hc
      cases e
      obtain ⟨ys, _, q⟩ := S.cell i _ a hc ha
      exact .base (.lst q)
    · rename_i xs hc
      cases e
      obtain ⟨ys, _, q⟩ := S.cell i _ a hc ha
      rcases q with (q | ⟨o, q⟩) | ⟨o, its, n, q, c, _⟩
      · exact .base (.lst q)
      · exact .base (.frz q)
      · exact .kList q c
    · rename_i xs hc
      cases e
      obtain ⟨ys, _, q⟩ := S.cell i _ a hc ha
      rcases q with (q | ⟨o, q⟩) | ⟨o, its, n, q, c, _⟩
      · exact .base (.tup q)
      · exact .fTuple q
      · exact .kTuple q c
    · rename_i xs hc
      cases e
      obtain ⟨ys, _, q⟩ := S.cell i _ a hc ha
      exact .base (.dK q)
    · rename_i xs hc
      cases e
      obtain ⟨ys, o, _, q⟩ := S.cell i _ a hc ha
      exact .fDict q
    · cases e
      exact absurd rfl (no _)
    · cases e
  | _ => cases e
theorem kd_own {W : Nm} {am : List Addr} {h : Hh} {H : Hp} {v w : V} {C : Nat} (S : Sim W am h H) (r : RV am v w) (e : kd h v = some (.own C)) : ∃ i fs a dx ys, v = .ref i ∧ h[i]? = some (.ins C fs) ∧ am[i]? = some a ∧ w = .ref a ∧ W.okc C ∧ H a = some (.ins (W.ca C) dx ys) ∧ Paired (fun p q => W.fn p.1 = q.1 ∧ RV am p.2 q.2) fs ys := by
  cases v with
  | ref i =>
    obtain ⟨a, ha, rfl⟩ := r
    unfold kd at e
    dsimp only at e
    split at e
    all_goals try cases e
    rename_i fs hc
    obtain ⟨dx, ys, q, k, z⟩ := S.cell i _ a hc ha
    exact ⟨i, fs, a, dx, ys, rfl, hc, ha, rfl, k, q, z⟩
  | _ => cases e
theorem kit_kd (k : Kd) (t : Ty) (no : ∀ C, k ≠ .own C) (K : PySem.W.Frag) : PySem.W.kitOne K (.type k.ty) (.type t.name) = some (k.isTy t) := by
  apply kit_ty
  cases k <;> cases t <;> first | decide +kernel | exact absurd rfl (no _)

/-! ### methods of built-in types -/
def Bm.name : Bm → Str
  | .append => "append" | .extend => "extend" | .popEnd => "pop" | .lclear => "clear" | .index => "index" | .get1 => "get" | .get2 => "get" | .dcopy => "copy" | .dpop => "pop" | .dclear => "clear" | .setdefault => "setdefault"
  | .update => "update" | .join => "join" | .split => "split" | .partition => "partition" | .upper => "upper" | .reverse => "reverse"
def Bm.id : Bm → String
  | .append => "list.append" | .extend => "list.extend" | .popEnd => "list.pop" | .lclear => "list.clear" | .index => "list.index" | .get1 => "dict.get" | .get2 => "dict.get" | .dcopy => "dict.copy" | .dpop => "dict.pop" | .dclear => "dict.clear" | .setdefault => "dict.setdefault"
  | .update => "dict.update" | .join => "str.join" | .split => "str.split" | .partition => "str.partition" | .upper => "str.upper" | .reverse => "list.reverse"
def rM (W : Nm) (sem : V → List V → Hh → Res V) : V → List V → Hp → VK → Prop := fun x xs H Q => ∃ am v vs h, RV am v x ∧ RVs am vs xs ∧ Sim W am h H ∧ Ok1 W am (sem v vs h) Q
theorem nz_of {H : Hp} {a : Addr} {v : HO} (h : H a = some v) (hv : ∀ o u, v ≠ .frz o u := by intro _ _ z; cases z) : ∀ o u, H a ≠ some (.frz o u) := fun o u z => hv o u (Option.some.inj (h.symm.trans z))
theorem nk_lst {W : Nm} {am : List Addr} {a : Addr} {xs : List V} : ¬ RCK W am a (.lst xs) := id
theorem nk_dct {W : Nm} {am : List Addr} {a : Addr} {xs : List (Key × V)} : ¬ RCK W am a (.dct xs) := id
theorem nk_ins {W : Nm} {am : List Addr} {a : Addr} {C : Nat} {xs : List (Nat × V)} : ¬ RCK W am a (.ins C xs) := id
theorem nk_fd {W : Nm} {am : List Addr} {a : Addr} {xs : List (Key × V)} : ¬ RCK W am a (.frz (.dct xs)) := id
section
variable {X : Cx} {W : Nm}
theorem Vals.three : ∀ {x y : V} {us : List Value}, Vals [x, y] us → ∃ u v, us = [u, v] ∧ RelV x u ∧ RelV y v
  | _, _, _, .cons r (.cons q .nil) => ⟨_, _, rfl, r, q⟩
theorem valV_relD {am : List Addr} {o u : Option V} {d e : V} (r : RS am o u) (rd : RV am d e) : RV am (o.getD d) (u.getD e) := by
  cases o <;> cases u <;> first | exact rd | exact r | exact r.elim
theorem rvs_dropLast {am : List Addr} : ∀ {xs ys : List V}, RVs am xs ys → RVs am xs.dropLast ys.dropLast
  | _, _, .nil => .nil
  | _, _, .cons _ .nil => .nil
  | _, _, .cons r (.cons q t) => .cons r (rvs_dropLast (.cons q t))
theorem rvs_rev {am : List Addr} : ∀ {xs ys : List V}, RVs am xs ys → RVs am xs.reverse ys.reverse
  | _, _, .nil => .nil
  | _, _, .cons r t => by
    rw [List.reverse_cons, List.reverse_cons]
    exact Paired.app (rvs_rev t) (.cons r .nil)
theorem rvs_drop {am : List Addr} : ∀ {xs ys : List V} (_ : RVs am xs ys) (n : Nat), RVs am (xs.drop n) (ys.drop n)
  | _, _, .nil, n => by cases n <;> exact .nil
  | _, _, .cons r t, 0 => .cons r t
  | _, _, .cons _ t, n + 1 => rvs_drop t n
theorem rvs_take {am : List Addr} : ∀ {xs ys : List V} (_ : RVs am xs ys) (n : Nat), RVs am (xs.take n) (ys.take n)
  | _, _, .nil, n => by cases n <;> exact .nil
  | _, _, .cons _ _, 0 => .nil
  | _, _, .cons r t, n + 1 => .cons r (rvs_take t n)
theorem strs_seq {am : List Addr} {h : Hh} {H : Hp} {v w : V} {xs : List V} {ss : List Str} (S : Sim W am h H) (r : RV am v w) (hx : seqAt h v = some xs) (hs : strsOf xs = some ss) : ∃ p, w = .ref p ∧ (SqL W.K H p (ss.map V.str) ∨ SqT W.K H p (ss.map V.str)) := by
  obtain ⟨p, ys, rfl, q, rs⟩ := S.seq r hx
  rw [strsOf_eq hs] at rs
  have e := rs.strs
  subst e
  exact ⟨p, rfl, q⟩
theorem idxV_spec {y : V} : ∀ {xs : List V} {j : Nat}, idxV y xs = some j → (∃ z, xs[j]? = some z ∧ eqV z y = true) ∧ ∀ (m : Nat) (z' : V), m < j → xs[m]? = some z' → eqV z' y = false
  | [], _, h => by cases h
  | x :: r, j, h => by
    unfold idxV at h
    split at h
    · rename_i e
      cases h
      exact ⟨⟨x, rfl, e⟩, fun m _ hm => absurd hm (Nat.not_lt_zero _)⟩
    · rename_i e
      cases q : idxV y r with
      | none => rw [q] at h; cases h
      | some k =>
        rw [q] at h
        cases h
        obtain ⟨⟨z, a, b⟩, c⟩ := idxV_spec q
        refine ⟨⟨z, by simpa using a, b⟩, fun m z' hm hz => ?_⟩
        cases m with
        | zero =>
          simp at hz
          subst hz
          simpa using e
        | succ m => exact c m z' (Nat.lt_of_succ_lt_succ hm) (by simpa using hz)
theorem bmX_bad {m : Bm} {xs vs : List V} {h : Hh} (hm : m ≠ .index) : bmX m xs vs h = .bad := by cases m <;> first | rfl | exact absurd rfl hm
theorem bmR_bad {m : Bm} {kvs : List (Key × V)} {vs : List V} {h : Hh} (h1 : m.kd ≠ .dict) : bmR m kvs vs h = .bad := by cases m <;> first | rfl | exact absurd rfl h1
/-- the cells that a method of lists is asked of -/
theorem recv_lst {m : Bm} (hm : m.kd = .list) {am : List Addr} {v w : V} {vs : List V} {h : Hh} {H : Hp} {Q : VK} (S : Sim W am h H) (r : RV am v w) (P : Ok1 W am (bm m v vs h) Q) :
    (∃ i a xs ys, v = .ref i ∧ w = .ref a ∧ am[i]? = some a ∧ h[i]? = some (.lst xs) ∧ RVs am xs ys ∧ H a = some (.lst ys) ∧ Ok1 W am (bmL m i xs vs h) Q) ∨ (∃ a xs ys, w = .ref a ∧ RVs am xs ys ∧ SqL W.K H a ys ∧ Ok1 W am (bmX m xs vs h) Q) := by
  cases v with
  | ref i =>
    obtain ⟨a, ha, rfl⟩ := r
    unfold bm at P
    dsimp only at P
    split at P
    · rename_i xs hc
      obtain ⟨ys, rs, q⟩ := S.cell i _ a hc ha
      exact .inl ⟨i, a, xs, ys, rfl, rfl, ha, hc, rs, q, P⟩
    · rename_i xs hc
      obtain ⟨ys, rs, q⟩ := S.cell i _ a hc ha
      exact .inr ⟨a, xs, ys, rfl, rs, q, P⟩
    · exfalso; cases m <;> first | exact P | cases hm
    · exfalso; cases m <;> first | exact P | cases hm
    · exact P.elim
  | str a => exfalso; cases m <;> first | exact P | cases hm
  | _ => exact P.elim
theorem recv_dct {m : Bm} (hm : m.kd = .dict) {am : List Addr} {v w : V} {vs : List V} {h : Hh} {H : Hp} {Q : VK} (S : Sim W am h H) (r : RV am v w) (P : Ok1 W am (bm m v vs h) Q) :
    (∃ i a xs ys, v = .ref i ∧ w = .ref a ∧ am[i]? = some a ∧ h[i]? = some (.dct xs) ∧ RK am xs ys ∧ H a = some (.dK ys) ∧ Ok1 W am (bmD m i xs vs h) Q) ∨ (∃ a xs ys, w = .ref a ∧ RK am xs ys ∧ Rd H a (.dK ys) ∧ Ok1 W am (bmR m xs vs h) Q) := by
  cases v with
  | ref i =>
    obtain ⟨a, ha, rfl⟩ := r
    unfold bm at P
    dsimp only at P
    split at P
    · exfalso; cases m <;> first | exact P | cases hm
    · exfalso; cases m <;> first | exact P | cases hm
    · rename_i xs hc
      obtain ⟨ys, rs, q⟩ := S.cell i _ a hc ha
      exact .inl ⟨i, a, xs, ys, rfl, rfl, ha, hc, rs, q, P⟩
    · rename_i xs hc
      obtain ⟨ys, o, rs, q⟩ := S.cell i _ a hc ha
      exact .inr ⟨a, xs, ys, rfl, rs, .inr ⟨o, q⟩, P⟩
    · exact P.elim
  | str a => exfalso; cases m <;> first | exact P | cases hm
  | _ => exact P.elim
theorem recv_str {m : Bm} (hm : m.kd = .str) {am : List Addr} {v w : V} {vs : List V} {h : Hh} {H : Hp} {Q : VK} (S : Sim W am h H) (r : RV am v w) (P : Ok1 W am (bm m v vs h) Q) : ∃ a, v = .str a ∧ w = .str a ∧ Ok1 W am (bmS m a vs h) Q := by
  cases v with
  | ref i =>
    exfalso
    unfold bm at P
    dsimp only at P
    split at P <;> cases m <;> first | exact P | cases hm
  | str a => cases r; exact ⟨a, rfl, rfl, P⟩
  | _ => exact P.elim
theorem Ok1.put {W : Nm} {am : List Addr} {h : Hh} {H : Hp} {Q : VK} (S : Sim W am h H) {v w : V} {i : Nat} {a : Addr} {c c' : Cell} {o : HO} (P : Ok1 W am (.ok v (h.set i c')) Q) (rv : RV am v w) (hi : h[i]? = some c) (ha : am[i]? = some a) (nk : ¬ RCK W am a c) (rc : RC W am (upd H a o) a c') (nk' : ¬ RCK W am a c') (nz : ∀ o u, H a ≠ some (.frz o u)) : Q w (upd H a o) :=
  P am w _ (Pf.refl _) (S.set hi ha nk rc nk' nz) rv
theorem bm_ok (hK : X.K = W.K) (hu : X.A.units + 64 < cLine) (m : Bm) : MtR X m.id (rM W (bm m)) := by
  intro pins s σ H x xs v us Q I rx rs ⟨am, v', vs, h, r1, r2, S, P⟩
  cases m with
  | append =>
    rcases recv_lst rfl S r1 P with ⟨i, a, zs, ys, rfl, rfl, ha, hi, r3, hH, P⟩ | ⟨_, _, _, _, _, _, P⟩
    · cases r2 with
      | nil => exact P.elim
      | cons r4 t =>
        cases t with
        | cons _ _ => exact P.elim
        | nil =>
          unfold bmL at P
          dsimp only at P
          by_cases hl : zs.length < LINE
          · rw [if_pos hl] at P
            exact mt_append pins s σ H _ _ v us Q I rx rs ⟨a, ys, _, rfl, rfl, hH, by rw [← Paired.len r3, ← line_eq]; exact hl, P.put S rfl hi ha nk_lst ⟨_, Paired.app r3 (.cons r4 .nil), upd_same⟩ nk_lst (nz_of hH)⟩
          · rw [if_neg hl] at P
            exact P.elim
    · exact P.elim
  | extend =>
    rcases recv_lst rfl S r1 P with ⟨i, a, zs, ys, rfl, rfl, ha, hi, r3, hH, P⟩ | ⟨_, _, _, _, _, _, P⟩
    · cases r2 with
      | nil => exact P.elim
      | @cons p q _ _ r4 t =>
        cases t with
        | cons _ _ => cases p <;> exact P.elim
        | nil =>
          cases p with
          | ref j =>
            obtain ⟨b, hb, rfl⟩ := r4
            unfold bmL at P
            dsimp only at P
            split at P
            · rename_i ws hj
              obtain ⟨ws', r5, hB⟩ := S.cell j _ b hj hb
              by_cases hl : zs.length + ws.length ≤ LINE
              · rw [if_pos hl] at P
                exact mt_extend pins s σ H _ _ v us Q I rx rs ⟨a, b, ys, ws', rfl, rfl, hH, hB, by rw [← Paired.len r3, ← Paired.len r5, ← line_eq]; exact hl, P.put S rfl hi ha nk_lst ⟨_, Paired.app r3 r5, upd_same⟩ nk_lst (nz_of hH)⟩
              · rw [if_neg hl] at P
                exact P.elim
            · exact P.elim
          | _ => exact P.elim
    · exact P.elim
  | popEnd =>
    rcases recv_lst rfl S r1 P with ⟨i, a, zs, ys, rfl, rfl, ha, hi, r3, hH, P⟩ | ⟨_, _, _, _, _, _, P⟩
    · cases r2 with
      | cons _ _ => exact P.elim
      | nil =>
        unfold bmL at P
        dsimp only at P
        cases e : zs[zs.length - 1]? with
        | none => rw [e] at P; exact P.elim
        | some y =>
          rw [e] at P
          obtain ⟨y', e2, ry⟩ := Paired.get r3 e
          exact mt_pop pins s σ H _ _ v us Q I rx rs ⟨a, ys, y', rfl, rfl, hH, by rw [← Paired.len r3]; exact e2, P.put S ry hi ha nk_lst ⟨_, rvs_dropLast r3, upd_same⟩ nk_lst (nz_of hH)⟩
    · exact P.elim
  | lclear =>
    rcases recv_lst rfl S r1 P with ⟨i, a, zs, ys, rfl, rfl, ha, hi, r3, hH, P⟩ | ⟨_, _, _, _, _, _, P⟩
    · cases r2 with
      | cons _ _ => exact P.elim
      | nil => exact mt_clear pins s σ H _ _ v us Q I rx rs ⟨a, ys, rfl, rfl, hH, Ok1.put S P rfl hi ha nk_lst ⟨_, .nil, upd_same⟩ nk_lst (nz_of hH)⟩
    · exact P.elim
  | reverse =>
    rcases recv_lst rfl S r1 P with ⟨i, a, zs, ys, rfl, rfl, ha, hi, r3, hH, P⟩ | ⟨_, _, _, _, _, _, P⟩
    · cases r2 with
      | cons _ _ => exact P.elim
      | nil => exact mt_reverse pins s σ H _ _ v us Q I rx rs ⟨a, ys, rfl, rfl, hH, Ok1.put S P rfl hi ha nk_lst ⟨_, rvs_rev r3, upd_same⟩ nk_lst (nz_of hH)⟩
    · exact P.elim
  | index =>
    have fin : ∀ {a : Addr} {zs ys : List V}, x = .ref a → RVs am zs ys → SqL W.K H a ys → Ok1 W am (bmX .index zs vs h) Q → wpAny (model X.prog X.w) X.A (call (.builtin (Bm.id .index)) (v :: us)) (EP X pins σ Q) X.xe s := fun {a zs ys} hx r3 hs P => by
      subst hx
      cases r2 with
      | nil => exact P.elim
      | @cons p q _ _ r4 t =>
        cases t with
        | cons _ _ => exact P.elim
        | nil =>
          unfold bmX at P
          dsimp only at P
          by_cases hf : flatV p = true ∧ zs.all flatV = true
          · rw [if_pos hf] at P
            have e1 := flat_of r4 hf.1
            have e2 := flats_of r3 hf.2
            subst e1 e2
            cases e : idxV q ys with
            | none => rw [e] at P; exact P.elim
            | some j =>
              rw [e] at P
              obtain ⟨⟨z, a1, a2⟩, a3⟩ := idxV_spec e
              exact mt_index pins s σ H _ _ v us Q I rx rs ⟨a, ys, q, j, z, rfl, rfl, by rw [hK]; exact hs, hf.1, hf.2, a1, a2, a3, Ok1.at P S rfl⟩
          · rw [if_neg hf] at P
            exact P.elim
    rcases recv_lst rfl S r1 P with ⟨i, a, zs, ys, rfl, hx, ha, hi, r3, hH, P⟩ | ⟨a, zs, ys, hx, r3, hs, P⟩
    · exact fin hx r3 (.of hH) P
    · exact fin hx r3 hs P
  | get1 =>
    have fin : ∀ {a : Addr} {zs ys : List (Key × V)}, x = .ref a → RK am zs ys → Rd H a (.dK ys) → Ok1 W am (bmR .get1 zs vs h) Q → wpAny (model X.prog X.w) X.A (call (.builtin (Bm.id .get1)) (v :: us)) (EP X pins σ Q) X.xe s := fun {a zs ys} hx r3 hs P => by
      subst hx
      cases rx
      cases r2 with
      | nil => exact P.elim
      | @cons p q _ _ r4 t =>
        cases t with
        | cons _ _ => exact P.elim
        | nil =>
          unfold bmR at P
          dsimp only at P
          cases e : keyOf p with
          | none => rw [e] at P; exact P.elim
          | some k =>
            rw [e] at P
            obtain ⟨u, rfl, ru⟩ := rs.one
            exact d_get1 (o := valV ys k) (by omega) I (.inl ⟨ys, k, hs, keyOf_rel r4 e, rfl⟩) ru fun w' s' I' rw' => ⟨_, H, I', rw', Ok1.at P S (valV_relD (RK.val r3 k) (d := .non) (e := .non) rfl)⟩
    rcases recv_dct rfl S r1 P with ⟨i, a, zs, ys, rfl, hx, ha, hi, r3, hH, P⟩ | ⟨a, zs, ys, hx, r3, hs, P⟩
    · exact fin hx r3 (.inl hH) P
    · exact fin hx r3 hs P
  | get2 =>
    have fin : ∀ {a : Addr} {zs ys : List (Key × V)}, x = .ref a → RK am zs ys → Rd H a (.dK ys) → Ok1 W am (bmR .get2 zs vs h) Q → wpAny (model X.prog X.w) X.A (call (.builtin (Bm.id .get2)) (v :: us)) (EP X pins σ Q) X.xe s := fun {a zs ys} hx r3 hs P => by
      subst hx
      cases rx
      cases r2 with
      | nil => exact P.elim
      | @cons p q _ _ r4 t =>
        cases t with
        | nil => exact P.elim
        | @cons p2 q2 _ _ r5 t =>
        cases t with
        | cons _ _ => exact P.elim
        | nil =>
          unfold bmR at P
          dsimp only at P
          cases e : keyOf p with
          | none => rw [e] at P; exact P.elim
          | some k =>
            rw [e] at P
            obtain ⟨u, u2, rfl, ru, ru2⟩ := rs.two
            exact d_get2 (o := valV ys k) (by omega) I (.inl ⟨ys, k, hs, keyOf_rel r4 e, rfl⟩) ru ru2 fun w' s' I' rw' => ⟨_, H, I', rw', Ok1.at P S (valV_relD (RK.val r3 k) r5)⟩
    rcases recv_dct rfl S r1 P with ⟨i, a, zs, ys, rfl, hx, ha, hi, r3, hH, P⟩ | ⟨a, zs, ys, hx, r3, hs, P⟩
    · exact fin hx r3 (.inl hH) P
    · exact fin hx r3 hs P
  | dcopy =>
    have fin : ∀ {a : Addr} {zs ys : List (Key × V)}, x = .ref a → RK am zs ys → Rd H a (.dK ys) → Ok1 W am (bmR .dcopy zs vs h) Q → wpAny (model X.prog X.w) X.A (call (.builtin (Bm.id .dcopy)) (v :: us)) (EP X pins σ Q) X.xe s := fun {a zs ys} hx r3 hs P => by
      subst hx
      cases rx
      cases r2 with
      | cons _ _ => exact P.elim
      | nil =>
        have e := rs.zero
        subst e
        obtain ⟨z, lo, ws, rel, dd⟩ := dk_rd I.hok hs
        have hm : (s.heap.objs.size == sysModules) = false := beq_eq_false_iff_ne.mpr (Nat.ne_of_gt I.big)
        refine call_meetsIn PySem.F.slot_dict_copy dd.typeIs PySem.F.entry_dict_copy (PySem.F.args_dict_copy_1 _) (meets_dict_copy (mixKind X.prog X.w) a lo) ⟨ws, dd, by rw [← rel.length]; exact z, fun h' d' _ old => ?_⟩
        exact ⟨.ref s.heap.objs.size, upd H s.heap.objs.size (.dK ys), I.laid (t' := s.toks) old (Nat.le_refl _) (show ObjOk X.prog X.w _ _ _ (.dK ys) from ⟨z, hm, ws, rel, d'⟩), rfl, Ok1.new S P (I.hok.fresh (Nat.le_refl _)) ⟨ys, RK.mono (Pf.snoc _ _) r3, upd_same⟩⟩
    rcases recv_dct rfl S r1 P with ⟨i, a, zs, ys, rfl, hx, ha, hi, r3, hH, P⟩ | ⟨a, zs, ys, hx, r3, hs, P⟩
    · exact fin hx r3 (.inl hH) P
    · exact fin hx r3 hs P
  | dpop =>
    rcases recv_dct rfl S r1 P with ⟨i, a, zs, ys, rfl, rfl, ha, hi, r3, hH, P⟩ | ⟨_, _, _, _, _, _, P⟩
    · cases r2 with
      | nil => exact P.elim
      | @cons p q _ _ r4 t =>
        cases t with
        | cons _ _ => exact P.elim
        | nil =>
          cases rx
          unfold bmD at P
          dsimp only at P
          cases e : keyOf p with
          | none => rw [e] at P; exact P.elim
          | some k =>
            rw [e] at P
            dsimp only at P
            have e3 := RK.val r3 k
            cases e2 : valV zs k with
            | none => rw [e2] at P; exact P.elim
            | some w =>
              rw [e2] at P e3
              cases e4 : valV ys k with
              | none => rw [e4] at e3; exact e3.elim
              | some w2 =>
                rw [e4] at e3
                obtain ⟨u, rfl, ru⟩ := rs.one
                have ek := keyOf_rel r4 e
                subst ek
                exact d_pop I hH ru e4 (.inl rfl) fun w' s3 I3 rw' => ⟨w2, _, I3, rw', Ok1.put S P e3 hi ha nk_dct ⟨_, RK.drop r3 k, upd_same⟩ nk_dct (nz_of hH)⟩
    · exact P.elim
  | dclear =>
    rcases recv_dct rfl S r1 P with ⟨i, a, zs, ys, rfl, rfl, ha, hi, r3, hH, P⟩ | ⟨_, _, _, _, _, _, P⟩
    · cases r2 with
      | cons _ _ => exact P.elim
      | nil =>
        cases rx
        have e := rs.zero
        subst e
        exact d_clear I hH fun s' I' => ⟨.non, _, I', rfl, Ok1.put S P rfl hi ha nk_dct ⟨_, .nil, upd_same⟩ nk_dct (nz_of hH)⟩
    · exact P.elim
  | setdefault =>
    rcases recv_dct rfl S r1 P with ⟨i, a, zs, ys, rfl, rfl, ha, hi, r3, hH, P⟩ | ⟨_, _, _, _, _, _, P⟩
    · cases r2 with
      | nil => exact P.elim
      | @cons p q _ _ r4 t =>
        cases t with
        | nil => exact P.elim
        | @cons p2 q2 _ _ r5 t =>
        cases t with
        | cons _ _ => exact P.elim
        | nil =>
          cases rx
          unfold bmD at P
          dsimp only at P
          cases e : keyOf p with
          | none => rw [e] at P; exact P.elim
          | some k =>
            rw [e] at P
            dsimp only at P
            by_cases hl : zs.length < LINE
            · rw [if_pos hl] at P
              obtain ⟨u, u2, rfl, ru, ru2⟩ := rs.two
              have ek := keyOf_rel r4 e
              subst ek
              have e3 := RK.val r3 k
              refine d_setd I hH ru ru2 (by rw [← RK.len r3, ← line_eq]; exact hl) (fun w hw w' s4 I4 rw' => ?_) fun hn w' s4 I4 rw' => ?_
              · rw [hw] at e3
                cases e2 : valV zs k with
                | none => rw [e2] at e3; exact e3.elim
                | some w0 =>
                  rw [e2] at P e3
                  exact ⟨w, H, I4, rw', Ok1.at P S e3⟩
              · rw [hn] at e3
                cases e2 : valV zs k with
                | some w0 => rw [e2] at e3; exact e3.elim
                | none =>
                  rw [e2] at P
                  exact ⟨q2, _, I4, rw', Ok1.put S P r5 hi ha nk_dct ⟨_, RK.put r3 k r5, upd_same⟩ nk_dct (nz_of hH)⟩
            · rw [if_neg hl] at P
              exact P.elim
    · exact P.elim
  | update =>
    rcases recv_dct rfl S r1 P with ⟨i, a, zs, ys, rfl, rfl, ha, hi, r3, hH, P⟩ | ⟨_, _, _, _, _, _, P⟩
    · exact P.elim
    · exact P.elim
  | join =>
    obtain ⟨a, rfl, rfl, P⟩ := recv_str rfl S r1 P
    cases r2 with
    | nil => exact P.elim
    | @cons p q _ _ r4 t =>
      cases t with
      | cons _ _ => exact P.elim
      | nil =>
        unfold bmS at P
        dsimp only at P
        cases e : seqAt h p with
        | none => rw [e] at P; exact P.elim
        | some zs =>
          rw [e] at P
          dsimp only at P
          cases e2 : strsOf zs with
          | none => rw [e2] at P; exact P.elim
          | some ss =>
            rw [e2] at P
            dsimp only at P
            by_cases hl : (ss.map Str.length).sum + ss.length * a.length ≤ LINE
            · rw [if_pos hl] at P
              obtain ⟨b, rfl, hq⟩ := strs_seq S r4 e e2
              exact mt_join pins s σ H _ _ v us Q I rx rs ⟨a, b, ss, rfl, rfl, by rw [hK]; exact hq, hl, Ok1.at P S rfl⟩
            · rw [if_neg hl] at P
              exact P.elim
  | split =>
    obtain ⟨a, rfl, rfl, P⟩ := recv_str rfl S r1 P
    cases r2 with
    | nil => exact P.elim
    | @cons p q _ _ r4 t =>
      cases t with
      | cons _ _ => cases p <;> exact P.elim
      | nil =>
        cases p with
        | str b =>
          cases r4
          unfold bmS at P
          dsimp only at P
          by_cases hl : (b.length == 0) = false ∧ a.length + 2 ≤ LINE
          · rw [if_pos hl] at P
            exact mt_split pins s σ H _ _ v us Q I rx rs ⟨a, b, rfl, rfl, hl.1, by rw [← line_eq]; exact hl.2, fun p hp => Ok1.lst S (rvs_flat (flat_map_str _)) P hp⟩
          · rw [if_neg hl] at P
            exact P.elim
        | _ => exact P.elim
  | partition =>
    obtain ⟨a, rfl, rfl, P⟩ := recv_str rfl S r1 P
    cases r2 with
    | nil => exact P.elim
    | @cons p q _ _ r4 t =>
      cases t with
      | cons _ _ => cases p <;> exact P.elim
      | nil =>
        cases p with
        | str b =>
          cases r4
          unfold bmS at P
          dsimp only at P
          by_cases hl : (b.length == 0) = false ∧ a.length ≤ LINE
          · rw [if_pos hl] at P
            exact mt_partition pins s σ H _ _ v us Q I rx rs ⟨a, b, rfl, rfl, hl.1, by rw [← line_eq]; exact hl.2, fun p hp => Ok1.tupl S (rvs_flat rfl) P hp⟩
          · rw [if_neg hl] at P
            exact P.elim
        | _ => exact P.elim
  | upper =>
    obtain ⟨a, rfl, rfl, P⟩ := recv_str rfl S r1 P
    cases r2 with
    | cons _ _ => exact P.elim
    | nil =>
      unfold bmS at P
      dsimp only at P
      by_cases hl : a.length ≤ 5592405
      · rw [if_pos hl] at P
        exact mt_upper pins s σ H _ _ v us Q I rx rs ⟨a, rfl, rfl, hl, Ok1.at P S rfl⟩
      · rw [if_neg hl] at P
        exact P.elim
theorem bmX_nx {m : Bm} {xs vs : List V} {h h' : Hh} {c : Nat} {d : Option Nat} : bmX m xs vs h ≠ .exc c d h' := by
  intro e
  unfold bmX at e
  split at e
  · split at e
    · split at e
      · split at e <;> cases e
      · cases e
    · cases e
  · cases e
theorem bmR_nx {m : Bm} {xs : List (Key × V)} {vs : List V} {h h' : Hh} {c : Nat} {d : Option Nat} : bmR m xs vs h ≠ .exc c d h' := by
  intro e
  unfold bmR at e
  split at e
  · split at e
    · split at e <;> cases e
    · cases e
  · split at e
    · split at e <;> cases e
    · cases e
  · split at e <;> cases e
  · cases e
theorem bm_nx (m : Bm) {v : V} {vs : List V} {h h' : Hh} {c : Nat} {d : Option Nat} : bm m v vs h ≠ .exc c d h' := by
  intro e
  unfold bm at e
  split at e
  · split at e
    · unfold bmL at e
      split at e
      · split at e
        · split at e <;> cases e
        · cases e
      · split at e
        · split at e
          · split at e <;> cases e
          · cases e
        · cases e
      · split at e
        · split at e <;> cases e
        · cases e
      · split at e <;> cases e
      · split at e <;> cases e
      · exact bmX_nx e
    · exact bmX_nx e
    · unfold bmD at e
      split at e
      · split at e
        · split at e
          · split at e <;> cases e
          · cases e
        · cases e
      · split at e <;> cases e
      · split at e
        · split at e
          · split at e
            · split at e <;> cases e
            · cases e
          · cases e
        · cases e
      · exact bmR_nx e
    · exact bmR_nx e
    · cases e
  · unfold bmS at e
    split at e
    · split at e
      · split at e <;> cases e
      · cases e
    · split at e
      · split at e <;> cases e
      · cases e
    · split at e
      · split at e <;> cases e
      · cases e
    · split at e
      · split at e
        · split at e
          · split at e <;> cases e
          · cases e
        · cases e
      · cases e
    · cases e
  · cases e
end
end QM

/-! QM5: the printed expressions come to what the machine says -/
namespace QM
open PySem L2 PyProof.Rows

/-! ### the printed terms against the text -/
structure Blk where
  N : List Str
  sc : Scope
  p : Prog
  gl : List Str
  at_ : List Str
  blt : List Str
  hot : Bool := false
def isLoc (sc : Scope) (x : Str) : Bool := match sc.names.lookup x with
  | some .local => true
  | some .cell => true
  | some .free => true
  | _ => false
def isGl (sc : Scope) (x : Str) : Bool := match sc.names.lookup x with
  | some .globalImplicit => true
  | _ => false
def okName (x : Str) : Bool := !(x == ("__debug__" : Str)) && !(x == ("__classdict__" : Str))
def mC : V → Const → Bool
  | .non, .none => true
  | .bl a, .bool b => a == b
  | .int i, .int j => i == j
  | .str x, .str y => decide (x = y)
  | _, _ => false
/-- a global name that is a built-in's -/
def isBl (B : Blk) (x : Str) : Bool := isGl B.sc x && B.blt.contains x && okName x && !(x == ("__name__" : Str))
/-- a class by its name -/
def isCl (B : Blk) (C : Nat) (exc : Bool) (x : Str) : Bool := isGl B.sc x && okName x && (match B.p.cls[C]? with
  | some cd => decide (cd.name = x) && (cd.exc == exc)
  | none => false)
/-- a function by its name, and how many arguments it takes -/
def isFd (B : Blk) (f : Nat) (x : Str) (n : Nat) : Bool := isGl B.sc x && okName x && (match B.p.fns[f]? with
  | some fd => decide (fd.name = x) && fd.glob && decide (n ≤ fd.np) && decide (fd.np ≤ n + fd.df.length) && decide (fd.df.length ≤ fd.np) && fd.df.all flatV
  | none => false)
/-- no starred one, no slice -/
def okA : PySem.Expr → Bool
  | .Starred _ _ => false
  | .Set _ _ _ => false
  | .Slice _ _ _ _ => false
  | _ => true
/-- nothing that a statement asks about -/
def okX : PySem.Expr → Bool
  | .Starred _ _ => false
  | .Set _ _ _ => false
  | .Slice _ _ _ _ => false
  | .IfExp _ _ _ _ => false
  | .ListComp _ _ _ _ => false
  | .SetComp _ _ _ _ => false
  | .DictComp _ _ _ _ _ => false
  | .Lambda _ _ _ _ => false
  | .NamedExpr _ _ _ => false
  | _ => true
/-- a receiver -/
def okR : PySem.Expr → Bool
  | .Call (.Name _ _) [] [] _ => false
  | _ => true
mutual
def mE (B : Blk) : E → PySem.Expr → Bool
  | .c v, .Constant k _ _ => mC v k
  | .v i, .Name x _ => decide (B.N[i]? = some x) && isLoc B.sc x && okName x
  | .g k, .Name x _ => decide (B.gl[k]? = some x) && isGl B.sc x && okName x
  | .bin o a b, .BinOp x op y _ => decide (arith o = some op) && mE B a x && mE B b y
  | .bin o a b, .Compare x [op] [y] _ => decide (cmpo o = some op) && mE B a x && mE B b y
  | .neg a, .UnaryOp .USub x _ => mE B a x
  | .not a, .UnaryOp .Not x _ => mE B a x
  | .and a b, .BoolOp .And [x, y] _ => mE B a x && mE B b y
  | .and a b, .BoolOp .And (x :: y :: z :: r) p => mE B a x && (match b with
    | .and _ _ => mE B b (.BoolOp .And (y :: z :: r) p)
    | _ => false)
  | .or a b, .BoolOp .Or [x, y] _ => mE B a x && mE B b y
  | .or a b, .BoolOp .Or (x :: y :: z :: r) p => mE B a x && (match b with
    | .or _ _ => mE B b (.BoolOp .Or (y :: z :: r) p)
    | _ => false)
  | .chain o o' a b c, .Compare x [op, op'] [y, z] _ => decide (cmpo o = some op) && decide (cmpo o' = some op') && mE B a x && mE B b y && mE B c z
  | .slice a lo hi, .Subscript x (.Slice l u none _) _ => mE B a x && mO B lo l && mO B hi u
  | .ix a b, .Subscript x y _ => mE B a x && mE B b y && okX y
  | .bi f es, .Call (.Name x _) ys [] _ => (!B.hot) && decide (x = f.name) && isBl B x && (!ys.isEmpty) && mEs B es ys
  | .isTy t a, .Call (.Name x _) [y, .Name T _] [] _ => decide (x = ("isinstance" : Str)) && isBl B x && decide (T = (Str.ofString t.name)) && isBl B T && mE B a y && okA y
  | .lst es, .List ys _ => mEs B es ys
  | .tup es, .Tuple ys _ _ => mEs B es ys
  | .dct es, .Dict ks vs _ => mD B es ks vs && decide (ks.length ≤ 15)
  | .call f es, .Call (.Name x _) ys [] _ => (!B.hot) && isFd B f x ys.length && mEs B es ys
  | .bm m o es, .Call (.Attribute x nm apos) ys [] cpos => (!B.hot) && decide (nm = m.name) && okR x && (apos.endLine == cpos.line) && decide (ys.length < 30) && mE B o x && mEs B es ys
  | .exIs i C, .Call (.Name x _) [.Name e _, .Name T _] [] _ => B.hot && decide (x = ("isinstance" : Str)) && isBl B x && decide (B.N[i]? = some e) && isLoc B.sc e && okName e && isCl B C true T
  | .exTy i, .Call (.Name x _) [.Name e _, .Name T _] [] _ => B.hot && decide (x = ("isinstance" : Str)) && isBl B x && decide (B.N[i]? = some e) && isLoc B.sc e && okName e && decide (T = ("ValueError" : Str)) && isBl B T
  | _, _ => false
def mEs (B : Blk) : List E → List PySem.Expr → Bool
  | [], [] => true
  | e :: es, y :: ys => mE B e y && okA y && mEs B es ys
  | _, _ => false
def mO (B : Blk) : Option E → Option PySem.Expr → Bool
  | none, none => true
  | some e, some y => mE B e y
  | _, _ => false
def mD (B : Blk) : List E → List (Option PySem.Expr) → List PySem.Expr → Bool
  | [], [], [] => true
  | k :: v :: es, some x :: ks, y :: vs => mE B k x && mE B v y && mD B es ks vs
  | _, _, _ => false
end

/-! ### plain lists of arguments -/
theorem star_cons {e : PySem.Expr} {es : List PySem.Expr} {env : PySem.Env} (h : okA e = true) : starEach (e :: es) env = (false, eval e env) :: starEach es env := by
  cases e <;> first | rfl | exact Bool.noConfusion h
theorem star_any {pos : Pos} {env : PySem.Env} : ∀ {es : List PySem.Expr}, (∀ e ∈ es, okA e = true) → (backTo pos (starEach es env)).any (·.1) = false
  | [], _ => rfl
  | e :: es, h => by
    rw [star_cons (h e List.mem_cons_self)]
    have ih := star_any (pos := pos) (env := env) fun x hx => h x (List.mem_cons_of_mem e hx)
    unfold backTo at ih ⊢
    rw [List.map_cons, List.any_cons, ih]
    rfl
theorem star_all {pos : Pos} {env : PySem.Env} : ∀ {es : List PySem.Expr}, (∀ e ∈ es, okA e = true) → (backTo pos (starEach es env)).all (fun x => !x.1) = true
  | [], _ => rfl
  | e :: es, h => by
    rw [star_cons (h e List.mem_cons_self)]
    have ih := star_all (pos := pos) (env := env) fun x hx => h x (List.mem_cons_of_mem e hx)
    unfold backTo at ih ⊢
    rw [List.map_cons, List.all_cons, ih]
    rfl
theorem mEs_ok {B : Blk} : ∀ {es : List E} {ys : List PySem.Expr}, mEs B es ys = true → ∀ y ∈ ys, okA y = true
  | [], [], _, y, hy => absurd hy (by simp)
  | e :: es, y :: ys, h, z, hz => by
    rw [mEs, Bool.and_eq_true, Bool.and_eq_true] at h
    rcases List.mem_cons.mp hz with rfl | hz
    · exact h.1.2
    · exact mEs_ok h.2 z hz
  | [], _ :: _, h, _, _ => Bool.noConfusion h
  | _ :: _, [], h, _, _ => Bool.noConfusion h
theorem mEs_len {B : Blk} : ∀ {es : List E} {ys : List PySem.Expr}, mEs B es ys = true → es.length = ys.length
  | [], [], _ => rfl
  | e :: es, y :: ys, h => by
    rw [mEs, Bool.and_eq_true] at h
    rw [List.length_cons, List.length_cons, mEs_len h.2]
  | [], _ :: _, h => Bool.noConfusion h
  | _ :: _, [], h => Bool.noConfusion h
theorem mE_set {B : Blk} {e : E} {x : List PySem.Expr} {k : Nat} {p : Pos} : mE B e (.Set x k p) = false := by
  cases e <;> first | rfl | simp [mE]
theorem behind_ok {op : CmpOp} {e : PySem.Expr} {B : Blk} {E : E} (h : mE B E e = true) : behindInMarks op e = false := by
  cases e <;> first | rfl | (rw [mE_set] at h; cases h)
theorem plainIx_ok {e : PySem.Expr} (h : okX e = true) : ∀ o i, subscripted e false o i = operate [o, i] (getItem o i) := by
  intro o i
  cases e <;> first | rfl | exact Bool.noConfusion h
theorem attrBase_ok {o : PySem.Expr} {n : Str} {env : Env} {w : Sem Value} (h : okR o = true) : attributeBase o n env w = w := by
  cases o <;> first | rfl | skip
  rename_i f as ks p
  cases f <;> first | rfl | skip
  cases as <;> cases ks <;> first | rfl | exact Bool.noConfusion h

/-! ### what is known of the place where the code stands -/
/-- a callee's promise: it comes to what the machine says -/
def spQ (W : Nm) (G : Cxt) (f n : Nat) : Sp := fun vs H Q E => ∃ am args h, RVs am args vs ∧ Sim W am h H ∧ args.length = n ∧ Post W (fun c d _ H => E c d H) RV am [] (G.call f args h) Q
/-- an error class -/
structure ExcK (K : PySem.W.Frag) (mg : Str → Option Value) (at_ : List Str) (a : Addr) (x : Str) (plain : Bool) : Prop where
  made : plain = true → PySem.W.excIn K a [.type "ValueError", .type "Exception", .type "BaseException", .type "object"] "ValueError.__new__" = true
  gl : mg x = some (.ref a)
  kp : PySem.W.keepIn K (.ref a) = true
  sb : PySem.W.subIn K (.ref a) (.type "BaseException") = some true
  ty : PySem.W.typeIn K (.ref a) = some (.type "type")
  ve : PySem.W.kitOne K (.ref a) (.type "ValueError") = some true
  is : ExcC K a
  xf : XfC K a
  no : ∀ f ∈ at_, PySem.W.findIn K (.ref a) f = some none
/-- what is fixed through the whole program -/
structure Known (K : PySem.W.Frag) (mg : Str → Option Value) (W : Nm) (p : Prog) (gl at_ blt : List Str) : Prop where
  hK : K = W.K
  fn_at : ∀ (k : Nat) (n : Str), at_[k]? = some n → W.fn k = n
  blt : ∀ b ∈ blt, mg b = none
  glo : ∀ (k : Nat) (v : V) (x : Str), p.glo[k]? = some v → gl[k]? = some x → ∃ w u, mg x = some u ∧ RelV w u ∧ (v, w) ∈ W.glo
  fn : ∀ (i : Nat) (fd : FD), p.fns[i]? = some fd → fd.glob = true → mg fd.name = some (.ref (W.fa i))
  exc : ∀ (C : Nat) (cd : CD), p.cls[C]? = some cd → cd.exc = true → ExcK K mg at_ (W.ca C) cd.name cd.ei.isNone
  exm : ∀ (C D : Nat) (cd cd' : CD), p.cls[C]? = some cd → p.cls[D]? = some cd' → cd.exc = true → cd'.exc = true → PySem.W.exmOne K (.ref (W.ca D)) (.ref (W.ca C)) = some (p.sub D C) ∧ PySem.W.kitOne K (.ref (W.ca D)) (.ref (W.ca C)) = some (p.sub D C)
  own : ∀ Cl, W.okc Cl → ∀ (H : Hp) (a dx : Addr) (ys : List (Str × V)), H a = some (.ins (W.ca Cl) dx ys) → ∃ t, TyX K H (.ref a) t ∧ ∀ ty : Ty, PySem.W.kitOne K t (.type ty.name) = some false
structure Callee (X : Cx) (W : Nm) (G : Cxt) (i : Nat) (fd : FD) : Prop where
  ex : ∃ (fdat : FuncData) (k : Nat), PySem.W.keepIn X.K (.ref (W.fa i)) = true ∧ Room k X.A ∧ (∀ m, m ≤ fd.np → fd.np ≤ m + fd.df.length → ∃ ds, Vals (fd.df.drop (m + fd.df.length - fd.np)) ds ∧ Binds X.K fdat (fd.N.take fd.np) ds) ∧
    FnOk X.prog X.w X.K X.mg X.base (L2.CX X.prog X.w) k (W.fa i) fdat (fd.N.take fd.np) (spQ W G i fd.np)
/-- the error that is handled: it stands pinned at a, of class c, its fields at dd -/
def HotAt (X : Cx) (W : Nm) (G : Cxt) (p : Prog) : Prop := ∀ c d j, G.cur = some (c, d, j) → ∃ a oe dd cd, (a, oe) ∈ X.pn ∧ Zc (.ref (W.ca c)) dd oe ∧ (∃ vs, oe.data = .fields vs) ∧ (V.ref j, V.ref a) ∈ W.glo ∧ p.cls[c]? = some cd ∧ cd.exc = true ∧
  match d with
  | none => dd = none
  | some i => ∃ b, dd = some b ∧ (V.ref i, V.ref b) ∈ W.glo
structure Cn (X : Cx) (W : Nm) (G : Cxt) (B : Blk) (wx : WX) : Prop where
  kn : Known X.K X.mg W B.p B.gl B.at_ B.blt
  hN : X.N = B.N
  hs : X.env.scope = B.sc
  hc : B.hot = false → X.calm = true
  nd : X.N.Nodup
  hu : X.A.units + 64 < cLine
  tk : Takes X wx
  fns : B.hot = false → ∀ (i : Nat) (fd : FD), B.p.fns[i]? = some fd → ∀ g z, (∀ p ∈ W.glo, p ∈ g) → Callee X (W.ext g z) G i fd
  gf : G.fill = B.p.fill
  gg : G.glo = fun k => B.p.glo[k]?
  gs : G.sub = B.p.sub
  ht : HotAt X W G B.p
theorem Cn.hK {X : Cx} {W : Nm} {G : Cxt} {B : Blk} {wx : WX} (C : Cn X W G B wx) : X.K = W.K := C.kn.hK
theorem bind_assoc {α β γ : Type} (r : Res α) (k : α → Hh → Res β) (k' : β → Hh → Res γ) : (r.bind k).bind k' = r.bind fun a h => (k a h).bind k' := by
  cases r <;> rfl
theorem cmp_bl {o : Bop} {op : CmpOp} (e : cmpo o = some op) {x y v : V} {h h2 : Hh} (r : bop o x y h = .ok v h2) : ∃ b, v = .bl b := by
  cases o <;> cases e <;> simp only [bop] at r
  · unfold bEq at r
    split at r
    · cases r; exact ⟨_, rfl⟩
    · split at r
      · split at r <;> cases r; exact ⟨_, rfl⟩
      · cases r
  · unfold bEq at r
    split at r
    · cases r; exact ⟨_, rfl⟩
    · split at r
      · split at r <;> cases r; exact ⟨_, rfl⟩
      · cases r
  · unfold bLt at r
    split at r <;> cases r <;> exact ⟨_, rfl⟩
  · unfold bLe at r
    split at r <;> cases r; exact ⟨_, rfl⟩
  · unfold bGt at r
    split at r <;> cases r; exact ⟨_, rfl⟩
  · unfold bGe at r
    split at r <;> cases r; exact ⟨_, rfl⟩
  · unfold bIs at r
    split at r <;> cases r <;> exact ⟨_, rfl⟩
  · unfold bIs at r
    split at r <;> cases r <;> exact ⟨_, rfl⟩
  · unfold bIn at r
    split at r
    · split at r <;> cases r; exact ⟨_, rfl⟩
    · split at r
      · split at r <;> cases r; exact ⟨_, rfl⟩
      · split at r <;> cases r; exact ⟨_, rfl⟩
  · unfold bIn at r
    split at r
    · split at r <;> cases r; exact ⟨_, rfl⟩
    · split at r
      · split at r <;> cases r; exact ⟨_, rfl⟩
      · split at r <;> cases r; exact ⟨_, rfl⟩

section
variable {X : Cx} {W : Nm} {G : Cxt} {B : Blk} {wx : WX}
theorem test_end {am : List Addr} {σ : L2.St} {H : Hp} {h : Hh} {sem : V → V → Hh → Res V} (nx : NX sem) (hb : ∀ x y h v h2, sem x y h = .ok v h2 → ∃ b, v = .bl b) {x y x' y' : V} {Q : Bool → Hp → Prop} (rx : RV am x' x) (ry : RV am y' y) (S : Sim W am h H)
    (P : Post W wx RB am σ ((sem x' y' h).bind tru) Q) : rS W sem x y H fun z H' => ∃ k, z = .bl k ∧ Q k H' := by
  refine ⟨am, x', y', h, rx, ry, S, ?_⟩
  cases e : sem x' y' h with
  | ok v h2 =>
    obtain ⟨b, rfl⟩ := hb _ _ _ _ _ e
    rw [e] at P
    intro am' w H' p S' r
    cases r
    exact ⟨b, rfl, P am' _ H' p S' rfl⟩
  | exc c d h2 => exact absurd e (nx _ _ _ _ _ _)
  | bad => rw [e] at P; exact P

structure OkE (X : Cx) (W : Nm) (G : Cxt) (wx : WX) (E : E) (e : PySem.Expr) : Prop where
  pe : PE X e (tE W wx (evE G E))
  pt : PT X e (tT W wx (evT G E))
  pw : ∀ op vs p, e = .BoolOp op vs p → PW X e (tT W wx (evT G E))

theorem pt_gen {e : PySem.Expr} {sem : Sl → Hh → Res V} (hK : X.K = W.K) (h : PE X e (tE W wx sem)) (he : ∀ whole, isTrue e X.env whole = (do let v ← whole; standAt e.pos; holding [v] (truthy v))) :
    PT X e (tT W wx fun s h => (sem s h).bind tru) := by
  refine PT.imp (pt_truth h he) ?_
  rintro σ H Q ⟨am, s, h, rs, S, P⟩
  exact ⟨am, s, h, rs, S, P.of_bind fun am' v w h' H' pf S' rv P' => tru_end hK S' rv P'⟩
theorem okE_gen {E : E} {e : PySem.Expr} (hK : X.K = W.K) (h : PE X e (tE W wx (evE G E))) (he : ∀ whole, isTrue e X.env whole = (do let v ← whole; standAt e.pos; holding [v] (truthy v))) (nb : ∀ op vs p, e ≠ .BoolOp op vs p) : OkE X W G wx E e :=
  ⟨h, pt_gen hK h he, fun op vs p q => absurd q (nb op vs p)⟩

theorem vis_of (C : Cn X W G B wx) {x : Str} (h : isLoc B.sc x = true) : Vis X.env.scope x := by
  rw [C.hs]
  unfold isLoc at h
  split at h
  · rename_i q; exact .inl q
  · rename_i q; exact .inr (.inl q)
  · rename_i q; exact .inr (.inr q)
  · cases h
theorem gl_of (C : Cn X W G B wx) {x : Str} (h : isGl B.sc x = true) : Gl X x := by
  show X.env.scope.names.lookup x = some .globalImplicit
  rw [C.hs]
  unfold isGl at h
  split at h
  · rename_i q; exact q
  · cases h
theorem okName1 {x : Str} (h : okName x = true) : (x == ("__debug__" : Str)) = false := by
  unfold okName at h
  rw [Bool.and_eq_true] at h
  simpa using h.1
theorem okName2 {x : Str} (h : okName x = true) : (x == ("__classdict__" : Str)) = false := by
  unfold okName at h
  rw [Bool.and_eq_true] at h
  simpa using h.2
theorem bl_of (C : Cn X W G B wx) {x : Str} (h : isBl B x = true) : Gl X x ∧ X.mg x = none ∧ x ≠ "__name__" ∧ (x == ("__debug__" : Str)) = false := by
  unfold isBl at h
  simp only [Bool.and_eq_true] at h
  obtain ⟨⟨⟨h1, h2⟩, h3⟩, h4⟩ := h
  exact ⟨gl_of C h1, C.kn.blt x (by simpa using h2), by simpa using h4, okName1 h3⟩

theorem e_c (C : Cn X W G B wx) {v : V} {k : Const} {j : Nat} {p : Pos} (h : mC v k = true) : OkE X W G wx (.c v) (.Constant k j p) := by
  refine okE_gen C.hK ?_ (fun _ => rfl) (fun _ _ _ => by intro z; cases z)
  have go : ∀ (flat : flatV v = true), PE X (.Constant k j p) (tC v) → PE X (.Constant k j p) (tE W wx (evE G (.c v))) := fun flat h => by
    refine PE.imp h ?_
    rintro σ H Q ⟨am, s, h, rs, S, P⟩
    refine Post.at (w := v) P S ?_
    cases v <;> first | rfl | exact Bool.noConfusion flat
  cases v <;> cases k <;> first | exact Bool.noConfusion h | skip
  · exact go rfl pe_non
  · have e := eq_of_beq h
    subst e
    exact go rfl pe_bl
  · have e := eq_of_beq h
    subst e
    exact go rfl pe_int
  · have e := of_decide_eq_true h
    subst e
    exact go rfl pe_str
theorem e_v (C : Cn X W G B wx) {i : Nat} {x : Str} {p : Pos} (h1 : B.N[i]? = some x) (h2 : isLoc B.sc x = true) (h3 : okName x = true) : OkE X W G wx (.v i) (.Name x p) := by
  refine okE_gen C.hK ?_ (fun _ => rfl) (fun _ _ _ => by intro z; cases z)
  refine PE.imp (pe_var (i := i) (by rw [C.hN]; exact h1) (vis_of C h2) (okName1 h3) (okName2 h3)) ?_
  rintro σ H Q ⟨am, s, h, rs, S, P⟩
  simp only [evE] at P
  split at P
  · rename_i v hv
    obtain ⟨w, hw, r⟩ := Paired.get rs hv
    cases w with
    | none => exact r.elim
    | some w => exact ⟨w, hw, Post.at P S r⟩
  · exact P.elim
/-- two parts, then an operation on the values -/
theorem two_parts {A Bm : Sl → Hh → Res V} {sem : V → V → Hh → Res V} (nx : NX sem) {σ : L2.St} {H : Hp} {Q : VK} (h : tE W wx (fun s h => (A s h).bind fun x h => (Bm s h).bind fun y h => sem x y h) σ H Q) : tOp (rS W sem) (tE W wx A) (tE W wx Bm) σ H Q := by
  obtain ⟨am, s, h, rs, S, P⟩ := h
  refine ⟨am, s, h, rs, S, P.of_bind fun am1 v1 w1 h1 H1 p1 S1 r1 P1 => ?_⟩
  refine ⟨am1, s, h1, RSl.mono p1 rs, S1, P1.of_bind fun am2 v2 w2 h2 H2 p2 S2 r2 P2 => ?_⟩
  exact rS_of nx (RV.mono p2 r1) r2 S2 P2
theorem two_parts_t {A Bm : Sl → Hh → Res V} {sem : V → V → Hh → Res V} (nx : NX sem) (hb : ∀ x y h v h2, sem x y h = .ok v h2 → ∃ b, v = .bl b) {σ : L2.St} {H : Hp} {Q : Bool → Hp → Prop} (h : tT W wx (fun s h => ((A s h).bind fun x h => (Bm s h).bind fun y h => sem x y h).bind tru) σ H Q) :
    tTest (tOp (rS W sem) (tE W wx A) (tE W wx Bm)) σ H Q := by
  obtain ⟨am, s, h, rs, S, P⟩ := h
  dsimp only at P
  rw [bind_assoc] at P
  refine ⟨am, s, h, rs, S, P.of_bind fun am1 v1 w1 h1 H1 p1 S1 r1 P1 => ?_⟩
  rw [bind_assoc] at P1
  refine ⟨am1, s, h1, RSl.mono p1 rs, S1, P1.of_bind fun am2 v2 w2 h2 H2 p2 S2 r2 P2 => ?_⟩
  exact test_end nx hb (RV.mono p2 r1) r2 S2 P2
theorem e_arith (C : Cn X W G B wx) {o : Bop} {op : Operator} {A Bm : E} {a b : PySem.Expr} {p : Pos} (e : arith o = some op) (ha : OkE X W G wx A a) (hb : OkE X W G wx Bm b) : OkE X W G wx (.bin o A Bm) (.BinOp a op b p) := by
  refine okE_gen C.hK ?_ (fun _ => rfl) (fun _ _ _ => by intro z; cases z)
  refine PE.imp (pe_op (arith_ok (W := W) e) ha.pe hb.pe) ?_
  intro σ H Q h
  simp only [evE] at h
  exact two_parts (bop_nx o) h
theorem e_cmp (C : Cn X W G B wx) {o : Bop} {op : CmpOp} {A Bm : E} {a b : PySem.Expr} {p : Pos} (e : cmpo o = some op) (ha : OkE X W G wx A a) (hb : OkE X W G wx Bm b) (ok : mE B Bm b = true) : OkE X W G wx (.bin o A Bm) (.Compare a [op] [b] p) := by
  refine ⟨?_, ?_, fun _ _ _ z => by cases z⟩
  · refine PE.imp (pe_cmpR (cmp_ok C.hK C.hu e) ha.pe hb.pe (behind_ok ok)) ?_
    intro σ H Q h
    simp only [evE] at h
    exact two_parts (bop_nx o) h
  · refine PT.imp (pt_cmpR (cmp_ok C.hK C.hu e) ha.pe hb.pe (behind_ok ok)) ?_
    intro σ H Q h
    unfold evT at h
    simp only [evE] at h
    exact two_parts_t (bop_nx o) (fun _ _ _ _ _ r => cmp_bl e r) h
theorem e_neg (C : Cn X W G B wx) {A : E} {a : PySem.Expr} {p : Pos} (ha : OkE X W G wx A a) : OkE X W G wx (.neg A) (.UnaryOp .USub a p) := by
  refine okE_gen C.hK ?_ (fun _ => rfl) (fun _ _ _ => by intro z; cases z)
  refine PE.imp (pe_un un_neg ha.pe) ?_
  rintro σ H Q ⟨am, s, h, rs, S, P⟩
  simp only [evE] at P
  refine ⟨am, s, h, rs, S, P.of_bind fun am1 v1 w1 h1 H1 p1 S1 r1 P1 => ?_⟩
  cases v1 with
  | int i => cases r1; exact ⟨i, rfl, Post.at P1 S1 rfl⟩
  | _ => exact P1.elim
theorem e_not (C : Cn X W G B wx) {A : E} {a : PySem.Expr} {p : Pos} (ha : OkE X W G wx A a) : OkE X W G wx (.not A) (.UnaryOp .Not a p) := by
  refine ⟨?_, ?_, fun _ _ _ z => by cases z⟩
  · refine PE.imp (pe_notT ha.pe) ?_
    rintro σ H Q ⟨am, s, h, rs, S, P⟩
    simp only [evE] at P
    refine ⟨am, s, h, rs, S, P.of_bind fun am1 v1 w1 h1 H1 p1 S1 r1 P1 => ?_⟩
    cases e : tru v1 h1 with
    | ok b h2 =>
      obtain ⟨rfl, t⟩ := tru_ok' C.hK S1 r1 e
      rw [e] at P1
      exact ⟨b, t, Post.at P1 S1 rfl⟩
    | exc c d h2 => exact absurd e tru_nx
    | bad => rw [e] at P1; exact P1.elim
  · refine PT.imp (pt_not ha.pt) ?_
    rintro σ H Q ⟨am, s, h, rs, S, P⟩
    unfold evT at P
    simp only [evE] at P
    refine ⟨am, s, h, rs, S, ?_⟩
    unfold evT
    rw [bind_assoc] at P
    cases e : evE G A s h with
    | ok v h2 =>
      rw [e] at P
      show Post W wx RB am σ (tru v h2) _
      have P : Post W wx RB am σ (((tru v h2).bind fun b h => Res.ok (V.bl (!b)) h).bind tru) Q := P
      cases e2 : tru v h2 with
      | ok b h3 =>
        rw [e2] at P
        intro am' w H' pf S' r
        cases r
        exact P am' _ H' pf S' rfl
      | exc c d h3 => exact absurd e2 tru_nx
      | bad => rw [e2] at P; exact P
    | exc c d h2 => rw [e] at P; exact P
    | bad => rw [e] at P; exact P
theorem and_v {A Bm : E} {ta tb : TE} {σ : L2.St} {H : Hp} {Q : VK} (h : tE W wx (evE G (.and A Bm)) σ H Q) : tAndV (tE W wx (evE G A)) (tE W wx (evE G Bm)) σ H Q := by
  obtain ⟨am, s, h, rs, S, P⟩ := h
  simp only [evE] at P
  refine ⟨am, s, h, rs, S, P.of_bind fun am1 v1 w1 h1 H1 p1 S1 r1 P1 => ?_⟩
  cases v1 with
  | bl c =>
    cases r1
    refine ⟨c, rfl, ?_⟩
    cases c with
    | true => exact iteT ⟨am1, s, h1, RSl.mono p1 rs, S1, P1⟩
    | false => exact iteF (Post.at P1 S1 rfl)
  | _ => exact P1.elim
theorem or_v {A Bm : E} {ta tb : TE} {σ : L2.St} {H : Hp} {Q : VK} (h : tE W wx (evE G (.or A Bm)) σ H Q) : tOrV (tE W wx (evE G A)) (tE W wx (evE G Bm)) σ H Q := by
  obtain ⟨am, s, h, rs, S, P⟩ := h
  simp only [evE] at P
  refine ⟨am, s, h, rs, S, P.of_bind fun am1 v1 w1 h1 H1 p1 S1 r1 P1 => ?_⟩
  cases v1 with
  | bl c =>
    cases r1
    refine ⟨c, rfl, ?_⟩
    cases c with
    | true => exact iteT (Post.at P1 S1 rfl)
    | false => exact iteF ⟨am1, s, h1, RSl.mono p1 rs, S1, P1⟩
  | _ => exact P1.elim
theorem and_t {A Bm : E} {σ : L2.St} {H : Hp} {Q : Bool → Hp → Prop} (h : tT W wx (evT G (.and A Bm)) σ H Q) : tAnd (tT W wx (evT G A)) (tT W wx (evT G Bm)) σ H Q := by
  obtain ⟨am, s, h, rs, S, P⟩ := h
  unfold evT at P
  simp only [evE] at P
  refine ⟨am, s, h, rs, S, ?_⟩
  unfold evT
  rw [bind_assoc] at P
  cases e : evE G A s h with
  | ok v h2 =>
    rw [e] at P
    cases v with
    | bl c =>
      intro am' w H' pf S' r
      cases r
      cases c with
      | true => exact iteT ⟨am', s, h2, RSl.mono pf rs, S', Post.mono pf P⟩
      | false => exact iteF (P am' _ H' pf S' rfl)
    | _ => exact P.elim
  | exc c d h2 => rw [e] at P; exact P
  | bad => rw [e] at P; exact P
theorem or_t {A Bm : E} {σ : L2.St} {H : Hp} {Q : Bool → Hp → Prop} (h : tT W wx (evT G (.or A Bm)) σ H Q) : tOr (tT W wx (evT G A)) (tT W wx (evT G Bm)) σ H Q := by
  obtain ⟨am, s, h, rs, S, P⟩ := h
  unfold evT at P
  simp only [evE] at P
  refine ⟨am, s, h, rs, S, ?_⟩
  unfold evT
  rw [bind_assoc] at P
  cases e : evE G A s h with
  | ok v h2 =>
    rw [e] at P
    cases v with
    | bl c =>
      intro am' w H' pf S' r
      cases r
      cases c with
      | true => exact iteT (P am' _ H' pf S' rfl)
      | false => exact iteF ⟨am', s, h2, RSl.mono pf rs, S', Post.mono pf P⟩
    | _ => exact P.elim
  | exc c d h2 => rw [e] at P; exact P
  | bad => rw [e] at P; exact P
theorem e_and2 {A Bm : E} {a b : PySem.Expr} {p : Pos} (ha : OkE X W G wx A a) (hb : OkE X W G wx Bm b) : OkE X W G wx (.and A Bm) (.BoolOp .And [a, b] p) := by
  have w : PW X (.BoolOp .And [a, b] p) (tT W wx (evT G (.and A Bm))) := PW.imp (pw_and ha.pt (pw_and1 hb.pt)) fun _ _ _ h => and_t h
  exact ⟨PE.imp (pe_and ha.pe (pe_one hb.pe)) fun _ _ _ h => and_v (ta := tE W wx (evE G A)) (tb := tE W wx (evE G A)) h, w.pt, fun _ _ _ _ => w⟩
theorem e_and3 {A Bm : E} {a b c : PySem.Expr} {r : List PySem.Expr} {p : Pos} (ha : OkE X W G wx A a) (hb : OkE X W G wx Bm (.BoolOp .And (b :: c :: r) p)) : OkE X W G wx (.and A Bm) (.BoolOp .And (a :: b :: c :: r) p) := by
  have w : PW X (.BoolOp .And (a :: b :: c :: r) p) (tT W wx (evT G (.and A Bm))) := PW.imp (pw_and ha.pt (hb.pw _ _ _ rfl)) fun _ _ _ h => and_t h
  exact ⟨PE.imp (pe_and ha.pe hb.pe) fun _ _ _ h => and_v (ta := tE W wx (evE G A)) (tb := tE W wx (evE G A)) h, w.pt, fun _ _ _ _ => w⟩
theorem e_or2 {A Bm : E} {a b : PySem.Expr} {p : Pos} (ha : OkE X W G wx A a) (hb : OkE X W G wx Bm b) : OkE X W G wx (.or A Bm) (.BoolOp .Or [a, b] p) := by
  have w : PW X (.BoolOp .Or [a, b] p) (tT W wx (evT G (.or A Bm))) := PW.imp (pw_or ha.pt (pw_or1 hb.pt)) fun _ _ _ h => or_t h
  exact ⟨PE.imp (pe_or ha.pe (pe_one hb.pe)) fun _ _ _ h => or_v (ta := tE W wx (evE G A)) (tb := tE W wx (evE G A)) h, w.pt, fun _ _ _ _ => w⟩
theorem e_or3 {A Bm : E} {a b c : PySem.Expr} {r : List PySem.Expr} {p : Pos} (ha : OkE X W G wx A a) (hb : OkE X W G wx Bm (.BoolOp .Or (b :: c :: r) p)) : OkE X W G wx (.or A Bm) (.BoolOp .Or (a :: b :: c :: r) p) := by
  have w : PW X (.BoolOp .Or (a :: b :: c :: r) p) (tT W wx (evT G (.or A Bm))) := PW.imp (pw_or ha.pt (hb.pw _ _ _ rfl)) fun _ _ _ h => or_t h
  exact ⟨PE.imp (pe_or ha.pe hb.pe) fun _ _ _ h => or_v (ta := tE W wx (evE G A)) (tb := tE W wx (evE G A)) h, w.pt, fun _ _ _ _ => w⟩
theorem e_chain (C : Cn X W G B wx) {o o' : Bop} {op op' : CmpOp} {A Bm Cm : E} {a b c : PySem.Expr} {p : Pos} (e : cmpo o = some op) (e' : cmpo o' = some op') (ha : OkE X W G wx A a) (hb : OkE X W G wx Bm b) (hc : OkE X W G wx Cm c) (ok : mE B Cm c = true) :
    OkE X W G wx (.chain o o' A Bm Cm) (.Compare a [op, op'] [b, c] p) := by
  have hm : lastMarks [op, op'] [b, c] = false := behind_ok (op := op') ok
  have core : ∀ {σ : L2.St} {H : Hp} {Q : VK}, tE W wx (evE G (.chain o o' A Bm Cm)) σ H Q → tChain (rS W (bop o)) (rS W (bop o')) (tE W wx (evE G A)) (tE W wx (evE G Bm)) (tE W wx (evE G Cm)) σ H Q := fun {σ H Q} h => by
    obtain ⟨am, s, h, rs, S, P⟩ := h
    simp only [evE] at P
    refine ⟨am, s, h, rs, S, P.of_bind fun am1 v1 w1 h1 H1 p1 S1 r1 P1 => ?_⟩
    refine ⟨am1, s, h1, RSl.mono p1 rs, S1, P1.of_bind fun am2 v2 w2 h2 H2 p2 S2 r2 P2 => ?_⟩
    refine ⟨am2, v1, v2, h2, RV.mono p2 r1, r2, S2, ?_⟩
    cases q : bop o v1 v2 h2 with
    | ok z h3 =>
      obtain ⟨k, rfl⟩ := cmp_bl e q
      rw [q] at P2
      intro am3 w3 H3 p3 S3 r3
      cases r3
      refine ⟨k, rfl, ?_⟩
      cases k with
      | true =>
        have P3 : Post W wx RV am2 σ ((evE G Cm s h3).bind fun w h => bop o' v2 w h) Q := P2
        refine iteT ⟨am3, s, h3, RSl.mono ((p1.trans p2).trans p3) rs, S3, (Post.mono p3 P3).of_bind fun am4 v4 w4 h4 H4 p4 S4 r4 P4 => ?_⟩
        exact rS_of (bop_nx o') (RV.mono (p3.trans p4) r2) r4 S4 P4
      | false => exact iteF (P2 am3 _ H3 p3 S3 rfl)
    | exc c d h3 => exact absurd q (bop_nx o _ _ _ _ _ _)
    | bad => rw [q] at P2; exact P2
  refine ⟨PE.imp (pe_chain (cmp_ok C.hK C.hu e) (cmp_ok C.hK C.hu e') ha.pe hb.pe hc.pe hm) fun _ _ _ h => core h, ?_, fun _ _ _ z => by cases z⟩
  refine PT.imp (pt_chain (cmp_ok C.hK C.hu e) (cmp_ok C.hK C.hu e') ha.pe hb.pe hc.pe hm) fun σ H Q h => ?_
  refine core (Q := fun z H' => ∃ k, z = .bl k ∧ Q k H') ?_
  obtain ⟨am, s, h, rs, S, P⟩ := h
  refine ⟨am, s, h, rs, S, ?_⟩
  unfold evT at P
  have isB : ∀ v h2, evE G (.chain o o' A Bm Cm) s h = .ok v h2 → ∃ b, v = .bl b := fun v h2 r => by
    simp only [evE] at r
    cases q1 : evE G A s h with
    | ok v1 h1 =>
      rw [q1] at r
      dsimp only [Res.bind] at r
      cases q2 : evE G Bm s h1 with
      | ok v2 h3 =>
        rw [q2] at r
        dsimp only [Res.bind] at r
        cases q3 : bop o v1 v2 h3 with
        | ok z h4 =>
          rw [q3] at r
          dsimp only [Res.bind] at r
          split at r
          · cases q4 : evE G Cm s h4 with
            | ok v5 h5 =>
              rw [q4] at r
              exact cmp_bl e' r
            | exc _ _ _ => rw [q4] at r; cases r
            | bad => rw [q4] at r; cases r
          · cases r
            exact ⟨_, rfl⟩
          · cases r
        | exc _ _ _ => rw [q3] at r; cases r
        | bad => rw [q3] at r; cases r
      | exc _ _ _ => rw [q2] at r; cases r
      | bad => rw [q2] at r; cases r
    | exc _ _ _ => rw [q1] at r; cases r
    | bad => rw [q1] at r; cases r
  cases q : evE G (.chain o o' A Bm Cm) s h with
  | ok v h2 =>
    obtain ⟨b, rfl⟩ := isB v h2 q
    rw [q] at P
    intro am' w H' pf S' r
    cases r
    exact ⟨b, rfl, P am' _ H' pf S' rfl⟩
  | exc c d h2 => rw [q] at P; exact P
  | bad => rw [q] at P; exact P
theorem e_ix (C : Cn X W G B wx) {A Bm : E} {a b : PySem.Expr} {p : Pos} (ha : OkE X W G wx A a) (hb : OkE X W G wx Bm b) (ok : okX b = true) : OkE X W G wx (.ix A Bm) (.Subscript a b p) := by
  refine okE_gen C.hK ?_ (fun _ => rfl) (fun _ _ _ => by intro z; cases z)
  refine PE.imp (pe_ix (ix_ok C.hK C.hu) ha.pe hb.pe (plainIx_ok ok)) ?_
  intro σ H Q h
  simp only [evE] at h
  exact two_parts ixs_nx h
/-- arguments, then what is done with them -/
theorem args_then {es : List E} {sem : List V → Hh → Res V} {r : List V → Hp → VK → Prop} {σ : L2.St} {H : Hp} {Q : VK} (h : tE W wx (fun s h => (evEs G es s h).bind fun vs h => sem vs h) σ H Q)
    (k : ∀ am s vs xs h H, RSl am s σ → RVs am vs xs → Sim W am h H → Post W wx RV am σ (sem vs h) Q → r xs H Q) : tCB r (tA W wx (evEs G es)) σ H Q := by
  obtain ⟨am, s, h, rs, S, P⟩ := h
  exact ⟨am, s, h, rs, S, P.of_bind fun am1 v1 w1 h1 H1 p1 S1 r1 P1 => k am1 s v1 w1 h1 H1 (RSl.mono p1 rs) r1 S1 P1⟩
theorem e_bi (C : Cn X W G B wx) (hot : B.hot = false) {f : Bi} {es : List E} {x : Str} {ys : List PySem.Expr} {p0 p : Pos} (hx : x = f.name) (hb : isBl B x = true) (ne : ys.isEmpty = false) (ok : ∀ y ∈ ys, okA y = true) (ha : PA X ys (tA W wx (evEs G es))) : OkE X W G wx (.bi f es) (.Call (.Name x p0) ys [] p) := by
  refine okE_gen C.hK ?_ (fun _ => rfl) (fun _ _ _ => by intro z; cases z)
  obtain ⟨hg, hm, hn, hd⟩ := bl_of C hb
  have hv : bootBuiltins x = some f.val := by rw [hx]; exact bi_boot f
  cases ys with
  | nil => cases ne
  | cons y ys =>
    have he := star_cons (es := ys) (env := X.env) (ok y List.mem_cons_self)
    have hpl := star_any (pos := p) (env := X.env) fun z hz => ok z (List.mem_cons_of_mem y hz)
    have imp : ∀ σ H Q, tE W wx (evE G (.bi f es)) σ H Q → tCB (rB W (bi f)) (tA W wx (evEs G es)) σ H Q := fun σ H Q h => by
      simp only [evE] at h
      exact args_then h fun am s vs xs h H rs r S P => rB_of (fun _ _ _ _ _ => bi_nx f) r S P
    have call := bi_ok (W := W) C.hK (C.hc hot) f
    cases f with
    | int => exact PE.imp (pe_callTy call hg hm hv ha hn hd he hpl) imp
    | str => exact PE.imp (pe_callTy call hg hm hv ha hn hd he hpl) imp
    | list => exact PE.imp (pe_callTy call hg hm hv ha hn hd he hpl) imp
    | tuple => exact PE.imp (pe_callTy call hg hm hv ha hn hd he hpl) imp
    | dict => exact PE.imp (pe_callTy call hg hm hv ha hn hd he hpl) imp
    | len => exact PE.imp (pe_callB call hg hm hv ha hn hd he hpl) imp
    | abs => exact PE.imp (pe_callB call hg hm hv ha hn hd he hpl) imp
    | max => exact PE.imp (pe_callB call hg hm hv ha hn hd he hpl) imp
    | min => exact PE.imp (pe_callB call hg hm hv ha hn hd he hpl) imp
    | divmod => exact PE.imp (pe_callB call hg hm hv ha hn hd he hpl) imp
    | sum => exact PE.imp (pe_callB call hg hm hv ha hn hd he hpl) imp
    | any => exact PE.imp (pe_callB call hg hm hv ha hn hd he hpl) imp
    | sorted => exact PE.imp (pe_callB call hg hm hv ha hn hd he hpl) imp
theorem ty_boot (t : Ty) : bootBuiltins (Str.ofString t.name) = some (.type t.name) := by cases t <;> decide +kernel
theorem e_isTy (C : Cn X W G B wx) {t : Ty} {A : E} {x T : Str} {a : PySem.Expr} {p0 p1 p : Pos} (hx : x = ("isinstance" : Str)) (hb : isBl B x = true) (hT : T = Str.ofString t.name) (hbT : isBl B T = true) (ok : okA a = true) (ha : OkE X W G wx A a) : OkE X W G wx (.isTy t A) (.Call (.Name x p0) [a, .Name T p1] [] p) := by
  refine okE_gen C.hK ?_ (fun _ => rfl) (fun _ _ _ => by intro z; cases z)
  obtain ⟨hg, hm, hn, hd⟩ := bl_of C hb
  obtain ⟨hg2, hm2, hn2, hd2⟩ := bl_of C hbT
  have hv : bootBuiltins x = some (.builtin "isinstance") := by rw [hx]; decide +kernel
  have hv2 : bootBuiltins T = some (.type t.name) := by rw [hT]; exact ty_boot t
  have he := star_cons (es := [.Name T p1]) (env := X.env) ok
  refine PE.imp (pe_callB call_isi hg hm hv (pa_cons ha.pe (pa_cons (pe_bltn (v := .ty t.name) hg2 hm2 hv2 rfl hn2 hd2) pa_nil) he) hn hd he rfl) ?_
  rintro σ H Q ⟨am, s, h, rs, S, P⟩
  simp only [evE] at P
  refine ⟨am, s, h, rs, S, P.of_bind fun am1 v1 w1 h1 H1 p1 S1 r1 P1 => ?_⟩
  unfold isTy at P1
  cases q : kd h1 v1 with
  | none => rw [q] at P1; exact P1.elim
  | some k =>
    rw [q] at P1
    cases k with
    | own Cl =>
      obtain ⟨_, _, a, dx, ys, _, _, _, hw, hc, ha, _⟩ := kd_own S1 r1 q
      obtain ⟨ty, k1, k2⟩ := C.kn.own Cl hc _ _ _ _ ha
      subst hw
      exact ⟨_, .ty t.name, _, _, _, rfl, .ty _, k1, k2 t, Post.at P1 S1 rfl⟩
    | _ => exact ⟨w1, .ty t.name, _, _, _, rfl, .ty _, by rw [C.hK]; exact kd_ok S1 r1 q (fun _ z => by cases z), kit_kd _ t (fun _ z => by cases z) _, Post.at P1 S1 rfl⟩
theorem e_lst (C : Cn X W G B wx) {es : List E} {ys : List PySem.Expr} {p : Pos} (ha : PA X ys (tA W wx (evEs G es))) : OkE X W G wx (.lst es) (.List ys p) := by
  refine okE_gen C.hK ?_ (fun _ => rfl) (fun _ _ _ => by intro z; cases z)
  refine PE.imp (pe_lst ha) ?_
  rintro σ H Q ⟨am, s, h, rs, S, P⟩
  simp only [evE] at P
  refine ⟨am, s, h, rs, S, P.of_bind fun am1 v1 w1 h1 H1 p1 S1 r1 P1 => ?_⟩
  by_cases hl : v1.length ≤ LINE
  · rw [if_pos hl] at P1
    refine ⟨by rw [← Paired.len r1, ← line_eq]; exact hl, fun q hq => P1 _ _ _ (Pf.snoc _ q) (S1.push hq ⟨w1, RVs.mono (Pf.snoc _ _) r1, upd_same⟩) ⟨q, ?_, rfl⟩⟩
    rw [← S1.len]
    simp
  · rw [if_neg hl] at P1
    exact P1.elim
theorem e_tup (C : Cn X W G B wx) {es : List E} {ys : List PySem.Expr} {k : Nat} {p : Pos} (ha : PA X ys (tA W wx (evEs G es))) : OkE X W G wx (.tup es) (.Tuple ys k p) := by
  refine okE_gen C.hK ?_ (fun _ => rfl) (fun _ _ _ => by intro z; cases z)
  refine PE.imp (pe_tup ha) ?_
  rintro σ H Q ⟨am, s, h, rs, S, P⟩
  simp only [evE] at P
  refine ⟨am, s, h, rs, S, P.of_bind fun am1 v1 w1 h1 H1 p1 S1 r1 P1 => ?_⟩
  by_cases hl : v1.length ≤ LINE
  · rw [if_pos hl] at P1
    refine ⟨by rw [← Paired.len r1, ← line_eq]; exact hl, fun q hq => P1 _ _ _ (Pf.snoc _ q) (S1.push hq ⟨w1, RVs.mono (Pf.snoc _ _) r1, .of upd_same⟩) ⟨q, ?_, rfl⟩⟩
    rw [← S1.len]
    simp
  · rw [if_neg hl] at P1
    exact P1.elim
/-- a call without arguments, its raising wished for at the caller's slots -/
theorem pe_call0SD {CX : CXT} {k : Nat} {f : Addr} {fd : FuncData} {ps : List Str} {sp : Sp} {dvs : List V} {ds : List Value} {E : L2.St → XK} {x : Str} {p pos : Pos} (F : FnOk X.prog X.w X.K X.mg X.base CX k f fd ps sp) (hr : Room k X.A) (hg : Gl X x) (hm : X.mg x = some (.ref f)) (hk : PySem.W.keepIn X.K (.ref f) = true) (hb : Binds X.K fd ps ds) (hd : Vals dvs ds) (hx : ∀ σ, PassesAt CX X σ (E σ))
    (hdb : (x == ("__debug__" : Str)) = false) : PE X (.Call (.Name x p) [] [] pos) (tCallSD sp dvs E tNil) := by
  refine ⟨fun pins s σ H Q I h => ?_⟩
  refine wpAny_Call_Name_kw (ld_glob I hg hm ?_ hdb)
  exact PySem.W.callWith_K0 I.kIn hk (run_fnSD (us := []) F hr hb hd (hx σ) I .nil h)
theorem fill_len {p : Prog} {f : Nat} {fd : FD} {vs : List V} (hf : p.fns[f]? = some fd) (h1 : vs.length ≤ fd.np) (h2 : fd.np ≤ vs.length + fd.df.length) : (p.fill f vs).length = fd.np := by
  unfold Prog.fill
  rw [hf]
  dsimp only
  rw [List.length_append, List.length_drop]
  omega
theorem e_call (C : Cn X W G B wx) (hot : B.hot = false) {f : Nat} {es : List E} {x : Str} {ys : List PySem.Expr} {p0 p : Pos} (hf : isFd B f x ys.length = true) (ok : ∀ y ∈ ys, okA y = true) (ha : PA X ys (tA W wx (evEs G es)))
    (hl : es.length = ys.length) (elen : ∀ s h vs h2, evEs G es s h = .ok vs h2 → vs.length = es.length) : OkE X W G wx (.call f es) (.Call (.Name x p0) ys [] p) := by
  refine okE_gen C.hK ?_ (fun _ => rfl) (fun _ _ _ => by intro z; cases z)
  unfold isFd at hf
  rw [Bool.and_eq_true, Bool.and_eq_true] at hf
  obtain ⟨⟨hg, hn⟩, hf⟩ := hf
  cases q : B.p.fns[f]? with
  | none => rw [q] at hf; cases hf
  | some fd =>
  rw [q] at hf
  simp only [Bool.and_eq_true, decide_eq_true_eq] at hf
  obtain ⟨⟨⟨⟨⟨hx, hgl⟩, h1⟩, h2⟩, h3⟩, hfl⟩ := hf
  obtain ⟨fdat, k, hk, hr, hb, F⟩ := (C.fns hot f fd q W.glo W.frz (fun _ z => z)).ex
  have hm := C.kn.fn f fd q hgl
  rw [hx] at hm
  obtain ⟨ds, hd, hb⟩ := hb ys.length h1 h2
  have flat : ∀ am, RVs am (fd.df.drop (ys.length + fd.df.length - fd.np)) (fd.df.drop (ys.length + fd.df.length - fd.np)) := fun am => rvs_flat (List.all_eq_true.mpr fun v hv => List.all_eq_true.mp hfl v (List.mem_of_mem_drop hv))
  have imp : ∀ σ H Q, tE W wx (evE G (.call f es)) σ H Q → tCallSD (spQ W G f fd.np) (fd.df.drop (ys.length + fd.df.length - fd.np)) (WE wx) (tA W wx (evEs G es)) σ H Q := fun σ H Q h => by
    obtain ⟨am, s, h, rs, S, P⟩ := h
    simp only [evE] at P
    refine ⟨am, s, h, rs, S, ?_⟩
    cases q2 : evEs G es s h with
    | ok vs h2 =>
      rw [q2] at P
      intro am1 w1 H1 p1 S1 r1
      have l := (elen s h vs h2 q2).trans hl
      have ef : G.fill f vs = vs ++ fd.df.drop (ys.length + fd.df.length - fd.np) := by
        rw [C.gf]
        unfold Prog.fill
        rw [q, l]
      refine ⟨am1, G.fill f vs, h2, by rw [ef]; exact Paired.app r1 (flat am1), S1, by rw [C.gf]; exact fill_len q (by omega) (by omega), ?_⟩
      have P1 : Post W wx RV am1 σ (G.call f (G.fill f vs) h2) Q := Post.mono p1 P
      cases e : G.call f (G.fill f vs) h2 with
      | ok v h3 => rw [e] at P1; exact P1
      | exc c d h3 => rw [e] at P1; exact P1
      | bad => rw [e] at P1; exact P1
    | exc c d h2 => rw [q2] at P; exact P
    | bad => rw [q2] at P; exact P
  cases ys with
  | nil =>
    refine PE.imp (pe_call0SD F hr (gl_of C hg) hm hk hb hd (fun σ => passAt C.tk σ) (okName1 hn)) fun σ H Q h => ?_
    have e : es = [] := List.length_eq_zero_iff.mp hl
    subst e
    obtain ⟨am, s, h, rs, S, P⟩ := imp σ H Q h
    exact P.at S .nil
  | cons y ys =>
    have he := star_cons (es := ys) (env := X.env) (ok y List.mem_cons_self)
    have hpl := star_any (pos := p) (env := X.env) fun z hz => ok z (List.mem_cons_of_mem y hz)
    exact PE.imp (pe_callSD F hr (gl_of C hg) hm hk hb hd (fun σ => passAt C.tk σ) ha (okName1 hn) he hpl) imp
/-! ### the module's constants, slices, dict displays, methods of built-in types -/
theorem e_g (C : Cn X W G B wx) {k : Nat} {x : Str} {p : Pos} (h1 : B.gl[k]? = some x) (h2 : isGl B.sc x = true) (h3 : okName x = true) : OkE X W G wx (.g k) (.Name x p) := by
  refine okE_gen C.hK ?_ (fun _ => rfl) (fun _ _ _ => by intro z; cases z)
  cases q : B.p.glo[k]? with
  | none =>
    refine ⟨fun pins s σ H Q I h => ?_⟩
    obtain ⟨am, s, h, rs, S, P⟩ := h
    simp only [evE, C.gg] at P
    rw [q] at P
    exact P.elim
  | some v =>
    obtain ⟨w, u, hm, r, hW⟩ := C.kn.glo k v x q h1
    refine PE.imp (pe_glob (gl_of C h2) hm r (okName1 h3)) ?_
    rintro σ H Q ⟨am, s, h, rs, S, P⟩
    simp only [evE, C.gg] at P
    rw [q] at P
    exact Post.at P S (S.gl _ hW)
def tPO (W : Nm) (wx : WX) (G : Cxt) : Option E → TO
  | none => tNoPart
  | some e => tPart (tE W wx (evE G e))
theorem po_ok {lo : Option E} {l : Option PySem.Expr} (h : ∀ e y, lo = some e → l = some y → PE X y (tE W wx (evE G e))) (hn : lo.isSome = l.isSome) : PO X l (tPO W wx G lo) := by
  cases lo with
  | none =>
    cases l with
    | some _ => cases hn
    | none => exact po_none
  | some e =>
    cases l with
    | none => cases hn
    | some y => exact po_some (h e y rfl rfl)
theorem part_post {lo : Option E} {am : List Addr} {s : Sl} {σ : L2.St} {h : Hh} {H : Hp} {k : Option Int → Hh → Res V} {Q : VK} {Q1 : Option Int → Hp → Prop} (rs : RSl am s σ) (S : Sim W am h H)
    (P : Post W wx RV am σ ((evO G lo s h).bind fun l h => match optInt l with
      | some l => k l h
      | none => .bad) Q)
    (f : ∀ am' i h' H', Pf am am' → Sim W am' h' H' → Post W wx RV am' σ (k i h') Q → Q1 i H') : tPO W wx G lo σ H Q1 := by
  cases lo with
  | none =>
    simp only [evO] at P
    exact f am none h H (Pf.refl _) S P
  | some e =>
    simp only [evO] at P
    rw [bind_assoc] at P
    refine ⟨am, s, h, rs, S, P.of_bind fun am1 v1 w1 h1 H1 p1 S1 r1 P1 => ?_⟩
    cases v1 with
    | int i => cases r1; exact ⟨i, rfl, f am1 (some i) h1 H1 p1 S1 P1⟩
    | _ => exact P1.elim
theorem e_slice (C : Cn X W G B wx) {A : E} {lo hi : Option E} {a : PySem.Expr} {l u : Option PySem.Expr} {p p2 : Pos} (ha : OkE X W G wx A a) (hl : PO X l (tPO W wx G lo)) (hu : PO X u (tPO W wx G hi)) : OkE X W G wx (.slice A lo hi) (.Subscript a (.Slice l u none p2) p) := by
  refine okE_gen C.hK ?_ (fun _ => rfl) (fun _ _ _ => by intro z; cases z)
  refine PE.imp (pe_slice ((sl_list (X := X)).or ((sl_tup (X := X)).or sl_str)) ha.pe hl hu) ?_
  rintro σ H Q ⟨am, s, h, rs, S, P⟩
  simp only [evE] at P
  refine ⟨am, s, h, rs, S, P.of_bind fun am1 v1 w1 h1 H1 p1 S1 r1 P1 => ?_⟩
  refine part_post (RSl.mono p1 rs) S1 P1 fun am2 i h2 H2 p2 S2 P2 => ?_
  refine part_post (RSl.mono (p1.trans p2) rs) S2 P2 fun am3 j h3 H3 p3 S3 P3 => ?_
  have r3 := RV.mono (p2.trans p3) r1
  cases v1 with
  | str z =>
    cases r3
    unfold sliced at P3
    dsimp only at P3
    by_cases hz : z.length ≤ LINE
    · rw [if_pos hz] at P3
      exact .inr (.inr ⟨z, rfl, by rw [← line_eq]; exact hz, Post.at P3 S3 rfl⟩)
    · rw [if_neg hz] at P3
      exact P3.elim
  | ref k =>
    unfold sliced at P3
    dsimp only at P3
    cases hx : lstAt h3 (V.ref k) with
    | some xs =>
      rw [hx] at P3
      obtain ⟨q, ys, rfl, hq, rr⟩ := S3.lst r3 hx
      refine .inl ⟨q, ys, rfl, by rw [C.hK]; exact hq, fun p hp => ?_⟩
      have P4 : Ok1 W am3 (.ok (.ref h3.length) (h3 ++ [.lst (cutV xs i j)])) Q := P3
      refine P4.lst S3 ?_ hp
      unfold cutV
      rw [Paired.len rr]
      exact rvs_take (rvs_drop rr _) _
    | none =>
      rw [hx] at P3
      dsimp only at P3
      cases ht : tupAt h3 (V.ref k) with
      | none => rw [ht] at P3; exact P3.elim
      | some xs =>
        rw [ht] at P3
        dsimp only at P3
        obtain ⟨q, ys, rfl, hq, rr⟩ := S3.tup r3 ht
        by_cases hw : (cutV xs i j).length = xs.length
        · rw [if_pos hw] at P3
          exact P3.elim
        · rw [if_neg hw] at P3
          refine .inr (.inl ⟨q, ys, rfl, by rw [C.hK]; exact hq, fun z => hw ?_, fun p hp => ?_⟩)
          · unfold cutV
            rw [Paired.len rr, z.1, z.2, List.drop_zero, Nat.sub_zero, List.length_take, Paired.len rr, Nat.min_self]
          · have P4 : Ok1 W am3 (.ok (.ref h3.length) (h3 ++ [.tup (cutV xs i j)])) Q := P3
            refine P4.tupl S3 ?_ hp
            unfold cutV
            rw [Paired.len rr]
            exact rvs_take (rvs_drop rr _) _
  | _ => exact (show False from P3).elim
/-- the pairs of a display -/
def trsOf (W : Nm) (wx : WX) (G : Cxt) : List E → List (TE × TE)
  | k :: v :: r => (tE W wx (evE G k), tE W wx (evE G v)) :: trsOf W wx G r
  | _ => []
theorem pairs_post : ∀ (es : List E) {am : List Addr} {s : Sl} {σ : L2.St} {h : Hh} {H : Hp} {Q : VK} {k : List V → Hh → Res V} {Q1 : List (V × V) → Hp → Prop} (ev : es.length % 2 = 0) (rs : RSl am s σ) (S : Sim W am h H) (P : Post W wx RV am σ ((evEs G es s h).bind k) Q)
    (f : ∀ am' vs ps h' H', Pf am am' → Sim W am' h' H' → (∃ us : List (V × V), vs = us.flatMap (fun p => [p.1, p.2]) ∧ Paired (fun p q => RV am' p.1 q.1 ∧ RV am' p.2 q.2) us ps) → Post W wx RV am' σ (k vs h') Q → Q1 ps H'), tPairs (trsOf W wx G es) σ H Q1
  | [], am, s, σ, h, H, Q, k, Q1, _, rs, S, P, f => by
    simp only [evEs] at P
    exact f am [] [] h H (Pf.refl _) S ⟨[], rfl, .nil⟩ P
  | [_], _, _, _, _, _, _, _, _, ev, _, _, _, _ => by cases ev
  | a :: b :: r, am, s, σ, h, H, Q, k, Q1, ev, rs, S, P, f => by
    simp only [evEs, bind_assoc, bind_ok] at P
    refine ⟨am, s, h, rs, S, P.of_bind fun am1 v1 w1 h1 H1 p1 S1 r1 P1 => ?_⟩
    refine ⟨am1, s, h1, RSl.mono p1 rs, S1, P1.of_bind fun am2 v2 w2 h2 H2 p2 S2 r2 P2 => ?_⟩
    refine pairs_post r (k := fun vs h => k (v1 :: v2 :: vs) h) (by rw [List.length_cons, List.length_cons] at ev; omega) (RSl.mono (p1.trans p2) rs) S2 P2 fun am3 vs ps h3 H3 p3 S3 ⟨us, e, rr⟩ P3 => ?_
    refine f am3 (v1 :: v2 :: vs) ((w1, w2) :: ps) h3 H3 ((p1.trans p2).trans p3) S3 ⟨(v1, v2) :: us, by rw [e]; rfl, .cons ⟨RV.mono (p2.trans p3) r1, RV.mono p3 r2⟩ rr⟩ P3
theorem pairsOf_ok {am : List Addr} : ∀ {us ps : List (V × V)} {kvs : List (Key × V)}, Paired (fun p q => RV am p.1 q.1 ∧ RV am p.2 q.2) us ps → pairsOf (us.flatMap fun p => [p.1, p.2]) = some kvs → ∃ ls : List (Key × V), ps = ls.map (fun kv => (kV kv.1, kv.2)) ∧ RK am kvs ls
  | [], [], _, .nil, e => by cases e; exact ⟨[], rfl, .nil⟩
  | p :: us, q :: ps, kvs, .cons r t, e => by
    have e : (match keyOf p.1, pairsOf (us.flatMap fun p => [p.1, p.2]) with
      | some k, some r => some ((k, p.2) :: r)
      | _, _ => none) = some kvs := e
    cases q1 : keyOf p.1 with
    | none => rw [q1] at e; cases e
    | some k =>
      cases q2 : pairsOf (us.flatMap fun p => [p.1, p.2]) with
      | none => rw [q1, q2] at e; cases e
      | some r2 =>
        rw [q1, q2] at e
        cases e
        obtain ⟨ls, e1, e2⟩ := pairsOf_ok t q2
        refine ⟨(k, q.2) :: ls, ?_, .cons ⟨rfl, r.2⟩ e2⟩
        rw [List.map_cons, ← e1]
        have := keyOf_rel r.1 q1
        rw [← this]
theorem e_dct (C : Cn X W G B wx) {es : List E} {ks : List (Option PySem.Expr)} {vs : List PySem.Expr} {p : Pos} (h : PPs X p ks vs (trsOf W wx G es)) (ev : es.length % 2 = 0) (hall : ks.all (·.isSome) = true) (hl : ks.length = vs.length) (h15 : ks.length ≤ 15) (h0 : ks = [] → es = []) : OkE X W G wx (.dct es) (.Dict ks vs p) := by
  refine okE_gen C.hK ?_ (fun _ => rfl) (fun _ _ _ => by intro z; cases z)
  have core : ∀ σ H Q, tE W wx (evE G (.dct es)) σ H Q → tDisp (trsOf W wx G es) σ H Q := fun σ H Q hh => by
    obtain ⟨am, s, h, rs, S, P⟩ := hh
    simp only [evE] at P
    intro q hq
    have S1 := S.push (c := .dct []) (o := .dK []) hq ⟨[], .nil, upd_same⟩
    refine pairs_post es ev (RSl.mono (Pf.snoc am q) rs) S1 (Post.mono (Pf.snoc am q) P) fun am1 us ps h1 H1 p1 S2 ⟨zs, e1, rr⟩ P1 => ?_
    split at P1
    · rename_i kvs hg hp
      rw [e1] at hp
      obtain ⟨ls, e2, rk⟩ := pairsOf_ok rr hp
      have ha : am1[h.length]? = some q := p1.get (by rw [← S.len]; simp)
      obtain ⟨ys, r0, z⟩ := S2.cell _ _ _ hg ha
      cases r0
      by_cases hk : kvs.length ≤ 15
      · rw [if_pos hk] at P1
        refine ⟨z, ls, e2, by rw [← RK.len rk]; exact hk, ?_⟩
        have P2 : Ok1 W am1 (.ok (.ref h.length) (h1.set h.length (.dct (mergeK [] kvs)))) Q := P1
        exact Ok1.put S2 P2 ⟨q, ha, rfl⟩ hg ha nk_dct ⟨_, RK.merge rk .nil, upd_same⟩ nk_dct (nz_of z)
      · rw [if_neg hk] at P1
        exact P1.elim
    · exact P1.elim
  cases ks with
  | nil =>
    have e := h0 rfl
    subst e
    cases vs with
    | cons _ _ => cases hl
    | nil =>
      refine PE.imp pe_dnewK fun σ H Q hh q hq => ?_
      obtain ⟨_, kvs, e, _, z⟩ := core σ H Q hh q hq
      cases kvs with
      | cons _ _ => cases e
      | nil =>
        have e2 : upd (upd H q (.dK [])) q (.dK (mergeK [] [])) = upd H q (.dK []) := by
          funext b
          by_cases hb : b = q
          · subst hb; rw [upd_same, upd_same]; rfl
          · rw [upd_ne hb]
        rw [e2] at z
        exact z
  | cons k ks => exact PE.imp (pe_disp h hall hl (by intro z; cases z) h15) core
/-- a value is of the type that a method is looked up at -/
theorem tyQ_is (hK : X.K = W.K) {am : List Addr} {h : Hh} {pins : List (Addr × Obj)} {σ : L2.St} {H : Hp} {s : Shared} {m : Bm} {v w : V} {u : Value} (S : Sim W am h H) (I : Inv X pins σ H s) (r : RV am v w) (ru : RelV w u) (e : kd h v = some m.kd) :
    s.TypeIs u m.kd.ty ∧ ∀ a, u = .ref a → ∃ ob, s.heap.get? a = some ob ∧ ob.dict = none := by
  cases v with
  | str z =>
    cases r
    have e : some Kd.str = some m.kd := e
    have ek := Option.some.inj e
    rw [← ek]
    exact tyV_is (T := "str") (x := .str z) I ru rfl
  | ref i =>
    obtain ⟨a, ha, rfl⟩ := r
    obtain rfl : u = Value.ref a := ru
    unfold kd at e
    dsimp only at e
    split at e
    · rename_i xs hc
      obtain ⟨ys, _, q⟩ := S.cell i _ a hc ha
      rw [← Option.some.inj e]
      exact tyV_is (T := "list") (x := .ref a) I rfl (.inl ⟨rfl, ys, .of q⟩)
    · rename_i xs hc
      obtain ⟨ys, _, q⟩ := S.cell i _ a hc ha
      rw [← Option.some.inj e]
      exact tyV_is (T := "list") (x := .ref a) I rfl (.inl ⟨rfl, ys, by rw [hK]; exact q⟩)
    · exfalso
      cases m <;> cases e
    · rename_i xs hc
      obtain ⟨ys, _, q⟩ := S.cell i _ a hc ha
      rw [← Option.some.inj e]
      obtain ⟨t1, t2, _⟩ := isD_at I (.inl ⟨ys, .inl q⟩)
      exact ⟨t1, t2⟩
    · rename_i xs hc
      obtain ⟨ys, o, _, q⟩ := S.cell i _ a hc ha
      rw [← Option.some.inj e]
      obtain ⟨t1, t2, _⟩ := isD_at I (.inl ⟨ys, .inr ⟨o, q⟩⟩)
      exact ⟨t1, t2⟩
    · exfalso
      cases m <;> cases e
    · cases e
  | non => exfalso; cases m <;> cases e
  | bl _ => exfalso; cases m <;> cases e
  | int _ => exfalso; cases m <;> cases e
  | _ => cases e
/-- a method by its type -/
structure BmFacts (m : Bm) : Prop where
  pa : PlainAttrs m.kd.ty
  slot : Slot m.kd.ty m.name m.id
  hty : typeOf (.builtin m.id) = pure (.type "method_descriptor")
theorem bm_facts (m : Bm) : BmFacts m := by
  cases m with
  | append => exact ⟨PySem.F.plainAttrs_list, PySem.F.slot_list_append, PySem.F.type_list_append⟩
  | extend => exact ⟨PySem.F.plainAttrs_list, PySem.F.slot_list_extend, PySem.F.type_list_extend⟩
  | popEnd => exact ⟨PySem.F.plainAttrs_list, PySem.F.slot_list_pop, PySem.F.type_list_pop⟩
  | lclear => exact ⟨PySem.F.plainAttrs_list, PySem.F.slot_list_clear, PySem.F.type_list_clear⟩
  | index => exact ⟨PySem.F.plainAttrs_list, PySem.F.slot_list_index, PySem.F.type_list_index⟩
  | get1 => exact ⟨PySem.F.plainAttrs_dict, PySem.F.slot_dict_get, PySem.F.type_dict_get⟩
  | get2 => exact ⟨PySem.F.plainAttrs_dict, PySem.F.slot_dict_get, PySem.F.type_dict_get⟩
  | dcopy => exact ⟨PySem.F.plainAttrs_dict, PySem.F.slot_dict_copy, PySem.F.type_dict_copy⟩
  | dpop => exact ⟨PySem.F.plainAttrs_dict, PySem.F.slot_dict_pop, PySem.F.type_dict_pop⟩
  | dclear => exact ⟨PySem.F.plainAttrs_dict, PySem.F.slot_dict_clear, PySem.F.type_dict_clear⟩
  | setdefault => exact ⟨PySem.F.plainAttrs_dict, PySem.F.slot_dict_setdefault, PySem.F.type_dict_setdefault⟩
  | update => exact ⟨PySem.F.plainAttrs_dict, PySem.F.slot_dict_update, PySem.F.type_dict_update⟩
  | join => exact ⟨PySem.F.plainAttrs_str, PySem.F.slot_str_join, PySem.F.type_str_join⟩
  | split => exact ⟨PySem.F.plainAttrs_str, PySem.F.slot_str_split, PySem.F.type_str_split⟩
  | partition => exact ⟨PySem.F.plainAttrs_str, PySem.F.slot_str_partition, PySem.F.type_str_partition⟩
  | upper => exact ⟨PySem.F.plainAttrs_str, PySem.F.slot_str_upper, PySem.F.type_str_upper⟩
  | reverse => exact ⟨PySem.F.plainAttrs_list, PySem.F.slot_list_reverse, PySem.F.type_list_reverse⟩
theorem e_bm (C : Cn X W G B wx) {m : Bm} {O : E} {es : List E} {o : PySem.Expr} {nm : Str} {ys : List PySem.Expr} {apos cpos : Pos} (hn : nm = m.name) (hr : okR o = true) (hline : (apos.endLine == cpos.line) = true) (hlt : ys.length < 30) (ho : OkE X W G wx O o) (ok : ∀ y ∈ ys, okA y = true)
    (ha : PA X ys (tA W wx (evEs G es))) (hl : es.length = ys.length) : OkE X W G wx (.bm m O es) (.Call (.Attribute o nm apos) ys [] cpos) := by
  refine okE_gen C.hK ⟨fun pins s σ H Q I hh => ?_⟩ (fun _ => rfl) (fun _ _ _ => by intro z; cases z)
  obtain ⟨am, sl, h, rs, S, P⟩ := hh
  simp only [evE] at P
  subst hn
  obtain ⟨pa, slot, hty⟩ := bm_facts m
  have start := ho.pe.run pins s σ H _ I ⟨am, sl, h, rs, S, P.of_bind (Q1 := fun w1 H1 => ∃ am1 v1 h1, Pf am am1 ∧ Sim W am1 h1 H1 ∧ RV am1 v1 w1 ∧ Post W wx RV am1 σ (if kd h1 v1 = some m.kd then (evEs G es sl h1).bind fun vs h => bm m v1 vs h else .bad) Q) fun am1 v1 w1 h1 H1 p1 S1 r1 P1 => ⟨am1, v1, h1, p1, S1, r1, P1⟩⟩
  cases ys with
  | nil =>
    have e : es = [] := List.length_eq_zero_iff.mp hl
    subst e
    refine wpAny_Call_method0_late (attrBase_ok hr) hline (thn start fun v s1 ⟨x, H1, I1, rx, am1, v1, h1, p1, S1, r1, P1⟩ => ?_)
    by_cases hk : kd h1 v1 = some m.kd
    · rw [if_pos hk] at P1
      obtain ⟨t1, t2⟩ := tyQ_is C.hK S1 I1 r1 rx hk
      refine ⟨m.kd.ty, m.id, pa, slot, hty, t1, t2, Calls.callWith_builtin rfl (PySem.evalArgs_none (bm_ok C.hK C.hu m pins s1 σ H1 x [] v [] Q I1 rx .nil ⟨am1, v1, [], h1, r1, .nil, S1, ?_⟩))⟩
      simp only [evEs, bind_ok] at P1
      cases e : bm m v1 [] h1 with
      | ok v h3 => rw [e] at P1; exact P1
      | exc c d h3 => exact absurd e (bm_nx m)
      | bad => rw [e] at P1; exact P1
    · rw [if_neg hk] at P1
      exact P1.elim
  | cons y ys =>
    have he := star_cons (es := ys) (env := X.env) (ok y List.mem_cons_self)
    have hpl := star_any (pos := cpos) (env := X.env) fun z hz => ok z (List.mem_cons_of_mem y hz)
    have hall := star_all (pos := cpos) (env := X.env) ok
    have hfew : ((backTo cpos (starEach (y :: ys) X.env)).all (fun x => !x.1) && (backToKw cpos (keywordEach [] X.env)).all (fun x => x.1.isSome)
      && decide ((y :: ys).length + ([] : List Keyword).length + (if ([] : List Keyword).isEmpty then 0 else 1) < 30)) = true := by
      rw [hall]
      have : decide ((y :: ys).length + ([] : List Keyword).length + (if ([] : List Keyword).isEmpty then 0 else 1) < 30) = true := decide_eq_true hlt
      rw [this]
      rfl
    refine wpAny_Call_method_late (attrBase_ok hr) hfew hline rfl (thn start fun v s1 ⟨x, H1, I1, rx, am1, v1, h1, p1, S1, r1, P1⟩ => ?_)
    by_cases hk : kd h1 v1 = some m.kd
    · rw [if_pos hk] at P1
      obtain ⟨t1, t2⟩ := tyQ_is C.hK S1 I1 r1 rx hk
      refine ⟨m.kd.ty, m.id, pa, slot, hty, t1, t2, ?_⟩
      have hA := ha.run cpos pins s1 σ H1 _ I1 ⟨am1, sl, h1, RSl.mono p1 rs, S1, P1.of_bind (Q1 := fun w1 H1 => ∃ am2 vs h2, Pf am1 am2 ∧ Sim W am2 h2 H1 ∧ RVs am2 vs w1 ∧ Post W wx RV am2 σ (bm m v1 vs h2) Q) fun am2 vs w2 h2 H2 p2 S2 r2 P2 => ⟨am2, vs, h2, p2, S2, r2, P2⟩⟩
      rw [he] at hA ⊢
      refine Calls.callWith_builtin (by show (false || (backTo cpos (starEach ys X.env)).any (·.1)) = false; rw [hpl] <;> rfl) (Calls.evalArgs_plain ?_)
      refine thn hA fun us s2 ⟨xs, H2, I2, r2, am2, vs, h2, p2, S2, rr2, P2⟩ => bm_ok C.hK C.hu m pins s2 σ H2 x xs v us Q I2 rx r2 ⟨am2, v1, vs, h2, RV.mono p2 r1, rr2, S2, ?_⟩
      cases e : bm m v1 vs h2 with
      | ok v h3 => rw [e] at P2; exact P2
      | exc c d h3 => exact absurd e (bm_nx m)
      | bad => rw [e] at P2; exact P2
    · rw [if_neg hk] at P1
      exact P1.elim
/-! ### the caught error -/
/-- isinstance(e, c), e the exception that the suite holds -/
theorem call_isQ {a D : Addr} {oe : Obj} (hp : (a, oe) ∈ X.pn) (K : ExcC X.K D) (hz : Zc (.ref D) none oe) (hf : ∃ vs, oe.data = .fields vs) : CallR X (.builtin "isinstance") (rIsE X.K D a) := by
  intro pins s σ H xs us Q I r h
  obtain ⟨c, cv, b, rfl, hcv, e, q⟩ := h
  cases r with
  | cons rx rr =>
    cases rr with
    | cons rt rr =>
      cases rr
      cases rx
      have ec := hcv _ rt
      subst ec
      obtain ⟨hget, _⟩ := I.pin (a, oe) (List.mem_append.mpr (.inl hp))
      obtain ⟨vs, hv⟩ := hf
      have J : PySem.W.InstAt s.heap a oe D none := by
        obtain ⟨oc, od, oda, osl⟩ := oe
        obtain ⟨h1, h2⟩ := hz
        dsimp only at h1 h2 hv
        subst h1 h2 hv
        exact ⟨hget, rfl, rfl, trivial⟩
      exact PySem.W.kia_one (PySem.W.handS_kitx_exc K.hg K.hk K.hs K.hd K.ha K.hn K.ht K.hm) I.kIn J e (fun z => nomatch z) fun tk => ⟨.bl b, H, I.kept (t' := tk) fun _ _ z => z, rfl, q⟩
/-- err.f, err the exception that the suite holds -/
theorem pe_xfQ {a Cc : Addr} {oe : Obj} {d : Option Addr} {e : PySem.Expr} {te : TE} {pos : Pos} {n : Str} (hp : (a, oe) ∈ X.pn) (T : XfC X.K Cc) (hno : PySem.W.findIn X.K (.ref Cc) n = some none)
    (hz : Zc (.ref Cc) d oe) (hf : ∃ vs, oe.data = .fields vs) (he : PE X e te) (hb : attributeBase e n X.env (eval e X.env) = eval e X.env) :
    PE X (.Attribute e n pos) (tXf a (.ref Cc) d Cc n te) := by
  refine ⟨fun pins s σ H Q I h => ?_⟩
  refine attr_of hb (thn (he.run pins s σ H _ I h) fun u s1 hh => ?_)
  obtain ⟨x, H1, I1, rx, ex, ec, dd, fs, v, ed, ea, l, q⟩ := hh
  subst ex
  obtain rfl : u = Value.ref a := rx
  subst ed
  obtain ⟨ha, _⟩ := I1.pin (a, oe) (List.mem_append_left _ hp)
  obtain ⟨vs, hd⟩ := hf
  have hx : ObjOk X.prog X.w H1 s1.heap dd (.xd fs) := I1.hok dd _ ea
  obtain ⟨mA, hns, hr⟩ := hx
  obtain ⟨od, ho, hl⟩ := lookIn_ns hns
  obtain ⟨u, hu, ru⟩ := RelO.some_of (v := v) (o := mA n) (by rw [← l]; exact hr n)
  have J : PySem.W.InstAt s1.heap a oe Cc (some od) := ⟨ha, hz.1, by unfold PySem.W.notCls; rw [hd] <;> rfl, by rw [hz.2]; exact ho⟩
  exact HandSPX.exc_get I1.kIn J T.ga T.gg T.exC (PySem.W.findObj_own T.hdC hno rfl (by rw [hl, hu])) (handed_of ru) ⟨v, H1, I1.tok _, ru, q⟩
theorem isl_look {i : Nat} {e : Str} {p : Pos} (C : Cn X W G B wx) (h1 : B.N[i]? = some e) (h2 : isLoc B.sc e = true) (h3 : okName e = true) : PE X (.Name e p) (tVar i) :=
  pe_var (i := i) (by rw [C.hN]; exact h1) (vis_of C h2) (okName1 h3) (okName2 h3)
theorem e_exIs (C : Cn X W G B wx) {i Cl : Nat} {x e T : Str} {p0 p1 p2 p : Pos} (hx : x = ("isinstance" : Str)) (hb : isBl B x = true) (h1 : B.N[i]? = some e) (h2 : isLoc B.sc e = true) (h3 : okName e = true) (hT : isCl B Cl true T = true) :
    OkE X W G wx (.exIs i Cl) (.Call (.Name x p0) [.Name e p1, .Name T p2] [] p) := by
  refine okE_gen C.hK ?_ (fun _ => rfl) (fun _ _ _ => by intro z; cases z)
  have none_ : (∀ c j, G.cur ≠ some (c, none, j)) → PE X (.Call (.Name x p0) [.Name e p1, .Name T p2] [] p) (tE W wx (evE G (.exIs i Cl))) := fun hn => by
    refine ⟨fun pins s σ H Q I hh => ?_⟩
    obtain ⟨am, s, h, rs, S, P⟩ := hh
    simp only [evE] at P
    exact P.elim
  cases q : G.cur with
  | none => exact none_ (fun c j z => by rw [q] at z; cases z)
  | some t =>
    obtain ⟨c, d, j⟩ := t
    cases d with
    | some d => exact none_ (fun c j z => by rw [q] at z; cases z)
    | none =>
      obtain ⟨a, oe, dd, cd, hp, hz, hf, hj, hc, hce, hd⟩ := C.ht c none j q
      have hd : dd = none := hd
      subst hd
      unfold isCl at hT
      rw [Bool.and_eq_true, Bool.and_eq_true] at hT
      obtain ⟨⟨hgT, hnT⟩, hT⟩ := hT
      cases q2 : B.p.cls[Cl]? with
      | none => rw [q2] at hT; cases hT
      | some cT =>
        rw [q2] at hT
        simp only [Bool.and_eq_true, decide_eq_true_eq, beq_iff_eq] at hT
        obtain ⟨hg, hm, hn, hdb⟩ := bl_of C hb
        have hv : bootBuiltins x = some (.builtin "isinstance") := by rw [hx]; decide +kernel
        have eT := C.kn.exc Cl cT q2 hT.2
        have eD := C.kn.exc c cd hc hce
        have gT := eT.gl
        rw [hT.1] at gT
        refine PE.imp (pe_callB (call_isQ hp eD.is hz hf) hg hm hv (pa_cons (isl_look C h1 h2 h3) (pa_cons (pe_glob (v := .ref (W.ca Cl)) (gl_of C hgT) gT rfl (okName1 hnT)) pa_nil)) hn hdb rfl rfl) ?_
        rintro σ H Q ⟨am, s, h, rs, S, P⟩
        simp only [evE, q] at P
        by_cases hs : s[i]? = some (some (.ref j))
        · rw [if_pos hs] at P
          obtain ⟨w, hw, r⟩ := Paired.get rs hs
          cases w with
          | none => exact r.elim
          | some w =>
            obtain ⟨b, hb1, rfl⟩ := r
            obtain ⟨b2, hb2, e2⟩ := S.gl _ hj
            have : b = a := by rw [hb1] at hb2; cases hb2; cases e2; rfl
            subst this
            refine ⟨_, hw, .ref (W.ca Cl), .ref (W.ca Cl), G.sub c Cl, rfl, fun u ru => ru, ?_, Post.at P S rfl⟩
            rw [C.gs]
            exact (C.kn.exm Cl c cT cd q2 hc hT.2 hce).2
        · rw [if_neg hs] at P
          exact P.elim
theorem e_exTy (C : Cn X W G B wx) {i : Nat} {x e T : Str} {p0 p1 p2 p : Pos} (hx : x = ("isinstance" : Str)) (hb : isBl B x = true) (h1 : B.N[i]? = some e) (h2 : isLoc B.sc e = true) (h3 : okName e = true) (hT : T = ("ValueError" : Str)) (hbT : isBl B T = true) :
    OkE X W G wx (.exTy i) (.Call (.Name x p0) [.Name e p1, .Name T p2] [] p) := by
  refine okE_gen C.hK ?_ (fun _ => rfl) (fun _ _ _ => by intro z; cases z)
  have none_ : (∀ c j, G.cur ≠ some (c, none, j)) → PE X (.Call (.Name x p0) [.Name e p1, .Name T p2] [] p) (tE W wx (evE G (.exTy i))) := fun hn => by
    refine ⟨fun pins s σ H Q I hh => ?_⟩
    obtain ⟨am, s, h, rs, S, P⟩ := hh
    simp only [evE] at P
    exact P.elim
  cases q : G.cur with
  | none => exact none_ (fun c j z => by rw [q] at z; cases z)
  | some t =>
    obtain ⟨c, d, j⟩ := t
    cases d with
    | some d => exact none_ (fun c j z => by rw [q] at z; cases z)
    | none =>
      obtain ⟨a, oe, dd, cd, hp, hz, hf, hj, hc, hce, hd⟩ := C.ht c none j q
      have hd : dd = none := hd
      subst hd
      obtain ⟨hg, hm, hn, hdb⟩ := bl_of C hb
      obtain ⟨hg2, hm2, hn2, hd2⟩ := bl_of C hbT
      have hv : bootBuiltins x = some (.builtin "isinstance") := by rw [hx]; decide +kernel
      have hv2 : bootBuiltins T = some (.type "ValueError") := by rw [hT]; decide +kernel
      have eD := C.kn.exc c cd hc hce
      refine PE.imp (pe_callB (call_isQ hp eD.is hz hf) hg hm hv (pa_cons (isl_look C h1 h2 h3) (pa_cons (pe_bltn (v := .ty "ValueError") hg2 hm2 hv2 rfl hn2 hd2) pa_nil)) hn hdb rfl rfl) ?_
      rintro σ H Q ⟨am, s, h, rs, S, P⟩
      simp only [evE, q] at P
      by_cases hs : s[i]? = some (some (.ref j))
      · rw [if_pos hs] at P
        obtain ⟨w, hw, r⟩ := Paired.get rs hs
        cases w with
        | none => exact r.elim
        | some w =>
          obtain ⟨b, hb1, rfl⟩ := r
          obtain ⟨b2, hb2, e2⟩ := S.gl _ hj
          have : b = a := by rw [hb1] at hb2; cases hb2; cases e2; rfl
          subst this
          exact ⟨_, hw, .ty "ValueError", .type "ValueError", true, rfl, fun u ru => ru, eD.ve, Post.at P S rfl⟩
      · rw [if_neg hs] at P
        exact P.elim
theorem lookup_rel {am : List Addr} {W : Nm} {f : Nat} {v : V} : ∀ {fs : List (Nat × V)} {ys : List (Str × V)}, Paired (fun p q => W.fn p.1 = q.1 ∧ RV am p.2 q.2) fs ys → (inj : ∀ p ∈ fs, W.fn p.1 = W.fn f → p.1 = f) → fs.lookup f = some v → ∃ w, ys.lookup (W.fn f) = some w ∧ RV am v w
  | [], _, .nil, _, h => by cases h
  | (g, x) :: fs, (n, y) :: ys, .cons r t, inj, h => by
    by_cases e : f = g
    · subst e
      rw [List.lookup_cons_self] at h
      cases h
      refine ⟨y, ?_, r.2⟩
      have : n = W.fn f := r.1.symm
      subst this
      exact List.lookup_cons_self
    · have h : fs.lookup f = some v := by
        rw [List.lookup_cons] at h
        have : (f == g) = false := by simpa using e
        rw [this] at h
        exact h
      obtain ⟨w, h1, h2⟩ := lookup_rel t (fun p hp => inj p (List.mem_cons_of_mem _ hp)) h
      refine ⟨w, ?_, h2⟩
      rw [List.lookup_cons]
      have : (W.fn f == n) = false := by
        rw [beq_eq_false_iff_ne]
        intro z
        exact e (inj (g, x) List.mem_cons_self (r.1.trans z.symm)).symm
      rw [this]
      exact h1
end
theorem evEs_len {G : Cxt} : ∀ {es : List E} {s : Sl} {h h2 : Hh} {vs : List V}, evEs G es s h = .ok vs h2 → vs.length = es.length
  | [], _, _, _, _, e => by rw [evEs] at e; cases e; rfl
  | e :: es, s, h, h2, vs, q => by
    rw [evEs] at q
    cases q1 : evE G e s h with
    | ok v h3 =>
      rw [q1] at q
      dsimp only [Res.bind] at q
      cases q2 : evEs G es s h3 with
      | ok ws h4 =>
        rw [q2] at q
        cases q
        rw [List.length_cons, List.length_cons, evEs_len q2]
      | exc _ _ _ => rw [q2] at q; cases q
      | bad => rw [q2] at q; cases q
    | exc _ _ _ => rw [q1] at q; cases q
    | bad => rw [q1] at q; cases q
end QM

/-! QM6: all expressions -/
namespace QM
open PySem L2 PyProof.Rows
section
mutual
theorem sE : ∀ (E : E) {X : Cx} {W : Nm} {G : Cxt} {B : Blk} {wx : WX} (C : Cn X W G B wx) (e : PySem.Expr), mE B E e = true → OkE X W G wx E e
  | .c v, X, W, G, B, wx, C, e, h => by
    cases e with
    | Constant k j p => exact e_c C h
    | _ => exact Bool.noConfusion h
  | .v i, X, W, G, B, wx, C, e, h => by
    cases e with
    | Name x p =>
      have h : (decide (B.N[i]? = some x) && isLoc B.sc x && okName x) = true := h
      simp only [Bool.and_eq_true, decide_eq_true_eq] at h
      exact e_v C h.1.1 h.1.2 h.2
    | _ => exact Bool.noConfusion h
  | .bin o a b, X, W, G, B, wx, C, e, h => by
    cases e with
    | BinOp x op y p =>
      have h : (decide (arith o = some op) && mE B a x && mE B b y) = true := h
      simp only [Bool.and_eq_true, decide_eq_true_eq] at h
      exact e_arith C h.1.1 (sE a C x h.1.2) (sE b C y h.2)
    | Compare x ops ys p =>
      cases ops with
      | nil => exact Bool.noConfusion h
      | cons op r =>
        cases r with
        | cons _ _ => cases ys <;> exact Bool.noConfusion h
        | nil =>
          cases ys with
          | nil => exact Bool.noConfusion h
          | cons y ys =>
            cases ys with
            | cons _ _ => exact Bool.noConfusion h
            | nil =>
              have h : (decide (cmpo o = some op) && mE B a x && mE B b y) = true := h
              simp only [Bool.and_eq_true, decide_eq_true_eq] at h
              exact e_cmp C h.1.1 (sE a C x h.1.2) (sE b C y h.2) h.2
    | _ => exact Bool.noConfusion h
  | .neg a, X, W, G, B, wx, C, e, h => by
    cases e with
    | UnaryOp op x p =>
      cases op with
      | USub => exact e_neg C (sE a C x h)
      | _ => exact Bool.noConfusion h
    | _ => exact Bool.noConfusion h
  | .not a, X, W, G, B, wx, C, e, h => by
    cases e with
    | UnaryOp op x p =>
      cases op with
      | Not => exact e_not C (sE a C x h)
      | _ => exact Bool.noConfusion h
    | _ => exact Bool.noConfusion h
  | .and a b, X, W, G, B, wx, C, e, h => by
    cases e with
    | BoolOp op vs p =>
      cases op with
      | Or => cases vs <;> exact Bool.noConfusion h
      | And =>
        cases vs with
        | nil => exact Bool.noConfusion h
        | cons x vs =>
          cases vs with
          | nil => exact Bool.noConfusion h
          | cons y vs =>
            cases vs with
            | nil =>
              have h : (mE B a x && mE B b y) = true := h
              simp only [Bool.and_eq_true] at h
              exact e_and2 (sE a C x h.1) (sE b C y h.2)
            | cons z vs =>
              cases b with
              | and b1 b2 =>
                have h : (mE B a x && mE B (.and b1 b2) (.BoolOp .And (y :: z :: vs) p)) = true := h
                simp only [Bool.and_eq_true] at h
                exact e_and3 (sE a C x h.1) (sE (.and b1 b2) C _ h.2)
              | _ =>
                have h : (mE B a x && false) = true := h
                rw [Bool.and_false] at h
                cases h
    | _ => exact Bool.noConfusion h
  | .or a b, X, W, G, B, wx, C, e, h => by
    cases e with
    | BoolOp op vs p =>
      cases op with
      | And => cases vs <;> exact Bool.noConfusion h
      | Or =>
        cases vs with
        | nil => exact Bool.noConfusion h
        | cons x vs =>
          cases vs with
          | nil => exact Bool.noConfusion h
          | cons y vs =>
            cases vs with
            | nil =>
              have h : (mE B a x && mE B b y) = true := h
              simp only [Bool.and_eq_true] at h
              exact e_or2 (sE a C x h.1) (sE b C y h.2)
            | cons z vs =>
              cases b with
              | or b1 b2 =>
                have h : (mE B a x && mE B (.or b1 b2) (.BoolOp .Or (y :: z :: vs) p)) = true := h
                simp only [Bool.and_eq_true] at h
                exact e_or3 (sE a C x h.1) (sE (.or b1 b2) C _ h.2)
              | _ =>
                have h : (mE B a x && false) = true := h
                rw [Bool.and_false] at h
                cases h
    | _ => exact Bool.noConfusion h
  | .chain o o' a b c, X, W, G, B, wx, C, e, h => by
    cases e with
    | Compare x ops ys p =>
      cases ops with
      | nil => exact Bool.noConfusion h
      | cons op r =>
        cases r with
        | nil => cases ys <;> exact Bool.noConfusion h
        | cons op' r2 =>
          cases r2 with
          | cons _ _ => cases ys <;> exact Bool.noConfusion h
          | nil =>
            cases ys with
            | nil => exact Bool.noConfusion h
            | cons y ys =>
              cases ys with
              | nil => exact Bool.noConfusion h
              | cons z ys =>
                cases ys with
                | cons _ _ => exact Bool.noConfusion h
                | nil =>
                  have h : (decide (cmpo o = some op) && decide (cmpo o' = some op') && mE B a x && mE B b y && mE B c z) = true := h
                  simp only [Bool.and_eq_true, decide_eq_true_eq] at h
                  exact e_chain C h.1.1.1.1 h.1.1.1.2 (sE a C x h.1.1.2) (sE b C y h.1.2) (sE c C z h.2) h.2
    | _ => exact Bool.noConfusion h
  | .g k, X, W, G, B, wx, C, e, h => by
    cases e with
    | Name x p =>
      have h : (decide (B.gl[k]? = some x) && isGl B.sc x && okName x) = true := h
      simp only [Bool.and_eq_true, decide_eq_true_eq] at h
      exact e_g C h.1.1 h.1.2 h.2
    | _ => exact Bool.noConfusion h
  | .slice a lo hi, X, W, G, B, wx, C, e, h => by
    cases e with
    | Subscript x s p =>
      cases s with
      | Slice l u st p2 =>
        cases st with
        | some _ => exact Bool.noConfusion h
        | none =>
          have h : (mE B a x && mO B lo l && mO B hi u) = true := h
          simp only [Bool.and_eq_true] at h
          exact e_slice C (sE a C x h.1.1) (sO lo C l h.1.2) (sO hi C u h.2)
      | _ => exact Bool.noConfusion h
    | _ => exact Bool.noConfusion h
  | .ix a b, X, W, G, B, wx, C, e, h => by
    cases e with
    | Subscript x y p =>
      have h : (mE B a x && mE B b y && okX y) = true := h
      simp only [Bool.and_eq_true] at h
      exact e_ix C (sE a C x h.1.1) (sE b C y h.1.2) h.2
    | _ => exact Bool.noConfusion h
  | .bi f es, X, W, G, B, wx, C, e, h => by
    cases e with
    | Call fn ys ks p =>
      cases fn with
      | Name x p0 =>
        cases ks with
        | cons _ _ => cases ys <;> exact Bool.noConfusion h
        | nil =>
          have h : ((!B.hot) && decide (x = f.name) && isBl B x && (!ys.isEmpty) && mEs B es ys) = true := h
          simp only [Bool.and_eq_true, decide_eq_true_eq, Bool.not_eq_true'] at h
          exact e_bi C h.1.1.1.1 h.1.1.1.2 h.1.1.2 h.1.2 (mEs_ok h.2) (sEs es C ys h.2)
      | _ => exact Bool.noConfusion h
    | _ => exact Bool.noConfusion h
  | .bm m o es, X, W, G, B, wx, C, e, h => by
    cases e with
    | Call fn ys ks p =>
      cases fn with
      | Attribute x nm apos =>
        cases ks with
        | cons _ _ => cases ys <;> exact Bool.noConfusion h
        | nil =>
          have h : ((!B.hot) && decide (nm = m.name) && okR x && (apos.endLine == p.line) && decide (ys.length < 30) && mE B o x && mEs B es ys) = true := h
          simp only [Bool.and_eq_true, decide_eq_true_eq] at h
          exact e_bm C h.1.1.1.1.1.2 h.1.1.1.1.2 h.1.1.1.2 h.1.1.2 (sE o C x h.1.2) (mEs_ok h.2) (sEs es C ys h.2) (mEs_len h.2)
      | _ => exact Bool.noConfusion h
    | _ => exact Bool.noConfusion h
  | .dct es, X, W, G, B, wx, C, e, h => by
    cases e with
    | Dict ks vs p =>
      have h : (mD B es ks vs && decide (ks.length ≤ 15)) = true := h
      simp only [Bool.and_eq_true, decide_eq_true_eq] at h
      obtain ⟨a, b, c, d, e⟩ := sD es C ks vs p h.1
      exact e_dct C a b c d h.2 e
    | _ => exact Bool.noConfusion h
  | .exIs i Cl, X, W, G, B, wx, C, e, h => by
    cases e with
    | Call fn ys ks p =>
      cases fn with
      | Name x p0 =>
        rcases ys with _ | ⟨y, _ | ⟨z, _ | ⟨_, _⟩⟩⟩
        · exact Bool.noConfusion h
        · cases y <;> exact Bool.noConfusion h
        · cases y with
          | Name e p1 =>
            cases z with
            | Name T p2 =>
              cases ks with
              | cons _ _ => exact Bool.noConfusion h
              | nil =>
                have h : (B.hot && decide (x = ("isinstance" : Str)) && isBl B x && decide (B.N[i]? = some e) && isLoc B.sc e && okName e && isCl B Cl true T) = true := h
                simp only [Bool.and_eq_true, decide_eq_true_eq] at h
                exact e_exIs C h.1.1.1.1.1.2 h.1.1.1.1.2 h.1.1.1.2 h.1.1.2 h.1.2 h.2
            | _ => exact Bool.noConfusion h
          | _ => exact Bool.noConfusion h
        · cases y <;> first | exact Bool.noConfusion h | skip
          cases z <;> exact Bool.noConfusion h
      | _ => exact Bool.noConfusion h
    | _ => exact Bool.noConfusion h
  | .exTy i, X, W, G, B, wx, C, e, h => by
    cases e with
    | Call fn ys ks p =>
      cases fn with
      | Name x p0 =>
        rcases ys with _ | ⟨y, _ | ⟨z, _ | ⟨_, _⟩⟩⟩
        · exact Bool.noConfusion h
        · cases y <;> exact Bool.noConfusion h
        · cases y with
          | Name e p1 =>
            cases z with
            | Name T p2 =>
              cases ks with
              | cons _ _ => exact Bool.noConfusion h
              | nil =>
                have h : (B.hot && decide (x = ("isinstance" : Str)) && isBl B x && decide (B.N[i]? = some e) && isLoc B.sc e && okName e && decide (T = ("ValueError" : Str)) && isBl B T) = true := h
                simp only [Bool.and_eq_true, decide_eq_true_eq] at h
                exact e_exTy C h.1.1.1.1.1.1.2 h.1.1.1.1.1.2 h.1.1.1.1.2 h.1.1.1.2 h.1.1.2 h.1.2 h.2
            | _ => exact Bool.noConfusion h
          | _ => exact Bool.noConfusion h
        · cases y <;> first | exact Bool.noConfusion h | skip
          cases z <;> exact Bool.noConfusion h
      | _ => exact Bool.noConfusion h
    | _ => exact Bool.noConfusion h
  | .isTy t a, X, W, G, B, wx, C, e, h => by
    cases e with
    | Call fn ys ks p =>
      cases fn with
      | Name x p0 =>
        cases ys with
        | nil => exact Bool.noConfusion h
        | cons y ys =>
          cases ys with
          | nil => exact Bool.noConfusion h
          | cons z ys =>
            cases z with
            | Name T p1 =>
              cases ys with
              | cons _ _ => exact Bool.noConfusion h
              | nil =>
                cases ks with
                | cons _ _ => exact Bool.noConfusion h
                | nil =>
                  have h : (decide (x = ("isinstance" : Str)) && isBl B x && decide (T = (Str.ofString t.name)) && isBl B T && mE B a y && okA y) = true := h
                  simp only [Bool.and_eq_true, decide_eq_true_eq] at h
                  exact e_isTy C h.1.1.1.1.1 h.1.1.1.1.2 h.1.1.1.2 h.1.1.2 h.2 (sE a C y h.1.2)
            | _ => exact Bool.noConfusion h
      | _ => exact Bool.noConfusion h
    | _ => exact Bool.noConfusion h
  | .lst es, X, W, G, B, wx, C, e, h => by
    cases e with
    | List ys p => exact e_lst C (sEs es C ys h)
    | _ => exact Bool.noConfusion h
  | .tup es, X, W, G, B, wx, C, e, h => by
    cases e with
    | Tuple ys k p => exact e_tup C (sEs es C ys h)
    | _ => exact Bool.noConfusion h
  | .call f es, X, W, G, B, wx, C, e, h => by
    cases e with
    | Call fn ys ks p =>
      cases fn with
      | Name x p0 =>
        cases ks with
        | cons _ _ => cases ys <;> exact Bool.noConfusion h
        | nil =>
          have h : ((!B.hot) && isFd B f x ys.length && mEs B es ys) = true := h
          simp only [Bool.and_eq_true, Bool.not_eq_true'] at h
          exact e_call C h.1.1 h.1.2 (mEs_ok h.2) (sEs es C ys h.2) (mEs_len h.2) fun _ _ _ _ z => evEs_len z
      | _ => exact Bool.noConfusion h
    | _ => exact Bool.noConfusion h
  | .isOwn C0 a, X, W, G, B, wx, C, e, h => by
    exfalso
    revert h
    cases e <;> simp [mE]
  | .new C0 es, X, W, G, B, wx, C, e, h => by
    exfalso
    revert h
    cases e <;> simp [mE]
  | .attr o f, X, W, G, B, wx, C, e, h => by
    exfalso
    revert h
    cases e <;> simp [mE]
  | .meth o m es, X, W, G, B, wx, C, e, h => by
    exfalso
    revert h
    cases e <;> simp [mE]
  | .lc own t k es cond elt, X, W, G, B, wx, C, e, h => by
    exfalso
    revert h
    cases e <;> simp [mE]
  | .exAt i f, X, W, G, B, wx, C, e, h => by
    exfalso
    revert h
    cases e <;> simp [mE]
theorem sEs : ∀ (es : List E) {X : Cx} {W : Nm} {G : Cxt} {B : Blk} {wx : WX} (C : Cn X W G B wx) (ys : List PySem.Expr), mEs B es ys = true → PA X ys (tA W wx (evEs G es))
  | [], X, W, G, B, wx, C, ys, h => by
    cases ys with
    | cons _ _ => exact Bool.noConfusion h
    | nil =>
      refine PA.imp pa_nil ?_
      rintro σ H Q ⟨am, s, h, rs, S, P⟩
      simp only [evEs] at P
      exact Post.at P S .nil
  | e :: es, X, W, G, B, wx, C, ys, h => by
    cases ys with
    | nil => exact Bool.noConfusion h
    | cons y ys =>
      have h : (mE B e y && okA y && mEs B es ys) = true := h
      simp only [Bool.and_eq_true] at h
      refine PA.imp (pa_cons (sE e C y h.1.1).pe (sEs es C ys h.2) (star_cons h.1.2)) ?_
      rintro σ H Q ⟨am, s, h, rs, S, P⟩
      simp only [evEs] at P
      refine ⟨am, s, h, rs, S, P.of_bind fun am1 v1 w1 h1 H1 p1 S1 r1 P1 => ?_⟩
      refine ⟨am1, s, h1, RSl.mono p1 rs, S1, P1.of_bind fun am2 v2 w2 h2 H2 p2 S2 r2 P2 => ?_⟩
      exact Post.at P2 S2 (.cons (RV.mono p2 r1) r2)
theorem sO : ∀ (o : Option E) {X : Cx} {W : Nm} {G : Cxt} {B : Blk} {wx : WX} (C : Cn X W G B wx) (l : Option PySem.Expr), mO B o l = true → PO X l (tPO W wx G o)
  | none, X, W, G, B, wx, C, l, h => by
    cases l with
    | some _ => exact Bool.noConfusion h
    | none => exact po_none
  | some e, X, W, G, B, wx, C, l, h => by
    cases l with
    | none => exact Bool.noConfusion h
    | some y => exact po_some (sE e C y h).pe
theorem sD : ∀ (es : List E) {X : Cx} {W : Nm} {G : Cxt} {B : Blk} {wx : WX} (C : Cn X W G B wx) (ks : List (Option PySem.Expr)) (vs : List PySem.Expr) (p : Pos), mD B es ks vs = true →
    PPs X p ks vs (trsOf W wx G es) ∧ es.length % 2 = 0 ∧ ks.all (·.isSome) = true ∧ ks.length = vs.length ∧ (ks = [] → es = [])
  | [], X, W, G, B, wx, C, ks, vs, p, h => by
    cases ks with
    | cons _ _ => cases vs <;> exact Bool.noConfusion h
    | nil =>
      cases vs with
      | cons _ _ => exact Bool.noConfusion h
      | nil => exact ⟨pps_nil, rfl, rfl, rfl, fun _ => rfl⟩
  | [_], X, W, G, B, wx, C, ks, vs, p, h => by
    exfalso
    revert h
    rcases ks with _ | ⟨_ | _, _⟩ <;> cases vs <;> simp [mD]
  | k :: v :: es, X, W, G, B, wx, C, ks, vs, p, h => by
    rcases ks with _ | ⟨x, ks⟩
    · cases vs <;> exact Bool.noConfusion h
    · cases x with
      | none => cases vs <;> exact Bool.noConfusion h
      | some x =>
        cases vs with
        | nil => exact Bool.noConfusion h
        | cons y vs =>
          have h : (mE B k x && mE B v y && mD B es ks vs) = true := h
          simp only [Bool.and_eq_true] at h
          obtain ⟨a, b, c, d, e⟩ := sD es C ks vs p h.2
          refine ⟨pps_cons (sE k C x h.1.1).pe (sE v C y h.1.2).pe a, ?_, ?_, ?_, fun z => by cases z⟩
          · rw [List.length_cons, List.length_cons]; omega
          · rw [List.all_cons, c]; rfl
          · rw [List.length_cons, List.length_cons, d]
end
end

end QM

/-! QM6b: statements -/
namespace QM
open PySem L2 PyProof.Rows
/-! ### statements -/
def PostS (W : Nm) (wx : WX) (am : List Addr) (o : Out) (D : Ends) : Prop :=
  match o with
  | .nx s h => ∀ am' σ' H', Pf am am' → RSl am' s σ' → Sim W am' h H' → D.nx σ' H'
  | .ret v h => ∀ am' w H', Pf am am' → Sim W am' h H' → RV am' v w → D.rt w H'
  | .exc c d s h => ∀ am' σ' dd H', Pf am am' → RSl am' s σ' → Sim W am' h H' → RD am' d dd → wx (.ref (W.ca c)) dd σ' H'
  | .brk s h => ∀ am' σ' H', Pf am am' → RSl am' s σ' → Sim W am' h H' → D.bk σ' H'
  | .ct s h => ∀ am' σ' H', Pf am am' → RSl am' s σ' → Sim W am' h H' → D.ct σ' H'
  | .bad => False
def tS (W : Nm) (wx : WX) (sem : Sl → Hh → Out) : TS := fun D σ H => ∃ am s h, RSl am s σ ∧ Sim W am h H ∧ PostS W wx am (sem s h) D
section
variable {W : Nm} {wx : WX} {am : List Addr}
theorem PostS.mono {am' : List Addr} (p : Pf am am') {o : Out} {D : Ends} (h : PostS W wx am o D) : PostS W wx am' o D := by
  cases o with
  | nx s h' => exact fun a2 σ' H' p2 => h a2 σ' H' (p.trans p2)
  | ret s h' => exact fun a2 σ' H' p2 => h a2 σ' H' (p.trans p2)
  | exc c d s h' => exact fun a2 σ' dd H' p2 => h a2 σ' dd H' (p.trans p2)
  | brk s h' => exact fun a2 σ' H' p2 => h a2 σ' H' (p.trans p2)
  | ct s h' => exact fun a2 σ' H' p2 => h a2 σ' H' (p.trans p2)
  | bad => exact h
theorem PostS.of_out {α β : Type} {R : List Addr → α → β → Prop} {r : Res α} {s : Sl} {σ : L2.St} {k : α → Hh → Out} {D : Ends} {Q : β → Hp → Prop} (h : PostS W wx am (r.out s k) D) (rs : RSl am s σ)
    (f : ∀ am' v w h' H', Pf am am' → Sim W am' h' H' → R am' v w → PostS W wx am' (k v h') D → Q w H') : Post W wx R am σ r Q := by
  cases r with
  | ok v h' => exact fun am' w H' p S rv => f am' v w h' H' p S rv (PostS.mono p h)
  | exc c d h' => exact fun am' dd H' p S rd => h am' σ dd H' p (RSl.mono p rs) S rd
  | bad => exact h
theorem PostS.nx {s : Sl} {h : Hh} {σ : L2.St} {H : Hp} {D : Ends} (P : PostS W wx am (.nx s h) D) (rs : RSl am s σ) (S : Sim W am h H) : D.nx σ H := P am σ H (Pf.refl _) rs S
theorem PostS.rt {v w : V} {h : Hh} {H : Hp} {D : Ends} (P : PostS W wx am (.ret v h) D) (S : Sim W am h H) (r : RV am v w) : D.rt w H := P am w H (Pf.refl _) S r
/-- other ends behind the same code -/
theorem PostS.seq {o : Out} {k : Sl → Hh → Out} {D : Ends} {u : TS} (h : PostS W wx am (o.seq k) D) (f : ∀ am' s h' σ' H', Pf am am' → RSl am' s σ' → Sim W am' h' H' → PostS W wx am' (k s h') D → u D σ' H') : PostS W wx am o { D with nx := u D } := by
  cases o with
  | nx s h' => exact fun am' σ' H' p rs S => f am' s h' σ' H' p rs S (PostS.mono p h)
  | ret v h' => exact h
  | exc c d s h' => exact h
  | brk s h' => exact h
  | ct s h' => exact h
  | bad => exact h
end
theorem PS.imp {X : Cx} {e : PySem.Stmt} {t t' : TS} (h : PS X e t) (k : ∀ D σ H, t' D σ H → t D σ H) : PS X e t' := ⟨fun pins s σ H D I q => h.run pins s σ H D I (k D σ H q)⟩
theorem PSs.imp {X : Cx} {e : List PySem.Stmt} {t t' : TS} (h : PSs X e t) (k : ∀ D σ H, t' D σ H → t D σ H) : PSs X e t' := ⟨fun pins s σ H D I q => h.run pins s σ H D I (k D σ H q)⟩

/-! ### their terms against the text -/
def isLc (sc : Scope) (x : Str) : Bool := match sc.names.lookup x with
  | some .local => true
  | some .cell => true
  | _ => false
def isL1 (sc : Scope) (x : Str) : Bool := match sc.names.lookup x with
  | some .local => true
  | _ => false
/-- the names of a target -/
def mTs (B : Blk) : List Nat → List PySem.Expr → Bool
  | [], [] => true
  | i :: is, .Name x _ :: ts => decide (B.N[i]? = some x) && isLc B.sc x && mTs B is ts
  | _, _ => false
def mTg (B : Blk) : Tg → PySem.Expr → Bool
  | .one i, .Name x _ => decide (B.N[i]? = some x) && isLc B.sc x
  | .many is, .Tuple ts _ _ => mTs B is ts
  | _, _ => false
/-- x, y = u, v -/
def parX : PySem.Expr → PySem.Expr → Option (Str × Pos × Str × Pos × PySem.Expr × PySem.Expr)
  | .Tuple [.Name x px, .Name y py] _ _, .Tuple [u, v] _ _ => some (x, px, y, py, u, v)
  | _, _ => none
theorem parX_eq {t w : PySem.Expr} {x y : Str} {px py : Pos} {u v : PySem.Expr} (h : parX t w = some (x, px, y, py, u, v)) : ∃ k pt k2 pt2, t = .Tuple [.Name x px, .Name y py] k pt ∧ w = .Tuple [u, v] k2 pt2 := by
  unfold parX at h
  split at h
  · cases h
    exact ⟨_, _, _, _, rfl, rfl⟩
  · cases h
def isTupX : PySem.Expr → Bool
  | .Tuple _ _ _ => true
  | _ => false
def callX : PySem.Expr → Option (Str × List PySem.Expr × Pos)
  | .Call (.Name x _) ys [] p => some (x, ys, p)
  | _ => none
def methX : PySem.Expr → Option (PySem.Expr × Str × Pos × Pos)
  | .Call (.Attribute x n ap) [] [] cp => some (x, n, ap, cp)
  | _ => none
theorem callX_eq {e : PySem.Expr} {x : Str} {ys : List PySem.Expr} {p : Pos} (h : callX e = some (x, ys, p)) : ∃ p0, e = .Call (.Name x p0) ys [] p := by
  unfold callX at h
  split at h
  · cases h; exact ⟨_, rfl⟩
  · cases h
theorem methX_eq {e x : PySem.Expr} {n : Str} {ap cp : Pos} (h : methX e = some (x, n, ap, cp)) : e = .Call (.Attribute x n ap) [] [] cp := by
  unfold methX at h
  split at h
  · cases h; rfl
  · cases h
def Sk.name : Sk → Str
  | .it => "" | .rng => "range" | .keys => "keys" | .vals => "values" | .items => "items" | .enum => "enumerate" | .zip => "zip" | .rev => "reversed"
/-- what a loop walks, against the text -/
def mSk (B : Blk) (k : Sk) (es : List E) (it tg : PySem.Expr) : Bool :=
  match k with
  | .it => (match es with
    | [e] => mE B e it
    | _ => false)
  | .rng => (match callX it with
    | some (x, ys, _) => decide (x = ("range" : Str)) && isBl B x && mEs B es ys && (decide (ys.length = 1) || decide (ys.length = 2))
    | none => false)
  | .enum => (match callX it with
    | some (x, ys, _) => decide (x = ("enumerate" : Str)) && isBl B x && mEs B es ys && decide (ys.length = 1) && isTupX tg
    | none => false)
  | .zip => (match callX it with
    | some (x, ys, _) => decide (x = ("zip" : Str)) && isBl B x && mEs B es ys && decide (ys.length = 2) && isTupX tg
    | none => false)
  | .rev => (match callX it with
    | some (x, ys, _) => decide (x = ("reversed" : Str)) && isBl B x && mEs B es ys && decide (ys.length = 1)
    | none => false)
  | .vals => (match es, methX it with
    | [e], some (x, n, ap, cp) => decide (n = ("values" : Str)) && okR x && (ap.endLine == cp.line) && mE B e x
    | _, _ => false)
  | .items => (match es, methX it with
    | [e], some (x, n, ap, cp) => decide (n = ("items" : Str)) && okR x && (ap.endLine == cp.line) && isTupX tg && mE B e x
    | _, _ => false)
  | .keys => false
/-- raise C('..') -/
def raiseX : PySem.Expr → Option Str
  | .Call (.Name x _) [.Constant (.str _) _ _] [] _ => some x
  | _ => none
theorem raiseX_eq {e : PySem.Expr} {x : Str} (h : raiseX e = some x) : ∃ p0 m j p2 p, e = .Call (.Name x p0) [.Constant (.str m) j p2] [] p := by
  unfold raiseX at h
  split at h
  · cases h; exact ⟨_, _, _, _, _, rfl⟩
  · cases h
mutual
def mS (B : Blk) : S → PySem.Stmt → Bool
  | .set i e, .Assign [.Name x _] y _ => decide (B.N[i]? = some x) && isLc B.sc x && okX y && mE B e y
  | .tup is e, .Assign [.Tuple ts _ _] y _ => (!B.hot) && mTs B is ts && okX y && mE B e y && !isTupX y
  | .par i j a b, .Assign [t] w _ => (match parX t w with
    | some (x, px, y, py, u, v) => (!B.hot) && decide (B.N[i]? = some x) && decide (B.N[j]? = some y) && decide (i ≠ j) && isL1 B.sc x && isL1 B.sc y && (mE B a u && okX u) && (mE B b v && okX v) && !(decide (x = y)) &&
      (px.line == py.line) && !([u, v].all (foldedForSure 8)) && !([u, v].all (constantsAlone 8))
    | none => false)
  | .setIx o i e, .Assign [.Subscript x y _] z _ => okX z && mE B o x && mE B i y && mE B e z
  | .ret e, .Return (some y) _ => mE B e y
  | .ite c a b, .If y sa sb _ => mE B c y && mSs B a sa && mSs B b sb
  | .whl c b, .While y sb [] _ => (!B.hot) && mE B c y && mSs B b sb
  | .for_ t k es b, .For tg it sb [] _ => (!B.hot) && mTg B t tg && mSk B k es it tg && mSs B b sb
  | .expr e, .Expr y _ => okX y && mE B e y
  | .pass, .Pass _ => true
  | .cont, .Continue _ => true
  | .brk, .Break _ => true
  | .raise C [], .Raise (some y) none _ => (!B.hot) && (match raiseX y with
    | some x => isCl B C true x && (match B.p.cls[C]? with
      | some cd => cd.ei.isNone
      | none => false)
    | none => false)
  | .try_ b hs, .Try sb hds [] [] _ => (!B.hot) && (!hds.isEmpty) && mSs B b sb && mHs B hs hds
  | _, _ => false
def mSs (B : Blk) : List S → List PySem.Stmt → Bool
  | [], [] => true
  | s :: r, y :: ys => mS B s y && mSs B r ys
  | _, _ => false
def mHs (B : Blk) : List Hd → List PySem.ExceptHandler → Bool
  | [], [] => true
  | h :: hs, y :: ys => mH B h y && mHs B hs ys
  | _, _ => false
def mH (B : Blk) : Hd → PySem.ExceptHandler → Bool
  | .mk C none b, .ExceptHandler (some (.Name x _)) none sb _ => isCl B C true x && (!sb.isEmpty) && mSs { B with hot := true } b sb
  | .mk C (some i) b, .ExceptHandler (some (.Name x _)) (some n) sb _ => isCl B C true x && (!sb.isEmpty) && decide (B.N[i]? = some n) && isL1 B.sc n && mSs { B with hot := true } b sb
  | _, _ => false
end

/-- what statements ask besides -/
structure Cs (X : Cx) (W : Nm) (G : Cxt) (B : Blk) (wx : WX) : Prop extends Cn X W G B wx where
  po : B.hot = false → PassesOwn (model X.prog X.w) X.A X.env X.xe
  fn : ∀ x, X.fn x = true
  kf : X.env.scope.kind = .function
  cu : B.hot = false → G.cur = none
  st : B.hot = false → X.stack = X.env :: X.outer
  fr : B.hot = false → X.env.frame = some X.env.locals
  ge : G.isx = B.p.isx
section
variable {X : Cx} {W : Nm} {G : Cxt} {B : Blk} {wx : WX} {ei : Nat → Option EInit}
theorem okX_A {e : PySem.Expr} (h : okX e = true) : okA e = true := by
  cases e <;> first | rfl | exact Bool.noConfusion h
theorem swaps_ok {e : PySem.Expr} {t : Option PySem.Expr} {l : Nat} {env : PySem.Env} (h : okX e = true) : swapsWith e t l env = pure false := by
  cases e <;> first | rfl | exact Bool.noConfusion h
theorem lc_of (C : Cn X W G B wx) {x : Str} (h : isLc B.sc x = true) : Loc X.env.scope x := by
  rw [C.hs]
  unfold isLc at h
  split at h
  · rename_i q; exact .inl q
  · rename_i q; exact .inr q
  · cases h
theorem l1_of (C : Cn X W G B wx) {x : Str} (h : isL1 B.sc x = true) : X.env.scope.names.lookup x = some .local := by
  rw [C.hs]
  unfold isL1 at h
  split at h
  · rename_i q; exact q
  · cases h
theorem s_set (C : Cs X W G B wx) {i : Nat} {E : E} {x : Str} {e : PySem.Expr} {p0 p : Pos} (h1 : B.N[i]? = some x) (h2 : isLc B.sc x = true) (ok : okX e = true) (he : OkE X W G wx E e) : PS X (.Assign [.Name x p0] e p) (tS W wx (evS G ei (.set i E))) := by
  refine PS.imp (ps_set (i := i) C.nd (by rw [C.hN]; exact h1) (lc_of C.toCn h2) he.pe (swaps_ok ok) (.inl (C.fn x))) ?_
  rintro D σ H ⟨am, s, h, rs, S, P⟩
  simp only [evS] at P
  refine ⟨am, s, h, rs, S, P.of_out rs fun am1 v1 w1 h1 H1 p1 S1 r1 P1 => ?_⟩
  exact P1.nx (Paired.set (F := RS am1) (x := some v1) (y := some w1) r1 i (RSl.mono p1 rs)) S1
theorem s_ret (C : Cs X W G B wx) {E : E} {e : PySem.Expr} {p : Pos} (he : OkE X W G wx E e) : PS X (.Return (some e) p) (tS W wx (evS G ei (.ret E))) := by
  refine PS.imp (ps_ret he.pe) ?_
  rintro D σ H ⟨am, s, h, rs, S, P⟩
  simp only [evS] at P
  exact ⟨am, s, h, rs, S, P.of_out rs fun am1 v1 w1 h1 H1 p1 S1 r1 P1 => P1.rt S1 r1⟩
theorem s_expr (C : Cs X W G B wx) {E : E} {e : PySem.Expr} {p : Pos} (ok : okX e = true) (he : OkE X W G wx E e) : PS X (.Expr e p) (tS W wx (evS G ei (.expr E))) := by
  refine PS.imp (ps_expr he.pe (swaps_ok ok)) ?_
  rintro D σ H ⟨am, s, h, rs, S, P⟩
  simp only [evS] at P
  exact ⟨am, s, h, rs, S, P.of_out rs fun am1 v1 w1 h1 H1 p1 S1 r1 P1 => P1.nx (RSl.mono p1 rs) S1⟩
theorem s_pass {p : Pos} : PS X (.Pass p) (tS W wx (evS G ei .pass)) := by
  refine PS.imp ps_pass ?_
  rintro D σ H ⟨am, s, h, rs, S, P⟩
  simp only [evS] at P
  exact P.nx rs S
theorem s_ite {c : E} {a b : List S} {e : PySem.Expr} {sa sb : List PySem.Stmt} {p : Pos} (hc : OkE X W G wx c e) (ha : PSs X sa (tS W wx (evSs G ei a))) (hb : PSs X sb (tS W wx (evSs G ei b))) : PS X (.If e sa sb p) (tS W wx (evS G ei (.ite c a b))) := by
  refine PS.imp (ps_if hc.pt ha hb) ?_
  rintro D σ H ⟨am, s, h, rs, S, P⟩
  simp only [evS] at P
  refine ⟨am, s, h, rs, S, P.of_out rs fun am1 v1 w1 h1 H1 p1 S1 r1 P1 => ?_⟩
  cases r1
  cases v1 with
  | true => exact iteT ⟨am1, s, h1, RSl.mono p1 rs, S1, P1⟩
  | false => exact iteF ⟨am1, s, h1, RSl.mono p1 rs, S1, P1⟩
theorem s_whl (C : Cs X W G B wx) (hot : B.hot = false) {c : E} {b : List S} {e : PySem.Expr} {sb : List PySem.Stmt} {p : Pos} (hc : OkE X W G wx c e) (hb : PSs X sb (tS W wx (evSs G ei b))) : PS X (.While e sb [] p) (tS W wx (evS G ei (.whl c b))) := by
  refine PS.imp (ps_while (C.po hot) hc.pt hb) ?_
  rintro D σ H ⟨am, s, h, rs, S, P⟩
  simp only [evS] at P
  refine ⟨fun m σ H => ∃ am s h, RSl am s σ ∧ Sim W am h H ∧ PostS W wx am (whileN (evT G c) (evSs G ei b) m s h) D, ⟨FUEL, am, s, h, rs, S, P⟩, ?_⟩
  rintro m σ H ⟨am, s, h, rs, S, P⟩
  cases m with
  | zero => exact (show False from P).elim
  | succ m =>
    simp only [whileN] at P
    refine ⟨am, s, h, rs, S, P.of_out rs fun am1 v1 w1 h1 H1 p1 S1 r1 P1 => ?_⟩
    cases r1
    cases v1 with
    | false => exact iteF (P1.nx (RSl.mono p1 rs) S1)
    | true =>
      refine iteT ⟨fun σ' H' => ∃ am s h, RSl am s σ' ∧ Sim W am h H' ∧ PostS W wx am (whileN (evT G c) (evSs G ei b) m s h) D, fun σ' H' z => ⟨m, Nat.lt_succ_self m, z⟩, am1, s, h1, RSl.mono p1 rs, S1, ?_⟩
      rw [if_pos rfl] at P1
      cases q : evSs G ei b s h1 with
      | nx s2 h2 =>
        rw [q] at P1
        exact fun am2 σ2 H2 p2 rs2 S2 => ⟨am2, s2, h2, rs2, S2, PostS.mono p2 P1⟩
      | ct s2 h2 =>
        rw [q] at P1
        exact fun am2 σ2 H2 p2 rs2 S2 => ⟨am2, s2, h2, rs2, S2, PostS.mono p2 P1⟩
      | brk s2 h2 => rw [q] at P1; exact P1
      | ret v h2 => rw [q] at P1; exact P1
      | exc c d s2 h2 => rw [q] at P1; exact P1
      | bad => rw [q] at P1; exact P1
/-- the targets of a tuple -/
def gN : List Nat → TGs
  | [] => gNil
  | i :: is => gCons (gName i) (gN is)
theorem targets (C : Cs X W G B wx) : ∀ {is : List Nat} {ts : List PySem.Expr}, mTs B is ts = true → PGs X ts (gN is) ∧ (assignEach ts X.env).length = is.length ∧ (assignEach ts X.env).findIdx? (·.1) = none
  | [], [], _ => ⟨pgs_nil, rfl, rfl⟩
  | i :: is, .Name x p :: ts, h => by
    have h : (decide (B.N[i]? = some x) && isLc B.sc x && mTs B is ts) = true := h
    simp only [Bool.and_eq_true, decide_eq_true_eq] at h
    obtain ⟨a, b, c⟩ := targets C h.2
    have e : assignEach (.Name x p :: ts) X.env = (false, assign (.Name x p) X.env) :: assignEach ts X.env := rfl
    refine ⟨pgs_cons (pg_name (i := i) C.nd (by rw [C.hN]; exact h.1.1) (lc_of C.toCn h.1.2) (.inl (C.fn x))) a rfl, ?_, ?_⟩
    · rw [e, List.length_cons, List.length_cons, b]
    · rw [e, List.findIdx?_cons, c]
      rfl
  | [], _ :: _, h => Bool.noConfusion h
  | _ :: _, [], h => Bool.noConfusion h
  | _ :: _, t :: _, h => by
    cases t <;> first | exact Bool.noConfusion h | skip
    rename_i i is ts x p
    have h : (decide (B.N[i]? = some x) && isLc B.sc x && mTs B is ts) = true := h
    simp only [Bool.and_eq_true, decide_eq_true_eq] at h
    obtain ⟨a, b, c⟩ := targets C h.2
    have e : assignEach (.Name x p :: ts) X.env = (false, assign (.Name x p) X.env) :: assignEach ts X.env := rfl
    refine ⟨pgs_cons (pg_name (i := i) C.nd (by rw [C.hN]; exact h.1.1) (lc_of C.toCn h.1.2) (.inl (C.fn x))) a rfl, ?_, ?_⟩
    · rw [e, List.length_cons, List.length_cons, b]
    · rw [e, List.findIdx?_cons, c]
      rfl
theorem sets_len : ∀ {is : List Nat} {xs : List V} {s s' : Sl}, sets is xs s = some s' → is.length = xs.length
  | [], [], _, _, _ => rfl
  | i :: is, x :: xs, s, s', h => by rw [List.length_cons, List.length_cons, sets_len (s := s.set i (some x)) h]
  | [], _ :: _, _, _, h => by cases h
  | _ :: _, [], _, _, h => by cases h
theorem sets_ok {am : List Addr} : ∀ {is : List Nat} {xs ys : List V} {s s' : Sl} {σ : L2.St} {H : Hp} {Q : L2.St → Hp → Prop}, RSl am s σ → RVs am xs ys → sets is xs s = some s' → (∀ σ', RSl am s' σ' → Q σ' H) → gN is ys σ H Q
  | [], [], _, _, _, σ, H, Q, rs, .nil, e, k => by
    cases e
    exact ⟨rfl, k σ rs⟩
  | i :: is, x :: xs, y :: ys, s, s', σ, H, Q, rs, .cons r t, e, k => ⟨y, ys, rfl, sets_ok (s := s.set i (some x)) (Paired.set (F := RS am) (x := some x) (y := some y) r i rs) t e k⟩
  | [], _ :: _, _, _, _, _, _, _, _, _, e, _ => by cases e
  | _ :: _, [], _, _, _, _, _, _, _, _, e, _ => by cases e
theorem s_tup (C : Cs X W G B wx) (hot : B.hot = false) {is : List Nat} {E : E} {ts : List PySem.Expr} {e : PySem.Expr} {k : Nat} {p0 p : Pos} (ht : mTs B is ts = true) (ok : okX e = true) (nt : isTupX e = false) (he : OkE X W G wx E e) : PS X (.Assign [.Tuple ts k p0] e p) (tS W wx (evS G ei (.tup is E))) := by
  obtain ⟨a, b, c⟩ := targets C ht
  have hw : swappedStores [.Tuple ts k p0] e X.env = pure none := by cases e <;> first | rfl | exact Bool.noConfusion nt
  refine PS.imp (ps_asg he.pe (pg_tup (C.hc hot) a b c) (by show swapsWith e (some (.Tuple ts k p0)) p.line X.env = pure false; exact swaps_ok ok) hw) ?_
  rintro D σ H ⟨am, s, h, rs, S, P⟩
  simp only [evS] at P
  refine ⟨am, s, h, rs, S, P.of_out rs fun am1 v1 w1 h1 H1 p1 S1 r1 P1 => ?_⟩
  cases q : tupAt h1 v1 with
  | none => rw [q] at P1; exact P1.elim
  | some xs =>
    rw [q] at P1
    dsimp only at P1
    obtain ⟨pp, ys, rfl, hq, rr⟩ := S1.tup r1 q
    cases q2 : sets is xs s with
    | none => rw [q2] at P1; exact P1.elim
    | some s2 =>
      rw [q2] at P1
      refine ⟨pp, ys, rfl, by rw [C.hK]; exact hq, by rw [← Paired.len rr, ← sets_len q2], ?_⟩
      exact sets_ok (RSl.mono p1 rs) rr q2 fun σ' rs' => P1.nx rs' S1
theorem s_par (C : Cs X W G B wx) (hot : B.hot = false) {i j : Nat} {Ea Eb : E} {x y : Str} {u v : PySem.Expr} {px py pt pt2 p : Pos} {k k2 : Nat} (hi : B.N[i]? = some x) (hj : B.N[j]? = some y) (hij : i ≠ j) (hx : isL1 B.sc x = true) (hy : isL1 B.sc y = true) (ha : OkE X W G wx Ea u) (hb : OkE X W G wx Eb v) (oku : okX u = true) (okv : okX v = true)
    (xy : x ≠ y) (hl : (px.line == py.line) = true) (f1 : [u, v].all (foldedForSure 8) = false) (f2 : [u, v].all (constantsAlone 8) = false) : PS X (.Assign [.Tuple [.Name x px, .Name y py] k pt] (.Tuple [u, v] k2 pt2) p) (tS W wx (evS G ei (.par i j Ea Eb))) := by
  have lx := l1_of C.toCn hx
  have ly := l1_of C.toCn hy
  have hw : swappedStores [.Tuple [.Name x px, .Name y py] k pt] (.Tuple [u, v] k2 pt2) X.env = pure (some [x, y]) := by
    have kx : X.env.kindOf x = some .local := lx
    have ky : X.env.kindOf y = some .local := ly
    have bk : X.env.blockKind = .function := by unfold Env.blockKind; rw [C.kf]; rfl
    have st : ([u, v].any fun | .Starred .. => true | _ => false) = false := by
      cases u <;> cases v <;> first | rfl | exact Bool.noConfusion oku | exact Bool.noConfusion okv
    have hl2 : (py.line == px.line) = true := by rw [beq_iff_eq] at hl ⊢; exact hl.symm
    unfold swappedStores
    dsimp only
    have ed : [x, y].eraseDups.length = 2 := by
      have : (y == x) = false := by rw [beq_eq_false_iff_ne]; exact Ne.symm xy
      simp [List.eraseDups_cons, this]
    simp [bk, st, kx, ky, hl2, f1, f2, Expr.pos, List.filterMap, ed]
    intro z
    exfalso
    clear st f1 f2 ha hb
    rcases z with z | z
    · cases u <;> first | exact Bool.noConfusion z | exact Bool.noConfusion oku
    · cases v <;> first | exact Bool.noConfusion z | exact Bool.noConfusion okv
  refine PS.imp (ps_par (i := i) (j := j) (C.hc hot) C.nd (by rw [C.hN]; exact hi) (by rw [C.hN]; exact hj) hij lx ly (pa_cons ha.pe (pa_cons hb.pe pa_nil (star_cons (okX_A okv))) (star_cons (okX_A oku))) hw rfl) ?_
  rintro D σ H ⟨am, s, h, rs, S, P⟩
  simp only [evS] at P
  refine ⟨am, s, h, rs, S, P.of_out rs fun am1 v1 w1 h1 H1 p1 S1 r1 P1 => ?_⟩
  refine ⟨am1, s, h1, RSl.mono p1 rs, S1, P1.of_out (RSl.mono p1 rs) fun am2 v2 w2 h2 H2 p2 S2 r2 P2 => ?_⟩
  refine ⟨w1, w2, rfl, P2.nx ?_ S2⟩
  exact Paired.set (F := RS am2) (x := some v2) (y := some w2) r2 j (Paired.set (F := RS am2) (x := some v1) (y := some w1) (RV.mono p2 r1) i (RSl.mono (p1.trans p2) rs))
theorem s_cont {p : Pos} : PS X (.Continue p) (tS W wx (evS G ei .cont)) := by
  refine PS.imp ps_continue ?_
  rintro D σ H ⟨am, s, h, rs, S, P⟩
  simp only [evS] at P
  exact P am σ H (Pf.refl _) rs S
theorem s_brk {p : Pos} : PS X (.Break p) (tS W wx (evS G ei .brk)) := by
  refine PS.imp ps_break ?_
  rintro D σ H ⟨am, s, h, rs, S, P⟩
  simp only [evS] at P
  exact P am σ H (Pf.refl _) rs S
/-- o[i] = v of lists and dicts -/
theorem putIx_ok (hu : X.A.units + 64 < cLine) {pins : List (Addr × Obj)} {s : Shared} {σ : L2.St} {H : Hp} {ov iv u : Value} {o i v o' i' v' : V} {am : List Addr} {h : Hh} {Q : Hp → Prop} (I : Inv X pins σ H s) (ro : RelV o ov) (ri : RelV i iv) (rv : RelV v u)
    (r1 : RV am o' o) (r2 : RV am i' i) (r3 : RV am v' v) (S : Sim W am h H) (k : ∀ h' H', putIx o' i' v' h = .ok () h' → Sim W am h' H' → Q H') (nb : putIx o' i' v' h ≠ .bad) : wpAny (model X.prog X.w) X.A (setItem ov iv u) (fun _ s' => ∃ H', Inv X pins σ H' s' ∧ Q H') X.xe s := by
  cases o' with
  | ref p =>
    obtain ⟨a, ha, rfl⟩ := r1
    unfold putIx at k nb
    dsimp only at k nb
    split at nb
    · rename_i xs hc
      obtain ⟨ys, rr, hH⟩ := S.cell p _ a hc ha
      cases i' with
      | int n =>
        cases r2
        dsimp only at k nb
        cases e : ixN xs.length n with
        | none => rw [e] at nb; exact absurd rfl nb
        | some j =>
          rw [hc] at k
          dsimp only at k
          rw [e] at k
          exact set_list pins s σ H _ _ _ ov iv u Q I ro ri rv ⟨a, ys, n, j, rfl, rfl, hH, by rw [← Paired.len rr]; exact e, k _ _ rfl (S.set hc ha nk_lst ⟨_, Paired.set r3 j rr, upd_same⟩ nk_lst (nz_of hH))⟩
      | _ => exact absurd rfl nb
    · rename_i kvs hc
      obtain ⟨ls, rk, hH⟩ := S.cell p _ a hc ha
      rw [hc] at k
      dsimp only at k nb
      cases e : keyOf i' with
      | none => rw [e] at nb; exact absurd rfl nb
      | some q =>
        rw [e] at nb k
        dsimp only at nb k
        by_cases hl : kvs.length < LINE
        · rw [if_pos hl] at k
          obtain rfl : ov = Value.ref a := ro
          refine d_setItem (H' := upd H a (.dK (putK ls q v))) (by omega) I (.inl ⟨ls, q, hH, keyOf_rel r2 e, by rw [← RK.len rk, ← line_eq]; exact hl, rfl⟩) ri rv fun s4 I4 => ⟨_, I4, k _ _ rfl (S.set hc ha nk_dct ⟨_, RK.put rk q r3, upd_same⟩ nk_dct (nz_of hH))⟩
        · rw [if_neg hl] at nb
          exact absurd rfl nb
    · exact absurd rfl nb
  | _ => exact absurd rfl nb
theorem putIx_nx {o i v : V} {h h' : Hh} {c : Nat} {d : Option Nat} : putIx o i v h ≠ .exc c d h' := by
  intro e
  unfold putIx at e
  split at e
  · split at e
    · split at e
      · split at e <;> cases e
      · cases e
    · split at e
      · split at e <;> cases e
      · cases e
    · cases e
  · cases e
theorem s_setIx (C : Cs X W G B wx) {O I_ E_ : E} {o i e : PySem.Expr} {p0 p : Pos} (ok : okX e = true) (ho : OkE X W G wx O o) (hi : OkE X W G wx I_ i) (he : OkE X W G wx E_ e) : PS X (.Assign [.Subscript o i p0] e p) (tS W wx (evS G ei (.setIx O I_ E_))) := by
  refine ⟨fun pins s σ H D I hh => ?_⟩
  obtain ⟨am, sl, h, rs, S, P⟩ := hh
  simp only [evS] at P
  refine wpAny_Assign_Subscript (thn (he.pe.run pins s σ H _ I ⟨am, sl, h, rs, S, P.of_out rs (Q := fun w1 H1 => ∃ am1 v1 h1, Pf am am1 ∧ Sim W am1 h1 H1 ∧ RV am1 v1 w1 ∧ PostS W wx am1 ((evE G O sl h1).out sl fun x h => (evE G I_ sl h).out sl fun y h => (putIx x y v1 h).out sl fun _ h => .nx sl h) D)
    fun am1 v1 w1 h1 H1 p1 S1 r1 P1 => ⟨am1, v1, h1, p1, S1, r1, P1⟩⟩) fun u s1 ⟨v, H1, I1, rv, am1, v1, h1, p1, S1, r1, P1⟩ => ?_) (swaps_ok ok)
  refine thn (ho.pe.run pins s1 σ H1 _ I1 ⟨am1, sl, h1, RSl.mono p1 rs, S1, P1.of_out (RSl.mono p1 rs) (Q := fun w2 H2 => ∃ am2 v2 h2, Pf am1 am2 ∧ Sim W am2 h2 H2 ∧ RV am2 v2 w2 ∧ PostS W wx am2 ((evE G I_ sl h2).out sl fun y h => (putIx v2 y v1 h).out sl fun _ h => .nx sl h) D)
    fun am2 v2 w2 h2 H2 p2 S2 r2 P2 => ⟨am2, v2, h2, p2, S2, r2, P2⟩⟩) fun ov s2 ⟨x, H2, I2, rx, am2, v2, h2, p2, S2, r2, P2⟩ => ?_
  refine thn (hi.pe.run pins s2 σ H2 _ I2 ⟨am2, sl, h2, RSl.mono (p1.trans p2) rs, S2, P2.of_out (RSl.mono (p1.trans p2) rs) (Q := fun w3 H3 => ∃ am3 v3 h3, Pf am2 am3 ∧ Sim W am3 h3 H3 ∧ RV am3 v3 w3 ∧ PostS W wx am3 ((putIx v2 v3 v1 h3).out sl fun _ h => .nx sl h) D)
    fun am3 v3 w3 h3 H3 p3 S3 r3 P3 => ⟨am3, v3, h3, p3, S3, r3, P3⟩⟩) fun iv s3 ⟨y, H3, I3, ry, am3, v3, h3, p3, S3, r3, P3⟩ => ?_
  refine thn (putIx_ok (Q := fun H' => D.nx σ H') C.hu I3 rx ry rv (RV.mono p3 r2) r3 (RV.mono (p2.trans p3) r1) S3 (fun h' H' e S' => ?_) fun e => ?_) fun _ s4 ⟨H4, I4, q4⟩ => ⟨σ, H4, I4, q4⟩
  · rw [e] at P3
    exact P3.nx (RSl.mono ((p1.trans p2).trans p3) rs) S'
  · rw [e] at P3
    exact P3
/-- raise C('..') -/
theorem s_raise (C : Cs X W G B wx) (hot : B.hot = false) {Cl : Nat} {x m : Str} {j : Nat} {p p0 p2 p3 : Pos} (hc : isCl B Cl true x = true) (hei : ei = B.p.ei) (hi : ei Cl = none) : PS X (.Raise (some (.Call (.Name x p0) [.Constant (.str m) j p2] [] p)) none p3) (tS W wx (evS G ei (.raise Cl []))) := by
  unfold isCl at hc
  rw [Bool.and_eq_true, Bool.and_eq_true] at hc
  obtain ⟨⟨hg, hn⟩, hc⟩ := hc
  cases q : B.p.cls[Cl]? with
  | none => rw [q] at hc; cases hc
  | some cd =>
    rw [q] at hc
    simp only [Bool.and_eq_true, decide_eq_true_eq, beq_iff_eq] at hc
    have K := C.kn.exc Cl cd q hc.2
    have gl := K.gl
    rw [hc.1] at gl
    refine PS.imp (ps_raise (C.hc hot) C.tk (pmk_own PySem.F.excBase_ValueError (K.made (by rw [hei] at hi; unfold Prog.ei at hi; rw [q] at hi; exact Option.isNone_iff_eq_none.mpr hi)) gl K.kp (raises_own K.sb K.ty) (gl_of C.toCn hg) (okName1 hn))) ?_
    rintro D σ H ⟨am, s, h, rs, S, P⟩
    simp only [evS, hi] at P
    exact P am σ none H (Pf.refl _) rs S trivial
end
end QM

/-! QM6c: loops -/
namespace QM
open PySem L2 PyProof.Rows
/-- an iterator tells what the machine walks -/
structure WkOk (W : Nm) (J : It) (w : Walk) (am0 : List Addr) : Prop where
  stop : ∀ am h H, Pf am0 am → Sim W am h H → w.ok h → J.stop w.items.length H
  go : ∀ i it am h H, w.items[i]? = some it → Pf am0 am → Sim W am h H → w.ok h → J.go i H ∧ ∀ x H', J.yld i H x H' → ∃ am', Pf am am' ∧ Sim W am' (it.lay h).2 H' ∧ RV am' (it.lay h).1 x
theorem PI.imp {X : Cx} {tg it : PySem.Expr} {t t' : TI} (h : PI X tg it t) (k : ∀ σ H R, t' σ H R → t σ H R) : PI X tg it t' := ⟨fun pins s σ H R I q => h.run pins s σ H R I (k σ H R q)⟩
section
variable {W : Nm} {am : List Addr} {h : Hh} {H : Hp}
theorem RV.ref_mono {am0 am : List Addr} {i : Nat} {a : Addr} (p : Pf am0 am) (h : am0[i]? = some a) : RV am (.ref i) (.ref a) := ⟨a, p.get h, rfl⟩
theorem sqL_of (S : Sim W am h H) {i : Nat} {a : Addr} {xs : List V} (ha : am[i]? = some a) (e : lstAt h (.ref i) = some xs) : ∃ ys, SqL W.K H a ys ∧ RVs am xs ys := by
  obtain ⟨p, ys, e1, q, r⟩ := S.lst (v := .ref i) (w := .ref a) ⟨a, ha, rfl⟩ e
  cases e1
  exact ⟨ys, q, r⟩
theorem sqT_of (S : Sim W am h H) {i : Nat} {a : Addr} {xs : List V} (ha : am[i]? = some a) (e : tupAt h (.ref i) = some xs) : ∃ ys, SqT W.K H a ys ∧ RVs am xs ys := by
  obtain ⟨p, ys, e1, q, r⟩ := S.tup (v := .ref i) (w := .ref a) ⟨a, ha, rfl⟩ e
  cases e1
  exact ⟨ys, q, r⟩
theorem map_get {xs : List V} {i : Nat} {it : Item} (h : (xs.map Item.val)[i]? = some it) : ∃ v, xs[i]? = some v ∧ it = .val v := by
  rw [List.getElem?_map] at h
  cases q : xs[i]? with
  | none => rw [q] at h; cases h
  | some v => rw [q] at h; cases h; exact ⟨v, rfl, rfl⟩
theorem wk_list {i : Nat} {a : Addr} {xs : List V} (ha : am[i]? = some a) : WkOk W (Itl W.K a) ⟨xs.map .val, [(.ref i, xs)], [], [], none⟩ am := by
  refine ⟨fun am' h H p S ok => ?_, fun k it am' h H hk p S ok => ?_⟩
  · obtain ⟨ys, q, r⟩ := sqL_of S (p.get ha) (ok.1 _ List.mem_cons_self)
    exact ⟨ys, q, by rw [← Paired.len r]; show xs.length ≤ (xs.map Item.val).length; rw [List.length_map]; exact Nat.le_refl _⟩
  · obtain ⟨ys, q, r⟩ := sqL_of S (p.get ha) (ok.1 _ List.mem_cons_self)
    obtain ⟨v, hv, rfl⟩ := map_get hk
    obtain ⟨w, hw, rw⟩ := Paired.get r hv
    refine ⟨⟨ys, w, q, hw⟩, fun x H' y => ?_⟩
    obtain ⟨rfl, y⟩ := y
    have e := y ys q
    rw [hw] at e
    cases e
    exact ⟨am', Pf.refl _, S, rw⟩
theorem wk_tup {i : Nat} {a : Addr} {xs : List V} (ha : am[i]? = some a) : WkOk W (Itt W.K a) ⟨xs.map .val, [], [(.ref i, xs)], [], none⟩ am := by
  refine ⟨fun am' h H p S ok => ?_, fun k it am' h H hk p S ok => ?_⟩
  · obtain ⟨ys, q, r⟩ := sqT_of S (p.get ha) (ok.2.1 _ List.mem_cons_self)
    exact ⟨ys, q, by rw [← Paired.len r]; show xs.length ≤ (xs.map Item.val).length; rw [List.length_map]; exact Nat.le_refl _⟩
  · obtain ⟨ys, q, r⟩ := sqT_of S (p.get ha) (ok.2.1 _ List.mem_cons_self)
    obtain ⟨v, hv, rfl⟩ := map_get hk
    obtain ⟨w, hw, rw⟩ := Paired.get r hv
    refine ⟨⟨ys, w, q, hw⟩, fun x H' y => ?_⟩
    obtain ⟨rfl, y⟩ := y
    have e := y ys q
    rw [hw] at e
    cases e
    exact ⟨am', Pf.refl _, S, rw⟩
theorem wk_str {x : Str} : WkOk W (Its x) ⟨x.cps.toList.map fun c => .val (.str ⟨#[c]⟩), [], [], [], none⟩ am := by
  refine ⟨fun am' h H p S ok => ?_, fun k it am' h H hk p S ok => ?_⟩
  · show x.cps.size ≤ (x.cps.toList.map fun c => Item.val (.str ⟨#[c]⟩)).length
    rw [List.length_map, Array.length_toList]
    exact Nat.le_refl _
  · rw [List.getElem?_map, Array.getElem?_toList] at hk
    cases q : x.cps[k]? with
    | none => rw [q] at hk; cases hk
    | some c =>
      rw [q] at hk
      cases hk
      refine ⟨(Array.getElem?_eq_some_iff.mp q).1, fun v H' y => ?_⟩
      obtain ⟨rfl, c', hc, rfl⟩ := y
      rw [q] at hc
      cases hc
      exact ⟨am', Pf.refl _, S, rfl⟩
theorem rng_get : ∀ {n : Nat} {lo : Int} {i : Nat} {it : Item}, (rngI lo n)[i]? = some it → i < n ∧ it = .val (.int (lo + i))
  | 0, _, _, _, h => by cases h
  | n + 1, lo, 0, _, h => by
    cases h
    exact ⟨Nat.succ_pos _, by rw [Int.natCast_zero, Int.add_zero]⟩
  | n + 1, lo, i + 1, it, h => by
    obtain ⟨a, b⟩ := rng_get (n := n) (lo := lo + 1) (i := i) h
    refine ⟨Nat.succ_lt_succ a, ?_⟩
    rw [b]
    congr 2
    omega
theorem rng_len : ∀ (n : Nat) (lo : Int), (rngI lo n).length = n
  | 0, _ => rfl
  | n + 1, lo => by
    show (rngI (lo + 1) n).length + 1 = n + 1
    rw [rng_len]
theorem wk_rng {lo : Int} {n : Nat} : WkOk W (Itr lo n) ⟨rngI lo n, [], [], [], none⟩ am := by
  refine ⟨fun am' h H p S ok => ?_, fun k it am' h H hk p S ok => ?_⟩
  · show n ≤ (rngI lo n).length
    rw [rng_len]
    exact Nat.le_refl _
  · obtain ⟨a, rfl⟩ := rng_get hk
    refine ⟨a, fun x H' y => ?_⟩
    obtain ⟨rfl, rfl⟩ := y
    exact ⟨am', Pf.refl _, S, rfl⟩
theorem wk_rev {i : Nat} {a : Addr} {xs : List V} (ha : am[i]? = some a) : WkOk W (Itv W.K a xs.length) ⟨xs.reverse.map .val, [(.ref i, xs)], [], [], none⟩ am := by
  refine ⟨fun am' h H p S ok => ?_, fun k it am' h H hk p S ok => ?_⟩
  · show xs.length ≤ (xs.reverse.map Item.val).length
    rw [List.length_map, List.length_reverse]
    exact Nat.le_refl _
  · obtain ⟨ys, q, r⟩ := sqL_of S (p.get ha) (ok.1 _ List.mem_cons_self)
    obtain ⟨v, hv, rfl⟩ := map_get hk
    have hl : k < xs.length := by
      have := (List.getElem?_eq_some_iff.mp hv).1
      rwa [List.length_reverse] at this
    rw [List.getElem?_reverse hl] at hv
    obtain ⟨w, hw, rw⟩ := Paired.get r hv
    refine ⟨⟨hl, ys, w, q, hw⟩, fun x H' y => ?_⟩
    obtain ⟨rfl, y⟩ := y
    have e := y ys q
    rw [hw] at e
    cases e
    exact ⟨am', Pf.refl _, S, rw⟩
/-- a new pair at each turn -/
theorem lay_tup (S : Sim W am h H) {T : Addr} {vs ws : List V} (hT : H T = none) (r : RVs am vs ws) : ∃ am', Pf am am' ∧ Sim W am' ((Item.tup vs).lay h).2 (upd H T (.tup ws)) ∧ RV am' ((Item.tup vs).lay h).1 (.ref T) := by
  refine ⟨am ++ [T], Pf.snoc _ _, S.push hT ⟨ws, RVs.mono (Pf.snoc _ _) r, .of upd_same⟩, T, ?_, rfl⟩
  show (am ++ [T])[h.length]? = some T
  rw [← S.len]
  simp
theorem enum_get : ∀ {xs : List V} {j i : Nat} {it : Item}, (enumI j xs)[i]? = some it → ∃ v, xs[i]? = some v ∧ it = .tup [.int ((j + i : Nat) : Int), v]
  | [], _, _, _, h => by cases h
  | x :: r, j, 0, _, h => by cases h; exact ⟨x, rfl, rfl⟩
  | x :: r, j, i + 1, it, h => by
    obtain ⟨v, a, b⟩ := enum_get (xs := r) (j := j + 1) (i := i) h
    exact ⟨v, a, by rw [b, show j + 1 + i = j + (i + 1) by omega]⟩
theorem enum_len : ∀ (xs : List V) (j : Nat), (enumI j xs).length = xs.length
  | [], _ => rfl
  | x :: r, j => by
    show (enumI (j + 1) r).length + 1 = r.length + 1
    rw [enum_len]
theorem wk_enum {i : Nat} {a : Addr} {xs : List V} (ha : am[i]? = some a) : WkOk W (Ite W.K a) ⟨enumI 0 xs, [(.ref i, xs)], [], [], none⟩ am := by
  refine ⟨fun am' h H p S ok => ?_, fun k it am' h H hk p S ok => ?_⟩
  · obtain ⟨ys, q, r⟩ := sqL_of S (p.get ha) (ok.1 _ List.mem_cons_self)
    exact ⟨ys, q, by rw [← Paired.len r]; show xs.length ≤ (enumI 0 xs).length; rw [enum_len]; exact Nat.le_refl _⟩
  · obtain ⟨ys, q, r⟩ := sqL_of S (p.get ha) (ok.1 _ List.mem_cons_self)
    obtain ⟨v, hv, rfl⟩ := enum_get hk
    obtain ⟨w, hw, rw⟩ := Paired.get r hv
    refine ⟨⟨ys, w, q, hw⟩, fun x H' y => ?_⟩
    obtain ⟨T, x2, rfl, hT, rfl, y⟩ := y
    have e := y ys q
    rw [hw] at e
    cases e
    refine lay_tup S hT (.cons ?_ (.cons rw .nil))
    show V.int (k : Int) = V.int ((0 + k : Nat) : Int)
    rw [Nat.zero_add]
theorem zip_get : ∀ {xs ys : List V} {i : Nat} {it : Item}, (zipI xs ys)[i]? = some it → ∃ v w, xs[i]? = some v ∧ ys[i]? = some w ∧ it = .tup [v, w]
  | [], _, _, _, h => by cases h
  | _ :: _, [], _, _, h => by cases h
  | x :: xs, y :: ys, 0, _, h => by cases h; exact ⟨x, y, rfl, rfl, rfl⟩
  | x :: xs, y :: ys, i + 1, it, h => zip_get (xs := xs) (ys := ys) (i := i) h
theorem zip_len : ∀ (xs ys : List V), (zipI xs ys).length = min xs.length ys.length
  | [], _ => by simp [zipI]
  | _ :: _, [] => by simp [zipI]
  | x :: xs, y :: ys => by
    show (zipI xs ys).length + 1 = _
    rw [zip_len, List.length_cons, List.length_cons]
    omega
theorem wk_zip {i j : Nat} {a b : Addr} {xs ys : List V} (ha : am[i]? = some a) (hb : am[j]? = some b) : WkOk W (Itz W.K a b) ⟨zipI xs ys, [(.ref i, xs), (.ref j, ys)], [], [], none⟩ am := by
  refine ⟨fun am' h H p S ok => ?_, fun k it am' h H hk p S ok => ?_⟩
  · obtain ⟨zs, q, r⟩ := sqL_of S (p.get ha) (ok.1 _ List.mem_cons_self)
    obtain ⟨us, q2, r2⟩ := sqL_of S (p.get hb) (ok.1 _ (List.mem_cons_of_mem _ List.mem_cons_self))
    refine ⟨zs, us, q, q2, ?_⟩
    show zs.length ≤ (zipI xs ys).length ∨ us.length ≤ (zipI xs ys).length
    have l1 : xs.length = zs.length := Paired.len r
    have l2 : ys.length = us.length := Paired.len r2
    rw [zip_len]
    omega
  · obtain ⟨zs, q, r⟩ := sqL_of S (p.get ha) (ok.1 _ List.mem_cons_self)
    obtain ⟨us, q2, r2⟩ := sqL_of S (p.get hb) (ok.1 _ (List.mem_cons_of_mem _ List.mem_cons_self))
    obtain ⟨v, w, hv, hw, rfl⟩ := zip_get hk
    obtain ⟨v', hv', rv⟩ := Paired.get r hv
    obtain ⟨w', hw', rw⟩ := Paired.get r2 hw
    refine ⟨⟨zs, us, v', w', q, q2, hv', hw'⟩, fun x H' y => ?_⟩
    obtain ⟨T, x1, x2, rfl, hT, rfl, y1, y2⟩ := y
    have e1 := y1 zs q
    have e2 := y2 us q2
    rw [hv'] at e1
    rw [hw'] at e2
    cases e1
    cases e2
    exact lay_tup S hT (.cons rv (.cons rw .nil))
/-! dicts, locked -/
theorem RK.get {kvs ls : List (Key × V)} (r : RK am kvs ls) {i : Nat} {kv : Key × V} (h : kvs[i]? = some kv) : ∃ v, ls[i]? = some (kv.1, v) ∧ RV am kv.2 v := by
  obtain ⟨q, a, b⟩ := Paired.get r h
  exact ⟨q.2, by rw [a, b.1], b.2⟩
theorem dict_now {i : Nat} {a : Addr} {kvs ls : List (Key × V)} {o : Obj} (S : Sim W am h H) (ha : am[i]? = some a) (hz : (a, o, HO.dK ls) ∈ W.frz) (hi : h[i]? = some (.frz (.dct kvs))) : H a = some (.frz o (.dK ls)) ∧ RK am kvs ls := by
  have e := S.fz _ hz
  obtain ⟨ls', o', rk, e'⟩ := S.cell i _ a hi ha
  have e : H a = some (.frz o (.dK ls)) := e
  rw [e] at e'
  cases e'
  exact ⟨e, rk⟩
theorem wk_keys {i : Nat} {a : Addr} {kvs ls : List (Key × V)} {o : Obj} {lk : Option (Nat × List (Key × V))} (ha : am[i]? = some a) (hz : (a, o, HO.dK ls) ∈ W.frz) : WkOk W (Itk a o ls) ⟨kvs.map fun kv => .val (kV kv.1), [], [], [(i, kvs)], lk⟩ am := by
  refine ⟨fun am' h H p S ok => ?_, fun k it am' h H hk p S ok => ?_⟩
  · obtain ⟨e, rk⟩ := dict_now S (p.get ha) hz (ok.2.2 _ List.mem_cons_self)
    refine ⟨e, ?_⟩
    show ls.length ≤ (kvs.map _).length
    rw [List.length_map, RK.len rk]
    exact Nat.le_refl _
  · obtain ⟨e, rk⟩ := dict_now S (p.get ha) hz (ok.2.2 _ List.mem_cons_self)
    rw [List.getElem?_map] at hk
    cases q : kvs[k]? with
    | none => rw [q] at hk; cases hk
    | some kv =>
      rw [q] at hk
      cases hk
      obtain ⟨v, hv, rv⟩ := RK.get rk q
      refine ⟨⟨e, (List.getElem?_eq_some_iff.mp hv).1⟩, fun x H' y => ?_⟩
      obtain ⟨rfl, k2, v2, e2, rfl⟩ := y
      rw [hv] at e2
      cases e2
      exact ⟨am', Pf.refl _, S, kV_rel _⟩
theorem wk_vals {i : Nat} {a : Addr} {kvs ls : List (Key × V)} {o : Obj} {lk : Option (Nat × List (Key × V))} (ha : am[i]? = some a) (hz : (a, o, HO.dK ls) ∈ W.frz) : WkOk W (Itd a o ls) ⟨kvs.map fun kv => .val kv.2, [], [], [(i, kvs)], lk⟩ am := by
  refine ⟨fun am' h H p S ok => ?_, fun k it am' h H hk p S ok => ?_⟩
  · obtain ⟨e, rk⟩ := dict_now S (p.get ha) hz (ok.2.2 _ List.mem_cons_self)
    refine ⟨e, ?_⟩
    show ls.length ≤ (kvs.map _).length
    rw [List.length_map, RK.len rk]
    exact Nat.le_refl _
  · obtain ⟨e, rk⟩ := dict_now S (p.get ha) hz (ok.2.2 _ List.mem_cons_self)
    rw [List.getElem?_map] at hk
    cases q : kvs[k]? with
    | none => rw [q] at hk; cases hk
    | some kv =>
      rw [q] at hk
      cases hk
      obtain ⟨v, hv, rv⟩ := RK.get rk q
      refine ⟨⟨e, (List.getElem?_eq_some_iff.mp hv).1⟩, fun x H' y => ?_⟩
      obtain ⟨rfl, k2, e2⟩ := y
      rw [hv] at e2
      cases e2
      exact ⟨am', Pf.refl _, S, rv⟩
theorem wk_items {i : Nat} {a : Addr} {kvs ls : List (Key × V)} {o : Obj} {lk : Option (Nat × List (Key × V))} (ha : am[i]? = some a) (hz : (a, o, HO.dK ls) ∈ W.frz) : WkOk W (Iti a o ls) ⟨kvs.map fun kv => .tup [kV kv.1, kv.2], [], [], [(i, kvs)], lk⟩ am := by
  refine ⟨fun am' h H p S ok => ?_, fun k it am' h H hk p S ok => ?_⟩
  · obtain ⟨e, rk⟩ := dict_now S (p.get ha) hz (ok.2.2 _ List.mem_cons_self)
    refine ⟨e, ?_⟩
    show ls.length ≤ (kvs.map _).length
    rw [List.length_map, RK.len rk]
    exact Nat.le_refl _
  · obtain ⟨e, rk⟩ := dict_now S (p.get ha) hz (ok.2.2 _ List.mem_cons_self)
    rw [List.getElem?_map] at hk
    cases q : kvs[k]? with
    | none => rw [q] at hk; cases hk
    | some kv =>
      rw [q] at hk
      cases hk
      obtain ⟨v, hv, rv⟩ := RK.get rk q
      refine ⟨⟨e, (List.getElem?_eq_some_iff.mp hv).1⟩, fun x H' y => ?_⟩
      obtain ⟨T, k2, v2, e2, rfl, hT, rfl⟩ := y
      rw [hv] at e2
      cases e2
      exact lay_tup S hT (.cons (kV_rel _) (.cons rv .nil))
end

/-! ### what is walked, as the text has it -/
/-- the walk is of a thing that stays as it is, or of a locked dict -/
def iW (W : Nm) (wx : WX) (G : Cxt) (k : Sk) (es : List E) : TI := fun σ H R => ∃ am s h, RSl am s σ ∧ Sim W am h H ∧ match evEs G es s h with
  | .ok vs h1 => ∃ w, walk k vs h1 = some (w, h1) ∧ w.lock = none ∧ (w.dicts = [] ∨ ∃ i kvs a o ls, vs = [.ref i] ∧ h1[i]? = some (.frz (.dct kvs)) ∧ am[i]? = some a ∧ (a, o, HO.dK ls) ∈ W.frz) ∧ ∀ am1 xs H1, Pf am am1 → Sim W am1 h1 H1 → RVs am1 vs xs → ∀ J, WkOk W J w am1 → R J H1
  | .exc c d h1 => ∀ am' dd H', Pf am am' → Sim W am' h1 H' → RD am' d dd → wx (.ref (W.ca c)) dd σ H'
  | .bad => False
section
variable {X : Cx} {W : Nm} {G : Cxt} {B : Blk} {wx : WX}
theorem ev_one {e : E} {s : Sl} {h : Hh} : evEs G [e] s h = (evE G e s h).bind fun v h => .ok [v] h := by
  simp only [evEs]
  cases evE G e s h <;> rfl
/-- a dict of the frozen ones -/
theorem frz_dct {am am1 : List Addr} {h : Hh} {H : Hp} {i : Nat} {a : Addr} {o : Obj} {kvs ls : List (Key × V)} (p : Pf am am1) (S : Sim W am1 h H) (ha : am[i]? = some a) (hz : (a, o, HO.dK ls) ∈ W.frz) (hc : h[i]? = some (.frz (.dct kvs))) : H a = some (.frz o (.dK ls)) := (dict_now S (p.get ha) hz hc).1
theorem pi_it (hK : X.K = W.K) {e : E} {y tg : PySem.Expr} (he : PE X y (tE W wx (evE G e))) : PI X tg y (iW W wx G .it [e]) := by
  refine ⟨fun pins s σ H R I hh => ?_⟩
  obtain ⟨am, sl, h, rs, S, P⟩ := hh
  rw [ev_one] at P
  cases q : evE G e sl h with
  | bad => rw [q] at P; exact P.elim
  | exc c d h1 =>
    rw [q] at P
    exact (pi_list he).run pins s σ H R I ⟨am, sl, h, rs, S, by rw [q]; exact P⟩
  | ok v h1 =>
    rw [q] at P
    obtain ⟨w, ew, hl, hd, P⟩ := P
    have ew : itW v h1 = some (w, h1) := ew
    unfold itW at ew
    cases v with
    | str x =>
      cases ew
      refine (pi_str he).run pins s σ H R I ⟨am, sl, h, rs, S, ?_⟩
      rw [q]
      intro am1 w1 H1 p1 S1 r1
      cases r1
      exact ⟨x, rfl, P am1 [.str x] H1 p1 S1 (.cons rfl .nil) _ wk_str⟩
    | ref i =>
      dsimp only at ew
      cases hx : lstAt h1 (V.ref i) with
      | some xs =>
        rw [hx] at ew
        cases ew
        refine (pi_list he).run pins s σ H R I ⟨am, sl, h, rs, S, ?_⟩
        rw [q]
        intro am1 w1 H1 p1 S1 r1
        obtain ⟨a, ha, rfl⟩ := r1
        obtain ⟨ys, hq, rr⟩ := sqL_of S1 ha hx
        exact ⟨a, rfl, ⟨ys, by rw [hK]; exact hq⟩, by rw [hK]; exact P am1 [.ref a] H1 p1 S1 (.cons ⟨a, ha, rfl⟩ .nil) _ (wk_list ha)⟩
      | none =>
        rw [hx] at ew
        dsimp only at ew
        cases ht : tupAt h1 (V.ref i) with
        | some xs =>
          rw [ht] at ew
          cases ew
          refine (pi_tup he).run pins s σ H R I ⟨am, sl, h, rs, S, ?_⟩
          rw [q]
          intro am1 w1 H1 p1 S1 r1
          obtain ⟨a, ha, rfl⟩ := r1
          obtain ⟨ys, hq, rr⟩ := sqT_of S1 ha ht
          exact ⟨a, rfl, ⟨ys, by rw [hK]; exact hq⟩, by rw [hK]; exact P am1 [.ref a] H1 p1 S1 (.cons ⟨a, ha, rfl⟩ .nil) _ (wk_tup ha)⟩
        | none =>
          rw [ht] at ew
          dsimp only at ew
          unfold dWalk at ew
          dsimp only at ew
          split at ew
          · have e1 := (Prod.mk.inj (Option.some.inj ew)).1
            rw [← e1] at hl
            cases hl
          · rename_i kvs hc
            cases ew
            rcases hd with hd | ⟨i', kvs', a, o, ls, ev, hc', ha, hz⟩
            · cases hd
            · cases ev
              rw [hc] at hc'
              cases hc'
              refine (pi_keys he).run pins s σ H R I ⟨am, sl, h, rs, S, ?_⟩
              rw [q]
              intro am1 w1 H1 p1 S1 r1
              obtain ⟨a', ha', rfl⟩ := r1
              have : a' = a := by rw [p1.get ha] at ha'; cases ha'; rfl
              subst this
              exact ⟨a', o, rfl, .inl ⟨ls, frz_dct p1 S1 ha hz hc, P am1 [.ref a'] H1 p1 S1 (.cons ⟨a', p1.get ha, rfl⟩ .nil) _ (wk_keys (p1.get ha) hz)⟩⟩
          · cases ew
    | _ =>
      simp [lstAt, tupAt, dWalk] at ew
/-- dicts' own: values, items -/
theorem dwalk_frz {v : V} {g : List (Key × V) → List Item} {h h1 : Hh} {w : Walk} (e : dWalk h v g = some (w, h1)) (hl : w.lock = none) : ∃ i kvs, v = .ref i ∧ h[i]? = some (.frz (.dct kvs)) ∧ w = ⟨g kvs, [], [], [(i, kvs)], none⟩ ∧ h1 = h := by
  unfold dWalk at e
  split at e
  · split at e
    · have e1 := (Prod.mk.inj (Option.some.inj e)).1
      rw [← e1] at hl
      cases hl
    · rename_i kvs hc
      cases e
      exact ⟨_, kvs, rfl, hc, rfl, rfl⟩
    · cases e
  · cases e
theorem pi_valsQ {e : E} {y tg : PySem.Expr} {apos cpos : Pos} (he : PE X y (tE W wx (evE G e))) (hr : okR y = true) (hl : (apos.endLine == cpos.line) = true) : PI X tg (.Call (.Attribute y "values" apos) [] [] cpos) (iW W wx G .vals [e]) := by
  refine PI.imp (pi_values he (attrBase_ok hr) hl) ?_
  rintro σ H R ⟨am, sl, h, rs, S, P⟩
  rw [ev_one] at P
  refine ⟨am, sl, h, rs, S, ?_⟩
  cases q : evE G e sl h with
  | bad => rw [q] at P; exact P.elim
  | exc c d h1 => rw [q] at P; exact P
  | ok v h1 =>
    rw [q] at P
    obtain ⟨w, ew, hl, hd, P⟩ := P
    obtain ⟨i, kvs, rfl, hc, rfl, _⟩ := dwalk_frz (show dWalk h1 v (fun kvs => kvs.map fun kv => .val kv.2) = some (w, h1) from ew) hl
    intro am1 w1 H1 p1 S1 r1
    obtain ⟨a', ha', rfl⟩ := r1
    rcases hd with hd | ⟨i', kvs', a, o, ls, ev, hc', ha, hz⟩
    · cases hd
    · cases ev
      rw [hc] at hc'
      cases hc'
      have : a' = a := by rw [p1.get ha] at ha'; cases ha'; rfl
      subst this
      exact ⟨a', o, ls, rfl, frz_dct p1 S1 ha hz hc, P am1 [.ref a'] H1 p1 S1 (.cons ⟨a', p1.get ha, rfl⟩ .nil) _ (wk_vals (p1.get ha) hz)⟩
theorem pi_itemsQ {e : E} {y : PySem.Expr} {elts : List PySem.Expr} {kk : Nat} {tpos apos cpos : Pos} (he : PE X y (tE W wx (evE G e))) (hr : okR y = true) (hl : (apos.endLine == cpos.line) = true) : PI X (.Tuple elts kk tpos) (.Call (.Attribute y "items" apos) [] [] cpos) (iW W wx G .items [e]) := by
  refine PI.imp (pi_items he (attrBase_ok hr) hl) ?_
  rintro σ H R ⟨am, sl, h, rs, S, P⟩
  rw [ev_one] at P
  refine ⟨am, sl, h, rs, S, ?_⟩
  cases q : evE G e sl h with
  | bad => rw [q] at P; exact P.elim
  | exc c d h1 => rw [q] at P; exact P
  | ok v h1 =>
    rw [q] at P
    obtain ⟨w, ew, hl, hd, P⟩ := P
    obtain ⟨i, kvs, rfl, hc, rfl, _⟩ := dwalk_frz (show dWalk h1 v (fun kvs => kvs.map fun kv => .tup [kV kv.1, kv.2]) = some (w, h1) from ew) hl
    intro am1 w1 H1 p1 S1 r1
    obtain ⟨a', ha', rfl⟩ := r1
    rcases hd with hd | ⟨i', kvs', a, o, ls, ev, hc', ha, hz⟩
    · cases hd
    · cases ev
      rw [hc] at hc'
      cases hc'
      have : a' = a := by rw [p1.get ha] at ha'; cases ha'; rfl
      subst this
      exact ⟨a', o, ls, rfl, frz_dct p1 S1 ha hz hc, P am1 [.ref a'] H1 p1 S1 (.cons ⟨a', p1.get ha, rfl⟩ .nil) _ (wk_items (p1.get ha) hz)⟩
/-- arguments, then a walk of them -/
theorem args_walk {k : Sk} {es : List E} {am : List Addr} {σ : L2.St} {H : Hp} {R : It → Hp → Prop} {Q : List V → Hp → Prop} (hh : iW W wx G k es σ H R)
    (f : ∀ am1 vs xs h1 H1 w, vs.length = es.length → walk k vs h1 = some (w, h1) → Sim W am1 h1 H1 → RVs am1 vs xs → (∀ J, WkOk W J w am1 → R J H1) → Q xs H1) : tA W wx (evEs G es) σ H Q := by
  obtain ⟨am, sl, h, rs, S, P⟩ := hh
  refine ⟨am, sl, h, rs, S, ?_⟩
  cases q : evEs G es sl h with
  | bad => rw [q] at P; exact P.elim
  | exc c d h1 => rw [q] at P; exact P
  | ok vs h1 =>
    rw [q] at P
    obtain ⟨w, ew, _, _, P⟩ := P
    exact fun am1 xs H1 p1 S1 r1 => f am1 vs xs h1 H1 w (evEs_len q) ew S1 r1 (P am1 xs H1 p1 S1 r1)
theorem pi_rngQ {es : List E} {ys : List PySem.Expr} {tg : PySem.Expr} {p0 p : Pos} (hg : Gl X "range") (hm : X.mg "range" = none) (ok : ∀ y ∈ ys, okA y = true) (ha : PA X ys (tA W wx (evEs G es))) (hn : es.length = ys.length) (hl : ys.length = 1 ∨ ys.length = 2) :
    PI X tg (.Call (.Name "range" p0) ys [] p) (iW W wx G .rng es) := by
  have R62' : R62 = (2 : Int) ^ 62 := rfl
  rcases ys with _ | ⟨y, _ | ⟨z, _ | ⟨u, ys⟩⟩⟩
  · simp at hl
  · refine PI.imp (pi_range1 hg hm ha (star_cons (ok y List.mem_cons_self))) fun σ H R hh => args_walk (am := []) hh fun am1 vs xs h1 H1 w el ew S r P => ?_
    rw [hn] at el
    rcases r with _ | ⟨r1, _ | ⟨r2, t⟩⟩
    · cases el
    · rename_i v1 w1
      have ew : rngW [v1] h1 = some (w, h1) := ew
      unfold rngW at ew
      cases v1 with
      | int j =>
        dsimp only at ew
        split at ew
        · rename_i hb
          cases ew
          cases r1
          rw [R62'] at hb
          exact ⟨_, rfl, hb.1, hb.2, P _ wk_rng⟩
        · cases ew
      | _ => cases ew
    · simp at el
  · refine PI.imp (pi_range2 hg hm ha (by rw [star_cons (ok y List.mem_cons_self), star_cons (ok z (List.mem_cons_of_mem _ List.mem_cons_self))]; rfl) (star_cons (ok z (List.mem_cons_of_mem _ List.mem_cons_self)))) fun σ H R hh => args_walk (am := []) hh fun am1 vs xs h1 H1 w el ew S r P => ?_
    rw [hn] at el
    rcases r with _ | ⟨r1, _ | ⟨r2, _ | ⟨r3, t⟩⟩⟩
    · cases el
    · simp at el
    · rename_i v1 w1 v2 w2
      have ew : rngW [v1, v2] h1 = some (w, h1) := ew
      unfold rngW at ew
      cases v1 with
      | int i =>
        cases v2 with
        | int j =>
          dsimp only at ew
          split at ew
          · rename_i hb
            cases ew
            cases r1
            cases r2
            rw [R62'] at hb
            exact ⟨_, _, rfl, ⟨hb.1.1, hb.1.2, hb.2.1, hb.2.2⟩, P _ wk_rng⟩
          · cases ew
        | _ => cases ew
      | _ => cases ew
    · simp at el
  · simp at hl
theorem pi_enumQ (hK : X.K = W.K) {es : List E} {y : PySem.Expr} {elts : List PySem.Expr} {kk : Nat} {tpos p0 p : Pos} (hg : Gl X "enumerate") (hm : X.mg "enumerate" = none) (ok : okA y = true) (ha : PA X [y] (tA W wx (evEs G es))) (hn : es.length = 1) :
    PI X (.Tuple elts kk tpos) (.Call (.Name "enumerate" p0) [y] [] p) (iW W wx G .enum es) := by
  refine PI.imp (pi_enum hg hm ha (star_cons ok)) fun σ H R hh => args_walk (am := []) hh fun am1 vs xs h1 H1 w el ew S r P => ?_
  rw [hn] at el
  rcases r with _ | ⟨r1, _ | ⟨r2, t⟩⟩
  · cases el
  · rename_i v1 w1
    have ew : enumW v1 h1 = some (w, h1) := ew
    unfold enumW at ew
    cases hx : lstAt h1 v1 with
    | none => rw [hx] at ew; cases ew
    | some xs =>
      rw [hx] at ew
      cases ew
      cases v1 with
      | ref i =>
        obtain ⟨a, ha, rfl⟩ := r1
        obtain ⟨ys, hq, rr⟩ := sqL_of S ha hx
        exact ⟨a, ys, rfl, by rw [hK]; exact hq, by rw [hK]; exact P _ (wk_enum ha)⟩
      | _ => cases hx
  · simp at el
theorem pi_revQ (hK : X.K = W.K) {es : List E} {y tg : PySem.Expr} {p0 p : Pos} (hg : Gl X "reversed") (hm : X.mg "reversed" = none) (ok : okA y = true) (ha : PA X [y] (tA W wx (evEs G es))) (hn : es.length = 1) :
    PI X tg (.Call (.Name "reversed" p0) [y] [] p) (iW W wx G .rev es) := by
  refine PI.imp (pi_reversed hg hm ha (star_cons ok)) fun σ H R hh => args_walk (am := []) hh fun am1 vs xs h1 H1 w el ew S r P => ?_
  rw [hn] at el
  rcases r with _ | ⟨r1, _ | ⟨r2, t⟩⟩
  · cases el
  · rename_i v1 w1
    have ew : revW v1 h1 = some (w, h1) := ew
    unfold revW at ew
    cases hx : lstAt h1 v1 with
    | none => rw [hx] at ew; cases ew
    | some xs =>
      rw [hx] at ew
      cases ew
      cases v1 with
      | ref i =>
        obtain ⟨a, ha, rfl⟩ := r1
        obtain ⟨ys, hq, rr⟩ := sqL_of S ha hx
        refine ⟨a, ys, rfl, by rw [hK]; exact hq, ?_⟩
        rw [hK, ← Paired.len rr]
        exact P _ (wk_rev ha)
      | _ => cases hx
  · simp at el
theorem pi_zipQ (hK : X.K = W.K) {es : List E} {y z : PySem.Expr} {elts : List PySem.Expr} {kk : Nat} {tpos p0 p : Pos} (hg : Gl X "zip") (hm : X.mg "zip" = none) (ok : okA y = true) (ok2 : okA z = true) (ha : PA X [y, z] (tA W wx (evEs G es))) (hn : es.length = 2) :
    PI X (.Tuple elts kk tpos) (.Call (.Name "zip" p0) [y, z] [] p) (iW W wx G .zip es) := by
  refine PI.imp (pi_zip hg hm ha (star_cons ok) (star_any (by intro e he; simp at he; rw [he]; exact ok2))) fun σ H R hh => args_walk (am := []) hh fun am1 vs xs h1 H1 w el ew S r P => ?_
  rw [hn] at el
  rcases r with _ | ⟨r1, _ | ⟨r2, _ | ⟨r3, t⟩⟩⟩
  · cases el
  · simp at el
  · rename_i v1 w1 v2 w2
    have ew : zipW v1 v2 h1 = some (w, h1) := ew
    unfold zipW at ew
    cases hx : lstAt h1 v1 with
    | none => rw [hx] at ew; cases ew
    | some xs =>
      cases hy : lstAt h1 v2 with
      | none => rw [hx, hy] at ew; cases ew
      | some ys =>
        rw [hx, hy] at ew
        cases ew
        cases v1 with
        | ref i =>
          cases v2 with
          | ref j =>
            obtain ⟨a, ha, rfl⟩ := r1
            obtain ⟨b, hb, rfl⟩ := r2
            obtain ⟨zs, hq, rr⟩ := sqL_of S ha hx
            obtain ⟨us, hq2, rr2⟩ := sqL_of S hb hy
            exact ⟨a, b, zs, us, rfl, by rw [hK]; exact hq, by rw [hK]; exact hq2, by rw [hK]; exact P _ (wk_zip ha hb)⟩
          | _ => cases hy
        | _ => cases hx
  · simp at el
/-- all of them, against the text -/
theorem pi_ok (C : Cn X W G B wx) {k : Sk} {es : List E} {it tg : PySem.Expr} (h : mSk B k es it tg = true) : PI X tg it (iW W wx G k es) := by
  cases k with
  | it =>
    rcases es with _ | ⟨e, _ | ⟨_, _⟩⟩
    · exact Bool.noConfusion h
    · exact pi_it C.hK (sE e C it h).pe
    · exact Bool.noConfusion h
  | keys => exact Bool.noConfusion h
  | vals =>
    rcases es with _ | ⟨e, _ | ⟨_, _⟩⟩
    · exact Bool.noConfusion h
    · cases q : methX it with
      | none => unfold mSk at h; rw [q] at h; cases h
      | some z =>
        obtain ⟨x, n, ap, cp⟩ := z
        unfold mSk at h
        rw [q] at h
        simp only [Bool.and_eq_true, decide_eq_true_eq] at h
        have e1 := methX_eq q
        subst e1
        obtain ⟨⟨⟨rfl, h2⟩, h3⟩, h4⟩ := h
        exact pi_valsQ (sE e C x h4).pe h2 h3
    · exact Bool.noConfusion h
  | items =>
    rcases es with _ | ⟨e, _ | ⟨_, _⟩⟩
    · exact Bool.noConfusion h
    · cases q : methX it with
      | none => unfold mSk at h; rw [q] at h; cases h
      | some z =>
        obtain ⟨x, n, ap, cp⟩ := z
        unfold mSk at h
        rw [q] at h
        simp only [Bool.and_eq_true, decide_eq_true_eq] at h
        have e1 := methX_eq q
        subst e1
        obtain ⟨⟨⟨⟨rfl, h2⟩, h3⟩, h5⟩, h4⟩ := h
        cases tg with
        | Tuple elts kk tpos => exact pi_itemsQ (sE e C x h4).pe h2 h3
        | _ => cases h5
    · exact Bool.noConfusion h
  | rng =>
    cases q : callX it with
    | none => unfold mSk at h; rw [q] at h; cases h
    | some z =>
      obtain ⟨x, ys, p⟩ := z
      unfold mSk at h
      rw [q] at h
      simp only [Bool.and_eq_true, Bool.or_eq_true, decide_eq_true_eq] at h
      obtain ⟨p0, e1⟩ := callX_eq q
      subst e1
      obtain ⟨⟨⟨rfl, h2⟩, h3⟩, h4⟩ := h
      obtain ⟨hg, hm, _, _⟩ := bl_of C h2
      exact pi_rngQ hg hm (mEs_ok h3) (sEs es C ys h3) (mEs_len h3) h4
  | enum =>
    cases q : callX it with
    | none => unfold mSk at h; rw [q] at h; cases h
    | some z =>
      obtain ⟨x, ys, p⟩ := z
      unfold mSk at h
      rw [q] at h
      simp only [Bool.and_eq_true, decide_eq_true_eq] at h
      obtain ⟨p0, e1⟩ := callX_eq q
      subst e1
      obtain ⟨⟨⟨⟨rfl, h2⟩, h3⟩, h4⟩, h5⟩ := h
      obtain ⟨hg, hm, _, _⟩ := bl_of C h2
      rcases ys with _ | ⟨y, _ | ⟨_, _⟩⟩
      · cases h4
      · cases tg with
        | Tuple elts kk tpos => exact pi_enumQ C.hK hg hm (mEs_ok h3 y List.mem_cons_self) (sEs es C [y] h3) (mEs_len h3)
        | _ => cases h5
      · simp at h4
  | zip =>
    cases q : callX it with
    | none => unfold mSk at h; rw [q] at h; cases h
    | some z =>
      obtain ⟨x, ys, p⟩ := z
      unfold mSk at h
      rw [q] at h
      simp only [Bool.and_eq_true, decide_eq_true_eq] at h
      obtain ⟨p0, e1⟩ := callX_eq q
      subst e1
      obtain ⟨⟨⟨⟨rfl, h2⟩, h3⟩, h4⟩, h5⟩ := h
      obtain ⟨hg, hm, _, _⟩ := bl_of C h2
      rcases ys with _ | ⟨y, _ | ⟨z, _ | ⟨_, _⟩⟩⟩
      · cases h4
      · simp at h4
      · cases tg with
        | Tuple elts kk tpos => exact pi_zipQ C.hK hg hm (mEs_ok h3 y List.mem_cons_self) (mEs_ok h3 z (List.mem_cons_of_mem _ List.mem_cons_self)) (sEs es C [y, z] h3) (mEs_len h3)
        | _ => cases h5
      · simp at h4
  | rev =>
    cases q : callX it with
    | none => unfold mSk at h; rw [q] at h; cases h
    | some z =>
      obtain ⟨x, ys, p⟩ := z
      unfold mSk at h
      rw [q] at h
      simp only [Bool.and_eq_true, decide_eq_true_eq] at h
      obtain ⟨p0, e1⟩ := callX_eq q
      subst e1
      obtain ⟨⟨⟨rfl, h2⟩, h3⟩, h4⟩ := h
      obtain ⟨hg, hm, _, _⟩ := bl_of C h2
      rcases ys with _ | ⟨y, _ | ⟨_, _⟩⟩
      · cases h4
      · exact pi_revQ C.hK hg hm (mEs_ok h3 y List.mem_cons_self) (sEs es C [y] h3) (mEs_len h3)
      · simp at h4
end
end QM

/-! QM6d: for, try -/
namespace QM
open PySem L2 PyProof.Rows
section
variable {X : Cx} {W : Nm} {G : Cxt} {B : Blk} {wx wx' : WX} {ei : Nat → Option EInit}
theorem Known.more {K : PySem.W.Frag} {mg : Str → Option Value} {p : Prog} {gl at_ blt : List Str} (k : Known K mg W p gl at_ blt) {g : List (V × V)} {z : List (Addr × Obj × HO)} (hg : ∀ q ∈ W.glo, q ∈ g) : Known K mg (W.ext g z) p gl at_ blt where
  hK := k.hK
  fn_at := k.fn_at
  blt := k.blt
  glo := fun i v x h1 h2 => let ⟨w, u, a, b, c⟩ := k.glo i v x h1 h2; ⟨w, u, a, b, hg _ c⟩
  fn := k.fn
  exc := k.exc
  exm := k.exm
  own := k.own
theorem Cs.more (C : Cs X W G B wx) {g : List (V × V)} {z : List (Addr × Obj × HO)} (hg : ∀ q ∈ W.glo, q ∈ g) (hot : B.hot = false) (tk : Takes X wx') : Cs X (W.ext g z) G B wx' where
  kn := C.kn.more hg
  hN := C.hN
  hs := C.hs
  hc := C.hc
  nd := C.nd
  hu := C.hu
  tk := tk
  fns := fun h i fd e g2 z2 hg2 => C.fns h i fd e g2 z2 fun p hp => hg2 p (hg p hp)
  gf := C.gf
  gg := C.gg
  gs := C.gs
  ht := fun c d j e => by rw [C.cu hot] at e; cases e
  po := C.po
  fn := C.fn
  kf := C.kf
  cu := C.cu
  st := C.st
  fr := C.fr
  ge := C.ge
theorem PostS.ext {am : List Addr} {o : Out} {D : Ends} {g : List (V × V)} {z : List (Addr × Obj × HO)} (hg : ∀ p ∈ W.glo, p ∈ g) (hz : ∀ p ∈ W.frz, p ∈ z) (h : PostS W wx am o D) : PostS (W.ext g z) wx am o D := by
  cases o with
  | nx s h' => exact fun a σ H p r S => h a σ H p r (S.unext hg hz)
  | ret v h' => exact fun a w H p S r => h a w H p (S.unext hg hz) r
  | exc c d s h' => exact fun a σ dd H p r S rd => h a σ dd H p r (S.unext hg hz) rd
  | brk s h' => exact fun a σ H p r S => h a σ H p r (S.unext hg hz)
  | ct s h' => exact fun a σ H p r S => h a σ H p r (S.unext hg hz)
  | bad => exact h
/-- a target -/
def gTq (K : PySem.W.Frag) : Tg → TG
  | .one i => gName i
  | .many is => gTup K is.length (gN is)
theorem target_ok (C : Cs X W G B wx) (hot : B.hot = false) {t : Tg} {tg : PySem.Expr} (h : mTg B t tg = true) : PG X tg (gTq X.K t) := by
  cases t with
  | one i =>
    cases tg with
    | Name x p =>
      have h : (decide (B.N[i]? = some x) && isLc B.sc x) = true := h
      simp only [Bool.and_eq_true, decide_eq_true_eq] at h
      exact pg_name (i := i) C.nd (by rw [C.hN]; exact h.1) (lc_of C.toCn h.2) (.inl (C.fn x))
    | _ => exact Bool.noConfusion h
  | many is =>
    cases tg with
    | Tuple ts k p =>
      obtain ⟨a, b, c⟩ := targets C (show mTs B is ts = true from h)
      exact pg_tup (C.hc hot) a b c
    | _ => exact Bool.noConfusion h
theorem target_put (hK : X.K = W.K) {t : Tg} {am : List Addr} {s s' : Sl} {σ : L2.St} {h : Hh} {H : Hp} {v x : V} {Q : L2.St → Hp → Prop} (rs : RSl am s σ) (S : Sim W am h H) (r : RV am v x) (e : t.put v s h = some s') (k : ∀ σ', RSl am s' σ' → Q σ' H) : gTq X.K t x σ H Q := by
  cases t with
  | one i =>
    cases e
    exact k _ (Paired.set (F := RS am) (x := some v) (y := some x) r i rs)
  | many is =>
    have e : (match tupAt h v with
      | some xs => sets is xs s
      | none => none) = some s' := e
    cases q : tupAt h v with
    | none => rw [q] at e; cases e
    | some xs =>
      rw [q] at e
      obtain ⟨p, ys, rfl, hq, rr⟩ := S.tup r q
      exact ⟨p, ys, rfl, by rw [hK]; exact hq, by rw [← Paired.len rr, ← sets_len e], sets_ok rs rr e k⟩
/-- the turns of a loop -/
theorem for_core (hK : X.K = W.K) {J : It} {w : Walk} {am1 : List Addr} (wk : WkOk W J w am1) {t : Tg} {bb : Sl → Hh → Out} {s : Sl} {σ : L2.St} {h : Hh} {H : Hp} {D : Ends} (rs : RSl am1 s σ) (S : Sim W am1 h H)
    (P : PostS W wx am1 (forL w.okb t bb w.items s h) D) : ∃ Wf : Nat → Nat → L2.St → Hp → Prop, (∃ m, Wf 0 m σ H) ∧ ∀ i m σ H, Wf i m σ H →
      (J.stop i H ∧ D.nx σ H) ∨ (J.go i H ∧ ∃ N : L2.St → Hp → Prop, (∀ σ' H', N σ' H' → ∃ m', m' < m ∧ Wf (i + 1) m' σ' H') ∧ ∀ x H', J.yld i H x H' → gTq X.K t x σ H' fun σ2 H2 => tS W wx bb { D with nx := N, ct := N, bk := D.nx } σ2 H2) := by
  refine ⟨fun i m σ H => m = w.items.length - i ∧ i ≤ w.items.length ∧ ∃ am s h, Pf am1 am ∧ RSl am s σ ∧ Sim W am h H ∧ PostS W wx am (forL w.okb t bb (w.items.drop i) s h) D, ⟨_, rfl, Nat.zero_le _, am1, s, h, Pf.refl _, rs, S, by rw [List.drop_zero]; exact P⟩, ?_⟩
  rintro i m σ H ⟨rfl, hi, am, s, h, p, rs, S, P⟩
  by_cases hlt : i < w.items.length
  · have ed : w.items.drop i = w.items[i] :: w.items.drop (i + 1) := List.drop_eq_getElem_cons hlt
    rw [ed] at P
    unfold forL at P
    by_cases ho : w.okb h = true
    · rw [if_pos ho] at P
      obtain ⟨g1, g2⟩ := wk.go i w.items[i] am h H (List.getElem?_eq_getElem hlt) p S (okb_iff.mp ho)
      refine .inr ⟨g1, fun σ' H' => w.items.length - (i + 1) = w.items.length - (i + 1) ∧ i + 1 ≤ w.items.length ∧ ∃ am s h, Pf am1 am ∧ RSl am s σ' ∧ Sim W am h H' ∧ PostS W wx am (forL w.okb t bb (w.items.drop (i + 1)) s h) D, fun σ' H' z => ⟨_, by omega, z⟩, fun x H' y => ?_⟩
      obtain ⟨am', p', S', r'⟩ := g2 x H' y
      generalize hl : w.items[i].lay h = l at *
      obtain ⟨v, h2⟩ := l
      cases e : t.put v s h2 with
      | none => dsimp only at P; rw [e] at P; exact P.elim
      | some s2 =>
        dsimp only at P
        rw [e] at P
        refine target_put hK (RSl.mono p' rs) S' r' e fun σ2 rs2 => ⟨am', s2, h2, rs2, S', ?_⟩
        have P := PostS.mono p' P
        dsimp only at P
        cases q : bb s2 h2 with
        | nx s3 h3 =>
          rw [q] at P
          exact fun am'' σ3 H3 p3 rs3 S3 => ⟨rfl, hlt, am'', s3, h3, (p.trans p').trans p3, rs3, S3, PostS.mono p3 P⟩
        | ct s3 h3 =>
          rw [q] at P
          exact fun am'' σ3 H3 p3 rs3 S3 => ⟨rfl, hlt, am'', s3, h3, (p.trans p').trans p3, rs3, S3, PostS.mono p3 P⟩
        | brk s3 h3 => rw [q] at P; exact P
        | ret v3 h3 => rw [q] at P; exact P
        | exc c d s3 h3 => rw [q] at P; exact P
        | bad => rw [q] at P; exact P
    · rw [if_neg ho] at P
      exact P.elim
  · have e : i = w.items.length := by omega
    rw [List.drop_eq_nil_of_le (by omega)] at P
    unfold forL at P
    by_cases ho : w.okb h = true
    · rw [if_pos ho] at P
      exact .inl ⟨by rw [e]; exact wk.stop am h H p S (okb_iff.mp ho), P.nx rs S⟩
    · rw [if_neg ho] at P
      exact P.elim

/-! ### a dict's lock -/
abbrev lockX (d : Addr) (od : Obj) (ls : List (Key × V)) (wx : WX) : WX := fun c dd σ H => H d = some (.frz od (.dK ls)) ∧ wx c dd σ (upd H d (.dK ls))
abbrev lockD (d : Addr) (od : Obj) (ls : List (Key × V)) (D : Ends) : Ends := ⟨fun σ' H' => H' d = some (.frz od (.dK ls)) ∧ D.nx σ' (upd H' d (.dK ls)), fun v H' => H' d = some (.frz od (.dK ls)) ∧ D.rt v (upd H' d (.dK ls)), fun σ' H' => H' d = some (.frz od (.dK ls)) ∧ D.bk σ' (upd H' d (.dK ls)), fun σ' H' => H' d = some (.frz od (.dK ls)) ∧ D.ct σ' (upd H' d (.dK ls))⟩
theorem ps_lockX {st : Stmt} {t : Addr → Obj → List (Key × V) → TS} (h : ∀ d od ls, Takes X (lockX d od ls wx) → PS X st (t d od ls)) (tk : Takes X wx) : PS X st (fun D σ H => ∃ d ls, H d = some (.dK ls) ∧ ∀ od, t d od ls (lockD d od ls D) σ (upd H d (.frz od (.dK ls)))) := by
  refine ⟨fun pins s σ H D I hw => ?_⟩
  obtain ⟨d, ls, hd, hw⟩ := hw
  have mu : Mut (some (HO.dK ls)) := trivial
  obtain ⟨od, I1⟩ := I.lock hd mu
  have nf := I.nofrz hd mu
  have tk' : Takes X (lockX d od ls wx) := fun u s' ⟨a, B, sI, pins, σ, H, cls, dd, e, I, nb, up, sky, na, os, ag, hf, w⟩ =>
    tk u s' ⟨a, B, sI, pins, σ, upd H d (.dK ls), cls, dd, e, I.unlock hf nf, nb, up, sky, by rw [upd_ne (fun z => by rw [z, hf] at na; cases na)]; exact na, os, ag, w⟩
  refine thn ((h d od ls tk').run pins s σ _ _ I1 (hw od)) fun f s1 q => ?_
  cases f with
  | next => obtain ⟨σ', H', I2, e, q⟩ := q; exact ⟨σ', _, I2.unlock e nf, q⟩
  | brk => obtain ⟨σ', H', I2, e, q⟩ := q; exact ⟨σ', _, I2.unlock e nf, q⟩
  | cont => obtain ⟨σ', H', I2, e, q⟩ := q; exact ⟨σ', _, I2.unlock e nf, q⟩
  | ret v => obtain ⟨x, σ', H', I2, r, e, q⟩ := q; exact ⟨x, σ', _, I2.unlock e nf, r, q⟩
theorem path_ev : ∀ {e : E} {s : Sl} {h h1 : Hh} {v : V}, isPath e = true → evE G e s h = .ok v h1 → h1 = h
  | .v i, s, h, h1, v, _, q => by
    simp only [evE] at q
    split at q <;> cases q
    rfl
  | .attr o f, s, h, h1, v, p, q => by
    simp only [evE] at q
    cases q1 : evE G o s h with
    | ok x h2 =>
      rw [q1] at q
      have e := path_ev (show isPath o = true from p) q1
      subst e
      simp only [bind_ok] at q
      unfold attrAt at q
      split at q
      · split at q
        · split at q <;> cases q
          rfl
        · cases q
      · cases q
    | exc _ _ _ => rw [q1] at q; cases q
    | bad => rw [q1] at q; cases q
  | .c _, _, _, _, _, p, _ => Bool.noConfusion p
  | .g _, _, _, _, _, p, _ => Bool.noConfusion p
  | .bin _ _ _, _, _, _, _, p, _ => Bool.noConfusion p
  | .neg _, _, _, _, _, p, _ => Bool.noConfusion p
  | .not _, _, _, _, _, p, _ => Bool.noConfusion p
  | .and _ _, _, _, _, _, p, _ => Bool.noConfusion p
  | .or _ _, _, _, _, _, p, _ => Bool.noConfusion p
  | .chain _ _ _ _ _, _, _, _, _, p, _ => Bool.noConfusion p
  | .ix _ _, _, _, _, _, p, _ => Bool.noConfusion p
  | .slice _ _ _, _, _, _, _, p, _ => Bool.noConfusion p
  | .bi _ _, _, _, _, _, p, _ => Bool.noConfusion p
  | .isTy _ _, _, _, _, _, p, _ => Bool.noConfusion p
  | .isOwn _ _, _, _, _, _, p, _ => Bool.noConfusion p
  | .lst _, _, _, _, _, p, _ => Bool.noConfusion p
  | .tup _, _, _, _, _, p, _ => Bool.noConfusion p
  | .dct _, _, _, _, _, p, _ => Bool.noConfusion p
  | .call _ _, _, _, _, _, p, _ => Bool.noConfusion p
  | .new _ _, _, _, _, _, p, _ => Bool.noConfusion p
  | .bm _ _ _, _, _, _, _, p, _ => Bool.noConfusion p
  | .meth _ _ _, _, _, _, _, p, _ => Bool.noConfusion p
  | .lc _ _ _ _ _ _, _, _, _, _, p, _ => Bool.noConfusion p
  | .exIs _ _, _, _, _, _, p, _ => Bool.noConfusion p
  | .exTy _, _, _, _, _, p, _ => Bool.noConfusion p
  | .exAt _ _, _, _, _, _, p, _ => Bool.noConfusion p
theorem path_lock {i : Nat} {kvs : List (Key × V)} : ∀ {e : E} {s : Sl} {h h1 : Hh} {v : V}, isPath e = true → h[i]? = some (.dct kvs) → evE G e s h = .ok v h1 → evE G e s (h.set i (.frz (.dct kvs))) = .ok v (h.set i (.frz (.dct kvs)))
  | .v j, s, h, h1, v, _, hi, q => by
    simp only [evE] at q ⊢
    split at q <;> cases q
    rfl
  | .attr o f, s, h, h1, v, p, hi, q => by
    simp only [evE] at q ⊢
    cases q1 : evE G o s h with
    | ok x h2 =>
      rw [q1] at q
      have e := path_ev (show isPath o = true from p) q1
      subst e
      rw [path_lock (show isPath o = true from p) hi q1]
      simp only [bind_ok] at q ⊢
      unfold attrAt at q ⊢
      split at q
      · rename_i j
        by_cases hj : i = j
        · subst hj
          rw [hi] at q
          cases q
        · rw [List.getElem?_set_ne hj]
          split at q
          · rename_i hx
            simp only [hx]
            split at q <;> cases q
            rename_i hv
            simp only [hv]
          · cases q
      · cases q
    | exc _ _ _ => rw [q1] at q; cases q
    | bad => rw [q1] at q; cases q
  | .c _, _, _, _, _, p, _, _ => Bool.noConfusion p
  | .g _, _, _, _, _, p, _, _ => Bool.noConfusion p
  | .bin _ _ _, _, _, _, _, p, _, _ => Bool.noConfusion p
  | .neg _, _, _, _, _, p, _, _ => Bool.noConfusion p
  | .not _, _, _, _, _, p, _, _ => Bool.noConfusion p
  | .and _ _, _, _, _, _, p, _, _ => Bool.noConfusion p
  | .or _ _, _, _, _, _, p, _, _ => Bool.noConfusion p
  | .chain _ _ _ _ _, _, _, _, _, p, _, _ => Bool.noConfusion p
  | .ix _ _, _, _, _, _, p, _, _ => Bool.noConfusion p
  | .slice _ _ _, _, _, _, _, p, _, _ => Bool.noConfusion p
  | .bi _ _, _, _, _, _, p, _, _ => Bool.noConfusion p
  | .isTy _ _, _, _, _, _, p, _, _ => Bool.noConfusion p
  | .isOwn _ _, _, _, _, _, p, _, _ => Bool.noConfusion p
  | .lst _, _, _, _, _, p, _, _ => Bool.noConfusion p
  | .tup _, _, _, _, _, p, _, _ => Bool.noConfusion p
  | .dct _, _, _, _, _, p, _, _ => Bool.noConfusion p
  | .call _ _, _, _, _, _, p, _, _ => Bool.noConfusion p
  | .new _ _, _, _, _, _, p, _, _ => Bool.noConfusion p
  | .bm _ _ _, _, _, _, _, p, _, _ => Bool.noConfusion p
  | .meth _ _ _, _, _, _, _, p, _, _ => Bool.noConfusion p
  | .lc _ _ _ _ _ _, _, _, _, _, p, _, _ => Bool.noConfusion p
  | .exIs _ _, _, _, _, _, p, _, _ => Bool.noConfusion p
  | .exTy _, _, _, _, _, p, _, _ => Bool.noConfusion p
  | .exAt _ _, _, _, _, _, p, _, _ => Bool.noConfusion p
/-- what a walk is: of things that stay, or of one dict -/
theorem dWalk_cases {v : V} {g : List (Key × V) → List Item} {h h2 : Hh} {w : Walk} (e : dWalk h v g = some (w, h2)) : ∃ i kvs, v = .ref i ∧ ((h[i]? = some (.dct kvs) ∧ w = ⟨g kvs, [], [], [(i, kvs)], some (i, kvs)⟩ ∧ h2 = h.set i (.frz (.dct kvs))) ∨ (h[i]? = some (.frz (.dct kvs)) ∧ w = ⟨g kvs, [], [], [(i, kvs)], none⟩ ∧ h2 = h)) := by
  unfold dWalk at e
  split at e
  · split at e
    · rename_i kvs hc
      cases e
      exact ⟨_, kvs, rfl, .inl ⟨hc, rfl, rfl⟩⟩
    · rename_i kvs hc
      cases e
      exact ⟨_, kvs, rfl, .inr ⟨hc, rfl, rfl⟩⟩
    · cases e
  · cases e
theorem dWalk_frz {i : Nat} {g : List (Key × V) → List Item} {h : Hh} {kvs : List (Key × V)} (hc : h[i]? = some (.frz (.dct kvs))) : dWalk h (.ref i) g = some (⟨g kvs, [], [], [(i, kvs)], none⟩, h) := by
  unfold dWalk
  dsimp only
  rw [hc]
theorem walk_cases {k : Sk} {vs : List V} {h h2 : Hh} {w : Walk} (e : walk k vs h = some (w, h2)) : (w.dicts = [] ∧ w.lock = none ∧ h2 = h) ∨
    ∃ i kvs items, vs = [.ref i] ∧ ((h[i]? = some (.dct kvs) ∧ w = ⟨items, [], [], [(i, kvs)], some (i, kvs)⟩ ∧ h2 = h.set i (.frz (.dct kvs)) ∧ walk k [.ref i] h2 = some (⟨items, [], [], [(i, kvs)], none⟩, h2)) ∨ (h[i]? = some (.frz (.dct kvs)) ∧ w = ⟨items, [], [], [(i, kvs)], none⟩ ∧ h2 = h)) := by
  have dict : ∀ {v : V} {g : List (Key × V) → List Item}, vs = [v] → dWalk h v g = some (w, h2) → (∀ i kvs h', h'[i]? = some (.frz (.dct kvs)) → walk k [.ref i] h' = dWalk h' (.ref i) g) →
      ∃ i kvs items, vs = [.ref i] ∧ ((h[i]? = some (.dct kvs) ∧ w = ⟨items, [], [], [(i, kvs)], some (i, kvs)⟩ ∧ h2 = h.set i (.frz (.dct kvs)) ∧ walk k [.ref i] h2 = some (⟨items, [], [], [(i, kvs)], none⟩, h2)) ∨ (h[i]? = some (.frz (.dct kvs)) ∧ w = ⟨items, [], [], [(i, kvs)], none⟩ ∧ h2 = h)) := fun {v g} ev ed hw => by
    obtain ⟨i, kvs, rfl, z | z⟩ := dWalk_cases ed
    · obtain ⟨a, b, c⟩ := z
      refine ⟨i, kvs, g kvs, ev, .inl ⟨a, b, c, ?_⟩⟩
      have il := (List.getElem?_eq_some_iff.mp a).1
      have hc : h2[i]? = some (.frz (.dct kvs)) := by rw [c, List.getElem?_set_self il]
      rw [hw i kvs h2 hc]
      exact dWalk_frz hc
    · obtain ⟨a, b, c⟩ := z
      exact ⟨i, kvs, g kvs, ev, .inr ⟨a, b, c⟩⟩
  cases k with
  | it =>
    rcases vs with _ | ⟨v, _ | ⟨_, _⟩⟩
    · cases e
    · have e : itW v h = some (w, h2) := e
      unfold itW at e
      split at e
      · cases e; exact .inl ⟨rfl, rfl, rfl⟩
      · split at e
        · cases e; exact .inl ⟨rfl, rfl, rfl⟩
        · split at e
          · cases e; exact .inl ⟨rfl, rfl, rfl⟩
          · refine .inr (dict rfl e fun i kvs h' hc => ?_)
            show itW (.ref i) h' = _
            unfold itW
            simp [lstAt, tupAt, hc]
    · cases e
  | vals =>
    rcases vs with _ | ⟨v, _ | ⟨_, _⟩⟩
    · cases e
    · exact .inr (dict rfl e fun i kvs h' hc => rfl)
    · cases e
  | items =>
    rcases vs with _ | ⟨v, _ | ⟨_, _⟩⟩
    · cases e
    · exact .inr (dict rfl e fun i kvs h' hc => rfl)
    · cases e
  | keys => cases e
  | rng =>
    have e : rngW vs h = some (w, h2) := e
    unfold rngW at e
    split at e
    · split at e <;> cases e
      exact .inl ⟨rfl, rfl, rfl⟩
    · split at e <;> cases e
      exact .inl ⟨rfl, rfl, rfl⟩
    · cases e
  | enum =>
    rcases vs with _ | ⟨v, _ | ⟨_, _⟩⟩
    · cases e
    · have e : enumW v h = some (w, h2) := e
      unfold enumW at e
      split at e <;> cases e
      exact .inl ⟨rfl, rfl, rfl⟩
    · cases e
  | zip =>
    rcases vs with _ | ⟨v, _ | ⟨v2, _ | ⟨_, _⟩⟩⟩
    · cases e
    · cases e
    · have e : zipW v v2 h = some (w, h2) := e
      unfold zipW at e
      split at e <;> cases e
      exact .inl ⟨rfl, rfl, rfl⟩
    · cases e
  | rev =>
    rcases vs with _ | ⟨v, _ | ⟨_, _⟩⟩
    · cases e
    · have e : revW v h = some (w, h2) := e
      unfold revW at e
      split at e <;> cases e
      exact .inl ⟨rfl, rfl, rfl⟩
    · cases e
theorem free_none {w : Walk} (hl : w.lock = none) {am : List Addr} {o : Out} {D : Ends} (P : PostS W wx am (o.free w) D) : PostS W wx am o D := by
  have e : ∀ h, w.free h = some h := fun h => by unfold Walk.free; rw [hl]
  cases o with
  | nx s h => unfold Out.free at P; dsimp only at P; rw [e] at P; exact P
  | ret v h => unfold Out.free at P; dsimp only at P; rw [e] at P; exact P
  | exc c d s h => unfold Out.free at P; dsimp only at P; rw [e] at P; exact P
  | brk s h => exact P.elim
  | ct s h => exact P.elim
  | bad => exact P
theorem free_some {w : Walk} {i : Nat} {kvs ls : List (Key × V)} {d : Addr} {od : Obj} (hl : w.lock = some (i, kvs)) {am : List Addr} {o : Out} {D : Ends} (ha : am[i]? = some d) (nW : ∀ p ∈ W.frz, p.1 ≠ d) (P : PostS W wx am (o.free w) D) :
    PostS (W.ext W.glo ((d, od, .dK ls) :: W.frz)) (lockX d od ls wx) am o (lockD d od ls D) := by
  have e : ∀ h, w.free h = if h[i]? = some (.frz (.dct kvs)) then some (h.set i (.dct kvs)) else none := fun h => by unfold Walk.free; rw [hl]
  have hz : ∀ {am' : List Addr} {h : Hh} {H : Hp}, Sim (W.ext W.glo ((d, od, .dK ls) :: W.frz)) am' h H → H d = some (.frz od (.dK ls)) := fun S => S.fz _ List.mem_cons_self
  cases o with
  | nx s h =>
    unfold Out.free at P
    dsimp only at P
    rw [e] at P
    by_cases hc : h[i]? = some (.frz (.dct kvs))
    · rw [if_pos hc] at P
      exact fun a σ' H' p r S => ⟨hz S, P a σ' _ p r (S.free hc (p.get ha) nW)⟩
    · rw [if_neg hc] at P
      exact P.elim
  | ret v h =>
    unfold Out.free at P
    dsimp only at P
    rw [e] at P
    by_cases hc : h[i]? = some (.frz (.dct kvs))
    · rw [if_pos hc] at P
      exact fun a w H' p S r => ⟨hz S, P a w _ p (S.free hc (p.get ha) nW) r⟩
    · rw [if_neg hc] at P
      exact P.elim
  | exc c d s h =>
    unfold Out.free at P
    dsimp only at P
    rw [e] at P
    by_cases hc : h[i]? = some (.frz (.dct kvs))
    · rw [if_pos hc] at P
      exact fun a σ' dd H' p r S rd => ⟨hz S, P a σ' dd _ p r (S.free hc (p.get ha) nW) rd⟩
    · rw [if_neg hc] at P
      exact P.elim
  | brk s h => exact P.elim
  | ct s h => exact P.elim
  | bad => exact P
theorem s_for (C : Cs X W G B wx) (hot : B.hot = false) {t : Tg} {k : Sk} {es : List E} {b : List S} {tg it : PySem.Expr} {sb : List PySem.Stmt} {p : Pos} (ht : mTg B t tg = true) (hk : mSk B k es it tg = true) (hset : ∀ x, foldedSetIterable it X.env x = pure x)
    (hb : ∀ {W' : Nm} {wx' : WX}, Cs X W' G B wx' → PSs X sb (tS W' wx' (evSs G ei b))) : PS X (.For tg it sb [] p) (tS W wx (evS G ei (.for_ t k es b))) := by
  refine ⟨fun pins s σ H D I hh => ?_⟩
  obtain ⟨am, sl, h, rs, S, P⟩ := hh
  simp only [evS] at P
  have gen : ∀ {W' : Nm} {wx' : WX} (C' : Cs X W' G B wx'), PS X (.For tg it sb [] p) (tFor (iW W' wx' G k es) (gTq X.K t) (tS W' wx' (evSs G ei b))) := fun C' => ps_for (C'.po hot) (C'.hc hot) (pi_ok C'.toCn hk) (target_ok C' hot ht) (hb C') hset
  cases q : evEs G es sl h with
  | bad => rw [q] at P; exact P.elim
  | exc c d h1 =>
    rw [q] at P
    exact (gen C).run pins s σ H D I ⟨am, sl, h, rs, S, by rw [q]; exact fun am' dd H' p1 S1 rd => P am' σ dd H' p1 (RSl.mono p1 rs) S1 rd⟩
  | ok vs h1 =>
    rw [q] at P
    simp only [out_ok] at P
    cases ew : walk k vs h1 with
    | none => rw [ew] at P; exact P.elim
    | some z =>
      obtain ⟨w, h2⟩ := z
      rw [ew] at P
      dsimp only at P
      rcases walk_cases ew with ⟨e1, e2, e3⟩ | ⟨i, kvs, items, e1, z⟩
      · subst e3
        rw [e1] at P
        have P := free_none e2 (show PostS W wx am ((forL w.okb t (evSs G ei b) w.items sl h2).free w) D from P)
        exact (gen C).run pins s σ H D I ⟨am, sl, h, rs, S, by
          rw [q]
          exact ⟨w, ew, e2, .inl e1, fun am1 xs H1 p1 S1 r1 J wk => for_core C.hK wk (RSl.mono p1 rs) S1 (PostS.mono p1 P)⟩⟩
      · subst e1
        -- a dict: its place is told by names alone
        by_cases hp : es.all isPath = true
        · have es1 : ∃ e, es = [e] := by
            have l := evEs_len q
            rcases es with _ | ⟨e, _ | ⟨_, _⟩⟩
            · cases l
            · exact ⟨e, rfl⟩
            · simp at l
          obtain ⟨e, rfl⟩ := es1
          have hp1 : isPath e = true := by simpa using hp
          rw [ev_one] at q
          have qe : evE G e sl h = .ok (.ref i) h1 := by
            cases q2 : evE G e sl h with
            | ok v h3 => rw [q2] at q; cases q; rfl
            | exc _ _ _ => rw [q2] at q; cases q
            | bad => rw [q2] at q; cases q
          have eh := path_ev hp1 qe
          subst eh
          rcases z with ⟨a1, a2, a3, a4⟩ | ⟨a1, a2, a3⟩
          · -- locked here
            obtain ⟨d, ha⟩ := S.addr a1
            obtain ⟨ls, rk, hH⟩ := S.cell i _ d a1 ha
            have nW : ∀ p ∈ W.frz, p.1 ≠ d := fun p hp z => by
              have e := S.fz p hp
              rw [z, hH] at e
              cases e
            have P2 : PostS W wx am ((forL w.okb t (evSs G ei b) w.items sl h2).free w) D := by
              rw [a2] at P ⊢
              simpa [hp1] using P
            refine (ps_lockX (t := fun d od ls => tFor (iW (W.ext W.glo ((d, od, .dK ls) :: W.frz)) (lockX d od ls wx) G k [e]) (gTq X.K t) (tS (W.ext W.glo ((d, od, .dK ls) :: W.frz)) (lockX d od ls wx) (evSs G ei b))) (fun d od ls tk => gen (C.more (fun _ z => z) hot tk)) C.tk).run pins s σ H D I ⟨d, ls, hH, fun od => ?_⟩
            have S2 := S.lock (od := od) a1 ha rk hH
            have il := (List.getElem?_eq_some_iff.mp a1).1
            have hc2 : h2[i]? = some (.frz (.dct kvs)) := by rw [a3, List.getElem?_set_self il]
            have P3 := free_some (od := od) (ls := ls) (show w.lock = some (i, kvs) by rw [a2]) ha nW P2
            refine ⟨am, sl, h2, rs, by rw [a3]; exact S2, ?_⟩
            have q3 : evE G e sl h2 = .ok (.ref i) h2 := by rw [a3]; exact path_lock hp1 a1 qe
            rw [ev_one, q3]
            refine ⟨_, a4, rfl, .inr ⟨i, kvs, d, od, ls, rfl, hc2, ha, List.mem_cons_self⟩, fun am1 xs H1 p1 S1 r1 J wk => for_core (W := W.ext W.glo ((d, od, .dK ls) :: W.frz)) (wx := lockX d od ls wx) (D := lockD d od ls D) C.hK wk (RSl.mono p1 rs) S1 ?_⟩
            rw [a2] at P3
            exact PostS.mono p1 P3
          · subst a3
            obtain ⟨d, ha⟩ := S.addr a1
            obtain ⟨ls, o, rk, hH⟩ := S.cell i _ d a1 ha
            have P2 : PostS W wx am ((forL w.okb t (evSs G ei b) w.items sl h2).free w) D := by
              rw [a2] at P ⊢
              simpa [hp1] using P
            have P3 := free_none (show w.lock = none by rw [a2]) P2
            have hz : ∀ p ∈ (d, o, HO.dK ls) :: W.frz, H p.1 = some (.frz p.2.1 p.2.2) := fun p hp => by
              rcases List.mem_cons.mp hp with rfl | hp
              · exact hH
              · exact S.fz p hp
            have P4 : PostS (W.ext W.glo ((d, o, .dK ls) :: W.frz)) wx am (forL w.okb t (evSs G ei b) w.items sl h2) D := P3.ext (fun _ z => z) (fun p hp => List.mem_cons_of_mem _ hp)
            exact (gen (C.more (z := (d, o, .dK ls) :: W.frz) (fun _ z => z) hot C.tk)).run pins s σ H D I ⟨am, sl, h2, rs, S.ext S.gl hz, by
              rw [ev_one, qe]
              exact ⟨w, ew, by rw [a2], .inr ⟨i, kvs, d, o, ls, rfl, a1, ha, List.mem_cons_self⟩, fun am1 xs H1 p1 S1 r1 J wk => for_core (W := W.ext W.glo ((d, o, .dK ls) :: W.frz)) C.hK wk (RSl.mono p1 rs) S1 (PostS.mono p1 P4)⟩⟩
        · exfalso
          have hd : w.dicts = [(i, kvs)] := by
            rcases z with ⟨_, a2, _⟩ | ⟨_, a2, _⟩ <;> rw [a2]
          rw [hd] at P
          simp [hp] at P
          exact P
end
end QM

/-! QM6e: try -/
namespace QM
open PySem L2 PyProof.Rows
abbrev Cl3 : Type := Value × Option Nat × (Addr → Value → Option Addr → TS)
def endO (o : Option Nat) (D : Ends) : Ends := match o with
  | none => D
  | some i => { nx := fun σ' H' => D.nx (σ'.set i none) H', rt := D.rt, bk := fun σ' H' => D.bk (σ'.set i none) H', ct := fun σ' H' => D.ct (σ'.set i none) H' }
def setO (o : Option Nat) (a : Addr) (σ : L2.St) : L2.St := match o with
  | none => σ
  | some i => σ.set i (some (.ref a))
/-- what the clauses wish of an exception of the body, one after the other -/
def wMix (K : PySem.W.Frag) (Wout : WX) (D : Ends) : List Cl3 → WX
  | [] => Wout
  | (c, o, ts) :: r => fun cls d σ H => ∃ b, PySem.W.exmOne K cls c = some b ∧ (b = true → ∀ a, H a = none → ts a cls d (endO o D) (setO o a σ) H) ∧ (b = false → wMix K Wout D r cls d σ H)
inductive HdsM (X : Cx) : List ExceptHandler → List Cl3 → Prop
  | nil : HdsM X [] []
  | cons {x : Str} {c : Value} {ts : Addr → Value → Option Addr → TS} {b₀ : Stmt} {suite : List Stmt} {np pos' : Pos} {hds : List ExceptHandler} {l : List Cl3} (hc : Names X x c)
      (hsu : ∀ (a : Addr) (oe : Obj) (cls : Value) (d : Option Addr) (pn : List (Addr × Obj)), Zc cls d oe → (∃ vs, oe.data = .fields vs) → PSs (X.suite a ((a, oe) :: pn)) (b₀ :: suite) (ts a cls d)) (r : HdsM X hds l) :
      HdsM X (.ExceptHandler (some (.Name x np)) none (b₀ :: suite) pos' :: hds) ((c, none, ts) :: l)
  | named {x n : Str} {i : Nat} {c : Value} {ts : Addr → Value → Option Addr → TS} {b₀ : Stmt} {suite : List Stmt} {np pos' : Pos} {hds : List ExceptHandler} {l : List Cl3} (hc : Names X x c) (hi : X.N[i]? = some n) (hln : X.env.kindOf n = some .local)
      (hsu : ∀ (a : Addr) (oe : Obj) (cls : Value) (d : Option Addr) (pn : List (Addr × Obj)), Zc cls d oe → (∃ vs, oe.data = .fields vs) → PSs (X.suite a ((a, oe) :: pn)) (b₀ :: suite) (ts a cls d)) (r : HdsM X hds l) :
      HdsM X (.ExceptHandler (some (.Name x np)) (some n) (b₀ :: suite) pos' :: hds) ((c, some i, ts) :: l)
section
variable {X : Cx} {body : List Stmt} {h₀ : ExceptHandler} {hds : List ExceptHandler} {l : List Cl3} {pos : Pos} {tb : WX → TS} {Wout : WX}
theorem ps_try_mix (hs : X.stack = X.env :: X.outer) (hf : X.env.frame = some X.env.locals) (hN : X.N.Nodup) (tk : Takes X Wout)
    (hb : ∀ (W : WX) (pn : List (Addr × Obj)) (xe : Value → Shared → Prop), Takes (X.tr pn xe) W → PassesOwn (model X.prog X.w) X.A X.env xe → PSs (X.tr pn xe) body (tb W))
    (hh : HdsM X (h₀ :: hds) l) : PS X (.Try body (h₀ :: hds) [] [] pos) (fun D σ H => tb (wMix X.K Wout D l) D σ H) := by
  refine ⟨fun pins s σ H D I h => ?_⟩
  have ok := I.ok
  have hfr : X.A.frames = some (X.env :: X.outer) := by rw [ok.frames, hs]
  refine wpAny_Try_except ?_
  refine wpAny_mono ((hb (wMix X.K Wout D l) (X.pn ++ pins) (fun e s₁ => wpAny (model X.prog X.w) X.A (noteFrame e X.env) (fun _ s₂ => wpAny (model X.prog X.w) X.A (setFlight e none) (fun _ s₃ =>
    wpAny (model X.prog X.w) X.A (handleBy e X.env (h₀ :: hds)) (SP X pins D) X.xe s₃) X.xe s₂) X.xe s₁) (fun u s' xx => ?_) PassesOwn.looking).run [] s σ H D (I.toTry _) h) (fun f s1 hsp => ?_) (fun e s1 he => he)
  · -- the catch
    obtain ⟨a, B, sI, pins', σ', H', cls, d, rfl, J', nb, up, sky, na, os, ag, w⟩ := xx
    have J : Inv X pins σ' H' sI := J'.ofTry ok
    have sky' : Sky B (X.env :: X.outer) a (Zc cls d) X.env.locals s'.heap := by rw [← hs]; exact sky
    show wpAny (model X.prog X.w) X.A (noteFrame (.ref a) X.env) _ _ _
    refine Sky.land Zc.steady hfr hf sky' fun h3 fl3 up3 => ?_
    have J3 : Inv X pins σ' H' { s' with heap := h3 } := J.landed nb fl3.1 (up.trans up3) os ag
    obtain ⟨oe3, vs3, he3, hz3, hd3⟩ := fl3.there
    have notFr : ∀ {h : Heap} {o : Obj} {vs : Array Value}, h.FunFrames B (X.env :: X.outer) → h.get? a = some o → o.data = .fields vs → a ∉ frs (X.env :: X.outer) := fun {h o vs} ff e dd hm => by
      obtain ⟨_, o', e', hnf⟩ := ff.mem hm
      rw [e] at e'; cases e'
      exact hnf _ dd
    have nfr := notFr fl3.2.2.1 he3 hd3
    have nL : a ≠ X.env.locals := fun z => nfr (List.mem_filterMap.mpr ⟨X.env, List.mem_cons_self, by rw [hf, z]⟩)
    have nF : a ∉ X.fs := fun hm => by
      obtain ⟨e, he, q⟩ := List.mem_filterMap.mp hm
      exact nfr (List.mem_filterMap.mpr ⟨e, List.mem_cons_of_mem _ he, q⟩)
    have S3 := J3.suite he3 hd3 na nL nF
    have test : ∀ {x : Str} {c : Value} {np : Pos} {Q : Value → Shared → Prop} {E : Value → Shared → Prop}, Names X x c → Q c { s' with heap := h3 } → wpAny (model X.prog X.w) (X.A.mark (some (.ref a))) (eval (.Name x np) X.env) Q E { s' with heap := h3 } := fun {x c np Q E} hc q => by
      obtain ⟨hg, hdbg, hm | ⟨hm, hv, hnn⟩⟩ := hc
      · exact ld_glob (X := X.suite a ((a, oe3) :: (X.pn ++ pins))) S3 hg hm q hdbg
      · exact ld_blt (X := X.suite a ((a, oe3) :: (X.pn ++ pins))) S3 hg hm hv q hnn hdbg
    have LT : PySem.W.Looks (model X.prog X.w) h3 (typeOf (.ref a)) cls := fun A Q E s k q => wpAny_typeOf_ref (k _ _ he3) (by rw [hz3.1]; exact q)
    have go : ∀ {hds' : List ExceptHandler} {l' : List Cl3}, HdsM X hds' l' → wMix X.K Wout D l' cls d σ' H' →
        wpAny (model X.prog X.w) X.A (handleBy (.ref a) X.env hds') (SP X pins D) X.xe { s' with heap := h3 } := by
      intro hds' l' hk
      induction hk with
      | nil =>
        intro w
        refine wpAny_handleBy_nil ?_
        obtain ⟨k1, k2, k3, oe, vs, T, oT, ts', he, hz, hd, h1, hr⟩ := id fl3
        unfold PySem.passOn
        refine wpAny_bind (wpAny_field he hd h1 ?_)
        rw [if_neg (show ¬ ((Value.ref T == Value.none) = true) from by simp)]
        have fin : wpAny (model X.prog X.w) X.A (setFlight (.ref a) X.env.frame) (fun _ s4 => wpAny (model X.prog X.w) X.A (throw (.ref a) : Sem Flow) (SP X pins D) X.xe s4) X.xe { s' with heap := h3 } := by
          rw [hf]
          refine HandSPX.setFlight_upZ fl3 fun h4 hh4 up4 => wpAny_throw (tk _ _ ?_)
          exact ⟨a, B, sI, pins, σ', H', cls, d, rfl, J, nb, (up.trans up3).trans up4, .inr (.inr (by rw [hs]; exact hh4)), na, os, ag, w⟩
        first
          | exact wpAny_bind (wpAny_pure (wpAny_bind fin))
          | exact wpAny_bind fin
      | @cons x c ts b₀ suite np pos' hds2 l2 hc hsu r ih =>
        intro w
        obtain ⟨b, hb1, hyes, hno⟩ := w
        refine wpAny_handleBy_cons (codeAny_handlers_test ?_) (by intro q; cases q)
        have LM := PySem.W.exm_one (M := model X.prog X.w) (J3.kIn) LT hb1
        refine test hc (LM.here ?_)
        cases b with
        | true =>
          refine codeAny_handlers_suite ?_
          refine HandSPX.lands_againZ fl3 fun h4 fl4 up4 => ?_
          have J4 : Inv X pins σ' H' { s' with heap := h4 } := J.landed nb fl4.1 ((up.trans up3).trans up4) os ag
          obtain ⟨oe4, vs4, he4, hz4, hd4⟩ := fl4.there
          have S4 := J4.suite he4 hd4 na nL nF
          refine wpAny_mono ((hsu a oe4 cls d (X.pn ++ pins) hz4 ⟨_, hd4⟩).run [] _ _ H' _ S4 (hyes rfl a na)) (fun f s6 hsp => ?_) (fun _ _ z => False.elim z)
          cases f with
          | next =>
            obtain ⟨σ6, H6, S6, q6⟩ := hsp
            exact ⟨_, _, S6.unsuite ok, q6⟩
          | brk =>
            obtain ⟨σ6, H6, S6, q6⟩ := hsp
            exact ⟨_, _, S6.unsuite ok, q6⟩
          | cont =>
            obtain ⟨σ6, H6, S6, q6⟩ := hsp
            exact ⟨_, _, S6.unsuite ok, q6⟩
          | ret u =>
            obtain ⟨v6, σ6, H6, S6, r6, q6⟩ := hsp
            exact ⟨_, _, _, S6.unsuite ok, r6, q6⟩
        | false =>
          show wpAny _ X.A (handleBy (.ref a) X.env hds2) _ _ _
          exact ih (hno rfl)
      | @named x n i c ts b₀ suite np pos' hds2 l2 hc hi hln hsu r ih =>
        intro w
        obtain ⟨b, hb1, hyes, hno⟩ := w
        have hloc : Loc X.env.scope n := .inl hln
        refine wpAny_handleBy_cons (codeAny_handlers_test ?_) (by intro q; cases q)
        have LM := PySem.W.exm_one (M := model X.prog X.w) (J3.kIn) LT hb1
        refine test hc (LM.here ?_)
        cases b with
        | true =>
          refine codeAny_handlers_suite_as ?_
          refine HandSPX.lands_againZ fl3 fun h4 fl4 up4 => ?_
          have J4 : Inv X pins σ' H' { s' with heap := h4 } := J.landed nb fl4.1 ((up.trans up3).trans up4) os ag
          obtain ⟨oe4, vs4, he4, hz4, hd4⟩ := fl4.there
          have S4 := J4.suite he4 hd4 na nL nF
          refine store_ok (X := X.suite a ((a, oe4) :: (X.pn ++ pins))) (v := .ref a) S4 hN hi hloc rfl (fun s5 S5 => ?_) (.inr hln)
          refine wpAny_mono ((hsu a oe4 cls d (X.pn ++ pins) hz4 ⟨_, hd4⟩).run [] s5 _ H' _ S5 (hyes rfl a na)) (fun f s6 hsp => ?_) (fun _ _ z => False.elim z)
          have end_ : ∀ {σ6 : L2.St} {H6 : Hp} {Q : Shared → Prop}, Inv (X.suite a ((a, oe4) :: (X.pn ++ pins))) [] σ6 H6 s6 → (∀ s7, Inv X pins (σ6.set i none) H6 s7 → Q s7) →
              wpAny (model X.prog X.w) X.A (do bindName X.env n .none; unbindBehindTheSuite X.env n pos') (fun _ s7 => Q s7) X.xe s6 := fun {σ6 H6 Q} S6 hq => gone_ok (S6.unsuite ok) hN hi hln hq
          cases f with
          | next =>
            obtain ⟨σ6, H6, S6, q6⟩ := hsp
            exact end_ S6 fun s7 J7 => ⟨_, _, J7, q6⟩
          | brk =>
            obtain ⟨σ6, H6, S6, q6⟩ := hsp
            exact end_ S6 fun s7 J7 => ⟨_, _, J7, q6⟩
          | cont =>
            obtain ⟨σ6, H6, S6, q6⟩ := hsp
            exact end_ S6 fun s7 J7 => ⟨_, _, J7, q6⟩
          | ret u =>
            obtain ⟨v6, σ6, H6, S6, r6, q6⟩ := hsp
            exact end_ S6 fun s7 J7 => ⟨_, _, _, J7, r6, q6⟩
        | false =>
          show wpAny _ X.A (handleBy (.ref a) X.env hds2) _ _ _
          exact ih (hno rfl)
    exact go hh w
  · cases f with
    | next =>
      obtain ⟨σ', H', J', q⟩ := hsp
      exact wpAny_execs_nil ⟨σ', H', J'.ofTry ok, q⟩
    | brk =>
      obtain ⟨σ', H', J', q⟩ := hsp
      exact ⟨σ', H', J'.ofTry ok, q⟩
    | cont =>
      obtain ⟨σ', H', J', q⟩ := hsp
      exact ⟨σ', H', J'.ofTry ok, q⟩
    | ret u =>
      obtain ⟨v, σ', H', J', r, q⟩ := hsp
      exact ⟨v, σ', H', J'.ofTry ok, r, q⟩
end
/-- in a suite nothing may be raised -/
abbrev wF : WX := fun _ _ _ _ => False
theorem takesF {X : Cx} : Takes X wF := fun _ _ ⟨_, _, _, _, _, _, _, _, _, _, _, _, _, _, _, _, w⟩ => w.elim
/-- what is known of the caught error -/
def hotG (j : Nat) (a : Addr) (d : Option Nat) (dd : Option Addr) (g : List (V × V)) : List (V × V) := (V.ref j, V.ref a) :: match d, dd with
  | some i, some b => (V.ref i, V.ref b) :: g
  | _, _ => g
/-- a clause's suite: named, not named -/
def tSu (W : Nm) (G : Cxt) (ei : Nat → Option EInit) (p : Prog) (named : Bool) (b : List S) (a : Addr) (cls : Value) (dd : Option Addr) : TS := fun D σ H =>
  if named = true then ∃ c d j cd, cls = .ref (W.ca c) ∧ p.cls[c]? = some cd ∧ cd.exc = true ∧ (match d with
    | none => dd = none
    | some _ => ∃ b, dd = some b) ∧ tS (W.ext (hotG j a d dd W.glo) W.frz) wF (evSs { G with cur := some (c, d, j) } ei b) D σ H
  else tS W wF (evSs G ei b) D σ H
def clOf (W : Nm) (G : Cxt) (ei : Nat → Option EInit) (p : Prog) : List Hd → List Cl3
  | [] => []
  | .mk C none b :: r => (.ref (W.ca C), none, tSu W G ei p false b) :: clOf W G ei p r
  | .mk C (some i) b :: r => (.ref (W.ca C), some i, tSu W G ei p true b) :: clOf W G ei p r
section
variable {X : Cx} {W : Nm} {G : Cxt} {B : Blk} {wx : WX} {ei : Nat → Option EInit}
theorem isx_some {p : Prog} {c : Nat} (h : p.isx c = true) : ∃ cd, p.cls[c]? = some cd ∧ cd.exc = true := by
  unfold Prog.isx at h
  cases q : p.cls[c]? with
  | none => rw [q] at h; cases h
  | some cd => rw [q] at h; exact ⟨cd, rfl, h⟩
theorem hs_post (C : Cs X W G B wx) {c : Nat} {d : Option Nat} {D : Ends} : ∀ (hs : List Hd) {am : List Addr} {s : Sl} {h : Hh} {σ : L2.St} {H : Hp} {dd : Option Addr} (rs : RSl am s σ) (S : Sim W am h H) (rd : RD am d dd) (P : PostS W wx am (evHs G ei c d hs s h) D), wMix X.K wx D (clOf W G ei B.p hs) (.ref (W.ca c)) dd σ H
  | [], am, s, h, σ, H, dd, rs, S, rd, P => by
    simp only [evHs] at P
    exact P am σ dd H (Pf.refl _) rs S rd
  | .mk Cl none b :: r, am, s, h, σ, H, dd, rs, S, rd, P => by
    simp only [evHs, evH] at P
    by_cases hx : (G.isx c && G.isx Cl) = false
    · rw [if_pos hx] at P; exact P.elim
    · rw [if_neg hx] at P
      have hx : (G.isx c && G.isx Cl) = true := by simpa using hx
      rw [C.ge, Bool.and_eq_true] at hx
      obtain ⟨cd, hc1, hc2⟩ := isx_some hx.1
      obtain ⟨cl, hl1, hl2⟩ := isx_some hx.2
      refine ⟨B.p.sub c Cl, (C.kn.exm Cl c cl cd hl1 hc1 hl2 hc2).1, fun hb a na => ?_, fun hb => ?_⟩
      · rw [if_pos (show G.sub c Cl = true by rw [C.gs]; exact hb)] at P
        show tSu W G ei B.p false b a (.ref (W.ca c)) dd D σ H
        unfold tSu
        rw [if_neg Bool.false_ne_true]
        refine ⟨am, s, h, rs, S, ?_⟩
        cases q : evSs G ei b s h with
        | nx s2 h2 => rw [q] at P; exact P
        | ret v h2 => rw [q] at P; exact P
        | exc _ _ _ _ => rw [q] at P; exact P.elim
        | brk s2 h2 => rw [q] at P; exact P
        | ct s2 h2 => rw [q] at P; exact P
        | bad => rw [q] at P; exact P
      · rw [if_neg (show ¬ G.sub c Cl = true by rw [C.gs, hb]; exact Bool.false_ne_true)] at P
        exact hs_post C r rs S rd P
  | .mk Cl (some i) b :: r, am, s, h, σ, H, dd, rs, S, rd, P => by
    simp only [evHs, evH] at P
    by_cases hx : (G.isx c && G.isx Cl) = false
    · rw [if_pos hx] at P; exact P.elim
    · rw [if_neg hx] at P
      have hx : (G.isx c && G.isx Cl) = true := by simpa using hx
      rw [C.ge, Bool.and_eq_true] at hx
      obtain ⟨cd, hc1, hc2⟩ := isx_some hx.1
      obtain ⟨cl, hl1, hl2⟩ := isx_some hx.2
      refine ⟨B.p.sub c Cl, (C.kn.exm Cl c cl cd hl1 hc1 hl2 hc2).1, fun hb a na => ?_, fun hb => ?_⟩
      · rw [if_pos (show G.sub c Cl = true by rw [C.gs]; exact hb)] at P
        show tSu W G ei B.p true b a (.ref (W.ca c)) dd (endO (some i) D) (σ.set i (some (.ref a))) H
        unfold tSu
        rw [if_pos rfl]
        have S1 := S.opq na
        have ga : (am ++ [a])[h.length]? = some a := by rw [← S.len]; simp
        have hg : ∀ p ∈ hotG h.length a d dd W.glo, RV (am ++ [a]) p.1 p.2 := fun p hp => by
          rcases List.mem_cons.mp hp with rfl | hp
          · exact ⟨a, ga, rfl⟩
          · cases d with
            | none => exact RV.mono (Pf.snoc _ _) (S.gl p (by cases dd <;> exact hp))
            | some i2 =>
              cases dd with
              | none => exact rd.elim
              | some b2 =>
                rcases List.mem_cons.mp hp with rfl | hp
                · exact ⟨b2, (Pf.snoc am a).get rd, rfl⟩
                · exact RV.mono (Pf.snoc _ _) (S.gl p hp)
        have hgw : ∀ p ∈ W.glo, p ∈ hotG h.length a d dd W.glo := fun p hp => by
          unfold hotG
          refine List.mem_cons_of_mem _ ?_
          cases d <;> cases dd <;> first | exact hp | exact List.mem_cons_of_mem _ hp
        refine ⟨c, d, h.length, cd, rfl, hc1, hc2, ?_, am ++ [a], s.set i (some (.ref h.length)), h ++ [.opq], Paired.set (F := RS (am ++ [a])) (x := some (.ref h.length)) (y := some (.ref a)) ⟨a, ga, rfl⟩ i (RSl.mono (Pf.snoc _ _) rs), S1.ext hg S1.fz, ?_⟩
        · cases d with
          | none => cases dd with
            | none => rfl
            | some _ => exact rd.elim
          | some _ => cases dd with
            | none => exact rd.elim
            | some b2 => exact ⟨b2, rfl⟩
        · have P := PostS.mono (Pf.snoc am a) P
          cases q : evSs { G with cur := some (c, d, h.length) } ei b (s.set i (some (.ref h.length))) (h ++ [.opq]) with
          | nx s2 h2 =>
            rw [q] at P
            exact fun a' σ' H' p r S' => P a' _ H' p (Paired.set (F := RS a') (x := none) (y := none) trivial i r) (S'.unext hgw fun _ z => z)
          | ret v h2 =>
            rw [q] at P
            exact fun a' w H' p S' r => P a' w H' p (S'.unext hgw fun _ z => z) r
          | exc _ _ _ _ => rw [q] at P; exact P.elim
          | brk s2 h2 =>
            rw [q] at P
            exact fun a' σ' H' p r S' => P a' _ H' p (Paired.set (F := RS a') (x := none) (y := none) trivial i r) (S'.unext hgw fun _ z => z)
          | ct s2 h2 =>
            rw [q] at P
            exact fun a' σ' H' p r S' => P a' _ H' p (Paired.set (F := RS a') (x := none) (y := none) trivial i r) (S'.unext hgw fun _ z => z)
          | bad => rw [q] at P; exact P
      · rw [if_neg (show ¬ G.sub c Cl = true by rw [C.gs, hb]; exact Bool.false_ne_true)] at P
        exact hs_post C r rs S rd P
theorem Cs.intry (C : Cs X W G B wx) (hot : B.hot = false) {wx' : WX} {pn : List (Addr × Obj)} {xe : Value → Shared → Prop} (tk : Takes (X.tr pn xe) wx') (po : PassesOwn (model X.prog X.w) X.A X.env xe) : Cs (X.tr pn xe) W G B wx' where
  kn := C.kn
  hN := C.hN
  hs := C.hs
  hc := C.hc
  nd := C.nd
  hu := C.hu
  tk := tk
  fns := fun h i fd e g z hg => ⟨(C.fns h i fd e g z hg).ex⟩
  gf := C.gf
  gg := C.gg
  gs := C.gs
  ht := fun c d j e => by rw [C.cu hot] at e; cases e
  po := fun _ => po
  fn := C.fn
  kf := C.kf
  cu := C.cu
  st := C.st
  fr := C.fr
  ge := C.ge
/-- the place of a suite -/
theorem Cs.hot0 (C : Cs X W G B wx) (hot : B.hot = false) (a : Addr) (pn : List (Addr × Obj)) : Cs (X.suite a pn) W G { B with hot := true } wF where
  kn := C.kn
  hN := C.hN
  hs := C.hs
  hc := fun z => Bool.noConfusion z
  nd := C.nd
  hu := C.hu
  tk := takesF
  fns := fun z => Bool.noConfusion z
  gf := C.gf
  gg := C.gg
  gs := C.gs
  ht := fun c d j e => by rw [C.cu hot] at e; cases e
  po := fun z => Bool.noConfusion z
  fn := C.fn
  kf := C.kf
  cu := fun z => Bool.noConfusion z
  st := fun z => Bool.noConfusion z
  fr := fun z => Bool.noConfusion z
  ge := C.ge
theorem Cs.hot1 (C : Cs X W G B wx) {a : Addr} {oe : Obj} {pn : List (Addr × Obj)} {c : Nat} {d : Option Nat} {dd : Option Addr} {j : Nat} {cd : CD} (hc1 : B.p.cls[c]? = some cd) (hc2 : cd.exc = true) (hz : Zc (.ref (W.ca c)) dd oe) (hf : ∃ vs, oe.data = .fields vs)
    (hd : match d with
      | none => dd = none
      | some _ => ∃ b, dd = some b) : Cs (X.suite a ((a, oe) :: pn)) (W.ext (hotG j a d dd W.glo) W.frz) { G with cur := some (c, d, j) } { B with hot := true } wF where
  kn := C.kn.more fun p hp => by
    unfold hotG
    refine List.mem_cons_of_mem _ ?_
    cases d <;> cases dd <;> first | exact hp | exact List.mem_cons_of_mem _ hp
  hN := C.hN
  hs := C.hs
  hc := fun z => Bool.noConfusion z
  nd := C.nd
  hu := C.hu
  tk := takesF
  fns := fun z => Bool.noConfusion z
  gf := C.gf
  gg := C.gg
  gs := C.gs
  ht := fun c' d' j' e => by
    cases e
    refine ⟨a, oe, dd, cd, List.mem_cons_self, hz, hf, List.mem_cons_self, hc1, hc2, ?_⟩
    cases d with
    | none => exact hd
    | some i =>
      obtain ⟨b, rfl⟩ := hd
      exact ⟨b, rfl, List.mem_cons_of_mem _ List.mem_cons_self⟩
  po := fun z => Bool.noConfusion z
  fn := C.fn
  kf := C.kf
  cu := fun z => Bool.noConfusion z
  st := fun z => Bool.noConfusion z
  fr := fun z => Bool.noConfusion z
  ge := C.ge
theorem names_of (C : Cs X W G B wx) {Cl : Nat} {x : Str} (h : isCl B Cl true x = true) : Names X x (.ref (W.ca Cl)) := by
  unfold isCl at h
  rw [Bool.and_eq_true, Bool.and_eq_true] at h
  obtain ⟨⟨hg, hn⟩, hc⟩ := h
  cases q : B.p.cls[Cl]? with
  | none => rw [q] at hc; cases hc
  | some cd =>
    rw [q] at hc
    simp only [Bool.and_eq_true, decide_eq_true_eq, beq_iff_eq] at hc
    have gl := (C.kn.exc Cl cd q hc.2).gl
    rw [hc.1] at gl
    exact ⟨gl_of C.toCn hg, okName1 hn, .inl gl⟩
theorem s_try (C : Cs X W G B wx) (hot : B.hot = false) {b : List S} {hs : List Hd} {sb : List PySem.Stmt} {hds : List PySem.ExceptHandler} {p : Pos} (ne : hds.isEmpty = false)
    (hb : ∀ {X' : Cx} {wx' : WX}, Cs X' W G B wx' → PSs X' sb (tS W wx' (evSs G ei b))) (hh : HdsM X hds (clOf W G ei B.p hs)) : PS X (.Try sb hds [] [] p) (tS W wx (evS G ei (.try_ b hs))) := by
  cases hds with
  | nil => cases ne
  | cons h0 hds =>
    refine PS.imp (ps_try_mix (tb := fun wx' => tS W wx' (evSs G ei b)) (C.st hot) (C.fr hot) C.nd C.tk (fun wx' pn xe tk po => hb (C.intry hot tk po)) hh) ?_
    rintro D σ H ⟨am, s, h, rs, S, P⟩
    simp only [evS] at P
    refine ⟨am, s, h, rs, S, ?_⟩
    cases q : evSs G ei b s h with
    | nx s2 h2 => rw [q] at P; exact P
    | ret v h2 => rw [q] at P; exact P
    | exc c d s2 h2 =>
      rw [q] at P
      exact fun am' σ' dd H' p rs' S' rd => hs_post C hs rs' S' rd (PostS.mono p P)
    | brk s2 h2 => rw [q] at P; exact P
    | ct s2 h2 => rw [q] at P; exact P
    | bad => rw [q] at P; exact P
/-! ### all statements -/
mutual
theorem sS : ∀ (s : S) {X : Cx} {W : Nm} {G : Cxt} {B : Blk} {wx : WX} {ei : Nat → Option EInit} (hei : ei = B.p.ei) (C : Cs X W G B wx) (y : PySem.Stmt), mS B s y = true → PS X y (tS W wx (evS G ei s))
  | .set i e, X, W, G, B, wx, ei, hei, C, y, h => by
    cases y with
    | Assign ts v p =>
      cases ts with
      | nil => exact Bool.noConfusion h
      | cons t ts =>
        cases t with
        | Name x p0 =>
          cases ts with
          | cons _ _ => exact Bool.noConfusion h
          | nil =>
            have h : (decide (B.N[i]? = some x) && isLc B.sc x && okX v && mE B e v) = true := h
            simp only [Bool.and_eq_true, decide_eq_true_eq] at h
            exact s_set C h.1.1.1 h.1.1.2 h.1.2 (sE e C.toCn v h.2)
        | _ => exact Bool.noConfusion h
    | _ => exact Bool.noConfusion h
  | .tup is e, X, W, G, B, wx, ei, hei, C, y, h => by
    cases y with
    | Assign ts v p =>
      cases ts with
      | nil => exact Bool.noConfusion h
      | cons t ts =>
        cases t with
        | Tuple us k p0 =>
          cases ts with
          | cons _ _ => exact Bool.noConfusion h
          | nil =>
            have h : ((!B.hot) && mTs B is us && okX v && mE B e v && !isTupX v) = true := h
            simp only [Bool.and_eq_true, Bool.not_eq_true'] at h
            exact s_tup C h.1.1.1.1 h.1.1.1.2 h.1.1.2 h.2 (sE e C.toCn v h.1.2)
        | _ => exact Bool.noConfusion h
    | _ => exact Bool.noConfusion h
  | .par i j a b, X, W, G, B, wx, ei, hei, C, y, h => by
    cases y with
    | Assign ts w p =>
      rcases ts with _ | ⟨t, ts⟩
      · exact Bool.noConfusion h
      rcases ts with _ | ⟨t', ts⟩
      · cases q : parX t w with
        | none =>
          rw [mS, q] at h
          cases h
        | some z =>
          obtain ⟨x, px, y, py, u, v⟩ := z
          rw [mS, q] at h
          dsimp only at h
          obtain ⟨k, pt, k2, pt2, rfl, rfl⟩ := parX_eq q
          simp only [Bool.and_eq_true, Bool.not_eq_true', decide_eq_true_eq] at h
          obtain ⟨⟨⟨⟨⟨⟨⟨⟨⟨⟨⟨h0, h1⟩, h2⟩, h3⟩, h4⟩, h5⟩, h6⟩, h7⟩, h8⟩, h9⟩, h10⟩, h11⟩ := h
          exact s_par C h0 h1 h2 h3 h4 h5 (sE a C.toCn u h6.1) (sE b C.toCn v h7.1) h6.2 h7.2 (by simpa using h8) h9 h10 h11
      · exact Bool.noConfusion h
    | _ => exact Bool.noConfusion h
  | .setIx o i e, X, W, G, B, wx, ei, hei, C, y, h => by
    cases y with
    | Assign ts v p =>
      cases ts with
      | nil => exact Bool.noConfusion h
      | cons t ts =>
        cases t with
        | Subscript x z p0 =>
          cases ts with
          | cons _ _ => exact Bool.noConfusion h
          | nil =>
            have h : (okX v && mE B o x && mE B i z && mE B e v) = true := h
            simp only [Bool.and_eq_true] at h
            exact s_setIx C h.1.1.1 (sE o C.toCn x h.1.1.2) (sE i C.toCn z h.1.2) (sE e C.toCn v h.2)
        | _ => exact Bool.noConfusion h
    | _ => exact Bool.noConfusion h
  | .setAt o f e, X, W, G, B, wx, ei, hei, C, y, h => by
    exfalso
    revert h
    cases y <;> simp [mS]
  | .ret e, X, W, G, B, wx, ei, hei, C, y, h => by
    cases y with
    | Return v p =>
      cases v with
      | none => exact Bool.noConfusion h
      | some v => exact s_ret C (sE e C.toCn v h)
    | _ => exact Bool.noConfusion h
  | .ite c a b, X, W, G, B, wx, ei, hei, C, y, h => by
    cases y with
    | If t sa sb p =>
      have h : (mE B c t && mSs B a sa && mSs B b sb) = true := h
      simp only [Bool.and_eq_true] at h
      exact s_ite (sE c C.toCn t h.1.1) (sSs a hei C sa h.1.2) (sSs b hei C sb h.2)
    | _ => exact Bool.noConfusion h
  | .whl c b, X, W, G, B, wx, ei, hei, C, y, h => by
    cases y with
    | While t sb oe p =>
      cases oe with
      | cons _ _ => exact Bool.noConfusion h
      | nil =>
        have h : ((!B.hot) && mE B c t && mSs B b sb) = true := h
        simp only [Bool.and_eq_true, Bool.not_eq_true'] at h
        exact s_whl C h.1.1 (sE c C.toCn t h.1.2) (sSs b hei C sb h.2)
    | _ => exact Bool.noConfusion h
  | .for_ t k es b, X, W, G, B, wx, ei, hei, C, y, h => by
    cases y with
    | For tg it sb oe p =>
      cases oe with
      | cons _ _ => exact Bool.noConfusion h
      | nil =>
        have h : ((!B.hot) && mTg B t tg && mSk B k es it tg && mSs B b sb) = true := h
        simp only [Bool.and_eq_true, Bool.not_eq_true'] at h
        refine s_for C h.1.1.1 h.1.1.2 h.1.2 (fun x => ?_) fun C' => sSs b hei C' sb h.2
        have hk := h.1.2
        cases it <;> first | rfl | skip
        exfalso
        revert hk
        cases k <;> simp [mSk, callX, methX]
        rcases es with _ | ⟨e, _ | ⟨_, _⟩⟩ <;> simp [mE_set]
    | _ => exact Bool.noConfusion h
  | .expr e, X, W, G, B, wx, ei, hei, C, y, h => by
    cases y with
    | Expr v p =>
      have h : (okX v && mE B e v) = true := h
      simp only [Bool.and_eq_true] at h
      exact s_expr C h.1 (sE e C.toCn v h.2)
    | _ => exact Bool.noConfusion h
  | .pass, X, W, G, B, wx, ei, hei, C, y, h => by
    cases y with
    | Pass p => exact s_pass
    | _ => exact Bool.noConfusion h
  | .cont, X, W, G, B, wx, ei, hei, C, y, h => by
    cases y with
    | Continue p => exact s_cont
    | _ => exact Bool.noConfusion h
  | .brk, X, W, G, B, wx, ei, hei, C, y, h => by
    cases y with
    | Break p => exact s_brk
    | _ => exact Bool.noConfusion h
  | .raise Cl (_ :: _), X, W, G, B, wx, ei, hei, C, y, h => by
    exfalso
    revert h
    cases y <;> simp [mS]
  | .raise Cl [], X, W, G, B, wx, ei, hei, C, y, h => by
    cases y with
    | Raise e c p =>
      cases e with
      | none => exact Bool.noConfusion h
      | some e =>
        cases c with
        | some _ => exact Bool.noConfusion h
        | none =>
          have h1 : ((!B.hot) && (match raiseX e with
            | some x => isCl B Cl true x && (match B.p.cls[Cl]? with
              | some cd => cd.ei.isNone
              | none => false)
            | none => false)) = true := h
          clear h
          rw [Bool.and_eq_true] at h1
          obtain ⟨h0, h1⟩ := h1
          cases q : raiseX e with
          | none => rw [q] at h1; exact Bool.noConfusion h1
          | some x =>
            rw [q] at h1
            dsimp only at h1
            rw [Bool.and_eq_true] at h1
            obtain ⟨h1, h2⟩ := h1
            obtain ⟨p0, m, j, p2, p3, rfl⟩ := raiseX_eq q
            refine s_raise C (by simpa using h0) h1 hei ?_
            rw [hei]
            unfold Prog.ei
            cases q2 : B.p.cls[Cl]? with
            | none => rfl
            | some cd =>
              rw [q2] at h2
              exact Option.isNone_iff_eq_none.mp h2
    | _ => exact Bool.noConfusion h
  | .try_ b hs, X, W, G, B, wx, ei, hei, C, y, h => by
    cases y with
    | Try sb hds oe fe p =>
      cases oe with
      | cons _ _ => exact Bool.noConfusion h
      | nil =>
        cases fe with
        | cons _ _ => exact Bool.noConfusion h
        | nil =>
          have h : ((!B.hot) && (!hds.isEmpty) && mSs B b sb && mHs B hs hds) = true := h
          simp only [Bool.and_eq_true, Bool.not_eq_true'] at h
          exact s_try C h.1.1.1 h.1.1.2 (fun C' => sSs b hei C' sb h.1.2) (sHs hs hei C h.1.1.1 hds h.2)
    | _ => exact Bool.noConfusion h
theorem sSs : ∀ (r : List S) {X : Cx} {W : Nm} {G : Cxt} {B : Blk} {wx : WX} {ei : Nat → Option EInit} (hei : ei = B.p.ei) (C : Cs X W G B wx) (ys : List PySem.Stmt), mSs B r ys = true → PSs X ys (tS W wx (evSs G ei r))
  | [], X, W, G, B, wx, ei, hei, C, ys, h => by
    cases ys with
    | cons _ _ => exact Bool.noConfusion h
    | nil =>
      refine PSs.imp pss_nil ?_
      rintro D σ H ⟨am, s, h, rs, S, P⟩
      simp only [evSs] at P
      exact P.nx rs S
  | s :: r, X, W, G, B, wx, ei, hei, C, ys, h => by
    cases ys with
    | nil => exact Bool.noConfusion h
    | cons y ys =>
      have h : (mS B s y && mSs B r ys) = true := h
      simp only [Bool.and_eq_true] at h
      refine PSs.imp (pss_cons (sS s hei C y h.1) (sSs r hei C ys h.2)) ?_
      rintro D σ H ⟨am, st, h, rs, S, P⟩
      simp only [evSs] at P
      exact ⟨am, st, h, rs, S, P.seq fun am' s' h' σ' H' p rs' S' P' => ⟨am', s', h', rs', S', P'⟩⟩
theorem sHs : ∀ (hs : List Hd) {X : Cx} {W : Nm} {G : Cxt} {B : Blk} {wx : WX} {ei : Nat → Option EInit} (hei : ei = B.p.ei) (C : Cs X W G B wx) (hot : B.hot = false) (hds : List PySem.ExceptHandler), mHs B hs hds = true → HdsM X hds (clOf W G ei B.p hs)
  | [], X, W, G, B, wx, ei, hei, C, hot, hds, h => by
    cases hds with
    | cons _ _ => exact Bool.noConfusion h
    | nil => exact .nil
  | .mk Cl none b :: hs, X, W, G, B, wx, ei, hei, C, hot, hds, h => by
    cases hds with
    | nil => exact Bool.noConfusion h
    | cons y ys =>
      have h : (mH B (.mk Cl none b) y && mHs B hs ys) = true := h
      rw [Bool.and_eq_true] at h
      obtain ⟨h1, h2⟩ := h
      obtain ⟨t, n, sb, p⟩ := y
      cases t with
      | none => exact Bool.noConfusion h1
      | some t =>
        cases t with
        | Name x np =>
          cases n with
          | some _ => exact Bool.noConfusion h1
          | none =>
            have h1 : (isCl B Cl true x && (!sb.isEmpty) && mSs { B with hot := true } b sb) = true := h1
            simp only [Bool.and_eq_true, Bool.not_eq_true'] at h1
            cases sb with
            | nil => exact Bool.noConfusion h1.1.2
            | cons b0 sb =>
              refine .cons (names_of C h1.1.1) (fun a oe cls d pn hz hf => ⟨fun pins s σ H D I hh => ?_⟩) (sHs hs hei C hot ys h2)
              unfold tSu at hh
              rw [if_neg Bool.false_ne_true] at hh
              exact (sSs b (B := { B with hot := true }) hei (C.hot0 hot a ((a, oe) :: pn)) (b0 :: sb) h1.2).run pins s σ H D I hh
        | _ => cases n <;> exact Bool.noConfusion h1
  | .mk Cl (some i) b :: hs, X, W, G, B, wx, ei, hei, C, hot, hds, h => by
    cases hds with
    | nil => exact Bool.noConfusion h
    | cons y ys =>
      have h : (mH B (.mk Cl (some i) b) y && mHs B hs ys) = true := h
      rw [Bool.and_eq_true] at h
      obtain ⟨h1, h2⟩ := h
      obtain ⟨t, n, sb, p⟩ := y
      cases t with
      | none => exact Bool.noConfusion h1
      | some t =>
        cases t with
        | Name x np =>
          cases n with
          | none => exact Bool.noConfusion h1
          | some n =>
            have h1 : (isCl B Cl true x && (!sb.isEmpty) && decide (B.N[i]? = some n) && isL1 B.sc n && mSs { B with hot := true } b sb) = true := h1
            simp only [Bool.and_eq_true, Bool.not_eq_true', decide_eq_true_eq] at h1
            cases sb with
            | nil => exact Bool.noConfusion h1.1.1.1.2
            | cons b0 sb =>
              refine .named (names_of C h1.1.1.1.1) (by rw [C.hN]; exact h1.1.1.2) (l1_of C.toCn h1.1.2) (fun a oe cls d pn hz hf => ⟨fun pins s σ H D I hh => ?_⟩) (sHs hs hei C hot ys h2)
              unfold tSu at hh
              rw [if_pos rfl] at hh
              obtain ⟨c, d', j, cd, rfl, hc1, hc2, hd, hh⟩ := hh
              exact (sSs b (B := { B with hot := true }) hei (C.hot1 (pn := pn) (j := j) hc1 hc2 hz hf hd) (b0 :: sb) h1.2).run pins s σ H D I hh
        | _ => cases n <;> exact Bool.noConfusion h1
end
end
end QM

/-! QM7: the table of defs; the head's facts; a law -/
namespace QM
open PySem L2 PyProof.Rows
/-! ### one def, against its text -/
structure RowQ (p : Prog) (gl at_ blt : List Str) (fd : FD) (d : He.DefD) : Prop where
  sc : FnScope fd.N (fd.N.take fd.np) d.scope
  np : fd.np ≤ fd.N.length
  ms : mSs ⟨fd.N, d.scope, p, gl, at_, blt, false⟩ fd.body d.body = true
  pl : fd.glob = true → d.at_ = (fd.name, none)
  df : d.dfl = [] ∧ fd.df = [] ∨ (fd.df ≠ [] ∧ ∀ K, d.dvs K = fd.df)
  kw : d.kwd = []
  b0 : fd.df = [] → ∀ (kV doc pm : Value) (an : Option Addr) (cdv ct : Value) (us : List Value), us.length = (fd.N.take fd.np).length → bindArgs (PySem.W.fnOf d.name d.qual d.params d.body d.scope .none kV doc pm an cdv ct) ⟨us, []⟩ = pure ((fd.N.take fd.np).zip us)
  b1 : fd.df ≠ [] → ∀ m, m ≤ fd.np → fd.np ≤ m + fd.df.length → ∀ (T : Addr) (kV doc pm : Value) (an : Option Addr) (cdv ct : Value) (us its : List Value), us.length = m → its.length = fd.df.length →
      ∃ k, bindArgs (PySem.W.fnOf d.name d.qual d.params d.body d.scope (.ref T) kV doc pm an cdv ct) ⟨us, []⟩ = seqItems? (.ref T) >>= k ∧ k (some its.toArray) = pure ((fd.N.take fd.np).zip (us ++ its.drop (m + fd.df.length - fd.np)))
structure Top (K : PySem.W.Frag) (mg : Str → Option Value) (p : Prog) (gl at_ blt : List Str) (W : Nm) (fdt : Nat → FuncData) : Prop where
  kn : Known K mg W p gl at_ blt
  rows : ∀ (i : Nat) (fd : FD), p.fns[i]? = some fd → ∃ d : He.DefD, RowQ p gl at_ blt fd d ∧ FunD K d.name d.qual d.params d.body d.scope (d.dvs K) [] (W.fa i) (fdt i)
theorem no_sp {P : Program} {w : World} {K : PySem.W.Frag} {mg : Str → Option Value} {base : Heap} {CX : CXT} {k : Nat} {f : Addr} {fd : FuncData} {ps : List Str} {sp : Sp} (no : ∀ vs H Q E, ¬ sp vs H Q E) : FnOk P w K mg base CX k f fd ps sp :=
  ⟨fun vs H Q E h => absurd h (no vs H Q E), fun A outer s H args us vs Q E _ _ _ _ h => absurd h (no vs H Q E)⟩
theorem start_rel {am : List Addr} (N : List Str) : ∀ {vs ws : List V}, RVs am vs ws → RSl am (startQ N.length vs) (L2.start N ws) := by
  intro vs ws r
  unfold startQ L2.start
  rw [← Paired.len r]
  refine Paired.app ?_ ?_
  · induction r with
    | nil => exact .nil
    | cons a _ ih => exact .cons a ih
  · generalize N.length - vs.length = n
    induction n with
    | zero => exact .nil
    | succ n ih => exact .cons trivial ih
section
variable {p : Prog}
theorem cxt_fill (d : Nat) : (cxt p d).fill = p.fill := by cases d <;> rfl
theorem cxt_glo (d : Nat) : (cxt p d).glo = fun k => p.glo[k]? := by cases d <;> rfl
theorem cxt_sub (d : Nat) : (cxt p d).sub = p.sub := by cases d <;> rfl
theorem cxt_isx (d : Nat) : (cxt p d).isx = p.isx := by cases d <;> rfl
theorem cxt_cur (d : Nat) : (cxt p d).cur = none := by cases d <;> rfl
end
section
variable {P : Program} {w : World} {K : PySem.W.Frag} {mg : Str → Option Value} {base : Heap} {p : Prog} {gl at_ blt : List Str} {W : Nm} {fdt : Nat → FuncData}
theorem Top.more (T : Top K mg p gl at_ blt W fdt) {g : List (V × V)} {z : List (Addr × Obj × HO)} (hg : ∀ q ∈ W.glo, q ∈ g) : Top K mg p gl at_ blt (W.ext g z) fdt := ⟨T.kn.more hg, T.rows⟩
/-- how a def's parameters are bound -/
theorem row_binds {fd : FD} {d : He.DefD} {f : Addr} {fdat : FuncData} (R : RowQ p gl at_ blt fd d) (F : FunD K d.name d.qual d.params d.body d.scope (d.dvs K) [] f fdat) :
    ∀ m, m ≤ fd.np → fd.np ≤ m + fd.df.length → ∃ ds, Vals (fd.df.drop (m + fd.df.length - fd.np)) ds ∧ Binds K fdat (fd.N.take fd.np) ds := fun m h1 h2 => by
  have hl : (fd.N.take fd.np).length = fd.np := by
    rw [List.length_take]
    have := R.np
    omega
  rcases R.df with ⟨e1, e2⟩ | ⟨e1, e2⟩
  · have e3 : d.dvs K = [] := by unfold He.DefD.dvs; rw [e1]; rfl
    rw [e3] at F
    refine ⟨[], ?_, F.bindsN (R.b0 e2)⟩
    rw [e2]
    simp
    exact .nil
  · have e3 := e2 K
    rw [e3] at F
    refine F.binds1 m (m + fd.df.length - fd.np) e1 ?_ fun T kV doc pm an cdv ct us its l1 l2 => R.b1 e1 m h1 h2 T kV doc pm an cdv ct us its l1 l2
    rw [hl]
    omega
theorem fns_ok : ∀ (d i : Nat) (fd : FD) {W : Nm} (_ : Top K mg p gl at_ blt W fdt), p.fns[i]? = some fd → FnOk P w K mg base (L2.CX P w) (2 * d) (W.fa i) (fdt i) (fd.N.take fd.np) (spQ W (cxt p d) i fd.np)
  | 0, i, fd, W, T, hi => no_sp fun vs H Q E ⟨am, args, h, _, _, _, Po⟩ => Po
  | d + 1, i, fd, W, T, hi => by
    obtain ⟨dd, R, F⟩ := T.rows i fd hi
    have hl : (fd.N.take fd.np).length = fd.np := by
      rw [List.length_take]
      have := R.np
      omega
    show FnOk P w K mg base (L2.CX P w) (2 * d + 1 + 1) (W.fa i) (fdt i) (fd.N.take fd.np) _
    refine F.ok R.sc (fun vs H Q E h => ?_) (fun cdv A outer s H vs Q E hr h => ?_)
    · obtain ⟨am, args, h, r, _, l, _⟩ := h
      rw [← Paired.len r, l, hl]
    · obtain ⟨am, args, h0, r, Si, l, Po⟩ := h
      have C : Cs (cxOf (L2.CX P w) P w K mg base fd.N dd.qual dd.scope (W.fa i) cdv A outer s H E) W (cxt p d) ⟨fd.N, dd.scope, p, gl, at_, blt, false⟩ (fun cls dd _ H => E cls dd H) := {
        kn := T.kn
        hN := rfl
        hs := rfl
        hc := fun _ => rfl
        nd := R.sc.nd
        hu := hr.units
        tk := takes_of rfl rfl rfl rfl
        fns := fun _ j fd2 hj g z hg => by
          obtain ⟨d2, R2, F2⟩ := T.rows j fd2 hj
          exact ⟨fdt j, 2 * d, F2.kp, hr.mono (Nat.le_succ _), row_binds R2 F2, fns_ok d j fd2 (T.more hg) hj⟩
        gf := cxt_fill d
        gg := cxt_glo d
        gs := cxt_sub d
        ht := fun c d' j e => by rw [cxt_cur] at e; cases e
        po := fun _ => passes_of rfl
        fn := fun _ => rfl
        kf := R.sc.kind
        cu := fun _ => cxt_cur d
        st := fun _ => rfl
        fr := fun _ => rfl
        ge := cxt_isx d }
      refine ⟨_, sSs fd.body (ei := p.ei) rfl C dd.body R.ms, am, startQ fd.N.length args, h0, start_rel fd.N r, Si, ?_⟩
      have e : (cxt p (d + 1)).call i args h0 = runF (cxt p d) p.ei fd args h0 := by
        show (match p.fns[i]? with | some fd => runF (cxt p d) p.ei fd args h0 | none => .bad) = _
        rw [hi]
      rw [e] at Po
      unfold runF at Po
      rw [if_pos l] at Po
      cases q : evSs (cxt p d) p.ei fd.body (startQ fd.N.length args) h0 with
      | nx s2 h2 =>
        rw [q] at Po
        exact fun am' σ' H' pf rs S' => Po am' .non H' pf S' rfl
      | ret v h2 =>
        rw [q] at Po
        exact Po
      | exc c dd s2 h2 =>
        rw [q] at Po
        exact fun am' σ' ed H' pf rs S' rd => Po am' ed H' pf S' rd
      | brk s2 h2 => rw [q] at Po; exact Po.elim
      | ct s2 h2 => rw [q] at Po; exact Po.elim
      | bad => rw [q] at Po; exact Po.elim
end

/-! ### the head's facts, by one Bool -/
structure Txt where
  p : Prog
  gl : List Str
  at_ : List Str
  blt : List Str
  tups : List (Str × List V)
  defs : List He.DefD
def veBase : List Value := [.type "ValueError", .type "Exception", .type "BaseException", .type "object"]
section
open PySem.W
def gloIs (K : Frag) (x : Str) : Bool := He.eqO (nsIn K mainGlobals x) (some (some (.ref (He.ga K x))))
def tupIs (K : Frag) (x : Str) (vs : List V) : Bool := vs.all flatV && gloIs K x && (match K.lookup (He.ga K x) with
  | some ⟨.type c, _, .seq its _, _⟩ => decide (c = "tuple") && (decide (its.size ≤ sizeLine) && He.relAll vs its.toList)
  | _ => false)
def gloB (K : Frag) (x : Str) (v : V) (tups : List (Str × List V)) : Bool := match v with
  | .ref (j + 1) => (match tups[j]? with
    | some (y, vs) => decide (x = y) && tupIs K x vs
    | none => false)
  | v => flatV v && (match nsIn K mainGlobals x with
    | some (some u) => He.relB v u
    | _ => false)
def excC (K : Frag) (a : Addr) : Bool := decide (findIn K (.ref a) "__getattribute__" = some (some (.builtin "BaseException.__getattribute__"))) && decide (findIn K (.ref a) "__getattr__" = some none) && decide (subIn K (.ref a) (.type "BaseException") = some true) && hasDictIn K a &&
  decide (findIn K (.ref a) "__class__" = some (some (.builtin "object.__class__"))) && decide (specialIn K (.builtin "object.__class__") "__get__" = some (some (.builtin "getset_descriptor.__get__"))) && decide (takesIn K (.builtin "object.__class__") = some true) && decide (mroIn K a (.type "object") = some true)
def excB (K : Frag) (at_ : List Str) (cd : CD) (a : Addr) : Bool := (!cd.ei.isNone || excIn K a veBase "ValueError.__new__") && gloIs K cd.name && keepIn K (.ref a) && decide (subIn K (.ref a) (.type "BaseException") = some true) && decide (typeIn K (.ref a) = some (.type "type")) &&
  decide (kitOne K (.ref a) (.type "ValueError") = some true) && excC K a && xfB K a && at_.all fun f => He.eqO (findIn K (.ref a) f) (some none)
def caOf (t : Txt) (K : Frag) (C : Nat) : Addr := match t.p.cls[C]? with
  | some cd => He.ga K cd.name
  | none => 0
def faOf (t : Txt) (K : Frag) (i : Nat) : Addr := match t.defs[i]? with
  | some d => He.fAd K d.at_
  | none => 0
def pairB (t : Txt) (K : Frag) (C D : Nat) : Bool := !(t.p.isx C && t.p.isx D) || (decide (exmOne K (.ref (caOf t K D)) (.ref (caOf t K C)) = some (t.p.sub D C)) && decide (kitOne K (.ref (caOf t K D)) (.ref (caOf t K C)) = some (t.p.sub D C)))
def factsB (t : Txt) (K : Frag) : Bool :=
  t.blt.all (fun b => He.eqO (nsIn K mainGlobals b) (some none)) &&
  t.p.fns.all (fun fd => !fd.glob || gloIs K fd.name) &&
  (t.p.glo.zip t.gl).all (fun q => gloB K q.2 q.1 t.tups) &&
  t.tups.all (fun q => tupIs K q.1 q.2) &&
  t.p.cls.all (fun cd => !cd.exc || excB K t.at_ cd (He.ga K cd.name)) &&
  (List.range t.p.cls.length).all (fun C => (List.range t.p.cls.length).all fun D => pairB t K C D)
end
abbrev AlQ : Type := Bool × List He.FnW
def obsQ (t : Txt) (K : PySem.W.Frag) : AlQ := (factsB t K && t.defs.all fun d => d.ok K, t.defs.map fun d => He.fnW K d.at_)
def valQ (t : Txt) : AlQ := (true, t.defs.map He.DefD.val)
def SaysQ (t : Txt) (K : PySem.W.Frag) : Prop := obsQ t K = valQ t
def obsQG (n : Nat) (t : Txt) (g : Addr → Option Obj) : AlQ := obsQ t (He.frG g (He.asD g n))
def hookQ (n : Nat) (t : Txt) : PySem.W.Hook where
  α := AlQ
  obs := fun s => obsQG n t s.heap.get?
  val := fun _ => valQ t
  says := fun _ h => ∃ K : PySem.W.Frag, K.In h ∧ SaysQ t K
  of := fun _ _ e => ⟨_, He.frG_in, e⟩
  keeps := fun _ _ _ ⟨K, hK, c⟩ k => ⟨K, PySem.W.Frag.In.keeps hK k, c⟩
theorem obsQG_eq {n : Nat} {t : Txt} {g : Addr → Option Obj} {s : Shared} (h : ∀ a, g a = s.heap.get? a) : obsQG n t g = (hookQ n t).obs s := by
  have e : g = s.heap.get? := funext h
  rw [e] <;> rfl
section
variable {K : PySem.W.Frag} {h : Heap} {mg : Str → Option Value} {t : Txt}
theorem gloIs_ok (X : K.In h) (G : h.Ns mainGlobals mg) {x : Str} (c : gloIs K x = true) : mg x = some (.ref (He.ga K x)) := PySem.W.mg_of X G (He.eqO_ok c)
theorem tupIs_ok {x : Str} {vs : List V} (c : tupIs K x vs = true) (H : Hp) : SqT K H (He.ga K x) vs := by
  unfold tupIs at c
  rw [Bool.and_eq_true] at c
  have c := c.2
  cases q : K.lookup (He.ga K x) with
  | none => rw [q] at c; cases c
  | some o =>
    obtain ⟨oc, od, dt, osl⟩ := o
    rw [q] at c
    cases oc with
    | type cc =>
      cases dt with
      | seq its n =>
        simp only [Bool.and_eq_true, decide_eq_true_eq] at c
        exact .inr ⟨_, its, n, q, congrArg Value.type c.1, rfl, c.2.1, He.relAll_ok c.2.2⟩
      | _ => cases c
    | _ => cases dt <;> cases c
theorem excC_ok {a : Addr} (c : excC K a = true) : ExcC K a := by
  unfold excC at c
  simp only [Bool.and_eq_true, decide_eq_true_eq] at c
  obtain ⟨⟨⟨⟨⟨⟨⟨h1, h2⟩, h3⟩, h4⟩, h5⟩, h6⟩, h7⟩, h8⟩ := c
  exact ⟨h1, h2, h3, h4, h5, h6, h7, h8⟩
theorem excB_ok (X : K.In h) (G : h.Ns mainGlobals mg) {at_ : List Str} {cd : CD} (c : excB K at_ cd (He.ga K cd.name) = true) : ExcK K mg at_ (He.ga K cd.name) cd.name cd.ei.isNone := by
  unfold excB at c
  simp only [Bool.and_eq_true, decide_eq_true_eq, Bool.or_eq_true, Bool.not_eq_true', List.all_eq_true] at c
  obtain ⟨⟨⟨⟨⟨⟨⟨⟨h1, h2⟩, h3⟩, h4⟩, h5⟩, h6⟩, h7⟩, h8⟩, h9⟩ := c
  exact ⟨fun z => h1.elim (fun e => by rw [e] at z; cases z) id, gloIs_ok X G h2, h3, h4, h5, h6, excC_ok h7, xfB_ok h8, fun f hf => He.eqO_ok (h9 f hf)⟩
def gloW (K : PySem.W.Frag) (v : V) (x : Str) : V := match v with
  | .ref _ => .ref (He.ga K x)
  | v => v
/-- the known things behind the top -/
def nmOf (t : Txt) (K : PySem.W.Frag) : Nm := ⟨K, caOf t K, fun k => t.at_.getD k Str.empty, fun _ => False, (t.p.glo.zip t.gl).map fun q => (q.1, gloW K q.1 q.2), faOf t K, []⟩
theorem zip_mem {α β : Type} : ∀ {xs : List α} {ys : List β} {k : Nat} {x : α} {y : β}, xs[k]? = some x → ys[k]? = some y → (x, y) ∈ xs.zip ys
  | x :: xs, y :: ys, 0, _, _, h1, h2 => by cases h1; cases h2; exact List.mem_cons_self
  | x :: xs, y :: ys, k + 1, _, _, h1, h2 => List.mem_cons_of_mem _ (zip_mem (k := k) h1 h2)
  | [], _, _, _, _, h1, _ => by cases h1
  | _ :: _, [], _, _, _, _, h2 => by cases h2
theorem known_of (X : K.In h) (G : h.Ns mainGlobals mg) (hp : ∀ (i : Nat) (fd : FD), t.p.fns[i]? = some fd → fd.glob = true → ∃ d, t.defs[i]? = some d ∧ d.at_ = (fd.name, none)) (c : factsB t K = true) : Known K mg (nmOf t K) t.p t.gl t.at_ t.blt := by
  unfold factsB at c
  simp only [Bool.and_eq_true, List.all_eq_true] at c
  obtain ⟨⟨⟨⟨⟨c1, c2⟩, c3⟩, c4⟩, c5⟩, c6⟩ := c
  refine ⟨rfl, fun k n hn => ?_, fun b hb => PySem.W.mg_none_of X G (He.eqO_ok (c1 b hb)), fun k v x h1 h2 => ?_, fun i fd hi hg => ?_, fun C cd hc he => ?_, fun C D cd cd' h1 h2 e1 e2 => ?_, fun _ z => z.elim⟩
  · show t.at_.getD k Str.empty = n
    rw [List.getD_eq_getElem?_getD, hn]
    rfl
  · have hm := zip_mem h1 h2
    have q := c3 _ hm
    have hin : (v, gloW K v x) ∈ (nmOf t K).glo := List.mem_map.mpr ⟨(v, x), hm, rfl⟩
    unfold gloB at q
    have flat : (flatV v && (match PySem.W.nsIn K mainGlobals x with
      | some (some u) => He.relB v u
      | _ => false)) = true → ∃ u, mg x = some u ∧ RelV v u := fun q => by
      rw [Bool.and_eq_true] at q
      obtain ⟨_, q⟩ := q
      cases e : PySem.W.nsIn K mainGlobals x with
      | none => rw [e] at q; cases q
      | some o =>
        rw [e] at q
        cases o with
        | none => cases q
        | some u => exact ⟨u, PySem.W.mg_of X G e, He.relB_ok q⟩
    cases v with
    | ref j =>
      cases j with
      | zero => simp [flatV] at q
      | succ j =>
        dsimp only at q
        cases e : t.tups[j]? with
        | none => rw [e] at q; cases q
        | some yv =>
          obtain ⟨y, vs⟩ := yv
          rw [e] at q
          simp only [Bool.and_eq_true, decide_eq_true_eq] at q
          have q2 := q.2
          unfold tupIs at q2
          simp only [Bool.and_eq_true] at q2
          exact ⟨.ref (He.ga K x), .ref (He.ga K x), gloIs_ok X G q2.1.2, rfl, hin⟩
    | non => obtain ⟨u, e1, e2⟩ := flat q; exact ⟨_, u, e1, e2, hin⟩
    | bl _ => obtain ⟨u, e1, e2⟩ := flat q; exact ⟨_, u, e1, e2, hin⟩
    | int _ => obtain ⟨u, e1, e2⟩ := flat q; exact ⟨_, u, e1, e2, hin⟩
    | str _ => obtain ⟨u, e1, e2⟩ := flat q; exact ⟨_, u, e1, e2, hin⟩
    | byt _ => obtain ⟨u, e1, e2⟩ := flat q; exact ⟨_, u, e1, e2, hin⟩
    | flt _ => obtain ⟨u, e1, e2⟩ := flat q; exact ⟨_, u, e1, e2, hin⟩
    | ty _ => obtain ⟨u, e1, e2⟩ := flat q; exact ⟨_, u, e1, e2, hin⟩
  · have q := c2 fd (List.mem_of_getElem? hi)
    rw [hg] at q
    have q := gloIs_ok X G (show gloIs K fd.name = true from q)
    obtain ⟨d, hd, ha⟩ := hp i fd hi hg
    have e : faOf t K i = He.ga K fd.name := by
      unfold faOf
      rw [hd]
      show He.fAd K d.at_ = _
      rw [ha]
      rfl
    show mg fd.name = some (.ref (faOf t K i))
    rw [e]
    exact q
  · have q := c5 cd (List.mem_of_getElem? hc)
    rw [he] at q
    have e : caOf t K C = He.ga K cd.name := by
      unfold caOf
      rw [hc]
    show ExcK K mg t.at_ (caOf t K C) cd.name cd.ei.isNone
    rw [e]
    exact excB_ok X G q
  · have q := c6 C (List.mem_range.mpr (List.getElem?_eq_some_iff.mp h1).1) D (List.mem_range.mpr (List.getElem?_eq_some_iff.mp h2).1)
    have x1 : t.p.isx C = true := by unfold Prog.isx; rw [h1]; exact e1
    have x2 : t.p.isx D = true := by unfold Prog.isx; rw [h2]; exact e2
    unfold pairB at q
    rw [x1, x2] at q
    simp only [Bool.and_self, Bool.not_true, Bool.false_or, Bool.and_eq_true, decide_eq_true_eq] at q
    exact q
/-- the table behind the top -/
theorem top_of (X : K.In h) (G : h.Ns mainGlobals mg) (c : SaysQ t K) (R : ∀ (i : Nat) (fd : FD), t.p.fns[i]? = some fd → ∃ d, t.defs[i]? = some d ∧ RowQ t.p t.gl t.at_ t.blt fd d) : ∃ fdt, Top K mg t.p t.gl t.at_ t.blt (nmOf t K) fdt := by
  have c1 : (factsB t K && t.defs.all fun d => d.ok K) = true := congrArg (fun z : AlQ => z.1) c
  rw [Bool.and_eq_true] at c1
  have c2 : t.defs.map (fun d => He.fnW K d.at_) = t.defs.map He.DefD.val := congrArg (fun z : AlQ => z.2) c
  have fun_ : ∀ (i : Nat) (d : He.DefD), t.defs[i]? = some d → ∃ fd, FunD K d.name d.qual d.params d.body d.scope (d.dvs K) (d.kws K) (He.fAd K d.at_) fd := fun i d hd => by
    have e2 : (t.defs.map fun d => He.fnW K d.at_)[i]? = (t.defs.map He.DefD.val)[i]? := by rw [c2]
    rw [List.getElem?_map, List.getElem?_map, hd] at e2
    exact He.DefD.funD (Option.some.inj e2) (List.all_eq_true.mp c1.2 d (List.mem_of_getElem? hd))
  have ch : ∀ i : Nat, ∃ f : FuncData, ∀ (d : He.DefD), t.defs[i]? = some d → FunD K d.name d.qual d.params d.body d.scope (d.dvs K) (d.kws K) (He.fAd K d.at_) f := fun i => by
    cases q : t.defs[i]? with
    | none => exact ⟨Classical.choice ⟨(default : FuncData)⟩, fun d z => by cases z⟩
    | some d =>
      obtain ⟨f, r⟩ := fun_ i d q
      exact ⟨f, fun d' z => by cases z; exact r⟩
  refine ⟨fun i => Classical.choose (ch i), known_of X G (fun i fd hi hg => let ⟨d, hd, r⟩ := R i fd hi; ⟨d, hd, r.pl hg⟩) c1.1, fun i fd hi => ?_⟩
  obtain ⟨d, hd, r⟩ := R i fd hi
  have F := Classical.choose_spec (ch i) d hd
  refine ⟨d, r, ?_⟩
  have ek : d.kws K = [] := by unfold He.DefD.kws; rw [r.kw]; rfl
  rw [ek] at F
  have ef : (nmOf t K).fa i = He.fAd K d.at_ := by
    show faOf t K i = _
    unfold faOf
    rw [hd]
  rw [ef]
  exact F
end

/-! ### a law: what the walk's end asks -/
/-- the script's own cell, the constants' -/
def scrT (tups : List (Str × List V)) (ns : List Int) : Hh := .frz (.lst (ns.map V.int)) :: tups.map fun q => .tup q.2
theorem ints_rel {am : List Addr} : ∀ ns : List Int, RVs am (ns.map V.int) (ns.map V.int)
  | [] => .nil
  | n :: r => .cons rfl (ints_rel r)
theorem cx_no {P : Program} {w : World} {H : Hp} {s : Shared} {e : Value} {s' : Shared} (h : L2.CX P w [] H s (fun _ _ _ => False) e s') : False := by
  obtain ⟨_, _, _, _, _, _, _, _, _, _, _, _, z⟩ := h
  exact z
theorem law_sp {t : Txt} {K : PySem.W.Frag} (c : factsB t K = true) {G : Cxt} {i : Nat} {ns : List Int} {H : Hp} {a : Addr} (hS : SqL K H a (ns.map V.int)) (h : ∃ h2, G.call i [.ref 0] (scrT t.tups ns) = .ok (.bl true) h2) :
    spQ (nmOf t K) G i 1 [.ref a] H (fun v _ => v = .bl true) fun _ _ _ => False := by
  obtain ⟨h2, e⟩ := h
  unfold factsB at c
  simp only [Bool.and_eq_true, List.all_eq_true] at c
  obtain ⟨⟨⟨⟨⟨_, _⟩, c3⟩, c4⟩, _⟩, _⟩ := c
  have cells : ∀ (j : Nat) (cl : Cell) (b : Addr), (t.tups.map fun q => Cell.tup q.2)[j]? = some cl → (t.tups.map fun q => He.ga K q.1)[j]? = some b → RCK (nmOf t K) (a :: t.tups.map fun q => He.ga K q.1) b cl := fun j cl b h1 h2 => by
    rw [List.getElem?_map] at h1 h2
    cases q : t.tups[j]? with
    | none => rw [q] at h1; cases h1
    | some yv =>
      rw [q] at h1 h2
      cases h1
      cases h2
      have z := c4 yv (List.mem_of_getElem? q)
      refine ⟨yv.2, rvs_flat ?_, fun H => tupIs_ok z H⟩
      unfold tupIs at z
      simp only [Bool.and_eq_true] at z
      exact z.1.1
  refine ⟨a :: t.tups.map fun q => He.ga K q.1, [.ref 0], scrT t.tups ns, .cons ⟨a, rfl, rfl⟩ .nil, ⟨by simp [scrT], fun j cl b hc hb => ?_, fun j k b cl d hj hk h1 h2 ne => ?_, fun p hp => ?_, fun p hp => by cases hp⟩, rfl, ?_⟩
  · cases j with
    | zero =>
      cases hc
      cases hb
      exact ⟨_, ints_rel ns, hS⟩
    | succ j => exact (cells j cl b hc hb).rc
  · cases j with
    | zero =>
      cases k with
      | zero => exact absurd rfl ne
      | succ k => exact .inr (cells k d b h2 hk)
    | succ j => exact .inl (cells j cl b h1 hj)
  · obtain ⟨q, hq, rfl⟩ := List.mem_map.mp hp
    have z := c3 q hq
    unfold gloB at z
    cases e : q.1 with
    | ref j =>
      rw [e] at z
      cases j with
      | zero => simp [flatV] at z
      | succ j =>
        dsimp only at z
        cases e2 : t.tups[j]? with
        | none => rw [e2] at z; cases z
        | some yv =>
          obtain ⟨y, vs⟩ := yv
          rw [e2] at z
          simp only [Bool.and_eq_true, decide_eq_true_eq] at z
          refine ⟨He.ga K y, ?_, by rw [← z.1]; rfl⟩
          show (t.tups.map fun q => He.ga K q.1)[j]? = _
          rw [List.getElem?_map, e2]
          rfl
    | non => exact (rfl : V.non = V.non)
    | bl b => exact (rfl : V.bl b = V.bl b)
    | int b => exact (rfl : V.int b = V.int b)
    | str b => exact (rfl : V.str b = V.str b)
    | byt b => exact (rfl : V.byt b = V.byt b)
    | flt b => exact (rfl : V.flt b = V.flt b)
    | ty b => exact (rfl : V.ty b = V.ty b)
  · rw [e]
    intro am' w H' _ _ r
    exact r
theorem walkQ {l : PySem.W.OpenLaw} {q : Program} {loose : List Str} {XP : (Str → Option Value) → Heap → Prop} {n : Nat} {t : Txt} {d : DefRec} {x : Str} {i D : Nat} {fl : FD}
    (hn : l.most = some 63) (hdf : d.params.defaults = []) (hr : Room (2 * D) callerA)
    (hi : t.p.fns[i]? = some fl) (hx : fl.N.take fl.np = [x]) (h1 : fl.np = 1) (h0 : fl.df = []) (hg : fl.glob = true) (hname : d.name = fl.name)
    (R : ∀ (i : Nat) (fd : FD), t.p.fns[i]? = some fd → ∃ d, t.defs[i]? = some d ∧ RowQ t.p t.gl t.at_ t.blt fd d)
    (law : ∀ ns : List Int, ns.length ≤ 63 → ∃ h2, (cxt t.p D).call i [.ref 0] (scrT t.tups ns) = .ok (.bl true) h2) :
    PySem.W.WalkO q loose XP (fun w h => (hookQ n t).says w h) l.row.toRowW d [] (fun f vs => PySem.call f vs) := by
  refine Att.attach_call hn hdf fun w s₀ s₁ mg mb fa o pm cd doc a vs ns G Y ho hd hcd hmg hobj hints hlen hlk => ?_
  obtain ⟨K, KX, c⟩ := Y
  obtain ⟨fdt, T⟩ := top_of KX G.T.g c R
  obtain ⟨dd, RR, F⟩ := T.rows i fl hi
  have c1 : (factsB t K && t.defs.all fun d => d.ok K) = true := congrArg (fun z : AlQ => z.1) c
  rw [Bool.and_eq_true] at c1
  have ef : fa = (nmOf t K).fa i := by
    have q := T.kn.fn i fl hi hg
    rw [← hname] at q
    have q2 := hmg.symm.trans q
    cases q2
    rfl
  subst ef
  have e3 : dd.dvs K = [] := by
    rcases RR.df with ⟨e1, _⟩ | ⟨e1, _⟩
    · unfold He.DefD.dvs; rw [e1]; rfl
    · exact absurd h0 e1
  rw [e3] at F
  have b := FunD.bindsA (ps := fl.N.take fl.np) F (RR.b0 h0)
  rw [hx] at b
  refine L2.law_call (x := x) (fd := fdt i) (sp := spQ (nmOf t K) (cxt t.p D) i 1) (CX := L2.CX l.prog w) (k := 2 * D) KX G.T.g G.T.b G.T.builtins G.T.nolimit hlk hobj hints (Nat.le_trans hlen (by rw [sizeLine_eq]; decide)) hr (fun base KB NB => ?_) (fun s u => b s [u] rfl) (fun H hO hS => law_sp c1.1 hS (law ns hlen)) fun H e s' => cx_no
  have z := fns_ok (P := l.prog) (w := w) (base := base) D i fl T hi
  rw [hx, h1] at z
  exact z
end QM

/-! QM8: reckoning with the machine -/
namespace QM
open PySem L2
theorem call_eq {p : Prog} {d i : Nat} {fd : FD} (e : p.fns[i]? = some fd) (vs : List V) (h : Hh) : (cxt p (d + 1)).call i vs h = runF (cxt p d) p.ei fd vs h := by
  show (match p.fns[i]? with | some fd => runF (cxt p d) p.ei fd vs h | none => .bad) = _
  rw [e]
theorem atI_map (ns : List Int) (k : Nat) (h : k < ns.length) : atI (ns.map V.int) (k : Int) = some (.int (ns.getD k 0)) := by
  have e : (ns.map V.int)[k]? = some (.int (ns.getD k 0)) := by
    rw [List.getElem?_map, List.getElem?_eq_getElem h, List.getD_eq_getElem?_getD, List.getElem?_eq_getElem h]
    rfl
  exact atI_nat e
theorem ten_big : 10 ^ 1000 < big := by
  unfold big
  decide +kernel
theorem lt_big {n : Nat} (h : n ≤ 10 ^ 1000) : n < big := Nat.lt_of_le_of_lt h ten_big
theorem int_big {i : Int} (m : Int) (h1 : -m ≤ i) (h2 : i ≤ m) (hm : m ≤ 10 ^ 200) : i.natAbs < big := by
  have e : i.natAbs ≤ m.natAbs := by omega
  refine Nat.lt_of_le_of_lt e (lt_big ?_)
  have h3 : (m.natAbs : Int) ≤ 10 ^ 200 := by
    by_cases h0 : 0 ≤ m
    · omega
    · have : (0 : Int) ≤ 10 ^ 200 := by decide +kernel
      omega
  have h4 : m.natAbs ≤ 10 ^ 200 := by
    have : ((10 ^ 200 : Nat) : Int) = 10 ^ 200 := by decide +kernel
    omega
  exact Nat.le_trans h4 (by decide +kernel)
theorem log_lt {i : Int} (m : Int) (h1 : -m ≤ i) (h2 : i ≤ m) (hm : m ≤ 10 ^ 1000) : i.natAbs.log2 < 9000 := by
  refine log2_le _ _ ?_ (by decide)
  have e : i.natAbs ≤ m.natAbs := by omega
  refine Nat.lt_of_le_of_lt e ?_
  have h4 : m.natAbs ≤ 10 ^ 1000 := by
    have h5 : ((10 ^ 1000 : Nat) : Int) = 10 ^ 1000 := by decide +kernel
    have h6 : (0 : Int) ≤ 10 ^ 1000 := by decide +kernel
    omega
  exact Nat.lt_of_le_of_lt h4 (by decide +kernel)
/-- a positive divisor: % and // are the usual ones -/
theorem fmod_pos {i j : Int} (h : 0 < j) : i.fmod j = i % j := Int.fmod_eq_emod_of_nonneg i (by omega)
theorem fdiv_pos {i j : Int} (h : 0 < j) : i.fdiv j = i / j := Int.fdiv_eq_ediv_of_nonneg i (by omega)
theorem bMod_pos {i j : Int} {h : Hh} (hj : 0 < j) : bMod h (.int i) (.int j) = .ok (.int (i % j)) h := by
  unfold bMod
  dsimp only
  rw [if_pos (by omega), fmod_pos hj]
theorem bDiv_pos {i j : Int} {h : Hh} (hj : 0 < j) (hm : j ≤ 10 ^ 200) : bDiv h (.int i) (.int j) = .ok (.int (i / j)) h := by
  unfold bDiv
  dsimp only
  rw [if_pos ⟨by omega, log_lt j (by omega) (by omega) (Int.le_trans hm (by decide +kernel))⟩, fdiv_pos hj]
theorem bMul_ok {i j : Int} {h : Hh} (h1 : i.natAbs < big) (h2 : j.natAbs < big) : bMul h (.int i) (.int j) = .ok (.int (i * j)) h := by
  unfold bMul
  dsimp only
  rw [if_pos ⟨h1, h2⟩]
theorem bPow_ok {i j : Int} {h : Hh} (h0 : 0 ≤ j) (h1 : j ≤ 1000000) (h2 : i.natAbs < 2 ^ 64) : bPow h (.int i) (.int j) = .ok (.int (i ^ j.toNat)) h := by
  unfold bPow
  dsimp only
  rw [if_pos ⟨h0, h1, h2⟩]
theorem seqAt_frz {h : Hh} {i : Nat} {xs : List V} (e : h[i]? = some (.frz (.lst xs))) : seqAt h (.ref i) = some xs := by simp [seqAt, lstAt, e]
theorem seqAt_lst {h : Hh} {i : Nat} {xs : List V} (e : h[i]? = some (.lst xs)) : seqAt h (.ref i) = some xs := by simp [seqAt, lstAt, e]
theorem seqAt_tup {h : Hh} {i : Nat} {xs : List V} (e : h[i]? = some (.tup xs)) : seqAt h (.ref i) = some xs := by simp [seqAt, lstAt, tupAt, e]
@[simp] theorem new_get (h : Hh) (c : Cell) : (h ++ [c])[h.length]? = some c := by simp
theorem old_get {h : Hh} {i : Nat} {c : Cell} (h2 : Hh) (e : h[i]? = some c) : (h ++ h2)[i]? = some c := by
  obtain ⟨hi, _⟩ := List.getElem?_eq_some_iff.mp e
  rw [List.getElem?_append_left hi]
  exact e

/-! ### the machine's steps, each at its full arguments -/
section
variable {G : Cxt} {ei : Nat → Option EInit} {σ : Sl} {h : Hh}
@[simp] theorem x_c {v : V} : evE G (.c v) σ h = .ok v h := rfl
@[simp] theorem x_v {i : Nat} : evE G (.v i) σ h = (match σ[i]? with | some (some v) => .ok v h | _ => .bad) := rfl
@[simp] theorem x_g {k : Nat} : evE G (.g k) σ h = (match G.glo k with | some v => .ok v h | none => .bad) := rfl
@[simp] theorem x_bin {o : Bop} {a b : E} : evE G (.bin o a b) σ h = (evE G a σ h).bind fun x h => (evE G b σ h).bind fun y h => bop o x y h := rfl
@[simp] theorem x_neg {a : E} : evE G (.neg a) σ h = (evE G a σ h).bind fun x h => match x with | .int i => .ok (.int (-i)) h | _ => .bad := rfl
@[simp] theorem x_not {a : E} : evE G (.not a) σ h = (evE G a σ h).bind fun x h => (tru x h).bind fun b h => .ok (.bl (!b)) h := rfl
@[simp] theorem x_and {a b : E} : evE G (.and a b) σ h = (evE G a σ h).bind fun x h => match x with | .bl true => evE G b σ h | .bl false => .ok (.bl false) h | _ => .bad := rfl
@[simp] theorem x_or {a b : E} : evE G (.or a b) σ h = (evE G a σ h).bind fun x h => match x with | .bl true => .ok (.bl true) h | .bl false => evE G b σ h | _ => .bad := rfl
@[simp] theorem x_chain {o o' : Bop} {a b c : E} : evE G (.chain o o' a b c) σ h = (evE G a σ h).bind fun x h => (evE G b σ h).bind fun y h => (bop o x y h).bind fun z h => match z with
    | .bl true => (evE G c σ h).bind fun w h => bop o' y w h
    | .bl false => .ok (.bl false) h
    | _ => .bad := rfl
@[simp] theorem x_ix {a b : E} : evE G (.ix a b) σ h = (evE G a σ h).bind fun x h => (evE G b σ h).bind fun y h => ixs x y h := rfl
@[simp] theorem x_slice {a : E} {lo hi : Option E} : evE G (.slice a lo hi) σ h = (evE G a σ h).bind fun x h => (evO G lo σ h).bind fun l h => match optInt l with
    | some l => (evO G hi σ h).bind fun u h => match optInt u with
      | some u => sliced x l u h
      | none => .bad
    | none => .bad := rfl
@[simp] theorem x_bi {f : Bi} {es : List E} : evE G (.bi f es) σ h = (evEs G es σ h).bind fun vs h => bi f vs h := rfl
@[simp] theorem x_isTy {t : Ty} {a : E} : evE G (.isTy t a) σ h = (evE G a σ h).bind fun x h => isTy t x h := rfl
@[simp] theorem x_lst {es : List E} : evE G (.lst es) σ h = (evEs G es σ h).bind fun vs h => if vs.length ≤ LINE then .ok (.ref h.length) (h ++ [.lst vs]) else .bad := rfl
@[simp] theorem x_tup {es : List E} : evE G (.tup es) σ h = (evEs G es σ h).bind fun vs h => if vs.length ≤ LINE then .ok (.ref h.length) (h ++ [.tup vs]) else .bad := rfl
@[simp] theorem x_dct {es : List E} : evE G (.dct es) σ h = (evEs G es σ (h ++ [.dct []])).bind fun vs g => match g[h.length]?, pairsOf vs with
    | some (.dct []), some kvs => if kvs.length ≤ 15 then .ok (.ref h.length) (g.set h.length (.dct (mergeK [] kvs))) else .bad
    | _, _ => .bad := rfl
@[simp] theorem x_call {f : Nat} {es : List E} : evE G (.call f es) σ h = (evEs G es σ h).bind fun vs h => G.call f (G.fill f vs) h := rfl
@[simp] theorem x_bm {m : Bm} {o : E} {es : List E} : evE G (.bm m o es) σ h = (evE G o σ h).bind fun x h => if kd h x = some m.kd then (evEs G es σ h).bind fun vs h => bm m x vs h else .bad := rfl
@[simp] theorem x_exIs {i C : Nat} : evE G (.exIs i C) σ h = (match G.cur with
    | some (D, none, j) => if σ[i]? = some (some (.ref j)) then .ok (.bl (G.sub D C)) h else .bad
    | _ => .bad) := rfl
@[simp] theorem x_exTy {i : Nat} : evE G (.exTy i) σ h = (match G.cur with
    | some (_, none, j) => if σ[i]? = some (some (.ref j)) then .ok (.bl true) h else .bad
    | _ => .bad) := rfl
@[simp] theorem x_nil : evEs G [] σ h = .ok [] h := rfl
@[simp] theorem x_cons {e : E} {r : List E} : evEs G (e :: r) σ h = (evE G e σ h).bind fun v h => (evEs G r σ h).bind fun vs h => .ok (v :: vs) h := rfl
@[simp] theorem x_O0 : evO G none σ h = .ok none h := rfl
@[simp] theorem x_O1 {e : E} : evO G (some e) σ h = (evE G e σ h).bind fun v h => .ok (some v) h := rfl
@[simp] theorem x_T {e : E} : evT G e σ h = (evE G e σ h).bind tru := rfl
@[simp] theorem y_set {i : Nat} {e : E} : evS G ei (.set i e) σ h = (evE G e σ h).out σ fun v h => .nx (σ.set i (some v)) h := rfl
@[simp] theorem y_par {i j : Nat} {a b : E} : evS G ei (.par i j a b) σ h = (evE G a σ h).out σ fun x h => (evE G b σ h).out σ fun y h => .nx ((σ.set i (some x)).set j (some y)) h := rfl
@[simp] theorem y_tup {is : List Nat} {e : E} : evS G ei (.tup is e) σ h = (evE G e σ h).out σ fun v h => match tupAt h v with
    | some xs => match sets is xs σ with
      | some σ' => .nx σ' h
      | none => .bad
    | none => .bad := rfl
@[simp] theorem y_setIx {o i e : E} : evS G ei (.setIx o i e) σ h = (evE G e σ h).out σ fun v h => (evE G o σ h).out σ fun x h => (evE G i σ h).out σ fun y h => (putIx x y v h).out σ fun _ h => .nx σ h := rfl
@[simp] theorem y_ret {e : E} : evS G ei (.ret e) σ h = (evE G e σ h).out σ fun v h => .ret v h := rfl
@[simp] theorem y_ite {c : E} {a b : List S} : evS G ei (.ite c a b) σ h = (evT G c σ h).out σ fun t h => if t = true then evSs G ei a σ h else evSs G ei b σ h := rfl
@[simp] theorem y_whl {c : E} {b : List S} : evS G ei (.whl c b) σ h = whileN (evT G c) (evSs G ei b) FUEL σ h := rfl
@[simp] theorem y_for {t : Tg} {k : Sk} {es : List E} {b : List S} : evS G ei (.for_ t k es b) σ h = (evEs G es σ h).out σ fun vs h => match walk k vs h with
    | some (w, h) => if !w.dicts.isEmpty && !es.all isPath then .bad else (forL w.okb t (evSs G ei b) w.items σ h).free w
    | none => .bad := rfl
@[simp] theorem y_expr {e : E} : evS G ei (.expr e) σ h = (evE G e σ h).out σ fun _ h => .nx σ h := rfl
@[simp] theorem y_pass : evS G ei .pass σ h = .nx σ h := rfl
@[simp] theorem y_cont : evS G ei .cont σ h = .ct σ h := rfl
@[simp] theorem y_brk : evS G ei .brk σ h = .brk σ h := rfl
@[simp] theorem y_raise {C : Nat} {es : List E} : evS G ei (.raise C es) σ h = (match ei C with
    | none => .exc C none σ h
    | some fs => (evEs G es σ h).out σ fun vs h => match einit fs vs h with
      | some (xs, h) => .exc C (some h.length) σ (h ++ [.xd xs])
      | none => .bad) := rfl
@[simp] theorem y_try {b : List S} {hs : List Hd} : evS G ei (.try_ b hs) σ h = (match evSs G ei b σ h with
    | .exc c d σ' h' => evHs G ei c d hs σ' h'
    | o => o) := rfl
@[simp] theorem y_nil : evSs G ei [] σ h = .nx σ h := rfl
@[simp] theorem y_cons {s : S} {r : List S} : evSs G ei (s :: r) σ h = (evS G ei s σ h).seq fun σ h => evSs G ei r σ h := rfl
@[simp] theorem h_nil {c : Nat} {d : Option Nat} : evHs G ei c d [] σ h = .exc c d σ h := rfl
@[simp] theorem h_cons {c : Nat} {d : Option Nat} {hd : Hd} {r : List Hd} : evHs G ei c d (hd :: r) σ h = evH G ei c d hd σ h (evHs G ei c d r σ h) := rfl
@[simp] theorem h_one {c C : Nat} {d : Option Nat} {b : List S} {o : Out} : evH G ei c d (.mk C none b) σ h o = if (G.isx c && G.isx C) = false then .bad else if G.sub c C = true then
      (match evSs G ei b σ h with
      | .exc _ _ _ _ => .bad
      | o => o) else o := rfl
@[simp] theorem h_as {c C i : Nat} {d : Option Nat} {b : List S} {o : Out} : evH G ei c d (.mk C (some i) b) σ h o = if (G.isx c && G.isx C) = false then .bad else if G.sub c C = true then
      (match evSs { G with cur := some (c, d, h.length) } ei b (σ.set i (some (.ref h.length))) (h ++ [.opq]) with
      | .nx σ h => .nx (σ.set i none) h
      | .brk σ h => .brk (σ.set i none) h
      | .ct σ h => .ct (σ.set i none) h
      | .exc _ _ _ _ => .bad
      | o => o) else o := rfl
theorem w_step {c : Sl → Hh → Res Bool} {b : Sl → Hh → Out} {n : Nat} : whileN c b (n + 1) σ h = (c σ h).out σ fun t h => if t = true then (match b σ h with
      | .nx σ' h' => whileN c b n σ' h'
      | .ct σ' h' => whileN c b n σ' h'
      | .brk σ' h' => .nx σ' h'
      | r => r) else .nx σ h := rfl
end
section
variable (h : Hh) (v w : V) (i j : Int) (b : Bool)
@[simp] theorem b_len : QM.bi .len [v] h = bLen v h := rfl
@[simp] theorem b_abs : QM.bi .abs [.int i] h = .ok (.int (if i < 0 then -i else i)) h := rfl
@[simp] theorem b_max2 : QM.bi .max [.int i, .int j] h = .ok (.int (if j > i then j else i)) h := rfl
@[simp] theorem b_min2 : QM.bi .min [.int i, .int j] h = .ok (.int (if j < i then j else i)) h := rfl
@[simp] theorem b_max1 (k : Nat) : QM.bi .max [.ref k] h = bMaxL (.ref k) h := rfl
@[simp] theorem b_min1 (k : Nat) : QM.bi .min [.ref k] h = bMinL (.ref k) h := rfl
@[simp] theorem b_int1 : QM.bi .int [.int i] h = .ok (.int i) h := rfl
@[simp] theorem b_int2 : QM.bi .int [.bl b] h = .ok (.int (if b then 1 else 0)) h := rfl
@[simp] theorem b_str : QM.bi .str [v] h = bStr v h := rfl
@[simp] theorem b_divmod : QM.bi .divmod [v, w] h = bDivmod v w h := rfl
@[simp] theorem b_list : QM.bi .list [v] h = bList v h := rfl
@[simp] theorem b_tuple : QM.bi .tuple [v] h = bTuple v h := rfl
@[simp] theorem b_sum : QM.bi .sum [v] h = bSum v h := rfl
@[simp] theorem b_any : QM.bi .any [v] h = bAny v h := rfl
@[simp] theorem b_sorted : QM.bi .sorted [v] h = bSorted v h := rfl
@[simp] theorem b_dict : QM.bi .dict [v] h = bDict v h := rfl
end
@[simp] theorem okb_mk (it : List Item) (l u : List (V × List V)) (d : List (Nat × List (Key × V))) (k : Option (Nat × List (Key × V))) : Walk.okb ⟨it, l, u, d, k⟩ = okW l u d := rfl
@[simp] theorem free_mk (it : List Item) (l u : List (V × List V)) (d : List (Nat × List (Key × V))) (h : Hh) : Walk.free ⟨it, l, u, d, none⟩ h = some h := rfl
@[simp] theorem free_nx (w : Walk) (σ : Sl) (h : Hh) : (Out.nx σ h).free w = (match w.free h with | some h => .nx σ h | none => .bad) := rfl
@[simp] theorem free_ret (w : Walk) (v : V) (h : Hh) : (Out.ret v h).free w = (match w.free h with | some h => .ret v h | none => .bad) := rfl
@[simp] theorem free_exc (w : Walk) (c : Nat) (d : Option Nat) (σ : Sl) (h : Hh) : (Out.exc c d σ h).free w = (match w.free h with | some h => .exc c d σ h | none => .bad) := rfl
theorem lstAt_lst {h : Hh} {i : Nat} {xs : List V} (e : h[i]? = some (.lst xs)) : lstAt h (.ref i) = some xs := by simp [lstAt, e]
theorem tupAt_tup {h : Hh} {i : Nat} {xs : List V} (e : h[i]? = some (.tup xs)) : tupAt h (.ref i) = some xs := by simp [tupAt, e]
theorem okW_lst {h : Hh} {i : Nat} {xs : List V} (e : h[i]? = some (.lst xs)) : okW [(.ref i, xs)] [] [] h = true := by simp [okW, lstAt_lst e]
theorem okW_tup {h : Hh} {i : Nat} {xs : List V} (e : h[i]? = some (.tup xs)) : okW [] [(.ref i, xs)] [] h = true := by simp [okW, tupAt_tup e]
@[simp] theorem okW_no (h : Hh) : okW [] [] [] h = true := rfl
theorem walk_lst {h : Hh} {i : Nat} {xs : List V} (e : h[i]? = some (.lst xs)) : walk .it [.ref i] h = some (⟨xs.map .val, [(.ref i, xs)], [], [], none⟩, h) := by simp [walk, itW, lstAt_lst e]
theorem walk_tup {h : Hh} {i : Nat} {xs : List V} (e : h[i]? = some (.tup xs)) : walk .it [.ref i] h = some (⟨xs.map .val, [], [(.ref i, xs)], [], none⟩, h) := by simp [walk, itW, lstAt, tupAt, e]
@[simp] theorem walk_str (x : Str) (h : Hh) : walk .it [.str x] h = some (⟨x.cps.toList.map fun c => .val (.str ⟨#[c]⟩), [], [], [], none⟩, h) := rfl
theorem walk_rng1 {j : Int} {h : Hh} (h1 : -R62 ≤ j) (h2 : j < R62) : walk .rng [.int j] h = some (⟨rngI 0 j.toNat, [], [], [], none⟩, h) := by simp [walk, rngW, h1, h2]
theorem walk_rng2 {i j : Int} {h : Hh} (h1 : -R62 ≤ i) (h2 : i < R62) (h3 : -R62 ≤ j) (h4 : j < R62) : walk .rng [.int i, .int j] h = some (⟨rngI i (j - i).toNat, [], [], [], none⟩, h) := by simp [walk, rngW, h1, h2, h3, h4]
@[simp] theorem lay_val (v : V) (h : Hh) : (Item.val v).lay h = (v, h) := rfl
@[simp] theorem lay_tp (vs : List V) (h : Hh) : (Item.tup vs).lay h = (.ref h.length, h ++ [.tup vs]) := rfl
@[simp] theorem put_one (i : Nat) (v : V) (σ : Sl) (h : Hh) : (Tg.one i).put v σ h = some (σ.set i (some v)) := rfl
@[simp] theorem put_many (is : List Nat) (v : V) (σ : Sl) (h : Hh) : (Tg.many is).put v σ h = (match tupAt h v with | some xs => sets is xs σ | none => none) := rfl
@[simp] theorem for_nil (ok : Hh → Bool) (t : Tg) (b : Sl → Hh → Out) (σ : Sl) (h : Hh) : forL ok t b [] σ h = if ok h = true then .nx σ h else .bad := rfl
theorem for_cons (ok : Hh → Bool) (t : Tg) (b : Sl → Hh → Out) (x : Item) (r : List Item) (σ : Sl) (h : Hh) : forL ok t b (x :: r) σ h = if ok h = true then
      match t.put (x.lay h).1 σ (x.lay h).2 with
      | some σ' => match b σ' (x.lay h).2 with
        | .nx σ2 h2 => forL ok t b r σ2 h2
        | .ct σ2 h2 => forL ok t b r σ2 h2
        | .brk σ2 h2 => .nx σ2 h2
        | o => o
      | none => .bad
    else .bad := rfl
@[simp] theorem g_fill (p : Prog) (d : Nat) : (cxt p d).fill = p.fill := cxt_fill d
@[simp] theorem g_glo (p : Prog) (d : Nat) : (cxt p d).glo = fun k => p.glo[k]? := cxt_glo d
@[simp] theorem g_sub (p : Prog) (d : Nat) : (cxt p d).sub = p.sub := cxt_sub d
@[simp] theorem g_isx (p : Prog) (d : Nat) : (cxt p d).isx = p.isx := cxt_isx d
/-- a table without defaults -/
theorem fill_no {p : Prog} (h : p.fns.all (fun fd => fd.df.isEmpty) = true) (f : Nat) (vs : List V) : p.fill f vs = vs := by
  unfold Prog.fill
  cases q : p.fns[f]? with
  | none => rfl
  | some fd =>
    have e := List.all_eq_true.mp h fd (List.mem_of_getElem? q)
    rw [List.isEmpty_iff] at e
    show vs ++ fd.df.drop _ = vs
    rw [e]
    simp

/-! ### a def's run, statement by statement: the rest is kept closed -/
@[simp] theorem x_bop (o : Bop) (x y : V) (h : Hh) : bop o x y h = (match o with
  | .add => bAdd h x y | .sub => bSub h x y | .mul => bMul h x y | .fdiv => bDiv h x y | .mod => bMod h x y | .pow => bPow h x y
  | .eq => bEq false h x y | .ne => bEq true h x y | .lt => bLt h x y | .le => bLe h x y | .gt => bGt h x y | .ge => bGe h x y
  | .is => bIs false h x y | .isNot => bIs true h x y | .isin => bIn false h x y | .notin => bIn true h x y) := rfl
@[simp] theorem x_add_i (h : Hh) (i j : Int) : bAdd h (.int i) (.int j) = .ok (.int (i + j)) h := rfl
@[simp] theorem x_sub_i (h : Hh) (i j : Int) : bSub h (.int i) (.int j) = .ok (.int (i - j)) h := rfl
@[simp] theorem x_lt_i (h : Hh) (i j : Int) : bLt h (.int i) (.int j) = .ok (.bl (decide (i < j))) h := rfl
@[simp] theorem x_le_i (h : Hh) (i j : Int) : bLe h (.int i) (.int j) = .ok (.bl (decide (i ≤ j))) h := rfl
@[simp] theorem x_gt_i (h : Hh) (i j : Int) : bGt h (.int i) (.int j) = .ok (.bl (decide (j < i))) h := rfl
@[simp] theorem x_ge_i (h : Hh) (i j : Int) : bGe h (.int i) (.int j) = .ok (.bl (decide (j ≤ i))) h := rfl
@[simp] theorem x_eq_i (b : Bool) (h : Hh) (i j : Int) : bEq b h (.int i) (.int j) = .ok (.bl (if b then !decide (i = j) else decide (i = j))) h := by
  unfold bEq
  simp [scal]
@[simp] theorem x_eq_s (b : Bool) (h : Hh) (i j : Str) : bEq b h (.str i) (.str j) = .ok (.bl (if b then !decide (i = j) else decide (i = j))) h := by
  unfold bEq
  simp [scal]
@[simp] theorem x_eq_b (b : Bool) (h : Hh) (i j : Bool) : bEq b h (.bl i) (.bl j) = .ok (.bl (if b then !decide (i = j) else decide (i = j))) h := by
  unfold bEq
  simp [scal]
@[simp] theorem x_is_n (b : Bool) (h : Hh) (x : V) : bIs b h x .non = .ok (.bl (if b then !decide (x = .non) else decide (x = .non))) h := by
  unfold bIs
  cases x <;> rfl
@[simp] theorem x_is_b (b : Bool) (h : Hh) (x y : Bool) : bIs b h (.bl x) (.bl y) = .ok (.bl (if b then !decide (x = y) else decide (x = y))) h := rfl
@[simp] theorem x_tru_b (h : Hh) (b : Bool) : tru (.bl b) h = .ok b h := rfl
@[simp] theorem x_tru_i (h : Hh) (i : Int) : tru (.int i) h = .ok (i != 0) h := rfl
@[simp] theorem x_tru_n (h : Hh) : tru .non h = .ok false h := rfl
@[simp] theorem x_line2 : (2 ≤ LINE) = True := by simp [LINE]
@[simp] theorem x_line3 : (3 ≤ LINE) = True := by simp [LINE]
@[simp] theorem x_line1 : (1 ≤ LINE) = True := by simp [LINE]
@[simp] theorem x_line0 : (0 ≤ LINE) = True := by simp
theorem line_small {n : Nat} (h : n ≤ 16777216) : n ≤ LINE := h

structure At (P : Out → Prop) (o : Out) : Prop where
  out : P o
def Gd {α : Type} (r : Res α) (Q : α → Hh → Prop) : Prop := match r with
  | .ok a h => Q a h
  | _ => False
def Ret (Q : V → Hh → Prop) : Out → Prop
  | .ret v h => Q v h
  | .nx _ h => Q .non h
  | _ => False
theorem Gd.ex {α : Type} {r : Res α} {Q : α → Hh → Prop} (h : Gd r Q) : ∃ a g, r = .ok a g ∧ Q a g := by
  cases r with
  | ok a g => exact ⟨a, g, rfl, h⟩
  | exc _ _ _ => exact h.elim
  | bad => exact h.elim
theorem Gd.call {p : Prog} {d i : Nat} {fd : FD} {vs : List V} {h : Hh} {Q : V → Hh → Prop} (e : p.fns[i]? = some fd) (hl : vs.length = fd.np) (k : At (Ret Q) (evSs (cxt p d) p.ei fd.body (startQ fd.N.length vs) h)) : Gd ((cxt p (d + 1)).call i vs h) Q := by
  rw [call_eq e]
  unfold runF
  rw [if_pos hl]
  have k := k.out
  revert k
  cases evSs (cxt p d) p.ei fd.body (startQ fd.N.length vs) h <;> exact fun k => k
theorem st {G : Cxt} {ei : Nat → Option EInit} {P : Out → Prop} {s : S} {r : List S} {σ : Sl} {h : Hh} (k : ∀ K : Sl → Hh → Out, K = evSs G ei r → At P ((evS G ei s σ h).seq K)) : At P (evSs G ei (s :: r) σ h) := k _ rfl
@[simp] theorem at_ret {Q : V → Hh → Prop} {v : V} {h : Hh} : At (Ret Q) (.ret v h) = Q v h := propext ⟨fun k => k.out, fun k => ⟨k⟩⟩
@[simp] theorem at_nx {Q : V → Hh → Prop} {σ : Sl} {h : Hh} : At (Ret Q) (.nx σ h) = Q .non h := propext ⟨fun k => k.out, fun k => ⟨k⟩⟩
end QM

namespace Q
open PySem L2 QM
abbrev i_divisor : Nat := 0
abbrev i_fraction : Nat := 1
abbrev i_parted : Nat := 2
abbrev i_show_share : Nat := 3
abbrev i_show_measure : Nat := 4
abbrev i_law_cell : Nat := 5
abbrev i_law_common : Nat := 6
abbrev i_law_shown : Nat := 7
abbrev i_law_grain : Nat := 8
abbrev i_law : Nat := 9
abbrev c_TreeError : Nat := 0
abbrev c_NoAmount : Nat := 1
def f_divisor : FD := { name := "divisor", np := 2, N := ["one", "other", "rest"], body := [.set 0 (.bi .abs [.v 0]),
    .set 1 (.bi .abs [.v 1]),
    .whl (.bin .gt (.v 1) (.c (.int 0))) [.set 2 (.bin .mod (.v 0) (.v 1)),
    .set 0 (.v 1),
    .set 1 (.v 2)],
    .ret (.v 0)] }
def f_fraction : FD := { name := "fraction", np := 2, N := ["top", "bottom", "share"], body := [.ite (.bin .eq (.v 1) (.c (.int 0))) [.raise 1 []] [],
    .set 2 (.call i_divisor [.v 0, .v 1]),
    .ite (.bin .lt (.v 1) (.c (.int 0))) [.set 2 (.bin .sub (.c (.int 0)) (.v 2))] [],
    .ret (.tup [.bin .fdiv (.v 0) (.v 2), .bin .fdiv (.v 1) (.v 2)])] }
def f_parted : FD := { name := "parted", np := 1, N := ["one", "whole", "rest"], body := [.tup [1, 2] (.bi .divmod [.ix (.v 0) (.c (.int 0)), .ix (.v 0) (.c (.int 1))]),
    .ret (.tup [.v 1, .call i_fraction [.v 2, .ix (.v 0) (.c (.int 1))]])] }
def f_show_share : FD := { name := "show_share", np := 2, N := ["share", "grain", "whole", "rest", "broken"], body := [.tup [2, 3] (.call i_parted [.call i_fraction [.ix (.v 0) (.c (.int 0)), .bin .mul (.ix (.v 0) (.c (.int 1))) (.v 1)]]),
    .ite (.bin .eq (.ix (.v 3) (.c (.int 0))) (.c (.int 0))) [.ret (.bi .str [.v 2])] [],
    .set 4 (.bin .add (.bin .add (.bi .str [.ix (.v 3) (.c (.int 0))]) (.c (.str "/"))) (.bi .str [.ix (.v 3) (.c (.int 1))])),
    .ite (.bin .eq (.v 2) (.c (.int 0))) [.ret (.v 4)] [],
    .ret (.bin .add (.bin .add (.bi .str [.v 2]) (.c (.str "+"))) (.v 4))] }
def f_show_measure : FD := { name := "show_measure", np := 2, N := ["pieces", "grain"], body := [.ret (.call i_show_share [.tup [.v 0, .c (.int 1)], .v 1])] }
def f_law_cell : FD := { name := "_law_cell", np := 2, N := ["_law_script", "_law_k"], body := [.ite (.bin .lt (.v 1) (.bi .len [.v 0])) [.ret (.ix (.v 0) (.v 1))] [],
    .ite (.bin .eq (.v 0) (.lst [])) [.ret (.bin .mul (.c (.int 7919)) (.v 1))] [],
    .ret (.bin .add (.bin .fdiv (.ix (.v 0) (.bin .mod (.v 1) (.bi .len [.v 0]))) (.bin .add (.v 1) (.c (.int 1)))) (.bin .mul (.c (.int 7919)) (.v 1)))] }
def f_law_common : FD := { name := "_law_common", np := 2, N := ["_law_one", "_law_other"], body := [.whl (.bin .gt (.v 1) (.c (.int 0))) [.par 0 1 (.v 1) (.bin .mod (.v 0) (.v 1))],
    .ret (.v 0)] }
def f_law_shown : FD := { name := "_law_shown", np := 2, N := ["_law_top", "_law_bottom", "_law_whole", "_law_rest", "_law_by", "_law_tail"], body := [.set 2 (.bin .fdiv (.v 0) (.v 1)),
    .set 3 (.bin .mod (.v 0) (.v 1)),
    .ite (.bin .eq (.v 3) (.c (.int 0))) [.ret (.bi .str [.v 2])] [],
    .set 4 (.call i_law_common [.v 1, .v 3]),
    .set 5 (.bin .add (.bin .add (.bi .str [.bin .fdiv (.v 3) (.v 4)]) (.c (.str "/"))) (.bi .str [.bin .fdiv (.v 1) (.v 4)])),
    .ite (.bin .eq (.v 2) (.c (.int 0))) [.ret (.v 5)] [],
    .ret (.bin .add (.bin .add (.bi .str [.v 2]) (.c (.str "+"))) (.v 5))] }
def f_law_grain : FD := { name := "_law_grain", np := 1, N := ["_law_cell_here"], body := [.ret (.ix (.lst [.c (.int 1), .c (.int 2), .c (.int 12), .c (.int 1000), .c (.int 60), .bin .add (.c (.int 1)) (.bin .mod (.bin .fdiv (.v 0) (.c (.int 8))) (.c (.int 1000))), .bin .add (.c (.int 1)) (.bin .mod (.bin .fdiv (.v 0) (.c (.int 8))) (.c (.int 12))), .bin .add (.c (.int 1)) (.bin .mod (.bin .fdiv (.v 0) (.c (.int 8))) (.c (.int 1000)))]) (.bin .mod (.v 0) (.c (.int 8))))] }
def f_law : FD := { name := "law", np := 1, N := ["_law_script", "_law_grain_here", "_law_way", "_law_top", "_law_bottom", "_law_by", "_law_found", "_law_told"], body := [.set 1 (.call i_law_grain [.call i_law_cell [.v 0, .c (.int 0)]]),
    .set 2 (.call i_law_cell [.v 0, .c (.int 1)]),
    .set 3 (.bin .mod (.call i_law_cell [.v 0, .c (.int 2)]) (.ix (.lst [.c (.int 61), .bin .pow (.c (.int 10)) (.c (.int 40))]) (.bin .mod (.v 2) (.c (.int 2))))),
    .set 4 (.bin .add (.c (.int 1)) (.bin .mod (.call i_law_cell [.v 0, .c (.int 3)]) (.ix (.lst [.c (.int 12), .bin .pow (.c (.int 10)) (.c (.int 20))]) (.bin .mod (.bin .fdiv (.v 2) (.c (.int 2))) (.c (.int 2)))))),
    .set 5 (.call i_law_common [.v 4, .v 3]),
    .set 6 (.call i_show_share [.tup [.bin .fdiv (.v 3) (.v 5), .bin .fdiv (.v 4) (.v 5)], .v 1]),
    .ite (.or (.not (.isTy .str (.v 6))) (.bin .ne (.v 6) (.call i_law_shown [.v 3, .bin .mul (.v 4) (.v 1)]))) [.ret (.c (.bl false))] [],
    .set 7 (.call i_show_measure [.v 3, .v 1]),
    .ret (.and (.isTy .str (.v 7)) (.and (.bin .eq (.v 7) (.call i_law_shown [.v 3, .v 1])) (.bin .eq (.call i_show_share [.tup [.v 3, .c (.int 1)], .v 1]) (.v 7))))] }
def prog : Prog := ⟨[f_divisor, f_fraction, f_parted, f_show_share, f_show_measure, f_law_cell, f_law_common, f_law_shown, f_law_grain, f_law], [{ name := "TreeError", sup := [0], exc := true }, { name := "NoAmount", sup := [1, 0], exc := true }], []⟩
def tups : List (Str × List V) := []
@[simp] theorem p_divisor : prog.fns[0]? = some f_divisor := rfl
@[simp] theorem p_fraction : prog.fns[1]? = some f_fraction := rfl
@[simp] theorem p_parted : prog.fns[2]? = some f_parted := rfl
@[simp] theorem p_show_share : prog.fns[3]? = some f_show_share := rfl
@[simp] theorem p_show_measure : prog.fns[4]? = some f_show_measure := rfl
@[simp] theorem p_law_cell : prog.fns[5]? = some f_law_cell := rfl
@[simp] theorem p_law_common : prog.fns[6]? = some f_law_common := rfl
@[simp] theorem p_law_shown : prog.fns[7]? = some f_law_shown := rfl
@[simp] theorem p_law_grain : prog.fns[8]? = some f_law_grain := rfl
@[simp] theorem p_law : prog.fns[9]? = some f_law := rfl
@[simp] theorem q_ei_0 : prog.ei 0 = none := rfl
@[simp] theorem q_isx_0 : prog.isx 0 = true := rfl
@[simp] theorem q_sub_0_0 : prog.sub 0 0 = true := rfl
@[simp] theorem q_sub_0_1 : prog.sub 0 1 = false := rfl
@[simp] theorem q_ei_1 : prog.ei 1 = none := rfl
@[simp] theorem q_isx_1 : prog.isx 1 = true := rfl
@[simp] theorem q_sub_1_0 : prog.sub 1 0 = true := rfl
@[simp] theorem q_sub_1_1 : prog.sub 1 1 = true := rfl
@[simp] theorem q_fill (f : Nat) (vs : List V) : prog.fill f vs = vs := fill_no (by decide +kernel) f vs
/-- the loop of divisor -/
theorem gcd_loop (G : Cxt) (ei : Nat → Option EInit) (h : Hh) : ∀ (n : Nat) (x y : Nat) (r : Option V), y < n → ∃ r', whileN (evT G (.bin .gt (.v 1) (.c (.int 0)))) (evSs G ei [.set 2 (.bin .mod (.v 0) (.v 1)), .set 0 (.v 1), .set 1 (.v 2)]) n [some (.int x), some (.int y), r] h =
    .nx [some (.int (Nat.gcd x y)), some (.int 0), r'] h
  | 0, _, _, _, hy => absurd hy (Nat.not_lt_zero _)
  | n + 1, x, 0, r, _ => ⟨r, by simp [w_step]⟩
  | n + 1, x, y + 1, r, hy => by
    have hp : (0 : Int) < (y : Int) + 1 := by omega
    have hlt : x % (y + 1) < y + 1 := Nat.mod_lt _ (by omega)
    obtain ⟨r', e⟩ := gcd_loop G ei h n (y + 1) (x % (y + 1)) (some (.int ((x % (y + 1) : Nat) : Int))) (by omega)
    refine ⟨r', ?_⟩
    have e2 : Nat.gcd x (y + 1) = Nat.gcd (y + 1) (x % (y + 1)) := by
      rw [Nat.gcd_comm x (y + 1), Nat.gcd_rec (y + 1) x, Nat.gcd_comm]
    rw [e2, ← e]
    rw [w_step]
    simp [bMod_pos hp, hp]
theorem call_divisor (d : Nat) (a b : Int) (h : Hh) (hb : b.natAbs < 10 ^ 300) : (cxt prog (d + 1)).call i_divisor [.int a, .int b] h = .ok (.int (Int.gcd a b)) h := by
  rw [call_eq (fd := f_divisor) rfl]
  have ea : (if a < 0 then -a else a) = (a.natAbs : Int) := by split <;> omega
  have eb : (if b < 0 then -b else b) = (b.natAbs : Int) := by split <;> omega
  obtain ⟨r', e⟩ := gcd_loop (cxt prog d) prog.ei h FUEL a.natAbs b.natAbs none (Nat.lt_trans hb (by unfold FUEL; decide +kernel))
  simp [runF, f_divisor, startQ, ea, eb, e, Int.gcd]
/-- a fraction's parts -/
def fden (a b : Int) : Int := if b < 0 then -(Int.gcd a b : Int) else (Int.gcd a b : Int)
def ftop (a b : Int) : Int := a / fden a b
def fbot (a b : Int) : Int := b / fden a b
theorem fden_ne {a b : Int} (hb : b ≠ 0) : fden a b ≠ 0 := by
  have : Int.gcd a b ≠ 0 := fun e => hb (Int.gcd_eq_zero_iff.mp e).2
  unfold fden
  split <;> omega
theorem fden_dvd_l (a b : Int) : fden a b ∣ a := by
  unfold fden
  split
  · exact Int.neg_dvd.mpr (Int.gcd_dvd_left a b)
  · exact Int.gcd_dvd_left a b
theorem fden_dvd_r (a b : Int) : fden a b ∣ b := by
  unfold fden
  split
  · exact Int.neg_dvd.mpr (Int.gcd_dvd_right a b)
  · exact Int.gcd_dvd_right a b
theorem ftop_eq (a b : Int) : fden a b * ftop a b = a := Int.mul_ediv_cancel' (fden_dvd_l a b)
theorem fbot_eq (a b : Int) : fden a b * fbot a b = b := Int.mul_ediv_cancel' (fden_dvd_r a b)
theorem fbot_pos {a b : Int} (hb : b ≠ 0) : 0 < fbot a b := by
  have e := fbot_eq a b
  have n := fden_ne (a := a) hb
  have g0 : 0 < (Int.gcd a b : Int) := by
    have : Int.gcd a b ≠ 0 := fun e => hb (Int.gcd_eq_zero_iff.mp e).2
    omega
  unfold fden at e
  by_cases hn : b < 0
  · rw [if_pos hn] at e
    refine Int.lt_of_not_ge fun z => ?_
    have : 0 ≤ -(Int.gcd a b : Int) * fbot a b := Int.mul_nonneg_of_nonpos_of_nonpos (by omega) z
    omega
  · rw [if_neg hn] at e
    refine Int.lt_of_not_ge fun z => ?_
    have : (Int.gcd a b : Int) * fbot a b ≤ 0 := Int.mul_nonpos_of_nonneg_of_nonpos (by omega) z
    omega
theorem fgcd {a b : Int} (hb : b ≠ 0) : Int.gcd (ftop a b) (fbot a b) = 1 := by
  have e1 := ftop_eq a b
  have e2 := fbot_eq a b
  have n := fden_ne (a := a) hb
  have g : (fden a b).natAbs = Int.gcd a b := by unfold fden; split <;> omega
  have h : Int.gcd (fden a b * ftop a b) (fden a b * fbot a b) = (fden a b).natAbs * Int.gcd (ftop a b) (fbot a b) := Int.gcd_mul_left ..
  rw [e1, e2, g] at h
  have g0 : 0 < Int.gcd a b := by
    have : Int.gcd a b ≠ 0 := fun e => hb (Int.gcd_eq_zero_iff.mp e).2
    omega
  have := Nat.eq_of_mul_eq_mul_left g0 (show Int.gcd a b * Int.gcd (ftop a b) (fbot a b) = Int.gcd a b * 1 by rw [← h, Nat.mul_one])
  exact this
theorem fdiv_exact {a s : Int} (hs : s ≠ 0) (hd : s ∣ a) : a.fdiv s = a / s := by
  obtain ⟨t, rfl⟩ := hd
  rw [Int.mul_fdiv_cancel_left t hs, Int.mul_ediv_cancel_left t hs]
theorem bDiv_exact {a s : Int} {h : Hh} (hs : s ≠ 0) (hd : s ∣ a) (hl : s.natAbs.log2 < 9000) : bDiv h (.int a) (.int s) = .ok (.int (a / s)) h := by
  unfold bDiv
  dsimp only
  rw [if_pos ⟨hs, hl⟩, fdiv_exact hs hd]
theorem fden_log {a b : Int} (hb : b ≠ 0) (hB : b.natAbs < 10 ^ 300) : (fden a b).natAbs.log2 < 9000 := by
  refine log2_le _ _ ?_ (by decide)
  have g : (fden a b).natAbs = Int.gcd a b := by unfold fden; split <;> omega
  rw [g]
  have : Int.gcd a b ≤ b.natAbs := Nat.le_of_dvd (by omega) (Int.natAbs_dvd_natAbs.mpr (Int.gcd_dvd_right a b) |> fun z => by simpa using z)
  exact Nat.lt_of_le_of_lt this (Nat.lt_trans hB (by decide +kernel))
theorem call_fraction0 (d : Nat) (a : Int) (h : Hh) : (cxt prog (d + 1)).call i_fraction [.int a, .int 0] h = .exc c_NoAmount none h := by
  rw [call_eq (fd := f_fraction) rfl]
  simp [runF, f_fraction, startQ]
theorem call_fraction (d : Nat) (a b : Int) (h : Hh) (hb : b ≠ 0) (hB : b.natAbs < 10 ^ 300) :
    (cxt prog (d + 2)).call i_fraction [.int a, .int b] h = .ok (.ref h.length) (h ++ [.tup [.int (ftop a b), .int (fbot a b)]]) := by
  rw [call_eq (fd := f_fraction) rfl]
  have e1 := bDiv_exact (h := h) (fden_ne (a := a) hb) (fden_dvd_l a b) (fden_log hb hB)
  have e2 := bDiv_exact (h := h) (fden_ne (a := a) hb) (fden_dvd_r a b) (fden_log hb hB)
  by_cases hn : b < 0
  · have ed : (0 : Int) - (Int.gcd a b : Int) = fden a b := by unfold fden; rw [if_pos hn]; omega
    simp [runF, f_fraction, startQ, hb, call_divisor d a b h hB, hn]
    rw [show -(Int.gcd a b : Int) = fden a b by rw [← ed]; omega]
    simp [e1, e2, ftop, fbot]
  · have ed : (Int.gcd a b : Int) = fden a b := by unfold fden; rw [if_neg hn]
    simp [runF, f_fraction, startQ, hb, call_divisor d a b h hB, hn]
    rw [ed]
    simp [e1, e2, ftop, fbot]

@[simp] theorem new_a (h : Hh) (a b : Cell) : (h ++ [a, b])[h.length]? = some a := by simp
@[simp] theorem new_b (h : Hh) (a b : Cell) : (h ++ [a, b])[h.length + 1]? = some b := by simp [List.getElem?_append_right]
theorem part_le {s n a : Int} (hs : s ≠ 0) (e : s * n = a) : n.natAbs ≤ a.natAbs := by
  rw [← e, Int.natAbs_mul]
  exact Nat.le_mul_of_pos_left _ (by omega)

theorem sm_big {i : Int} (h : i.natAbs ≤ 10 ^ 60) : i.natAbs < big := lt_big (Nat.le_trans h (by decide +kernel))
theorem call_parted (k : Nat) {h : Hh} {p : Nat} {a b : Int} (t : h[p]? = some (.tup [.int a, .int b])) (hb : 0 < b) (hB : b.natAbs ≤ 10 ^ 60) :
    (cxt prog (k + 3)).call i_parted [.ref p] h = .ok (.ref (h.length + 2)) (h ++ [.tup [.int (a / b), .int (a % b)], .tup [.int (ftop (a % b) b), .int (fbot (a % b) b)], .tup [.int (a / b), .ref (h.length + 1)]]) := by
  rw [call_eq (fd := f_parted) rfl]
  have e1 : bDivmod (.int a) (.int b) h = .ok (.ref h.length) (h ++ [.tup [.int (a / b), .int (a % b)]]) := by
    unfold bDivmod
    dsimp only
    rw [if_pos ⟨hb, log2_le _ _ (Nat.lt_of_le_of_lt hB (by decide +kernel)) (by decide)⟩]
  have e2 := call_fraction k (a % b) b (h ++ [.tup [.int (a / b), .int (a % b)]]) (by omega) (Nat.lt_of_le_of_lt hB (by decide +kernel))
  simp [runF, f_parted, startQ, ixs, seqAt_tup t, seqAt_tup (old_get [.tup [.int (a / b), .int (a % b)]] t), atI, ixN, e1, tupAt, sets, e2]
@[simp] theorem new3a (h : Hh) (a b c : Cell) : (h ++ [a, b, c])[h.length]? = some a := by simp
@[simp] theorem new3b (h : Hh) (a b c : Cell) : (h ++ [a, b, c])[h.length + 1]? = some b := by simp [List.getElem?_append_right]
@[simp] theorem new3c (h : Hh) (a b c : Cell) : (h ++ [a, b, c])[h.length + 2]? = some c := by simp [List.getElem?_append_right]

def DEPTH : Nat := 7
/-! the cells of this law -/
def cellF (ns : List Int) (k : Nat) : Int := if k < ns.length then ns.getD k 0 else if ns = [] then 7919 * (k : Int) else ns.getD (k % ns.length) 0 / ((k : Int) + 1) + 7919 * (k : Int)
theorem dats_ints (h : Hh) : ∀ ns : List Int, dats (dat h 59) (ns.map V.int) = some (ns.map PyData.int)
  | [] => rfl
  | n :: r => by
    rw [List.map_cons, dats]
    rw [dats_ints h r]
    rfl
theorem ints_lay : ∀ ns : List Int, PyData.canLayAll0 (ns.map .int) = true
  | [] => rfl
  | n :: r => by simp [PyData.canLayAll0, PyData.canLay0, ints_lay r]
theorem ints_dep : ∀ ns : List Int, PyData.depthAll (ns.map .int) ≤ 1
  | [] => by simp [PyData.depthAll]
  | n :: r => by
    have := ints_dep r
    simp [PyData.depthAll, PyData.depth]
    omega
theorem ints_shaped (ns : List Int) : SeqAt.shaped (.list (ns.map .int)) = true := by
  have := ints_dep ns
  simp [SeqAt.shaped, PyData.canLay0, PyData.depth, ints_lay]
  omega
theorem eq_nil {h : Hh} {ns : List Int} {j : Nat} (hs : h[0]? = some (.frz (.lst (ns.map .int)))) (hj : h[j]? = some (.lst [])) : bEq false h (.ref 0) (.ref j) = .ok (.bl (decide (ns = []))) h := by
  have e1 : dat h 60 (.ref 0) = some (.list (ns.map .int)) := by
    simp [dat, lstAt, hs, dats_ints]
  have e2 : dat h 60 (.ref j) = some (.list []) := by
    simp [dat, lstAt, hj, dats]
  have s2 : SeqAt.shaped (.list []) = true := rfl
  simp [bEq, scal, e1, e2, ints_shaped, s2]
  cases ns with
  | nil => simp [PyData.eqv, PyData.eqvAll]
  | cons n r => simp [PyData.eqv, PyData.eqvAll]
theorem call_cellF (d : Nat) (ns : List Int) (h : Hh) (hs : h[0]? = some (.frz (.lst (ns.map .int)))) (k : Nat) (hk : k < 100) :
    ∃ g, (cxt prog (d + 1)).call i_law_cell [.ref 0, .int k] h = .ok (.int (cellF ns k)) (h ++ g) := by
  rw [call_eq (fd := f_law_cell) rfl]
  have hq := seqAt_frz hs
  by_cases h1 : k < ns.length
  · refine ⟨[], ?_⟩
    have hk' : (k : Int) < ns.length := by omega
    simp [runF, f_law_cell, startQ, bLen, ixs, hq, hk', h1, atI_map, cellF]
  · have hk' : ¬ (k : Int) < ns.length := by omega
    refine ⟨[.lst []], ?_⟩
    have e := eq_nil (old_get [.lst []] hs) (new_get h (.lst []))
    have hq2 := seqAt_frz (old_get [.lst []] hs)
    have m1 : bMul (h ++ [.lst []]) (.int 7919) (.int k) = .ok (.int (7919 * (k : Int))) (h ++ [.lst []]) := bMul_ok (lt_big (by decide +kernel)) (lt_big (by show k ≤ _; exact Nat.le_trans (Nat.le_of_lt hk) (by decide +kernel)))
    by_cases h2 : ns = []
    · subst h2
      simp at e
      have z : ¬ (k : Int) < 0 := by omega
      simp [runF, f_law_cell, startQ, bLen, hq, z, cellF, e, m1]
    · have hp : 0 < ns.length := List.length_pos_iff.mpr h2
      have hp' : (0 : Int) < ns.length := by omega
      have hm : k % ns.length < ns.length := Nat.mod_lt _ hp
      have ea := atI_map ns (k % ns.length) hm
      rw [show ((k % ns.length : Nat) : Int) = (k : Int) % (ns.length : Int) by omega] at ea
      have dv : ∀ x : Int, bDiv (h ++ [.lst []]) (.int x) (.int ((k : Int) + 1)) = .ok (.int (x / ((k : Int) + 1))) (h ++ [.lst []]) := fun x => bDiv_pos (by omega) (Int.le_trans (show (k : Int) + 1 ≤ 1000 by omega) (by decide +kernel))
      simp [runF, f_law_cell, startQ, bLen, ixs, hq, hq2, hk', h1, cellF, e, h2, m1, bMod_pos hp', ea, dv]
/-! texts of numbers -/
abbrev T (i : Int) : Str := Str.ofString (toString i)
theorem str_ok {i : Int} {h : Hh} (hl : i.natAbs.log2 < 1920) : bStr (.int i) h = .ok (.str (T i)) h := by
  unfold bStr
  dsimp only
  rw [if_pos hl]
theorem log_1920 {i : Int} (h : i.natAbs ≤ 10 ^ 120) : i.natAbs.log2 < 1920 := log2_le _ _ (Nat.lt_of_le_of_lt h (by decide +kernel)) (by decide)
theorem T_len {i : Int} (h : i.natAbs ≤ 10 ^ 120) : (T i).length ≤ 1921 := PyProof.Rows.int_text_len_1921 (log_1920 h)
theorem l_app (x y : Str) : (x ++ y).length = x.length + y.length := by
  show (x.cps ++ y.cps).size = _
  rw [Array.size_append]
  rfl
theorem add_s {x y : Str} {h : Hh} (hl : x.length + y.length ≤ 100000) : bAdd h (.str x) (.str y) = .ok (.str (x ++ y)) h := by
  unfold bAdd
  dsimp only
  rw [if_pos (Nat.le_trans hl (by decide))]
def tailS (r b : Int) : Str := T r ++ "/" ++ T b
def showS (w r b : Int) : Str := if r = 0 then T w else if w = 0 then tailS r b else T w ++ "+" ++ tailS r b
theorem len1 : ("/" : Str).length = 1 := by decide +kernel
theorem len2 : ("+" : Str).length = 1 := by decide +kernel
theorem tail_len {r b : Int} (hr : r.natAbs ≤ 10 ^ 120) (hb : b.natAbs ≤ 10 ^ 120) : (tailS r b).length ≤ 4000 := by
  unfold tailS
  rw [l_app, l_app, len1]
  have := T_len hr
  have := T_len hb
  omega
theorem ev_tail {r b : Int} {h : Hh} (hr : r.natAbs ≤ 10 ^ 120) (hb : b.natAbs ≤ 10 ^ 120) : bAdd h (.str (T r)) (.str "/") = .ok (.str (T r ++ "/")) h ∧ bAdd h (.str (T r ++ "/")) (.str (T b)) = .ok (.str (tailS r b)) h := by
  have := T_len hr
  have := T_len hb
  exact ⟨add_s (by rw [len1]; omega), add_s (by rw [l_app, len1]; omega)⟩
theorem ev_full {w r b : Int} {h : Hh} (hw : w.natAbs ≤ 10 ^ 120) (hr : r.natAbs ≤ 10 ^ 120) (hb : b.natAbs ≤ 10 ^ 120) : bAdd h (.str (T w)) (.str "+") = .ok (.str (T w ++ "+")) h ∧ bAdd h (.str (T w ++ "+")) (.str (tailS r b)) = .ok (.str (T w ++ "+" ++ tailS r b)) h := by
  have := T_len hw
  have := tail_len hr hb
  exact ⟨add_s (by rw [len2]; omega), add_s (by rw [l_app, len2]; omega)⟩
/-! lowest terms -/
theorem low_self {x q : Int} (hq : 0 < q) (hg : Int.gcd x q = 1) : ftop x q = x ∧ fbot x q = q := by
  have e : fden x q = 1 := by unfold fden; rw [if_neg (by omega), hg]; rfl
  unfold ftop fbot
  rw [e, Int.ediv_one, Int.ediv_one]
  exact ⟨rfl, rfl⟩
theorem gcd_emod (p q : Int) : Int.gcd (p % q) q = Int.gcd p q := by
  have e := Int.mul_ediv_add_emod p q
  refine Nat.dvd_antisymm ?_ ?_
  · refine Int.natCast_dvd_natCast.mp (Int.dvd_coe_gcd ?_ (Int.gcd_dvd_right ..))
    have h1 : (Int.gcd (p % q) q : Int) ∣ q * (p / q) + p % q := Int.dvd_add (Int.dvd_trans (Int.gcd_dvd_right ..) (Int.dvd_mul_right ..)) (Int.gcd_dvd_left ..)
    rwa [e] at h1
  · refine Int.natCast_dvd_natCast.mp (Int.dvd_coe_gcd ?_ (Int.gcd_dvd_right ..))
    have h1 : (Int.gcd p q : Int) ∣ p - q * (p / q) := Int.dvd_sub (Int.gcd_dvd_left ..) (Int.dvd_trans (Int.gcd_dvd_right ..) (Int.dvd_mul_right ..))
    rwa [show p - q * (p / q) = p % q by omega] at h1
theorem fden_scale {c a b : Int} (hc : 0 < c) : fden (c * a) (c * b) = c * fden a b := by
  have g : (Int.gcd (c * a) (c * b) : Int) = c * (Int.gcd a b : Int) := by
    rw [Int.gcd_mul_left]
    have : (c.natAbs : Int) = c := by omega
    rw [Int.natCast_mul, this]
  unfold fden
  by_cases hb : b < 0
  · have : c * b < 0 := Int.mul_neg_of_pos_of_neg hc hb
    rw [if_pos hb, if_pos this, g, Int.mul_neg]
  · have : ¬ c * b < 0 := by
      have := Int.mul_nonneg (Int.le_of_lt hc) (show 0 ≤ b by omega)
      omega
    rw [if_neg hb, if_neg this, g]
theorem low_scale {c a b : Int} (hc : 0 < c) : ftop (c * a) (c * b) = ftop a b ∧ fbot (c * a) (c * b) = fbot a b := by
  unfold ftop fbot
  rw [fden_scale hc, Int.mul_ediv_mul_of_pos _ _ hc, Int.mul_ediv_mul_of_pos _ _ hc]
  exact ⟨rfl, rfl⟩
theorem call_show (k : Nat) {h : Hh} {i : Nat} {n m g : Int} (t : h[i]? = some (.tup [.int n, .int m])) (hm : 0 < m) (hg : 0 < g) (bn : n.natAbs ≤ 10 ^ 45) (bm : m.natAbs ≤ 10 ^ 45) (bg : g.natAbs ≤ 10 ^ 10) :
    ∃ g2, (cxt prog (k + 4)).call i_show_share [.ref i, .int g] h = .ok (.str (showS (ftop n (m * g) / fbot n (m * g)) (ftop n (m * g) % fbot n (m * g)) (fbot n (m * g)))) (h ++ g2) := by
  have hB : 0 < m * g := Int.mul_pos hm hg
  have hB' : m * g ≠ 0 := by omega
  have bB : (m * g).natAbs ≤ 10 ^ 55 := by
    rw [Int.natAbs_mul]
    exact Nat.le_trans (Nat.mul_le_mul bm bg) (by decide +kernel)
  have hq := fbot_pos (a := n) hB'
  have gq := fgcd (a := n) hB'
  have bq : (fbot n (m * g)).natAbs ≤ 10 ^ 60 := Nat.le_trans (part_le (fden_ne (a := n) hB') (fbot_eq n (m * g))) (Nat.le_trans bB (by decide +kernel))
  have bp : (ftop n (m * g)).natAbs ≤ 10 ^ 60 := Nat.le_trans (part_le (fden_ne (a := n) hB') (ftop_eq n (m * g))) (Nat.le_trans bn (by decide +kernel))
  have e1 := call_fraction (k + 1) n (m * g) h hB' (Nat.lt_of_le_of_lt bB (by decide +kernel))
  have mm : bMul h (.int m) (.int g) = .ok (.int (m * g)) h := bMul_ok (lt_big (Nat.le_trans bm (by decide +kernel))) (lt_big (Nat.le_trans bg (by decide +kernel)))
  generalize hpe : ftop n (m * g) = p at *
  generalize hqe : fbot n (m * g) = q at *
  have e2 := call_parted k (h := h ++ [Cell.tup [.int p, .int q]]) (p := h.length) (new_get _ _) hq bq
  obtain ⟨l1, l2⟩ := low_self hq (show Int.gcd (p % q) q = 1 by rw [gcd_emod]; exact gq)
  rw [l1, l2] at e2
  refine ⟨[Cell.tup [.int p, .int q]] ++ [Cell.tup [.int (p / q), .int (p % q)], Cell.tup [.int (p % q), .int q], Cell.tup [.int (p / q), .ref ((h ++ [Cell.tup [.int p, .int q]]).length + 1)]], ?_⟩
  rw [← List.append_assoc]
  have t1 : ((h ++ [Cell.tup [.int p, .int q]]) ++ [Cell.tup [.int (p / q), .int (p % q)], Cell.tup [.int (p % q), .int q], Cell.tup [.int (p / q), .ref ((h ++ [Cell.tup [.int p, .int q]]).length + 1)]])[(h ++ [Cell.tup [.int p, .int q]]).length + 2]? = some (.tup [.int (p / q), .ref ((h ++ [Cell.tup [.int p, .int q]]).length + 1)]) := new3c ..
  have t2 : ((h ++ [Cell.tup [.int p, .int q]]) ++ [Cell.tup [.int (p / q), .int (p % q)], Cell.tup [.int (p % q), .int q], Cell.tup [.int (p / q), .ref ((h ++ [Cell.tup [.int p, .int q]]).length + 1)]])[(h ++ [Cell.tup [.int p, .int q]]).length + 1]? = some (.tup [.int (p % q), .int q]) := new3b ..
  generalize (h ++ [Cell.tup [.int p, .int q]]) ++ [Cell.tup [.int (p / q), .int (p % q)], Cell.tup [.int (p % q), .int q], Cell.tup [.int (p / q), .ref ((h ++ [Cell.tup [.int p, .int q]]).length + 1)]] = G at e2 t1 t2 ⊢
  generalize (h ++ [Cell.tup [.int p, .int q]]).length + 2 = j at e2 t1 t2 ⊢
  generalize (h ++ [Cell.tup [.int p, .int q]]).length + 1 = j2 at t1 t2 ⊢
  have w1 : (p / q).natAbs ≤ 10 ^ 120 := Nat.le_trans (Int.natAbs_ediv_le_natAbs p q) (Nat.le_trans bp (by decide +kernel))
  have m0 := Int.emod_nonneg p (by omega : q ≠ 0)
  have m1 := Int.emod_lt_of_pos p hq
  have r1 : (p % q).natAbs ≤ 10 ^ 120 := Nat.le_trans (show (p % q).natAbs ≤ q.natAbs by omega) (Nat.le_trans bq (by decide +kernel))
  have q1 : q.natAbs ≤ 10 ^ 120 := Nat.le_trans bq (by decide +kernel)
  obtain ⟨a1, a2⟩ := ev_tail (h := G) r1 q1
  obtain ⟨a3, a4⟩ := ev_full (h := G) w1 r1 q1
  rw [call_eq (fd := f_show_share) rfl]
  by_cases hr : p % q = 0
  · simp [runF, f_show_share, startQ, ixs, seqAt_tup t, atI, ixN, mm, e1, e2, tupAt_tup t1, sets, seqAt_tup t2, hr, str_ok (log_1920 w1), showS]
  · by_cases hw : p / q = 0
    · simp [runF, f_show_share, startQ, ixs, seqAt_tup t, atI, ixN, mm, e1, e2, tupAt_tup t1, sets, seqAt_tup t2, hr, str_ok (log_1920 r1), str_ok (log_1920 q1), a1, a2, hw, showS]
    · simp [runF, f_show_share, startQ, ixs, seqAt_tup t, atI, ixN, mm, e1, e2, tupAt_tup t1, sets, seqAt_tup t2, hr, str_ok (log_1920 w1), str_ok (log_1920 r1), str_ok (log_1920 q1), a1, a2, a3, a4, hw, showS]
/-! the law's own showing -/
theorem common_loop (G : Cxt) (ei : Nat → Option EInit) (h : Hh) : ∀ (n : Nat) (x y : Nat), y < n → whileN (evT G (.bin .gt (.v 1) (.c (.int 0)))) (evSs G ei [.par 0 1 (.v 1) (.bin .mod (.v 0) (.v 1))]) n [some (.int x), some (.int y)] h =
    .nx [some (.int (Nat.gcd x y)), some (.int 0)] h
  | 0, _, _, hy => absurd hy (Nat.not_lt_zero _)
  | n + 1, x, 0, _ => by simp [w_step]
  | n + 1, x, y + 1, hy => by
    have hp : (0 : Int) < (y : Int) + 1 := by omega
    have hlt : x % (y + 1) < y + 1 := Nat.mod_lt _ (by omega)
    have e := common_loop G ei h n (y + 1) (x % (y + 1)) (by omega)
    have e2 : Nat.gcd x (y + 1) = Nat.gcd (y + 1) (x % (y + 1)) := by
      rw [Nat.gcd_comm x (y + 1), Nat.gcd_rec (y + 1) x, Nat.gcd_comm]
    rw [e2, ← e]
    rw [w_step]
    simp [bMod_pos hp, hp]
theorem call_common (d : Nat) (a b : Int) (h : Hh) (ha : 0 ≤ a) (hb : 0 ≤ b) (hB : b.natAbs < 10 ^ 300) : (cxt prog (d + 1)).call i_law_common [.int a, .int b] h = .ok (.int (Int.gcd a b)) h := by
  rw [call_eq (fd := f_law_common) rfl]
  have e := common_loop (cxt prog d) prog.ei h FUEL a.natAbs b.natAbs (Nat.lt_trans hB (by unfold FUEL; decide +kernel))
  have ea : (a.natAbs : Int) = a := by omega
  have eb : (b.natAbs : Int) = b := by omega
  rw [ea, eb] at e
  simp [runF, f_law_common, startQ, e, Int.gcd]
abbrev Rs (top B : Int) : Str := showS (ftop top B / fbot top B) (ftop top B % fbot top B) (fbot top B)
theorem call_shown (d : Nat) (top B : Int) (h : Hh) (hB : 0 < B) (bt : top.natAbs ≤ 10 ^ 60) (bB : B.natAbs ≤ 10 ^ 60) : (cxt prog (d + 2)).call i_law_shown [.int top, .int B] h = .ok (.str (Rs top B)) h := by
  have hB' : B ≠ 0 := by omega
  have eG : fden top B = (Int.gcd top B : Int) := by unfold fden; rw [if_neg (by omega)]
  have gp : 0 < (Int.gcd top B : Int) := by
    have := fden_ne (a := top) hB'
    rw [eG] at this
    omega
  have e1 := ftop_eq top B
  have e2 := fbot_eq top B
  have hq := fbot_pos (a := top) hB'
  have gq := fgcd (a := top) hB'
  rw [eG] at e1 e2
  have bq : (fbot top B).natAbs ≤ 10 ^ 60 := Nat.le_trans (part_le (fden_ne (a := top) hB') (fbot_eq top B)) bB
  have bp : (ftop top B).natAbs ≤ 10 ^ 60 := Nat.le_trans (part_le (fden_ne (a := top) hB') (ftop_eq top B)) bt
  show _ = Res.ok (V.str (showS _ _ _)) h
  generalize ftop top B = p at *
  generalize fbot top B = q at *
  have hG : Int.gcd top B ≤ B.natAbs := Nat.le_of_dvd (by omega) (by simpa using Int.natAbs_dvd_natAbs.mpr (Int.gcd_dvd_right top B))
  generalize hgg : (Int.gcd top B : Int) = g at *
  have bg : g.natAbs ≤ 10 ^ 60 := by omega
  have d1 : top / B = p / q := by rw [← e1, ← e2, Int.mul_ediv_mul_of_pos _ _ gp]
  have d2 : top % B = g * (p % q) := by rw [← e1, ← e2, Int.mul_emod_mul_of_pos _ _ gp]
  have m0 := Int.emod_nonneg p (by omega : q ≠ 0)
  have m1 := Int.emod_lt_of_pos p hq
  have r1 : (p % q).natAbs ≤ 10 ^ 120 := Nat.le_trans (show (p % q).natAbs ≤ q.natAbs by omega) (Nat.le_trans bq (by decide +kernel))
  have q1 : q.natAbs ≤ 10 ^ 120 := Nat.le_trans bq (by decide +kernel)
  have w1 : (p / q).natAbs ≤ 10 ^ 120 := Nat.le_trans (Int.natAbs_ediv_le_natAbs p q) (Nat.le_trans bp (by decide +kernel))
  obtain ⟨a1, a2⟩ := ev_tail (h := h) r1 q1
  obtain ⟨a3, a4⟩ := ev_full (h := h) w1 r1 q1
  have s200 : ∀ {x : Int}, x.natAbs ≤ 10 ^ 60 → x ≤ 10 ^ 200 := fun {x} hx => by
    have h1 : x ≤ (x.natAbs : Int) := by omega
    have h2 : ((x.natAbs : Nat) : Int) ≤ ((10 ^ 60 : Nat) : Int) := by omega
    exact Int.le_trans h1 (Int.le_trans h2 (by decide +kernel))
  have v1 : bDiv h (.int top) (.int B) = .ok (.int (p / q)) h := by rw [bDiv_pos hB (s200 bB), d1]
  have v2 : bMod h (.int top) (.int B) = .ok (.int (g * (p % q))) h := by rw [bMod_pos hB, d2]
  have z : g * (p % q) = 0 ↔ p % q = 0 := by
    constructor
    · intro z
      rcases Int.mul_eq_zero.mp z with z | z
      · omega
      · exact z
    · intro z
      rw [z, Int.mul_zero]
  rw [call_eq (fd := f_law_shown) rfl]
  by_cases hr : p % q = 0
  · simp [runF, f_law_shown, startQ, v1, v2, z, hr, str_ok (log_1920 w1), showS]
  · have gn : 0 ≤ g * (p % q) := Int.mul_nonneg (by omega) m0
    have gb : (g * (p % q)).natAbs < 10 ^ 300 := by
      rw [Int.natAbs_mul]
      exact Nat.lt_of_le_of_lt (Nat.mul_le_mul bg r1) (by decide +kernel)
    have eg : (Int.gcd B (g * (p % q)) : Int) = g := by
      rw [← e2, Int.gcd_mul_left, Int.gcd_comm q, gcd_emod, gq, Nat.mul_one]
      omega
    have cm := call_common d B (g * (p % q)) h (by omega) gn gb
    rw [eg] at cm
    have v3 : bDiv h (.int (g * (p % q))) (.int g) = .ok (.int (p % q)) h := by rw [bDiv_pos gp (s200 bg), Int.mul_ediv_cancel_left _ (by omega)]
    have v4 : bDiv h (.int B) (.int g) = .ok (.int q) h := by rw [bDiv_pos gp (s200 bg), ← e2, Int.mul_ediv_cancel_left _ (by omega)]
    by_cases hw : p / q = 0
    · simp [runF, f_law_shown, startQ, v1, v2, z, hr, cm, v3, v4, str_ok (log_1920 w1), str_ok (log_1920 r1), str_ok (log_1920 q1), a1, a2, hw, showS]
    · simp [runF, f_law_shown, startQ, v1, v2, z, hr, cm, v3, v4, str_ok (log_1920 w1), str_ok (log_1920 r1), str_ok (log_1920 q1), a1, a2, a3, a4, hw, showS]
theorem call_measure (k : Nat) (h : Hh) (n g : Int) (hg : 0 < g) (bn : n.natAbs ≤ 10 ^ 45) (bg : g.natAbs ≤ 10 ^ 10) : ∃ g2, (cxt prog (k + 5)).call i_show_measure [.int n, .int g] h = .ok (.str (Rs n g)) (h ++ g2) := by
  obtain ⟨g2, e⟩ := call_show k (h := h ++ [.tup [.int n, .int 1]]) (new_get _ _) (by decide) hg bn (by decide) bg
  rw [Int.one_mul] at e
  refine ⟨[.tup [.int n, .int 1]] ++ g2, ?_⟩
  rw [call_eq (fd := f_show_measure) rfl]
  simp [runF, f_show_measure, startQ] at e ⊢
  simp [e]
theorem call_grain (k : Nat) (x : Int) (h : Hh) : ∃ g g2, (cxt prog (k + 1)).call i_law_grain [.int x] h = .ok (.int g) (h ++ g2) ∧ 0 < g ∧ g.natAbs ≤ 10 ^ 10 := by
  have a0 := Int.emod_nonneg (x / 8) (by decide : (1000 : Int) ≠ 0)
  have a1 := Int.emod_lt_of_pos (x / 8) (by decide : (0 : Int) < 1000)
  have b0 := Int.emod_nonneg (x / 8) (by decide : (12 : Int) ≠ 0)
  have b1 := Int.emod_lt_of_pos (x / 8) (by decide : (0 : Int) < 12)
  have go : ∀ (xs : List Int) (y : Int), (∀ z ∈ xs, 0 < z ∧ z.natAbs ≤ 10 ^ 10) → 0 ≤ y → y < xs.length → ∃ g, atI (xs.map V.int) y = some (.int g) ∧ 0 < g ∧ g.natAbs ≤ 10 ^ 10 := fun xs y hx h0 h1 => by
    have hy : y.toNat < xs.length := by omega
    have e := atI_map xs y.toNat hy
    rw [show ((y.toNat : Nat) : Int) = y by omega] at e
    refine ⟨_, e, hx _ ?_⟩
    rw [List.getD_eq_getElem?_getD, List.getElem?_eq_getElem hy]
    exact List.getElem_mem hy
  obtain ⟨g, e, g0, g1⟩ := go [1, 2, 12, 1000, 60, 1 + x / 8 % 1000, 1 + x / 8 % 12, 1 + x / 8 % 1000] (x % 8) (fun z hz => by
    simp only [List.mem_cons, List.not_mem_nil, or_false] at hz
    rcases hz with rfl | rfl | rfl | rfl | rfl | rfl | rfl | rfl <;> omega) (by omega) (by simp; omega)
  refine ⟨g, [.lst ([1, 2, 12, 1000, 60, 1 + x / 8 % 1000, 1 + x / 8 % 12, 1 + x / 8 % 1000].map V.int)], ?_, g0, g1⟩
  rw [call_eq (fd := f_law_grain) rfl]
  simp only [List.map_cons, List.map_nil] at e ⊢
  simp [runF, f_law_grain, startQ, bMod_pos, bDiv_pos, LINE, ixs, seqAt_lst, e]
theorem ev_pick {G : Cxt} {σ : Sl} {h : Hh} {es : List E} {i : E} {xs : List V} {y : Int} {v : V} (he : evEs G es σ h = .ok xs h) (hl : xs.length ≤ LINE) (hi : ∀ h, evE G i σ h = .ok (.int y) h) (hv : atI xs y = some v) : evE G (.ix (.lst es) i) σ h = .ok v (h ++ [.lst xs]) := by
  rw [x_ix, x_lst, he, bind_ok, if_pos hl, bind_ok, hi, bind_ok]
  simp [ixs, seqAt_lst, hv]
theorem ev_bin {G : Cxt} {σ : Sl} {h h1 h2 : Hh} {o : Bop} {a b : E} {x y : V} (ha : evE G a σ h = .ok x h1) (hb : evE G b σ h1 = .ok y h2) : evE G (.bin o a b) σ h = bop o x y h2 := by
  rw [x_bin, ha, bind_ok, hb, bind_ok]
theorem law_end2 (way top bot g by_ : Int) (s : Str) (h : Hh) (g0 : 0 < g) (g1 : g.natAbs ≤ 10 ^ 10) (bt : top.natAbs ≤ 10 ^ 40) (bb : bot.natAbs ≤ 10 ^ 20) (bot0 : 0 < bot) (hs : Rs top (bot * g) = s) :
    At (Ret fun v _ => v = V.bl true) (evSs (cxt prog 6) prog.ei (f_law.body.drop 6) [some (.ref 0), some (.int g), some (.int way), some (.int top), some (.int bot), some (.int by_), some (.str s), none] h) := by
  have hbg : 0 < bot * g := Int.mul_pos bot0 g0
  have bbg : (bot * g).natAbs ≤ 10 ^ 60 := by
    rw [Int.natAbs_mul]
    exact Nat.le_trans (Nat.mul_le_mul bb g1) (by decide +kernel)
  have mg : bMul h (.int bot) (.int g) = .ok (.int (bot * g)) h := bMul_ok (lt_big (Nat.le_trans bb (by decide +kernel))) (lt_big (Nat.le_trans g1 (by decide +kernel)))
  have sh1 := call_shown 4 top (bot * g) h hbg (Nat.le_trans bt (by decide +kernel)) bbg
  rw [hs] at sh1
  clear hs
  refine st fun K hK => ?_
  simp [isTy, kd, Kd.isTy, mg, sh1]
  subst hK
  obtain ⟨c3, e3⟩ := call_measure 1 h top g g0 (Nat.le_trans bt (by decide +kernel)) g1
  refine st fun K hK => ?_
  simp [e3]
  subst hK
  generalize h ++ c3 = h
  have sh2 := call_shown 4 top g h g0 (Nat.le_trans bt (by decide +kernel)) (Nat.le_trans g1 (by decide +kernel))
  obtain ⟨c4, e4⟩ := call_show 2 (h := h ++ [.tup [.int top, .int 1]]) (new_get _ _) (by decide) g0 (Nat.le_trans bt (by decide +kernel)) (by decide) g1
  rw [Int.one_mul] at e4
  refine st fun K hK => ?_
  simp [isTy, kd, Kd.isTy, sh2] at e4 ⊢
  simp [e4]
theorem law_end (way top bot g by_ : Int) (h : Hh) (g0 : 0 < g) (g1 : g.natAbs ≤ 10 ^ 10) (bt : top.natAbs ≤ 10 ^ 40) (bb : bot.natAbs ≤ 10 ^ 20) (bot0 : 0 < bot) (by0 : 0 < by_) (byb : by_ ≤ 10 ^ 200) (en : by_ * (top / by_) = top) (em : by_ * (bot / by_) = bot) :
    At (Ret fun v _ => v = V.bl true) (evSs (cxt prog 6) prog.ei (f_law.body.drop 5) [some (.ref 0), some (.int g), some (.int way), some (.int top), some (.int bot), some (.int by_), none, none] h) := by
  have v1 : bDiv h (.int top) (.int by_) = .ok (.int (top / by_)) h := bDiv_pos by0 byb
  have v2 : bDiv h (.int bot) (.int by_) = .ok (.int (bot / by_)) h := bDiv_pos by0 byb
  generalize top / by_ = n at en v1
  generalize bot / by_ = m at em v2
  have m0 : 0 < m := by
    refine Int.lt_of_not_ge fun z => ?_
    have := Int.mul_nonpos_of_nonneg_of_nonpos (Int.le_of_lt by0) z
    omega
  have bn : n.natAbs ≤ 10 ^ 45 := Nat.le_trans (part_le (by omega) en) (Nat.le_trans bt (by decide +kernel))
  have bm : m.natAbs ≤ 10 ^ 45 := Nat.le_trans (part_le (by omega) em) (Nat.le_trans bb (by decide +kernel))
  obtain ⟨c2, e2⟩ := call_show 2 (h := h ++ [.tup [.int n, .int m]]) (new_get _ _) m0 g0 bn bm g1
  have same : showS (ftop n (m * g) / fbot n (m * g)) (ftop n (m * g) % fbot n (m * g)) (fbot n (m * g)) = Rs top (bot * g) := by
    obtain ⟨q1, q2⟩ := low_scale (a := n) (b := m * g) by0
    rw [← Int.mul_assoc, en, em] at q1 q2
    show _ = showS _ _ _
    rw [q1, q2]
  rw [same] at e2
  refine st fun K hK => ?_
  simp [v1, v2] at e2 ⊢
  simp [e2]
  rw [hK]
  exact law_end2 way top bot g by_ _ _ g0 g1 bt bb bot0 rfl
theorem law_true : ∀ ns : List Int, ns.length ≤ 63 → ∃ h2, (cxt prog DEPTH).call i_law [.ref 0] (scrT tups ns) = .ok (.bl true) h2 := by
  intro ns _
  suffices z : Gd ((cxt prog DEPTH).call i_law [.ref 0] (scrT tups ns)) (fun v _ => v = .bl true) by
    obtain ⟨v, g, e, rfl⟩ := z.ex
    exact ⟨g, e⟩
  refine Gd.call (d := 6) (fd := f_law) rfl rfl ?_
  have h0 : (scrT tups ns)[0]? = some (.frz (.lst (ns.map .int))) := rfl
  generalize scrT tups ns = h at h0 ⊢
  have hc : ∀ (k : Int) (g : Hh), 0 ≤ k → k < 100 → g[0]? = some (.frz (.lst (ns.map .int))) → ∃ g2, (cxt prog 6).call i_law_cell [.ref 0, .int k] g = .ok (.int (cellF ns k.toNat)) (g ++ g2) := fun k g hk hk2 hg => by
    have := call_cellF 5 ns g hg k.toNat (by omega)
    rwa [show ((k.toNat : Nat) : Int) = k by omega] at this
  -- the grain
  obtain ⟨c1, e1⟩ := hc 0 h (by decide) (by decide) h0
  obtain ⟨g, c2, e2, g0, g1⟩ := call_grain 5 (cellF ns 0) (h ++ c1)
  have h1 := old_get c2 (old_get c1 h0)
  simp only [Int.toNat_zero] at e1
  refine st fun K hK => ?_
  simp [f_law, startQ, e1, e2]
  subst hK
  rw [← List.append_assoc]
  generalize (h ++ c1) ++ c2 = h at h1 ⊢
  obtain ⟨c1, e1⟩ := hc 1 h (by decide) (by decide) h1
  have h2 := old_get c1 h1
  refine st fun K hK => ?_
  simp [e1]
  subst hK
  generalize cellF ns 1 = way
  generalize h ++ c1 = h at h2 ⊢
  -- the top
  obtain ⟨p, hp, p0, p1⟩ : ∃ m : Int, atI [V.int 61, V.int 10000000000000000000000000000000000000000] (way % 2) = some (.int m) ∧ 0 < m ∧ m ≤ 10000000000000000000000000000000000000000 := by
    have w : way % 2 = 0 ∨ way % 2 = 1 := by omega
    rcases w with e | e <;> rw [e]
    · exact ⟨61, rfl, by decide, by decide⟩
    · exact ⟨10000000000000000000000000000000000000000, rfl, by decide, by decide⟩
  obtain ⟨c1, e1⟩ := hc 2 h (by decide) (by decide) h2
  have h3 := old_get [.lst [V.int 61, V.int 10000000000000000000000000000000000000000]] (old_get c1 h2)
  have a2 : evE (cxt prog 6) (.call i_law_cell [.v 0, .c (.int 2)]) [some (.ref 0), some (.int g), some (.int way), none, none, none, none, none] h = .ok (.int (cellF ns (Int.toNat 2))) (h ++ c1) := by simp [e1]
  have a3 := ev_pick (G := cxt prog 6) (h := h ++ c1) (σ := [some (.ref 0), some (.int g), some (.int way), none, none, none, none, none]) (es := [.c (.int 61), .bin .pow (.c (.int 10)) (.c (.int 40))]) (i := .bin .mod (.v 2) (.c (.int 2))) (xs := [.int 61, .int 10000000000000000000000000000000000000000]) (y := way % 2) (by simp [bPow_ok]) (by decide) (fun h => by simp [bMod_pos]) hp
  have a4 := ev_bin (o := .mod) a2 a3
  rw [x_bop] at a4
  dsimp only at a4
  rw [bMod_pos p0] at a4
  refine st fun K hK => ?_
  rw [y_set, a4]
  simp only [out_ok, seq_nx, List.set_cons_succ, List.set_cons_zero]
  subst hK
  have t0 := Int.emod_nonneg (cellF ns (Int.toNat 2)) (by omega : p ≠ 0)
  have t1 := Int.emod_lt_of_pos (cellF ns (Int.toNat 2)) p0
  generalize cellF ns (Int.toNat 2) % p = top at t0 t1 ⊢
  generalize h ++ c1 ++ [.lst [V.int 61, V.int 10000000000000000000000000000000000000000]] = h at h3 ⊢
  -- the bottom
  obtain ⟨l, hl, l0, l1⟩ : ∃ m : Int, atI [V.int 12, V.int 100000000000000000000] (way / 2 % 2) = some (.int m) ∧ 0 < m ∧ m ≤ 100000000000000000000 := by
    have w : way / 2 % 2 = 0 ∨ way / 2 % 2 = 1 := by omega
    rcases w with e | e <;> rw [e]
    · exact ⟨12, rfl, by decide, by decide⟩
    · exact ⟨100000000000000000000, rfl, by decide, by decide⟩
  obtain ⟨c1, e1⟩ := hc 3 h (by decide) (by decide) h3
  have b2 : evE (cxt prog 6) (.call i_law_cell [.v 0, .c (.int 3)]) [some (.ref 0), some (.int g), some (.int way), some (.int top), none, none, none, none] h = .ok (.int (cellF ns (Int.toNat 3))) (h ++ c1) := by simp [e1]
  have b3 := ev_pick (G := cxt prog 6) (h := h ++ c1) (σ := [some (.ref 0), some (.int g), some (.int way), some (.int top), none, none, none, none]) (es := [.c (.int 12), .bin .pow (.c (.int 10)) (.c (.int 20))]) (i := .bin .mod (.bin .fdiv (.v 2) (.c (.int 2))) (.c (.int 2))) (xs := [.int 12, .int 100000000000000000000]) (y := way / 2 % 2) (by simp [bPow_ok]) (by decide) (fun h => by simp [bMod_pos, bDiv_pos]) hl
  have b4 := ev_bin (o := .mod) b2 b3
  rw [x_bop] at b4
  dsimp only at b4
  rw [bMod_pos l0] at b4
  have b5 := ev_bin (o := .add) (show evE (cxt prog 6) (.c (.int 1)) [some (.ref 0), some (.int g), some (.int way), some (.int top), none, none, none, none] h = .ok (.int 1) h from rfl) b4
  rw [x_bop] at b5
  refine st fun K hK => ?_
  rw [y_set, b5]
  simp only [out_ok, seq_nx, List.set_cons_succ, List.set_cons_zero, x_add_i]
  subst hK
  have s0 := Int.emod_nonneg (cellF ns (Int.toNat 3)) (by omega : l ≠ 0)
  have s1 := Int.emod_lt_of_pos (cellF ns (Int.toNat 3)) l0
  obtain ⟨bot, eb⟩ : ∃ b, b = 1 + cellF ns (Int.toNat 3) % l := ⟨_, rfl⟩
  rw [← eb]
  generalize h ++ c1 ++ [.lst [V.int 12, V.int 100000000000000000000]] = h
  have bot0 : 0 < bot := by omega
  have bt : top.natAbs ≤ 10 ^ 40 := by omega
  have bb : bot.natAbs ≤ 10 ^ 20 := by omega
  have cm := call_common 5 bot top h (by omega) t0 (Nat.lt_of_le_of_lt bt (by decide +kernel))
  refine st fun K hK => ?_
  simp [cm]
  subst hK
  -- in lowest terms
  have by0 : 0 < (Int.gcd bot top : Int) := by
    have : Int.gcd bot top ≠ 0 := fun e => by have := (Int.gcd_eq_zero_iff.mp e).1; omega
    omega
  have byb : (Int.gcd bot top : Int) ≤ 10 ^ 200 := by
    have h1 : Int.gcd bot top ≤ bot.natAbs := Nat.le_of_dvd (by omega) (by simpa using Int.natAbs_dvd_natAbs.mpr (Int.gcd_dvd_left bot top))
    have h2 : ((Int.gcd bot top : Nat) : Int) ≤ ((10 ^ 20 : Nat) : Int) := by omega
    exact Int.le_trans h2 (by decide +kernel)
  have en : (Int.gcd bot top : Int) * (top / (Int.gcd bot top : Int)) = top := Int.mul_ediv_cancel' (Int.gcd_dvd_right bot top)
  have em : (Int.gcd bot top : Int) * (bot / (Int.gcd bot top : Int)) = bot := Int.mul_ediv_cancel' (Int.gcd_dvd_left bot top)
  generalize (Int.gcd bot top : Int) = by_ at *
  exact law_end way top bot g by_ h g0 g1 bt bb bot0 by0 byb en em

def top (i : Nat) : Stmt := PySem.Challenge.pw_quotatree_k84_shares_shown.main.body.getD i (.Pass ⟨0, 0, 0, 0⟩)
def gl : List Str := []
def at_ : List Str := []
def blt : List Str := ["abs", "divmod", "str", "len", "isinstance"]
abbrev s_divisor : Stmt := top 4
def d_divisor : He.DefD := ⟨("divisor", none), "divisor", "divisor", defArgs s_divisor, defBody s_divisor, defScope s_divisor, [], []⟩
theorem sc_divisor : FnScope f_divisor.N (f_divisor.N.take f_divisor.np) (defScope s_divisor) := ⟨rfl, rfl, rfl, by decide +kernel, rfl, by decide +kernel, by decide +kernel⟩
theorem m_divisor : mSs ⟨f_divisor.N, defScope s_divisor, prog, gl, at_, blt, false⟩ f_divisor.body (defBody s_divisor) = true := by decide +kernel
theorem r_divisor : RowQ prog gl at_ blt f_divisor d_divisor := ⟨sc_divisor, by decide, m_divisor, fun _ => rfl, .inl ⟨rfl, rfl⟩, rfl, fun _ _ _ _ _ _ _ us hl => match us, hl with | [_, _], _ => rfl, fun z => absurd rfl z⟩
abbrev s_fraction : Stmt := top 5
def d_fraction : He.DefD := ⟨("fraction", none), "fraction", "fraction", defArgs s_fraction, defBody s_fraction, defScope s_fraction, [], []⟩
theorem sc_fraction : FnScope f_fraction.N (f_fraction.N.take f_fraction.np) (defScope s_fraction) := ⟨rfl, rfl, rfl, by decide +kernel, rfl, by decide +kernel, by decide +kernel⟩
theorem m_fraction : mSs ⟨f_fraction.N, defScope s_fraction, prog, gl, at_, blt, false⟩ f_fraction.body (defBody s_fraction) = true := by decide +kernel
theorem r_fraction : RowQ prog gl at_ blt f_fraction d_fraction := ⟨sc_fraction, by decide, m_fraction, fun _ => rfl, .inl ⟨rfl, rfl⟩, rfl, fun _ _ _ _ _ _ _ us hl => match us, hl with | [_, _], _ => rfl, fun z => absurd rfl z⟩
abbrev s_parted : Stmt := top 6
def d_parted : He.DefD := ⟨("parted", none), "parted", "parted", defArgs s_parted, defBody s_parted, defScope s_parted, [], []⟩
theorem sc_parted : FnScope f_parted.N (f_parted.N.take f_parted.np) (defScope s_parted) := ⟨rfl, rfl, rfl, by decide +kernel, rfl, by decide +kernel, by decide +kernel⟩
theorem m_parted : mSs ⟨f_parted.N, defScope s_parted, prog, gl, at_, blt, false⟩ f_parted.body (defBody s_parted) = true := by decide +kernel
theorem r_parted : RowQ prog gl at_ blt f_parted d_parted := ⟨sc_parted, by decide, m_parted, fun _ => rfl, .inl ⟨rfl, rfl⟩, rfl, fun _ _ _ _ _ _ _ us hl => match us, hl with | [_], _ => rfl, fun z => absurd rfl z⟩
abbrev s_show_share : Stmt := top 8
def d_show_share : He.DefD := ⟨("show_share", none), "show_share", "show_share", defArgs s_show_share, defBody s_show_share, defScope s_show_share, [], []⟩
theorem sc_show_share : FnScope f_show_share.N (f_show_share.N.take f_show_share.np) (defScope s_show_share) := ⟨rfl, rfl, rfl, by decide +kernel, rfl, by decide +kernel, by decide +kernel⟩
theorem m_show_share : mSs ⟨f_show_share.N, defScope s_show_share, prog, gl, at_, blt, false⟩ f_show_share.body (defBody s_show_share) = true := by decide +kernel
theorem r_show_share : RowQ prog gl at_ blt f_show_share d_show_share := ⟨sc_show_share, by decide, m_show_share, fun _ => rfl, .inl ⟨rfl, rfl⟩, rfl, fun _ _ _ _ _ _ _ us hl => match us, hl with | [_, _], _ => rfl, fun z => absurd rfl z⟩
abbrev s_show_measure : Stmt := top 9
def d_show_measure : He.DefD := ⟨("show_measure", none), "show_measure", "show_measure", defArgs s_show_measure, defBody s_show_measure, defScope s_show_measure, [], []⟩
theorem sc_show_measure : FnScope f_show_measure.N (f_show_measure.N.take f_show_measure.np) (defScope s_show_measure) := ⟨rfl, rfl, rfl, by decide +kernel, rfl, by decide +kernel, by decide +kernel⟩
theorem m_show_measure : mSs ⟨f_show_measure.N, defScope s_show_measure, prog, gl, at_, blt, false⟩ f_show_measure.body (defBody s_show_measure) = true := by decide +kernel
theorem r_show_measure : RowQ prog gl at_ blt f_show_measure d_show_measure := ⟨sc_show_measure, by decide, m_show_measure, fun _ => rfl, .inl ⟨rfl, rfl⟩, rfl, fun _ _ _ _ _ _ _ us hl => match us, hl with | [_, _], _ => rfl, fun z => absurd rfl z⟩
abbrev s_law_cell : Stmt := top 11
def d_law_cell : He.DefD := ⟨("_law_cell", none), "_law_cell", "_law_cell", defArgs s_law_cell, defBody s_law_cell, defScope s_law_cell, [], []⟩
theorem sc_law_cell : FnScope f_law_cell.N (f_law_cell.N.take f_law_cell.np) (defScope s_law_cell) := ⟨rfl, rfl, rfl, by decide +kernel, rfl, by decide +kernel, by decide +kernel⟩
theorem m_law_cell : mSs ⟨f_law_cell.N, defScope s_law_cell, prog, gl, at_, blt, false⟩ f_law_cell.body (defBody s_law_cell) = true := by decide +kernel
theorem r_law_cell : RowQ prog gl at_ blt f_law_cell d_law_cell := ⟨sc_law_cell, by decide, m_law_cell, fun _ => rfl, .inl ⟨rfl, rfl⟩, rfl, fun _ _ _ _ _ _ _ us hl => match us, hl with | [_, _], _ => rfl, fun z => absurd rfl z⟩
abbrev s_law_common : Stmt := top 12
def d_law_common : He.DefD := ⟨("_law_common", none), "_law_common", "_law_common", defArgs s_law_common, defBody s_law_common, defScope s_law_common, [], []⟩
theorem sc_law_common : FnScope f_law_common.N (f_law_common.N.take f_law_common.np) (defScope s_law_common) := ⟨rfl, rfl, rfl, by decide +kernel, rfl, by decide +kernel, by decide +kernel⟩
theorem m_law_common : mSs ⟨f_law_common.N, defScope s_law_common, prog, gl, at_, blt, false⟩ f_law_common.body (defBody s_law_common) = true := by decide +kernel
theorem r_law_common : RowQ prog gl at_ blt f_law_common d_law_common := ⟨sc_law_common, by decide, m_law_common, fun _ => rfl, .inl ⟨rfl, rfl⟩, rfl, fun _ _ _ _ _ _ _ us hl => match us, hl with | [_, _], _ => rfl, fun z => absurd rfl z⟩
abbrev s_law_shown : Stmt := top 13
def d_law_shown : He.DefD := ⟨("_law_shown", none), "_law_shown", "_law_shown", defArgs s_law_shown, defBody s_law_shown, defScope s_law_shown, [], []⟩
theorem sc_law_shown : FnScope f_law_shown.N (f_law_shown.N.take f_law_shown.np) (defScope s_law_shown) := ⟨rfl, rfl, rfl, by decide +kernel, rfl, by decide +kernel, by decide +kernel⟩
theorem m_law_shown : mSs ⟨f_law_shown.N, defScope s_law_shown, prog, gl, at_, blt, false⟩ f_law_shown.body (defBody s_law_shown) = true := by decide +kernel
theorem r_law_shown : RowQ prog gl at_ blt f_law_shown d_law_shown := ⟨sc_law_shown, by decide, m_law_shown, fun _ => rfl, .inl ⟨rfl, rfl⟩, rfl, fun _ _ _ _ _ _ _ us hl => match us, hl with | [_, _], _ => rfl, fun z => absurd rfl z⟩
abbrev s_law_grain : Stmt := top 14
def d_law_grain : He.DefD := ⟨("_law_grain", none), "_law_grain", "_law_grain", defArgs s_law_grain, defBody s_law_grain, defScope s_law_grain, [], []⟩
theorem sc_law_grain : FnScope f_law_grain.N (f_law_grain.N.take f_law_grain.np) (defScope s_law_grain) := ⟨rfl, rfl, rfl, by decide +kernel, rfl, by decide +kernel, by decide +kernel⟩
theorem m_law_grain : mSs ⟨f_law_grain.N, defScope s_law_grain, prog, gl, at_, blt, false⟩ f_law_grain.body (defBody s_law_grain) = true := by decide +kernel
theorem r_law_grain : RowQ prog gl at_ blt f_law_grain d_law_grain := ⟨sc_law_grain, by decide, m_law_grain, fun _ => rfl, .inl ⟨rfl, rfl⟩, rfl, fun _ _ _ _ _ _ _ us hl => match us, hl with | [_], _ => rfl, fun z => absurd rfl z⟩
abbrev s_law : Stmt := top 15
def d_law : He.DefD := ⟨("law", none), "law", "law", defArgs s_law, defBody s_law, defScope s_law, [], []⟩
theorem sc_law : FnScope f_law.N (f_law.N.take f_law.np) (defScope s_law) := ⟨rfl, rfl, rfl, by decide +kernel, rfl, by decide +kernel, by decide +kernel⟩
theorem m_law : mSs ⟨f_law.N, defScope s_law, prog, gl, at_, blt, false⟩ f_law.body (defBody s_law) = true := by decide +kernel
theorem r_law : RowQ prog gl at_ blt f_law d_law := ⟨sc_law, by decide, m_law, fun _ => rfl, .inl ⟨rfl, rfl⟩, rfl, fun _ _ _ _ _ _ _ us hl => match us, hl with | [_], _ => rfl, fun z => absurd rfl z⟩
def txt : Txt := ⟨prog, gl, at_, blt, tups, [d_divisor, d_fraction, d_parted, d_show_share, d_show_measure, d_law_cell, d_law_common, d_law_shown, d_law_grain, d_law]⟩
theorem rows : ∀ (i : Nat) (fd : FD), txt.p.fns[i]? = some fd → ∃ d, txt.defs[i]? = some d ∧ RowQ txt.p txt.gl txt.at_ txt.blt fd d
  | 0, _, h => by cases h; exact ⟨_, rfl, r_divisor⟩
  | 1, _, h => by cases h; exact ⟨_, rfl, r_fraction⟩
  | 2, _, h => by cases h; exact ⟨_, rfl, r_parted⟩
  | 3, _, h => by cases h; exact ⟨_, rfl, r_show_share⟩
  | 4, _, h => by cases h; exact ⟨_, rfl, r_show_measure⟩
  | 5, _, h => by cases h; exact ⟨_, rfl, r_law_cell⟩
  | 6, _, h => by cases h; exact ⟨_, rfl, r_law_common⟩
  | 7, _, h => by cases h; exact ⟨_, rfl, r_law_shown⟩
  | 8, _, h => by cases h; exact ⟨_, rfl, r_law_grain⟩
  | 9, _, h => by cases h; exact ⟨_, rfl, r_law⟩
  | n + 10, _, h => by cases h
abbrev R : PySem.W.OpenRow := PySem.W.OpenLaw.row PySem.Challenge.rw_quotatree_k84_shares_shown
abbrev hk : PySem.W.Hook := hookQ 5 txt
def ob (s : PySem.W.SharedT) : AlQ := obsQG 5 txt (HandSHeadRun.getT s)
theorem ob_eq (s : PySem.W.SharedT) : ob s = hk.obs s.abs := obsQG_eq (HandSHeadRun.getT_eq s)
def loose : List Str := ["TreeError", "NoAmount", "divisor", "fraction", "parted", "show_share", "show_measure", "_law_cell", "_law_common", "_law_shown", "_law_grain"]
theorem run (w : World) : HandSHeadRun.RunEq R (PySem.W.view R.prog [15]) hk ob 4000 loose w := by
  intro os
  kernel_rfl
end Q
open PySem PySem.W PySem.Calls PyProof.Rows
set_option maxRecDepth 100000 in
set_option maxHeartbeats 0 in
theorem PySem.Challenge.cw_quotatree_k84_shares_shown_holds : PySem.Challenge.rw_quotatree_k84_shares_shown.Holds := by
  w_on; o_law
  refine HandSHeadRun.head_any (r := OpenLaw.row PySem.Challenge.rw_quotatree_k84_shares_shown) (q := view (OpenLaw.row PySem.Challenge.rw_quotatree_k84_shares_shown).prog [15]) (H := Q.hk) (ob := Q.ob) (M := 4000) (loose := Q.loose) (d := HandSHeadRun.topDef (OpenLaw.row PySem.Challenge.rw_quotatree_k84_shares_shown).prog 15) (kwd := []) Q.ob_eq
    (by kernel_rfl) (fun s => by kernel_rfl) Q.run (by kernel_rfl) (by kernel_rfl) (by kernel_rfl) (by rfl) (by first | assumption | decide +kernel) (by decide +kernel) ⟨rfl, rfl, rfl, rfl, rfl, by decide +kernel⟩ ?hw ?hc
  case hw => w_witness2
  case hc => exact QM.walkQ (l := PySem.Challenge.rw_quotatree_k84_shares_shown) (n := 5) (t := Q.txt) (i := Q.i_law) (D := Q.DEPTH) (fl := Q.f_law) rfl (by kernel_rfl) ⟨rfl, by decide, by decide⟩ rfl rfl rfl rfl rfl (by kernel_rfl) Q.rows Q.law_true
#print axioms PySem.Challenge.cw_quotatree_k84_shares_shown_holds
