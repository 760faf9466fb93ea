import PyProof.Rows.All
import Wide.All
import OpenK.AllK
import Wide.FinOn
import HandS.ForMost
import HandS.ForExc
import HandS.Wide
import HandS.IsInst
import HandS.Style
import HandS.CallSlots
import HandS.TryMany
import HandS.ExcCtx
import HandS.Flow
import PySem.Challenge.RW_quotatree_k01_divisor
set_option Elab.async false
set_option linter.all false
set_option maxRecDepth 100000
set_option maxHeartbeats 4000000
set_option exponentiation.threshold 2000
/-! QM1: a small machine of our own: cells with numbers, values, the defs as terms, what they come to -/
namespace QM
open PySem L2

inductive Cell where
  | lst (xs : List V) | tup (xs : List V) | dct (kvs : List (Key × V)) | ins (C : Nat) (fs : List (Nat × V)) | xd (fs : List (Nat × V)) | frz (c : Cell)
  deriving DecidableEq
abbrev Hh := List Cell
abbrev Sl := List (Option V)

inductive Res (α : Type) where
  | ok (a : α) (h : Hh) | exc (c : Nat) (d : Option Nat) (h : Hh) | bad
def Res.bind {α β : Type} (r : Res α) (k : α → Hh → Res β) : Res β :=
  match r with
  | .ok a h => k a h
  | .exc c d h => .exc c d h
  | .bad => .bad
@[simp] theorem bind_ok {α β : Type} (a : α) (h : Hh) (k : α → Hh → Res β) : (Res.ok a h).bind k = k a h := rfl
@[simp] theorem bind_exc {α β : Type} (c : Nat) (d : Option Nat) (h : Hh) (k : α → Hh → Res β) : (Res.exc c d h : Res α).bind k = .exc c d h := rfl
@[simp] theorem bind_bad {α β : Type} (k : α → Hh → Res β) : (Res.bad : Res α).bind k = .bad := rfl

/-! reading -/
def lstAt (h : Hh) : V → Option (List V)
  | .ref i => match h[i]? with
    | some (.lst xs) => some xs
    | some (.frz (.lst xs)) => some xs
    | _ => none
  | _ => none
def tupAt (h : Hh) : V → Option (List V)
  | .ref i => match h[i]? with
    | some (.tup xs) => some xs
    | _ => none
  | _ => none
def dctAt (h : Hh) : V → Option (List (Key × V))
  | .ref i => match h[i]? with
    | some (.dct kvs) => some kvs
    | some (.frz (.dct kvs)) => some kvs
    | _ => none
  | _ => none
def seqAt (h : Hh) (v : V) : Option (List V) := match lstAt h v with
  | some xs => some xs
  | none => tupAt h v

def LINE : Nat := 16777216
def big : Nat := 2 ^ 400000

/-! data, for == -/
def dats (dat : V → Option PyData) : List V → Option (List PyData)
  | [] => some []
  | v :: r => match dat v, dats dat r with
    | some d, some ds => some (d :: ds)
    | _, _ => none
def dat (h : Hh) : Nat → V → Option PyData
  | _, .non => some .none
  | _, .bl b => some (.bool b)
  | _, .int i => some (.int i)
  | _, .str x => some (.str x)
  | 0, _ => none
  | n + 1, v => match lstAt h v with
    | some xs => (dats (dat h n) xs).map .list
    | none => match tupAt h v with
      | some xs => (dats (dat h n) xs).map .tuple
      | none => none

inductive Bop where
  | add | sub | mul | fdiv | mod | pow | eq | ne | lt | le | gt | ge | is | isNot | isin | notin
  deriving DecidableEq

def okI (h : Hh) (i : Int) : Res V := .ok (.int i) h
def okB (h : Hh) (b : Bool) : Res V := .ok (.bl b) h

def bAdd (h : Hh) : V → V → Res V
  | .int i, .int j => .ok (.int (i + j)) h
  | .str x, .str y => if x.length + y.length ≤ LINE then .ok (.str (x ++ y)) h else .bad
  | .ref i, .ref j => match h[i]?, h[j]? with
    | some (.lst xs), some (.lst ys) => if xs.length + ys.length ≤ LINE then .ok (.ref h.length) (h ++ [.lst (xs ++ ys)]) else .bad
    | _, _ => .bad
  | _, _ => .bad
def bSub (h : Hh) : V → V → Res V
  | .int i, .int j => .ok (.int (i - j)) h
  | _, _ => .bad
def bMul (h : Hh) : V → V → Res V
  | .int i, .int j => if i.natAbs < big ∧ j.natAbs < big then .ok (.int (i * j)) h else .bad
  | _, _ => .bad
def bDiv (h : Hh) : V → V → Res V
  | .int i, .int j => if j ≠ 0 ∧ j.natAbs.log2 < 9000 then .ok (.int (i.fdiv j)) h else .bad
  | _, _ => .bad
def bMod (h : Hh) : V → V → Res V
  | .int i, .int j => if j ≠ 0 then .ok (.int (i.fmod j)) h else .bad
  | _, _ => .bad
def bPow (h : Hh) : V → V → Res V
  | .int i, .int j => if 0 ≤ j ∧ j ≤ 1000000 ∧ i.natAbs < 2 ^ 64 then .ok (.int (i ^ j.toNat)) h else .bad
  | _, _ => .bad
/-- == (neg: !=) -/
def bEq (neg : Bool) (h : Hh) (x y : V) : Res V :=
  if scal x y = true then .ok (.bl (if neg then !decide (x = y) else decide (x = y))) h
  else match dat h 60 x, dat h 60 y with
    | some d, some e => if SeqAt.shaped d = true ∧ SeqAt.shaped e = true then .ok (.bl (if neg then !PyData.eqv d e else PyData.eqv d e)) h else .bad
    | _, _ => .bad
def bLt (h : Hh) : V → V → Res V
  | .int i, .int j => .ok (.bl (decide (i < j))) h
  | .str i, .str j => .ok (.bl (decide (i.cps.toList < j.cps.toList))) h
  | _, _ => .bad
def bLe (h : Hh) : V → V → Res V
  | .int i, .int j => .ok (.bl (decide (i ≤ j))) h
  | _, _ => .bad
def bGt (h : Hh) : V → V → Res V
  | .int i, .int j => .ok (.bl (decide (j < i))) h
  | _, _ => .bad
def bGe (h : Hh) : V → V → Res V
  | .int i, .int j => .ok (.bl (decide (j ≤ i))) h
  | _, _ => .bad
def bIs (neg : Bool) (h : Hh) : V → V → Res V
  | x, .non => .ok (.bl (if neg then !decide (x = .non) else decide (x = .non))) h
  | .bl a, .bl b => .ok (.bl (if neg then !decide (a = b) else decide (a = b))) h
  | _, _ => .bad
def bIn (neg : Bool) (h : Hh) (x y : V) : Res V :=
  match y with
  | .str j => match x with
    | .str i => .ok (.bl (if neg then (Builtin.Str.occurrences j i 0 j.length 1).isEmpty else !(Builtin.Str.occurrences j i 0 j.length 1).isEmpty)) h
    | _ => .bad
  | y => match seqAt h y with
    | some xs => if flatV x = true ∧ xs.all flatV = true then .ok (.bl (if neg then !inV x xs else inV x xs)) h else .bad
    | none => .bad
def bop (o : Bop) (x y : V) (h : Hh) : Res V :=
  match o with
  | .add => bAdd h x y
  | .sub => bSub h x y
  | .mul => bMul h x y
  | .fdiv => bDiv h x y
  | .mod => bMod h x y
  | .pow => bPow h x y
  | .eq => bEq false h x y
  | .ne => bEq true h x y
  | .lt => bLt h x y
  | .le => bLe h x y
  | .gt => bGt h x y
  | .ge => bGe h x y
  | .is => bIs false h x y
  | .isNot => bIs true h x y
  | .isin => bIn false h x y
  | .notin => bIn true h x y

/-- o[i] -/
def ixs (x y : V) (h : Hh) : Res V :=
  match y with
  | .int i => match x with
    | .str z => if z.length ≤ LINE then (match atI z.cps.toList i with
        | some c => .ok (.str ⟨#[c]⟩) h
        | none => .bad) else .bad
    | x => match seqAt h x with
      | some xs => match atI xs i with
        | some v => .ok v h
        | none => .bad
      | none => .bad
  | _ => .bad

/-- truth -/
def tru (v : V) (h : Hh) : Res Bool :=
  match v with
  | .non => .ok false h
  | .bl b => .ok b h
  | .int i => .ok (i != 0) h
  | .str y => if y.length ≤ LINE then .ok ((y.length : Int) != 0) h else .bad
  | v => match seqAt h v with
    | some xs => .ok (!xs.isEmpty) h
    | none => .bad

/-- the built-in functions by name -/
inductive Bi where
  | len | abs | max | min | int
  deriving DecidableEq
def bLen (v : V) (h : Hh) : Res V :=
  match v with
  | .str y => if y.length ≤ LINE then .ok (.int (y.length : Int)) h else .bad
  | v => match seqAt h v with
    | some xs => .ok (.int (xs.length : Int)) h
    | none => .bad
def bi (f : Bi) (vs : List V) (h : Hh) : Res V :=
  match f, vs with
  | .len, [v] => bLen v h
  | .abs, [.int i] => .ok (.int (if i < 0 then -i else i)) h
  | .max, [.int i, .int j] => .ok (.int (if j > i then j else i)) h
  | .min, [.int i, .int j] => .ok (.int (if j < i then j else i)) h
  | .int, [.int i] => .ok (.int i) h
  | .int, [.bl b] => .ok (.int (if b then 1 else 0)) h
  | _, _ => .bad

/-- the built-in types of isinstance -/
inductive Ty where
  | int | bool | str | list | tuple | dict
  deriving DecidableEq
def Ty.name : Ty → String
  | .int => "int" | .bool => "bool" | .str => "str" | .list => "list" | .tuple => "tuple" | .dict => "dict"
/-- a value's type (none: an own class) -/
inductive Kd where
  | non | bl | int | str | list | tuple | dict | own (C : Nat)
  deriving DecidableEq
def kd (h : Hh) : V → Option Kd
  | .non => some .non
  | .bl _ => some .bl
  | .int _ => some .int
  | .str _ => some .str
  | .ref i => match h[i]? with
    | some (.lst _) => some .list
    | some (.frz (.lst _)) => some .list
    | some (.tup _) => some .tuple
    | some (.dct _) => some .dict
    | some (.frz (.dct _)) => some .dict
    | some (.ins C _) => some (.own C)
    | _ => none
  | _ => none
def Kd.isTy : Kd → Ty → Bool
  | .bl, .bool => true
  | .bl, .int => true
  | .int, .int => true
  | .str, .str => true
  | .list, .list => true
  | .tuple, .tuple => true
  | .dict, .dict => true
  | _, _ => false
def isTy (t : Ty) (v : V) (h : Hh) : Res V :=
  match kd h v with
  | some k => .ok (.bl (k.isTy t)) h
  | none => .bad

/-! terms -/
inductive E where
  | c (v : V)
  | v (i : Nat)
  | bin (o : Bop) (a b : E)
  | neg (a : E)
  | not (a : E)
  | and (a b : E)
  | or (a b : E)
  | chain (o o' : Bop) (a b c : E)
  | ifx (c a b : E)
  | ix (a b : E)
  | bi (f : Bi) (es : List E)
  | isTy (t : Ty) (a : E)
  | lst (es : List E)
  | tup (es : List E)
  | call (f : Nat) (es : List E)

structure Cxt where
  call : Nat → List V → Hh → Res V

mutual
def evE (G : Cxt) : E → Sl → Hh → Res V
  | .c v, _, h => .ok v h
  | .v i, σ, h => match σ[i]? with
    | some (some v) => .ok v h
    | _ => .bad
  | .bin o a b, σ, h => (evE G a σ h).bind fun x h => (evE G b σ h).bind fun y h => bop o x y h
  | .neg a, σ, h => (evE G a σ h).bind fun x h => match x with
    | .int i => .ok (.int (-i)) h
    | _ => .bad
  | .not a, σ, h => (evE G a σ h).bind fun x h => (tru x h).bind fun b h => .ok (.bl (!b)) h
  | .and a b, σ, h => (evE G a σ h).bind fun x h => match x with
    | .bl true => evE G b σ h
    | .bl false => .ok (.bl false) h
    | _ => .bad
  | .or a b, σ, h => (evE G a σ h).bind fun x h => match x with
    | .bl true => .ok (.bl true) h
    | .bl false => evE G b σ h
    | _ => .bad
  | .chain o o' a b c, σ, h => (evE G a σ h).bind fun x h => (evE G b σ h).bind fun y h => (bop o x y h).bind fun z h => match z with
    | .bl true => (evE G c σ h).bind fun w h => bop o' y w h
    | .bl false => .ok (.bl false) h
    | _ => .bad
  | .ifx c a b, σ, h => (evE G c σ h).bind fun x h => (tru x h).bind fun t h => if t = true then evE G a σ h else evE G b σ h
  | .ix a b, σ, h => (evE G a σ h).bind fun x h => (evE G b σ h).bind fun y h => ixs x y h
  | .bi f es, σ, h => (evEs G es σ h).bind fun vs h => bi f vs h
  | .isTy t a, σ, h => (evE G a σ h).bind fun x h => isTy t x h
  | .lst es, σ, h => (evEs G es σ h).bind fun vs h => if vs.length ≤ LINE then .ok (.ref h.length) (h ++ [.lst vs]) else .bad
  | .tup es, σ, h => (evEs G es σ h).bind fun vs h => if vs.length ≤ LINE then .ok (.ref h.length) (h ++ [.tup vs]) else .bad
  | .call f es, σ, h => (evEs G es σ h).bind fun vs h => G.call f vs h
def evEs (G : Cxt) : List E → Sl → Hh → Res (List V)
  | [], _, h => .ok [] h
  | e :: r, σ, h => (evE G e σ h).bind fun v h => (evEs G r σ h).bind fun vs h => .ok (v :: vs) h
end
def evT (G : Cxt) (e : E) (σ : Sl) (h : Hh) : Res Bool := (evE G e σ h).bind tru

inductive Out where
  | nx (σ : Sl) (h : Hh) | ret (v : V) (h : Hh) | exc (c : Nat) (d : Option Nat) (σ : Sl) (h : Hh) | brk (σ : Sl) (h : Hh) | ct (σ : Sl) (h : Hh) | bad
def Out.seq (r : Out) (k : Sl → Hh → Out) : Out :=
  match r with
  | .nx σ h => k σ h
  | r => r
@[simp] theorem seq_nx (σ : Sl) (h : Hh) (k : Sl → Hh → Out) : (Out.nx σ h).seq k = k σ h := rfl
@[simp] theorem seq_ret (v : V) (h : Hh) (k : Sl → Hh → Out) : (Out.ret v h).seq k = .ret v h := rfl
@[simp] theorem seq_exc (c : Nat) (d : Option Nat) (σ : Sl) (h : Hh) (k : Sl → Hh → Out) : (Out.exc c d σ h).seq k = .exc c d σ h := rfl
@[simp] theorem seq_brk (σ : Sl) (h : Hh) (k : Sl → Hh → Out) : (Out.brk σ h).seq k = .brk σ h := rfl
@[simp] theorem seq_ct (σ : Sl) (h : Hh) (k : Sl → Hh → Out) : (Out.ct σ h).seq k = .ct σ h := rfl
@[simp] theorem seq_bad (k : Sl → Hh → Out) : Out.bad.seq k = .bad := rfl
/-- an expression's end in a statement -/
def Res.out {α : Type} (r : Res α) (σ : Sl) (k : α → Hh → Out) : Out :=
  match r with
  | .ok a h => k a h
  | .exc c d h => .exc c d σ h
  | .bad => .bad
@[simp] theorem out_ok {α : Type} (a : α) (h : Hh) (σ : Sl) (k : α → Hh → Out) : (Res.ok a h).out σ k = k a h := rfl
@[simp] theorem out_exc {α : Type} (c : Nat) (d : Option Nat) (h : Hh) (σ : Sl) (k : α → Hh → Out) : (Res.exc c d h : Res α).out σ k = .exc c d σ h := rfl
@[simp] theorem out_bad {α : Type} (σ : Sl) (k : α → Hh → Out) : (Res.bad : Res α).out σ k = .bad := rfl

inductive S where
  | set (i : Nat) (e : E)
  | tup (is : List Nat) (e : E)
  | par (i j : Nat) (a b : E)
  | ret (e : E)
  | ite (c : E) (a b : List S)
  | whl (c : E) (b : List S)
  | expr (e : E)
  | pass

def FUEL : Nat := 10 ^ 1000
def whileN (c : Sl → Hh → Res Bool) (b : Sl → Hh → Out) : Nat → Sl → Hh → Out
  | 0, _, _ => .bad
  | n + 1, σ, h => (c σ h).out σ fun t h => if t = true then (match b σ h with
      | .nx σ' h' => whileN c b n σ' h'
      | .ct σ' h' => whileN c b n σ' h'
      | .brk σ' h' => .nx σ' h'
      | r => r) else .nx σ h
/-- several names at once -/
def sets : List Nat → List V → Sl → Option Sl
  | [], [], σ => some σ
  | i :: is, v :: vs, σ => sets is vs (σ.set i (some v))
  | _, _, _ => none

mutual
def evS (G : Cxt) : S → Sl → Hh → Out
  | .set i e, σ, h => (evE G e σ h).out σ fun v h => .nx (σ.set i (some v)) h
  | .tup is e, σ, h => (evE G e σ h).out σ fun v h => match tupAt h v with
    | some xs => match sets is xs σ with
      | some σ' => .nx σ' h
      | none => .bad
    | none => .bad
  | .par i j a b, σ, h => (evE G a σ h).out σ fun x h => (evE G b σ h).out σ fun y h => .nx ((σ.set i (some x)).set j (some y)) h
  | .ret e, σ, h => (evE G e σ h).out σ fun v h => .ret v h
  | .ite c a b, σ, h => (evT G c σ h).out σ fun t h => if t = true then evSs G a σ h else evSs G b σ h
  | .whl c b, σ, h => whileN (evT G c) (evSs G b) FUEL σ h
  | .expr e, σ, h => (evE G e σ h).out σ fun _ h => .nx σ h
  | .pass, σ, h => .nx σ h
def evSs (G : Cxt) : List S → Sl → Hh → Out
  | [], σ, h => .nx σ h
  | s :: r, σ, h => (evS G s σ h).seq fun σ h => evSs G r σ h
end

/-- a def: its name, how many of its names are parameters, its names, its body -/
structure FD where
  name : Str
  np : Nat
  N : List Str
  body : List S
def startQ (n : Nat) (vs : List V) : Sl := vs.map some ++ List.replicate (n - vs.length) none
def runF (G : Cxt) (f : FD) (vs : List V) (h : Hh) : Res V :=
  if vs.length = f.np then
    match evSs G f.body (startQ f.N.length vs) h with
    | .nx _ h => .ok .non h
    | .ret v h => .ok v h
    | .exc c d _ h => .exc c d h
    | _ => .bad
  else .bad
def cxt (tab : List FD) : Nat → Cxt
  | 0 => ⟨fun _ _ _ => .bad⟩
  | d + 1 => ⟨fun f vs h => match tab[f]? with
    | some fd => runF (cxt tab d) fd vs h
    | none => .bad⟩
end QM

/-! QM2: the machine against the hand layer: how cells and values lie in the model's heap -/
namespace QM
open PySem L2 PyProof.Rows

def RV (am : List Addr) : V → V → Prop
  | .ref i, w => ∃ a, am[i]? = some a ∧ w = .ref a
  | v, w => w = v
abbrev RVs (am : List Addr) : List V → List V → Prop := Paired (RV am)
abbrev RK (am : List Addr) : List (Key × V) → List (Key × V) → Prop := Paired fun p q => p.1 = q.1 ∧ RV am p.2 q.2

/-- prefix -/
def Pf (a b : List Addr) : Prop := ∃ c, b = a ++ c
theorem Pf.refl (a : List Addr) : Pf a a := ⟨[], by simp⟩
theorem Pf.trans {a b c : List Addr} (h : Pf a b) (k : Pf b c) : Pf a c := by
  obtain ⟨x, rfl⟩ := h
  obtain ⟨y, rfl⟩ := k
  exact ⟨x ++ y, by simp⟩
theorem Pf.snoc (a : List Addr) (p : Addr) : Pf a (a ++ [p]) := ⟨[p], rfl⟩
theorem Pf.get {a b : List Addr} (h : Pf a b) {i : Nat} {p : Addr} (e : a[i]? = some p) : b[i]? = some p := by
  obtain ⟨c, rfl⟩ := h
  obtain ⟨hi, e'⟩ := List.getElem?_eq_some_iff.mp e
  rw [List.getElem?_append_left hi]
  exact e

theorem RV.mono {am am' : List Addr} (p : Pf am am') : ∀ {v w : V}, RV am v w → RV am' v w
  | .ref i, _, ⟨a, e, q⟩ => ⟨a, p.get e, q⟩
  | .non, _, h => h
  | .bl _, _, h => h
  | .int _, _, h => h
  | .str _, _, h => h
  | .byt _, _, h => h
  | .flt _, _, h => h
  | .ty _, _, h => h
theorem Paired.imp {α β : Type} {F G : α → β → Prop} (h : ∀ a b, F a b → G a b) : ∀ {xs : List α} {ys : List β}, Paired F xs ys → Paired G xs ys
  | _, _, .nil => .nil
  | _, _, .cons r t => .cons (h _ _ r) (Paired.imp h t)
theorem RVs.mono {am am' : List Addr} (p : Pf am am') {xs ys : List V} (h : RVs am xs ys) : RVs am' xs ys := Paired.imp (fun _ _ r => RV.mono p r) h
theorem RK.mono {am am' : List Addr} (p : Pf am am') {xs ys : List (Key × V)} (h : RK am xs ys) : RK am' xs ys := Paired.imp (fun _ _ r => ⟨r.1, RV.mono p r.2⟩) h
/-- slots -/
def RS (am : List Addr) : Option V → Option V → Prop
  | some v, some w => RV am v w
  | none, none => True
  | _, _ => False
abbrev RSl (am : List Addr) : Sl → L2.St → Prop := Paired (RS am)
theorem RS.mono {am am' : List Addr} (p : Pf am am') : ∀ {v w : Option V}, RS am v w → RS am' v w
  | some _, some _, h => RV.mono p h
  | none, none, h => h
  | some _, none, h => h
  | none, some _, h => h
theorem RSl.mono {am am' : List Addr} (p : Pf am am') {xs : Sl} {ys : L2.St} (h : RSl am xs ys) : RSl am' xs ys := Paired.imp (fun _ _ r => RS.mono p r) h
theorem Paired.get {α β : Type} {F : α → β → Prop} : ∀ {xs : List α} {ys : List β} {i : Nat} {x : α}, Paired F xs ys → xs[i]? = some x → ∃ y, ys[i]? = some y ∧ F x y
  | _, _, _, _, .nil, e => by simp at e
  | _, _, 0, _, .cons r _, e => by
    simp at e
    subst e
    exact ⟨_, rfl, r⟩
  | _, _, i + 1, _, .cons _ t, e => by
    obtain ⟨y, h1, h2⟩ := Paired.get (i := i) t (by simpa using e)
    exact ⟨y, by simpa using h1, h2⟩
theorem Paired.set {α β : Type} {F : α → β → Prop} {x : α} {y : β} (r : F x y) : ∀ {xs : List α} {ys : List β} (i : Nat), Paired F xs ys → Paired F (xs.set i x) (ys.set i y)
  | _, _, _, .nil => .nil
  | _, _, 0, .cons _ t => .cons r t
  | _, _, i + 1, .cons q t => .cons q (Paired.set r i t)
theorem Paired.app {α β : Type} {F : α → β → Prop} : ∀ {xs xs' : List α} {ys ys' : List β}, Paired F xs ys → Paired F xs' ys' → Paired F (xs ++ xs') (ys ++ ys')
  | _, _, _, _, .nil, h => h
  | _, _, _, _, .cons r t, h => .cons r (Paired.app t h)
theorem Paired.len {α β : Type} {F : α → β → Prop} : ∀ {xs : List α} {ys : List β}, Paired F xs ys → xs.length = ys.length
  | _, _, .nil => rfl
  | _, _, .cons _ t => by simp [Paired.len t]

/-! ### cells -/
/-- the names of classes and of attributes: where a class stands, what an attribute is called -/
structure Nm where
  K : PySem.W.Frag
  ca : Nat → Addr
  fn : Nat → Str
  okc : Nat → Prop
def RC (W : Nm) (am : List Addr) (H : Hp) (a : Addr) : Cell → Prop
  | .lst xs => ∃ ys, RVs am xs ys ∧ H a = some (.lst ys)
  | .tup xs => ∃ ys, RVs am xs ys ∧ SqT W.K H a ys
  | .dct kvs => ∃ ls, RK am kvs ls ∧ H a = some (.dK ls)
  | .ins C fs => ∃ dx ys, H a = some (.ins (W.ca C) dx ys) ∧ W.okc C ∧ Paired (fun p q => W.fn p.1 = q.1 ∧ RV am p.2 q.2) fs ys
  | .xd fs => ∃ ys, H a = some (.xd ys) ∧ Paired (fun p q => W.fn p.1 = q.1 ∧ RV am p.2 q.2) fs ys
  | .frz (.lst xs) => ∃ ys, RVs am xs ys ∧ SqL W.K H a ys
  | .frz (.dct kvs) => ∃ ls o, RK am kvs ls ∧ H a = some (.frz o (.dK ls))
  | .frz _ => False
theorem RC.mono {W : Nm} {am am' : List Addr} (p : Pf am am') {H H' : Hp} {a : Addr} (e : H' a = H a) : ∀ {c : Cell}, RC W am H a c → RC W am' H' a c
  | .lst xs, ⟨ys, r, q⟩ => ⟨ys, r.mono p, e.trans q⟩
  | .tup xs, ⟨ys, r, q⟩ => ⟨ys, r.mono p, by
      rcases q with (q | ⟨o, q⟩) | q
      · exact .inl (.inl (e.trans q))
      · exact .inl (.inr ⟨o, e.trans q⟩)
      · exact .inr q⟩
  | .dct kvs, ⟨ys, r, q⟩ => ⟨ys, RK.mono p r, e.trans q⟩
  | .ins C fs, ⟨dx, ys, q, k, r⟩ => ⟨dx, ys, e.trans q, k, Paired.imp (fun _ _ r => ⟨r.1, RV.mono p r.2⟩) r⟩
  | .xd fs, ⟨ys, q, r⟩ => ⟨ys, e.trans q, Paired.imp (fun _ _ r => ⟨r.1, RV.mono p r.2⟩) r⟩
  | .frz (.lst xs), ⟨ys, r, q⟩ => ⟨ys, r.mono p, by
      rcases q with (q | ⟨o, q⟩) | q
      · exact .inl (.inl (e.trans q))
      · exact .inl (.inr ⟨o, e.trans q⟩)
      · exact .inr q⟩
  | .frz (.dct kvs), ⟨ys, o, r, q⟩ => ⟨ys, o, RK.mono p r, e.trans q⟩
  | .frz (.tup _), h => h.elim
  | .frz (.ins _ _), h => h.elim
  | .frz (.xd _), h => h.elim
  | .frz (.frz _), h => h.elim

/-- an object of the module itself -/
def RCK (W : Nm) (am : List Addr) (a : Addr) : Cell → Prop
  | .tup xs => ∃ ys, RVs am xs ys ∧ ∀ H, SqT W.K H a ys
  | .frz (.lst xs) => ∃ ys, RVs am xs ys ∧ ∀ H, SqL W.K H a ys
  | _ => False
theorem RCK.rc {W : Nm} {am : List Addr} {H : Hp} {a : Addr} : ∀ {c : Cell}, RCK W am a c → RC W am H a c
  | .tup _, ⟨ys, r, q⟩ => ⟨ys, r, q H⟩
  | .frz (.lst _), ⟨ys, r, q⟩ => ⟨ys, r, q H⟩
  | .lst _, h => h.elim
  | .dct _, h => h.elim
  | .ins _ _, h => h.elim
  | .xd _, h => h.elim
  | .frz (.dct _), h => h.elim
  | .frz (.tup _), h => h.elim
  | .frz (.ins _ _), h => h.elim
  | .frz (.xd _), h => h.elim
  | .frz (.frz _), h => h.elim
theorem RCK.mono {W : Nm} {am am' : List Addr} {a : Addr} (p : Pf am am') : ∀ {c : Cell}, RCK W am a c → RCK W am' a c
  | .tup _, ⟨ys, r, q⟩ => ⟨ys, r.mono p, q⟩
  | .frz (.lst _), ⟨ys, r, q⟩ => ⟨ys, r.mono p, q⟩
  | .lst _, h => h.elim
  | .dct _, h => h.elim
  | .ins _ _, h => h.elim
  | .xd _, h => h.elim
  | .frz (.dct _), h => h.elim
  | .frz (.tup _), h => h.elim
  | .frz (.ins _ _), h => h.elim
  | .frz (.xd _), h => h.elim
  | .frz (.frz _), h => h.elim
theorem RC.kl {W : Nm} {am : List Addr} {H : Hp} {a : Addr} (hn : H a = none) : ∀ {c : Cell}, RC W am H a c → RCK W am a c
  | .lst _, ⟨_, _, q⟩ => by rw [hn] at q; cases q
  | .tup _, ⟨ys, r, q⟩ => ⟨ys, r, fun H' => by
      rcases q with (q | ⟨o, q⟩) | q
      · rw [hn] at q; cases q
      · rw [hn] at q; cases q
      · exact .inr q⟩
  | .dct _, ⟨_, _, q⟩ => by rw [hn] at q; cases q
  | .ins _ _, ⟨_, _, q, _⟩ => by rw [hn] at q; cases q
  | .xd _, ⟨_, q, _⟩ => by rw [hn] at q; cases q
  | .frz (.lst _), ⟨ys, r, q⟩ => ⟨ys, r, fun H' => by
      rcases q with (q | ⟨o, q⟩) | q
      · rw [hn] at q; cases q
      · rw [hn] at q; cases q
      · exact .inr q⟩
  | .frz (.dct _), ⟨_, _, _, q⟩ => by rw [hn] at q; cases q
  | .frz (.tup _), h => h.elim
  | .frz (.ins _ _), h => h.elim
  | .frz (.xd _), h => h.elim
  | .frz (.frz _), h => h.elim

structure Sim (W : Nm) (am : List Addr) (h : Hh) (H : Hp) : Prop where
  len : am.length = h.length
  cell : ∀ (i : Nat) (c : Cell) (a : Addr), h[i]? = some c → am[i]? = some a → RC W am H a c
  inj : ∀ (i j : Nat) (a : Addr) (c d : Cell), am[i]? = some a → am[j]? = some a → h[i]? = some c → h[j]? = some d → i ≠ j → RCK W am a c ∨ RCK W am a d

section
variable {W : Nm} {am : List Addr} {h : Hh} {H : Hp}
theorem get_snoc {α : Type} {l : List α} {x y : α} {i : Nat} (e : (l ++ [x])[i]? = some y) : (i < l.length ∧ l[i]? = some y) ∨ (i = l.length ∧ x = y) := by
  by_cases hi : i < l.length
  · rw [List.getElem?_append_left hi] at e
    exact .inl ⟨hi, e⟩
  · rw [List.getElem?_append_right (Nat.le_of_not_lt hi)] at e
    cases hz : i - l.length with
    | zero =>
      rw [hz] at e
      simp at e
      exact .inr ⟨by omega, e⟩
    | succ n =>
      rw [hz] at e
      simp at e
/-- a new object -/
theorem Sim.push (S : Sim W am h H) {p : Addr} {o : HO} {c : Cell} (hp : H p = none) (rc : RC W (am ++ [p]) (upd H p o) p c) : Sim W (am ++ [p]) (h ++ [c]) (upd H p o) := by
  have kl : ∀ (i : Nat) (c' : Cell), h[i]? = some c' → am[i]? = some p → RCK W (am ++ [p]) p c' := fun i c' hc ha => ((S.cell i c' p hc ha).kl hp).mono (Pf.snoc _ _)
  refine ⟨by simp [S.len], fun i c' a hc ha => ?_, fun i j a c1 c2 hi hj h1 h2 ne => ?_⟩
  · rcases get_snoc hc with ⟨l1, hc2⟩ | ⟨l1, e1⟩
    · rcases get_snoc ha with ⟨l2, ha2⟩ | ⟨l2, e2⟩
      · by_cases q : a = p
        · subst q
          exact (kl i c' hc2 ha2).rc
        · exact (S.cell i c' a hc2 ha2).mono (Pf.snoc _ _) (upd_ne q)
      · have := S.len
        omega
    · rcases get_snoc ha with ⟨l2, ha⟩ | ⟨l2, e2⟩
      · have := S.len
        omega
      · subst e1 e2
        exact rc
  · have L := S.len
    rcases get_snoc hi with ⟨l1, hi⟩ | ⟨l1, e1⟩
    · rcases get_snoc h1 with ⟨l3, h1⟩ | ⟨l3, e3⟩
      · rcases get_snoc hj with ⟨l2, hj⟩ | ⟨l2, e2⟩
        · rcases get_snoc h2 with ⟨l4, h2⟩ | ⟨l4, e4⟩
          · rcases S.inj i j a c1 c2 hi hj h1 h2 ne with z | z
            · exact .inl (z.mono (Pf.snoc _ _))
            · exact .inr (z.mono (Pf.snoc _ _))
          · omega
        · subst e2
          exact .inl (kl i c1 h1 hi)
      · omega
    · subst e1
      rcases get_snoc hj with ⟨l2, hj⟩ | ⟨l2, e2⟩
      · rcases get_snoc h2 with ⟨l4, h2⟩ | ⟨l4, e4⟩
        · exact .inr (kl j c2 h2 hj)
        · omega
      · omega
/-- an object changed -/
theorem Sim.set (S : Sim W am h H) {i : Nat} {a : Addr} {c c' : Cell} {o : HO} (hi : h[i]? = some c) (ha : am[i]? = some a) (nk : ¬ RCK W am a c) (rc : RC W am (upd H a o) a c') (nk' : ¬ RCK W am a c') : Sim W am (h.set i c') (upd H a o) := by
  have il := (List.getElem?_eq_some_iff.mp hi).1
  have get : ∀ (j : Nat) (d : Cell), (h.set i c')[j]? = some d → (j = i ∧ d = c') ∨ (j ≠ i ∧ h[j]? = some d) := fun j d e => by
    by_cases q : j = i
    · subst q
      rw [List.getElem?_set_self il] at e
      exact .inl ⟨rfl, (Option.some.inj e).symm⟩
    · rw [List.getElem?_set_ne (Ne.symm q)] at e
      exact .inr ⟨q, e⟩
  have other : ∀ (j : Nat) (d : Cell), j ≠ i → h[j]? = some d → am[j]? = some a → RCK W am a d := fun j d ne hd hj => by
    rcases S.inj i j a c d ha hj hi hd (Ne.symm ne) with z | z
    · exact absurd z nk
    · exact z
  refine ⟨by rw [List.length_set]; exact S.len, fun j d b hd hb => ?_, fun j k b d e hj hk h1 h2 ne => ?_⟩
  · rcases get j d hd with ⟨rfl, rfl⟩ | ⟨ne, hd⟩
    · rw [ha] at hb
      cases hb
      exact rc
    · by_cases q : b = a
      · subst q
        exact (other j d ne hd hb).rc
      · exact (S.cell j d b hd hb).mono (Pf.refl _) (upd_ne q)
  · rcases get j d h1 with ⟨e1, e2⟩ | ⟨nj, h1'⟩
    · rw [e1, ha] at hj
      cases hj
      rcases get k e h2 with ⟨e3, e4⟩ | ⟨nk2, h2'⟩
      · exact absurd (e1.trans e3.symm) ne
      · exact .inr (other k e nk2 h2' hk)
    · rcases get k e h2 with ⟨e1, e2⟩ | ⟨nk2, h2'⟩
      · rw [e1, ha] at hk
        cases hk
        exact .inl (other j d nj h1' hj)
      · exact S.inj j k b d e hj hk h1' h2' ne
theorem Sim.addr (S : Sim W am h H) {i : Nat} {c : Cell} (hi : h[i]? = some c) : ∃ a, am[i]? = some a := by
  have il := (List.getElem?_eq_some_iff.mp hi).1
  rw [← S.len] at il
  exact ⟨_, List.getElem?_eq_getElem il⟩

/-! ### reading -/
theorem Sim.lst (S : Sim W am h H) {v w : V} {xs : List V} (r : RV am v w) (e : lstAt h v = some xs) : ∃ p ys, w = .ref p ∧ SqL W.K H p ys ∧ RVs am xs ys := by
  cases v with
  | ref i =>
    obtain ⟨a, ha, rfl⟩ := r
    unfold lstAt at e
    dsimp only at e
    split at e
    · rename_i zs hc
      cases e
      obtain ⟨ys, q, z⟩ := S.cell i _ a hc ha
      exact ⟨a, ys, rfl, .of z, q⟩
    · rename_i zs hc
      cases e
      obtain ⟨ys, q, z⟩ := S.cell i _ a hc ha
      exact ⟨a, ys, rfl, z, q⟩
    · cases e
  | _ => cases e
theorem Sim.tup (S : Sim W am h H) {v w : V} {xs : List V} (r : RV am v w) (e : tupAt h v = some xs) : ∃ p ys, w = .ref p ∧ SqT W.K H p ys ∧ RVs am xs ys := by
  cases v with
  | ref i =>
    obtain ⟨a, ha, rfl⟩ := r
    unfold tupAt at e
    dsimp only at e
    split at e
    · rename_i zs hc
      cases e
      obtain ⟨ys, q, z⟩ := S.cell i _ a hc ha
      exact ⟨a, ys, rfl, z, q⟩
    · cases e
  | _ => cases e
theorem Sim.seq (S : Sim W am h H) {v w : V} {xs : List V} (r : RV am v w) (e : seqAt h v = some xs) : ∃ p ys, w = .ref p ∧ (SqL W.K H p ys ∨ SqT W.K H p ys) ∧ RVs am xs ys := by
  unfold seqAt at e
  split at e
  · rename_i zs hz
    cases e
    obtain ⟨p, ys, a, b, c⟩ := S.lst r hz
    exact ⟨p, ys, a, .inl b, c⟩
  · obtain ⟨p, ys, a, b, c⟩ := S.tup r e
    exact ⟨p, ys, a, .inr b, c⟩
theorem flat_of {am : List Addr} : ∀ {v w : V}, RV am v w → flatV v = true → w = v
  | .non, _, h, _ => h
  | .bl _, _, h, _ => h
  | .int _, _, h, _ => h
  | .str _, _, h, _ => h
  | .byt _, _, _, f => Bool.noConfusion f
  | .flt _, _, _, f => Bool.noConfusion f
  | .ty _, _, _, f => Bool.noConfusion f
  | .ref _, _, _, f => Bool.noConfusion f
theorem flats_of {am : List Addr} : ∀ {xs ys : List V}, RVs am xs ys → xs.all flatV = true → ys = xs
  | _, _, .nil, _ => rfl
  | _, _, .cons r t, f => by
    rw [List.all_cons, Bool.and_eq_true] at f
    rw [flat_of r f.1, flats_of t f.2]
theorem atI_rel {am : List Addr} {xs ys : List V} {i : Int} {v : V} (r : RVs am xs ys) (e : atI xs i = some v) : ∃ w, atI ys i = some w ∧ RV am v w := by
  unfold atI at e ⊢
  rw [← Paired.len r]
  cases q : ixN xs.length i with
  | none => rw [q] at e; cases e
  | some j =>
    rw [q] at e
    obtain ⟨w, h1, h2⟩ := Paired.get r (show xs[j]? = some v from e)
    exact ⟨w, h1, h2⟩
mutual
theorem dat_dp (S : Sim W am h H) : ∀ (n : Nat) {v w : V} {d : PyData}, RV am v w → dat h n v = some d → Dp W.K H w d
  | 0, .non, _, _, r, e => by cases r; cases e; exact .non
  | 0, .bl _, _, _, r, e => by cases r; cases e; exact .bl _
  | 0, .int _, _, _, r, e => by cases r; cases e; exact .int _
  | 0, .str _, _, _, r, e => by cases r; cases e; exact .str _
  | 0, .byt _, _, _, _, e => by cases e
  | 0, .flt _, _, _, _, e => by cases e
  | 0, .ty _, _, _, _, e => by cases e
  | 0, .ref _, _, _, _, e => by cases e
  | n + 1, .non, _, _, r, e => by cases r; cases e; exact .non
  | n + 1, .bl _, _, _, r, e => by cases r; cases e; exact .bl _
  | n + 1, .int _, _, _, r, e => by cases r; cases e; exact .int _
  | n + 1, .str _, _, _, r, e => by cases r; cases e; exact .str _
  | n + 1, .byt _, _, _, _, e => by simp [dat, lstAt, tupAt] at e
  | n + 1, .flt _, _, _, _, e => by simp [dat, lstAt, tupAt] at e
  | n + 1, .ty _, _, _, _, e => by simp [dat, lstAt, tupAt] at e
  | n + 1, .ref i, w, d, r, e => by
    rw [dat] at e
    split at e
    · rename_i xs hx
      obtain ⟨p, ys, rfl, q, rs⟩ := S.lst r hx
      cases hd : dats (dat h n) xs with
      | none => rw [hd] at e; cases e
      | some ds =>
        rw [hd] at e
        cases e
        exact .lst q (dats_dp S n rs hd)
    · split at e
      · rename_i xs hx
        obtain ⟨p, ys, rfl, q, rs⟩ := S.tup r hx
        cases hd : dats (dat h n) xs with
        | none => rw [hd] at e; cases e
        | some ds =>
          rw [hd] at e
          cases e
          exact .tup q (dats_dp S n rs hd)
      · cases e
    · intro z; cases z
    · intro z q; cases q
    · intro z q; cases q
    · intro z q; cases q
theorem dats_dp (S : Sim W am h H) : ∀ (n : Nat) {xs ys : List V} {ds : List PyData}, RVs am xs ys → dats (dat h n) xs = some ds → DpAll W.K H ys ds
  | n, [], _, _, .nil, e => by cases e; exact .nil
  | n, x :: xs, _, ds, .cons r t, e => by
    rw [dats] at e
    split at e
    · rename_i d ds' h1 h2
      cases e
      exact .cons (dat_dp S n r h1) (dats_dp S n t h2)
    · cases e
end
end
end QM

/-! QM3: operations -/
namespace QM
open PySem L2 PyProof.Rows

def RD (am : List Addr) : Option Nat → Option Addr → Prop
  | none, none => True
  | some i, some a => am[i]? = some a
  | _, _ => False
theorem RD.mono {am am' : List Addr} (p : Pf am am') : ∀ {d : Option Nat} {e : Option Addr}, RD am d e → RD am' d e
  | none, none, h => h
  | some _, some _, h => p.get h
  | none, some _, h => h.elim
  | some _, none, h => h.elim
section
variable {α β γ δ : Type}
def Post (W : Nm) (wx : WX) (R : List Addr → α → β → Prop) (am : List Addr) (σ : L2.St) (r : Res α) (Q : β → Hp → Prop) : Prop :=
  match r with
  | .ok v h => ∀ am' w H', Pf am am' → Sim W am' h H' → R am' v w → Q w H'
  | .exc c d h => ∀ am' dd H', Pf am am' → Sim W am' h H' → RD am' d dd → wx (.ref (W.ca c)) dd σ H'
  | .bad => False
def tR (W : Nm) (wx : WX) (R : List Addr → α → β → Prop) (sem : Sl → Hh → Res α) : L2.St → Hp → (β → Hp → Prop) → Prop :=
  fun σ H Q => ∃ am s h, RSl am s σ ∧ Sim W am h H ∧ Post W wx R am σ (sem s h) Q
abbrev tE (W : Nm) (wx : WX) (sem : Sl → Hh → Res V) : TE := tR W wx RV sem
abbrev RB : List Addr → Bool → Bool → Prop := fun _ a b => b = a
abbrev tT (W : Nm) (wx : WX) (sem : Sl → Hh → Res Bool) : TT := tR W wx RB sem
abbrev tA (W : Nm) (wx : WX) (sem : Sl → Hh → Res (List V)) : TA := tR W wx RVs sem
variable {W : Nm} {wx : WX} {R : List Addr → α → β → Prop} {R2 : List Addr → γ → δ → Prop} {am : List Addr} {σ : L2.St}
theorem Post.mono {am' : List Addr} (p : Pf am am') {r : Res α} {Q : β → Hp → Prop} (h : Post W wx R am σ r Q) : Post W wx R am' σ r Q := by
  cases r with
  | ok v h' => exact fun am2 w H' p2 S r => h am2 w H' (p.trans p2) S r
  | exc c d h' => exact fun am2 w H' p2 S r => h am2 w H' (p.trans p2) S r
  | bad => exact h
theorem Post.of_bind {r : Res α} {k : α → Hh → Res γ} {Q : δ → Hp → Prop} {Q1 : β → Hp → Prop} (h : Post W wx R2 am σ (r.bind k) Q)
    (f : ∀ am' v w h' H', Pf am am' → Sim W am' h' H' → R am' v w → Post W wx R2 am' σ (k v h') Q → Q1 w H') : Post W wx R am σ r Q1 := by
  cases r with
  | ok v h' => exact fun am' w H' p S rv => f am' v w h' H' p S rv (Post.mono p h)
  | exc c d h' => exact h
  | bad => exact h
theorem Post.at {v : α} {w : β} {h' : Hh} {H' : Hp} {Q : β → Hp → Prop} (P : Post W wx R am σ (.ok v h') Q) (S : Sim W am h' H') (r : R am v w) : Q w H' := P am w H' (Pf.refl _) S r
end

/-- an operation's good end -/
abbrev Ok1 (W : Nm) (am : List Addr) (r : Res V) (Q : VK) : Prop :=
  match r with
  | .ok v h2 => ∀ am' w H', Pf am am' → Sim W am' h2 H' → RV am' v w → Q w H'
  | _ => False
theorem Ok1.at {W : Nm} {am : List Addr} {v w : V} {h : Hh} {H : Hp} {Q : VK} (P : Ok1 W am (.ok v h) Q) (S : Sim W am h H) (r : RV am v w) : Q w H := P am w H (Pf.refl _) S r
/-- a machine's operation on two values, as a reading -/
def rS (W : Nm) (sem : V → V → Hh → Res V) : L2.R2 := fun x y H Q => ∃ am x' y' h, RV am x' x ∧ RV am y' y ∧ Sim W am h H ∧ Ok1 W am (sem x' y' h) Q
def NX (sem : V → V → Hh → Res V) : Prop := ∀ x y h c d h', sem x y h ≠ .exc c d h'
theorem rS_of {W : Nm} {wx : WX} {sem : V → V → Hh → Res V} (nx : NX sem) {am : List Addr} {x y x' y' : V} {h : Hh} {H : Hp} {σ : L2.St} {Q : VK} (rx : RV am x' x) (ry : RV am y' y) (S : Sim W am h H) (P : Post W wx RV am σ (sem x' y' h) Q) : rS W sem x y H Q := by
  refine ⟨am, x', y', h, rx, ry, S, ?_⟩
  cases e : sem x' y' h with
  | ok v h2 => rw [e] at P; exact P
  | exc c d h2 => exact absurd e (nx _ _ _ _ _ _)
  | bad => rw [e] at P; exact P

/-! ### // by any divisor but 0 below 2 ^ 9000 -/
def CDivA (_ j : Int) : Prop := j ≠ 0 ∧ j.natAbs.log2 < 9000
theorem op_fdivA {X : Cx} : OpR X (binaryOp .FloorDiv) (rI CDivA fun i j => .int (i.fdiv j)) := opI fun _ _ _ _ _ _ _ hc q => floordiv_int hc.1 q (.inl (PyProof.noPylong_of_log2 hc.2))
theorem log2_le (n : Nat) (k : Nat) (h : n < 2 ^ k) (hk : 0 < k) : n.log2 < k := PySem.Flt.log2_lt_of hk h
theorem mul_ok {i j : Int} (h1 : i.natAbs < big) (h2 : j.natAbs < big) : CMulW i j := by
  unfold big at h1 h2
  exact wide_mul h1 h2 (by decide) (by decide) (by decide)
theorem line_eq : LINE = sizeLine := by rw [sizeLine_eq]; rfl

section
variable {X : Cx} {W : Nm} (hK : X.K = W.K)
theorem opS_add : OpR X (binaryOp .Add) (rS W (bop .add)) := by
  intro pins s σ H x y v u Q I rx ry ⟨am, x', y', h, r1, r2, S, P⟩
  have hb : bop .add x' y' h = bAdd h x' y' := rfl
  rw [hb] at P
  cases x' with
  | int i =>
    cases y' with
    | int j =>
      cases r1; cases r2
      exact op_add pins s σ H _ _ v u Q I rx ry ⟨i, j, rfl, rfl, P am _ _ (Pf.refl _) S rfl⟩
    | _ => exact P.elim
  | str i =>
    cases y' with
    | str j =>
      cases r1; cases r2
      unfold bAdd at P
      dsimp only at P
      split at P
      · rename_i hl
        have P := Ok1.at P S (w := .str (i ++ j)) rfl
        exact op_add_str pins s σ H _ _ v u Q I rx ry ⟨i, j, rfl, rfl, by rw [← line_eq]; exact hl, P⟩
      · exact P.elim
    | _ => exact P.elim
  | ref i =>
    cases y' with
    | ref j =>
      obtain ⟨a, ha, rfl⟩ := r1
      obtain ⟨b, hb', rfl⟩ := r2
      unfold bAdd at P
      dsimp only at P
      split at P
      · rename_i xs ys hx hy
        obtain ⟨xs', q1, e1⟩ := S.cell i _ a hx ha
        obtain ⟨ys', q2, e2⟩ := S.cell j _ b hy hb'
        by_cases hl : xs.length + ys.length ≤ LINE
        · rw [if_pos hl] at P
          refine op_cat pins s σ H _ _ v u Q I rx ry ⟨a, b, xs', ys', rfl, rfl, e1, e2, by rw [← Paired.len q1, ← Paired.len q2, ← line_eq]; exact hl, fun p hp => ?_⟩
          refine P _ _ _ (Pf.snoc am p) (S.push hp ⟨xs' ++ ys', RVs.mono (Pf.snoc _ _) (Paired.app q1 q2), upd_same⟩) ⟨p, ?_, rfl⟩
          rw [← S.len]
          simp
        · rw [if_neg hl] at P
          exact P.elim
      · exact P.elim
    | _ => exact P.elim
  | _ => exact P.elim
theorem opS_sub : OpR X (binaryOp .Sub) (rS W (bop .sub)) := by
  intro pins s σ H x y v u Q I rx ry ⟨am, x', y', h, r1, r2, S, P⟩
  cases x' with
  | int i =>
    cases y' with
    | int j =>
      cases r1; cases r2
      exact op_sub pins s σ H _ _ v u Q I rx ry ⟨i, j, rfl, rfl, P am _ _ (Pf.refl _) S rfl⟩
    | _ => exact P.elim
  | _ => exact P.elim
theorem opS_mul : OpR X (binaryOp .Mult) (rS W (bop .mul)) := by
  intro pins s σ H x y v u Q I rx ry ⟨am, x', y', h, r1, r2, S, P⟩
  have hb : bop .mul x' y' h = bMul h x' y' := rfl
  rw [hb] at P
  cases x' with
  | int i =>
    cases y' with
    | int j =>
      cases r1; cases r2
      unfold bMul at P
      dsimp only at P
      split at P
      · rename_i hc
        exact op_mulW pins s σ H _ _ v u Q I rx ry ⟨i, j, rfl, rfl, mul_ok hc.1 hc.2, P am _ _ (Pf.refl _) S rfl⟩
      · exact P.elim
    | _ => exact P.elim
  | _ => exact P.elim
theorem opS_fdiv : OpR X (binaryOp .FloorDiv) (rS W (bop .fdiv)) := by
  intro pins s σ H x y v u Q I rx ry ⟨am, x', y', h, r1, r2, S, P⟩
  have hb : bop .fdiv x' y' h = bDiv h x' y' := rfl
  rw [hb] at P
  cases x' with
  | int i =>
    cases y' with
    | int j =>
      cases r1; cases r2
      unfold bDiv at P
      dsimp only at P
      split at P
      · rename_i hc
        exact op_fdivA pins s σ H _ _ v u Q I rx ry ⟨i, j, rfl, rfl, hc, P am _ _ (Pf.refl _) S rfl⟩
      · exact P.elim
    | _ => exact P.elim
  | _ => exact P.elim
theorem opS_mod : OpR X (binaryOp .Mod) (rS W (bop .mod)) := by
  intro pins s σ H x y v u Q I rx ry ⟨am, x', y', h, r1, r2, S, P⟩
  have hb : bop .mod x' y' h = bMod h x' y' := rfl
  rw [hb] at P
  cases x' with
  | int i =>
    cases y' with
    | int j =>
      cases r1; cases r2
      unfold bMod at P
      dsimp only at P
      split at P
      · rename_i hc
        exact op_modN pins s σ H _ _ v u Q I rx ry ⟨i, j, rfl, rfl, hc, P am _ _ (Pf.refl _) S rfl⟩
      · exact P.elim
    | _ => exact P.elim
  | _ => exact P.elim
theorem opS_pow : OpR X (binaryOp .Pow) (rS W (bop .pow)) := by
  intro pins s σ H x y v u Q I rx ry ⟨am, x', y', h, r1, r2, S, P⟩
  have hb : bop .pow x' y' h = bPow h x' y' := rfl
  rw [hb] at P
  cases x' with
  | int i =>
    cases y' with
    | int j =>
      cases r1; cases r2
      unfold bPow at P
      dsimp only at P
      split at P
      · rename_i hc
        exact op_pow pins s σ H _ _ v u Q I rx ry ⟨i, j, rfl, rfl, hc, P am _ _ (Pf.refl _) S rfl⟩
      · exact P.elim
    | _ => exact P.elim
  | _ => exact P.elim
theorem scal_flat : ∀ {x y : V}, scal x y = true → (flatV x = true ∧ flatV y = true) ∨ (∃ a b, x = .byt a ∧ y = .byt b) := by
  intro x y h
  cases x <;> cases y <;> first | exact .inl ⟨rfl, rfl⟩ | exact .inr ⟨_, _, rfl, rfl⟩ | exact Bool.noConfusion h
theorem scal_rel {am : List Addr} {x y x' y' : V} (h : scal x' y' = true) (r1 : RV am x' x) (r2 : RV am y' y) : x = x' ∧ y = y' := by
  rcases scal_flat h with ⟨a, b⟩ | ⟨a, b, rfl, rfl⟩
  · exact ⟨flat_of r1 a, flat_of r2 b⟩
  · exact ⟨r1, r2⟩
include hK in
theorem opS_eq (hu : X.A.units + 64 < cLine) : OpR X (compareOp .Eq) (rS W (bop .eq)) := by
  intro pins s σ H x y v u Q I rx ry ⟨am, x', y', h, r1, r2, S, P⟩
  have hb : bop .eq x' y' h = bEq false h x' y' := rfl
  rw [hb] at P
  unfold bEq at P
  split at P
  · rename_i hs
    obtain ⟨e1, e2⟩ := scal_rel hs r1 r2
    subst e1 e2
    exact op_eq pins s σ H _ _ v u Q I rx ry ⟨hs, P am _ _ (Pf.refl _) S rfl⟩
  · split at P
    · rename_i d e h1 h2
      split at P
      · rename_i hs
        exact op_eqD hu pins s σ H _ _ v u Q I rx ry ⟨d, e, by rw [hK]; exact dat_dp S _ r1 h1, by rw [hK]; exact dat_dp S _ r2 h2, hs.1, hs.2, P am _ _ (Pf.refl _) S rfl⟩
      · exact P.elim
    · exact P.elim
include hK in
theorem opS_ne (hu : X.A.units + 64 < cLine) : OpR X (compareOp .NotEq) (rS W (bop .ne)) := by
  intro pins s σ H x y v u Q I rx ry ⟨am, x', y', h, r1, r2, S, P⟩
  have hb : bop .ne x' y' h = bEq true h x' y' := rfl
  rw [hb] at P
  unfold bEq at P
  split at P
  · rename_i hs
    obtain ⟨e1, e2⟩ := scal_rel hs r1 r2
    subst e1 e2
    exact op_ne pins s σ H _ _ v u Q I rx ry ⟨hs, P am _ _ (Pf.refl _) S rfl⟩
  · split at P
    · rename_i d e h1 h2
      split at P
      · rename_i hs
        exact op_neD hu pins s σ H _ _ v u Q I rx ry ⟨d, e, by rw [hK]; exact dat_dp S _ r1 h1, by rw [hK]; exact dat_dp S _ r2 h2, hs.1, hs.2, P am _ _ (Pf.refl _) S rfl⟩
      · exact P.elim
    · exact P.elim
theorem opS_lt : OpR X (compareOp .Lt) (rS W (bop .lt)) := by
  intro pins s σ H x y v u Q I rx ry ⟨am, x', y', h, r1, r2, S, P⟩
  cases x' with
  | int i =>
    cases y' with
    | int j =>
      cases r1; cases r2
      exact op_lt pins s σ H _ _ v u Q I rx ry ⟨i, j, rfl, rfl, P am _ _ (Pf.refl _) S rfl⟩
    | _ => exact P.elim
  | str i =>
    cases y' with
    | str j =>
      cases r1; cases r2
      exact op_lt_str pins s σ H _ _ v u Q I rx ry ⟨i, j, rfl, rfl, P am _ _ (Pf.refl _) S rfl⟩
    | _ => exact P.elim
  | _ => exact P.elim
theorem opS_le : OpR X (compareOp .LtE) (rS W (bop .le)) := by
  intro pins s σ H x y v u Q I rx ry ⟨am, x', y', h, r1, r2, S, P⟩
  cases x' with
  | int i =>
    cases y' with
    | int j =>
      cases r1; cases r2
      exact op_le pins s σ H _ _ v u Q I rx ry ⟨i, j, rfl, rfl, P am _ _ (Pf.refl _) S rfl⟩
    | _ => exact P.elim
  | _ => exact P.elim
theorem opS_gt : OpR X (compareOp .Gt) (rS W (bop .gt)) := by
  intro pins s σ H x y v u Q I rx ry ⟨am, x', y', h, r1, r2, S, P⟩
  cases x' with
  | int i =>
    cases y' with
    | int j =>
      cases r1; cases r2
      exact op_gt pins s σ H _ _ v u Q I rx ry ⟨i, j, rfl, rfl, P am _ _ (Pf.refl _) S rfl⟩
    | _ => exact P.elim
  | _ => exact P.elim
theorem opS_ge : OpR X (compareOp .GtE) (rS W (bop .ge)) := by
  intro pins s σ H x y v u Q I rx ry ⟨am, x', y', h, r1, r2, S, P⟩
  cases x' with
  | int i =>
    cases y' with
    | int j =>
      cases r1; cases r2
      exact op_ge pins s σ H _ _ v u Q I rx ry ⟨i, j, rfl, rfl, P am _ _ (Pf.refl _) S rfl⟩
    | _ => exact P.elim
  | _ => exact P.elim
theorem non_rel {am : List Addr} {x' x : V} (r : RV am x' x) : decide (x = .non) = decide (x' = .non) := by
  cases x' with
  | ref i =>
    obtain ⟨a, _, rfl⟩ := r
    rfl
  | _ => cases r; rfl
theorem opS_is : OpR X (compareOp .Is) (rS W (bop .is)) := by
  intro pins s σ H x y v u Q I rx ry ⟨am, x', y', h, r1, r2, S, P⟩
  have hb : bop .is x' y' h = bIs false h x' y' := rfl
  rw [hb] at P
  cases y' with
  | non =>
    cases r2
    refine op_isN pins s σ H _ _ v u Q I rx ry ⟨rfl, ?_⟩
    have P : ∀ am' w H', Pf am am' → Sim W am' h H' → RV am' (.bl (decide (x' = .non))) w → Q w H' := by cases x' <;> exact P
    rw [non_rel r1]
    exact P am _ _ (Pf.refl _) S rfl
  | bl b =>
    cases x' with
    | bl a =>
      cases r1; cases r2
      exact op_isBl pins s σ H _ _ v u Q I rx ry ⟨a, b, rfl, rfl, P am _ _ (Pf.refl _) S rfl⟩
    | _ => exact P.elim
  | _ => cases x' <;> exact P.elim
theorem opS_isNot : OpR X (compareOp .IsNot) (rS W (bop .isNot)) := by
  intro pins s σ H x y v u Q I rx ry ⟨am, x', y', h, r1, r2, S, P⟩
  have hb : bop .isNot x' y' h = bIs true h x' y' := rfl
  rw [hb] at P
  cases y' with
  | non =>
    cases r2
    refine op_notN pins s σ H _ _ v u Q I rx ry ⟨rfl, ?_⟩
    have P : ∀ am' w H', Pf am am' → Sim W am' h H' → RV am' (.bl (!decide (x' = .non))) w → Q w H' := by cases x' <;> exact P
    rw [non_rel r1]
    exact P am _ _ (Pf.refl _) S rfl
  | bl b =>
    cases x' with
    | bl a =>
      cases r1; cases r2
      exact op_notBl pins s σ H _ _ v u Q I rx ry ⟨a, b, rfl, rfl, P am _ _ (Pf.refl _) S rfl⟩
    | _ => exact P.elim
  | _ => cases x' <;> exact P.elim
include hK in
theorem opS_in : OpR X (compareOp .In) (rS W (bop .isin)) := by
  intro pins s σ H x y v u Q I rx ry ⟨am, x', y', h, r1, r2, S, P⟩
  have hb : bop .isin x' y' h = bIn false h x' y' := rfl
  rw [hb] at P
  cases y' with
  | str j =>
    cases x' with
    | str i =>
      cases r1; cases r2
      exact op_in_str pins s σ H _ _ v u Q I rx ry ⟨i, j, rfl, rfl, P am _ _ (Pf.refl _) S rfl⟩
    | _ => exact P.elim
  | ref k =>
    unfold bIn at P
    dsimp only at P
    cases hx : seqAt h (V.ref k) with
    | none =>
      rw [hx] at P
      exact P.elim
    | some xs =>
      rw [hx] at P
      dsimp only at P
      obtain ⟨p, ys, rfl, q, rs⟩ := S.seq r2 hx
      by_cases hf : flatV x' = true ∧ xs.all flatV = true
      · rw [if_pos hf] at P
        have e1 := flat_of r1 hf.1
        have e2 := flats_of rs hf.2
        subst e1 e2
        exact op_in_seq pins s σ H _ _ v u Q I rx ry ⟨p, _, rfl, by rw [hK]; exact q, hf.1, hf.2, P am _ _ (Pf.refl _) S rfl⟩
      · rw [if_neg hf] at P
        exact P.elim
  | _ => exact P.elim
include hK in
theorem opS_notin : OpR X (compareOp .NotIn) (rS W (bop .notin)) := by
  intro pins s σ H x y v u Q I rx ry ⟨am, x', y', h, r1, r2, S, P⟩
  have hb : bop .notin x' y' h = bIn true h x' y' := rfl
  rw [hb] at P
  cases y' with
  | str j =>
    cases x' with
    | str i =>
      cases r1; cases r2
      refine op_notin_str pins s σ H _ _ v u Q I rx ry ⟨i, j, rfl, rfl, ?_⟩
      rw [Bool.not_not]
      exact P am _ _ (Pf.refl _) S rfl
    | _ => exact P.elim
  | ref k =>
    unfold bIn at P
    dsimp only at P
    cases hx : seqAt h (V.ref k) with
    | none =>
      rw [hx] at P
      exact P.elim
    | some xs =>
      rw [hx] at P
      dsimp only at P
      obtain ⟨p, ys, rfl, q, rs⟩ := S.seq r2 hx
      by_cases hf : flatV x' = true ∧ xs.all flatV = true
      · rw [if_pos hf] at P
        have e1 := flat_of r1 hf.1
        have e2 := flats_of rs hf.2
        subst e1 e2
        exact op_notIn_seq pins s σ H _ _ v u Q I rx ry ⟨p, _, rfl, by rw [hK]; exact q, hf.1, hf.2, P am _ _ (Pf.refl _) S rfl⟩
      · rw [if_neg hf] at P
        exact P.elim
  | _ => exact P.elim
end
def arith : Bop → Option Operator
  | .add => some .Add | .sub => some .Sub | .mul => some .Mult | .fdiv => some .FloorDiv | .mod => some .Mod | .pow => some .Pow
  | _ => none
def cmpo : Bop → Option CmpOp
  | .eq => some .Eq | .ne => some .NotEq | .lt => some .Lt | .le => some .LtE | .gt => some .Gt | .ge => some .GtE
  | .is => some .Is | .isNot => some .IsNot | .isin => some .In | .notin => some .NotIn
  | _ => none
theorem arith_ok {X : Cx} {W : Nm} {o : Bop} {op : Operator} (e : arith o = some op) : OpR X (binaryOp op) (rS W (bop o)) := by
  cases o <;> cases e
  · exact opS_add
  · exact opS_sub
  · exact opS_mul
  · exact opS_fdiv
  · exact opS_mod
  · exact opS_pow
theorem cmp_ok {X : Cx} {W : Nm} (hK : X.K = W.K) (hu : X.A.units + 64 < cLine) {o : Bop} {op : CmpOp} (e : cmpo o = some op) : OpR X (compareOp op) (rS W (bop o)) := by
  cases o <;> cases e
  · exact opS_eq hK hu
  · exact opS_ne hK hu
  · exact opS_lt
  · exact opS_le
  · exact opS_gt
  · exact opS_ge
  · exact opS_is
  · exact opS_isNot
  · exact opS_in hK
  · exact opS_notin hK
theorem bop_nx (o : Bop) : NX (bop o) := by
  intro x y h c d h' e
  cases o <;> simp only [bop] at e
  all_goals
    first
    | (unfold bAdd at e; split at e <;> (try split at e) <;> (try split at e) <;> cases e)
    | (unfold bSub at e; split at e <;> (try split at e) <;> cases e)
    | (unfold bMul at e; split at e <;> (try split at e) <;> cases e)
    | (unfold bDiv at e; split at e <;> (try split at e) <;> cases e)
    | (unfold bMod at e; split at e <;> (try split at e) <;> cases e)
    | (unfold bPow at e; split at e <;> (try split at e) <;> cases e)
    | (unfold bEq at e; split at e <;> (try split at e) <;> (try split at e) <;> cases e)
    | (unfold bLt at e; split at e <;> (try split at e) <;> cases e)
    | (unfold bLe at e; split at e <;> (try split at e) <;> cases e)
    | (unfold bGt at e; split at e <;> (try split at e) <;> cases e)
    | (unfold bGe at e; split at e <;> (try split at e) <;> cases e)
    | (unfold bIs at e; split at e <;> (try split at e) <;> cases e)
    | (unfold bIn at e; split at e <;> (try split at e) <;> (try split at e) <;> cases e)
end QM

/-! QM4: expressions -/
namespace QM
open PySem L2 PyProof.Rows

/-! ### the printed terms against the text -/
structure Blk where
  N : List Str
  sc : Scope
  fns : List FD
  blt : List Str
def isLoc (sc : Scope) (x : Str) : Bool := match sc.names.lookup x with
  | some .local => true
  | some .cell => true
  | some .free => true
  | _ => false
def isGl (sc : Scope) (x : Str) : Bool := match sc.names.lookup x with
  | some .globalImplicit => true
  | _ => false
def okName (x : Str) : Bool := !(x == ("__debug__" : Str)) && !(x == ("__classdict__" : Str))
def mC : V → Const → Bool
  | .non, .none => true
  | .bl a, .bool b => a == b
  | .int i, .int j => i == j
  | .str x, .str y => decide (x = y)
  | _, _ => false
def Bi.name : Bi → Str
  | .len => "len" | .abs => "abs" | .max => "max" | .min => "min" | .int => "int"
def Bi.val : Bi → Value
  | .len => .builtin "len" | .abs => .builtin "abs" | .max => .builtin "max" | .min => .builtin "min" | .int => .type "int"
/-- a global name that is a built-in's -/
def isBl (B : Blk) (x : Str) : Bool := isGl B.sc x && B.blt.contains x && okName x && !(x == ("__name__" : Str))
mutual
def mE (B : Blk) : E → PySem.Expr → Bool
  | .c v, .Constant k _ _ => mC v k
  | .v i, .Name x _ => decide (B.N[i]? = some x) && isLoc B.sc x && okName x
  | .bin o a b, .BinOp x op y _ => decide (arith o = some op) && mE B a x && mE B b y
  | .bin o a b, .Compare x [op] [y] _ => decide (cmpo o = some op) && mE B a x && mE B b y
  | .neg a, .UnaryOp .USub x _ => mE B a x
  | .not a, .UnaryOp .Not x _ => mE B a x
  | .and a b, .BoolOp .And [x, y] _ => mE B a x && mE B b y
  | .and a b, .BoolOp .And (x :: y :: z :: r) p => mE B a x && (match b with
    | .and _ _ => mE B b (.BoolOp .And (y :: z :: r) p)
    | _ => false)
  | .or a b, .BoolOp .Or [x, y] _ => mE B a x && mE B b y
  | .or a b, .BoolOp .Or (x :: y :: z :: r) p => mE B a x && (match b with
    | .or _ _ => mE B b (.BoolOp .Or (y :: z :: r) p)
    | _ => false)
  | .chain o o' a b c, .Compare x [op, op'] [y, z] _ => decide (cmpo o = some op) && decide (cmpo o' = some op') && mE B a x && mE B b y && mE B c z
  | .ix a b, .Subscript x y _ => mE B a x && mE B b y
  | .bi f es, .Call (.Name x _) ys [] _ => decide (x = f.name) && isBl B x && (!ys.isEmpty) && mEs B es ys
  | .isTy t a, .Call (.Name x _) [y, .Name T _] [] _ => decide (x = ("isinstance" : Str)) && isBl B x && decide (T = (Str.ofString t.name)) && isBl B T && mE B a y
  | .lst es, .List ys _ => mEs B es ys
  | .tup es, .Tuple ys _ _ => mEs B es ys
  | .call f es, .Call (.Name x _) ys [] _ => (match B.fns[f]? with
    | some fd => decide (fd.name = x) && isGl B.sc x && okName x && mEs B es ys && decide (es.length = fd.np)
    | none => false)
  | _, _ => false
def mEs (B : Blk) : List E → List PySem.Expr → Bool
  | [], [] => true
  | e :: es, y :: ys => mE B e y && mEs B es ys
  | _, _ => false
end

/-- what every printed expression is not: a starred one, a set, a slice, a conditional, a call of super -/
def okX : PySem.Expr → Bool
  | .Starred _ _ => false
  | .Set _ _ _ => false
  | .Slice _ _ _ _ => false
  | .IfExp _ _ _ _ => false
  | .ListComp _ _ _ _ => false
  | .SetComp _ _ _ _ => false
  | .DictComp _ _ _ _ _ => false
  | .Lambda _ _ _ _ => false
  | .NamedExpr _ _ _ => false
  | _ => true
theorem mE_ok {B : Blk} {e : E} {y : PySem.Expr} (h : mE B e y = true) : okX y = true := by
  cases e <;> cases y <;> first | rfl | exact Bool.noConfusion h | simp [mE] at h

/-! ### plain lists of arguments -/
theorem star_cons {e : PySem.Expr} {es : List PySem.Expr} {env : PySem.Env} (h : okX e = true) : starEach (e :: es) env = (false, eval e env) :: starEach es env := by
  cases e <;> first | rfl | exact Bool.noConfusion h
theorem star_any {pos : Pos} {env : PySem.Env} : ∀ {es : List PySem.Expr}, (∀ e ∈ es, okX e = true) → (backTo pos (starEach es env)).any (·.1) = false
  | [], _ => rfl
  | e :: es, h => by
    rw [star_cons (h e List.mem_cons_self)]
    have ih := star_any (pos := pos) (env := env) fun x hx => h x (List.mem_cons_of_mem e hx)
    unfold backTo at ih ⊢
    rw [List.map_cons, List.any_cons, ih]
    rfl
theorem mEs_ok {B : Blk} : ∀ {es : List E} {ys : List PySem.Expr}, mEs B es ys = true → ∀ y ∈ ys, okX y = true
  | [], [], _, y, hy => absurd hy (by simp)
  | e :: es, y :: ys, h, z, hz => by
    rw [mEs, Bool.and_eq_true] at h
    rcases List.mem_cons.mp hz with rfl | hz
    · exact mE_ok h.1
    · exact mEs_ok h.2 z hz
  | [], _ :: _, h, _, _ => Bool.noConfusion h
  | _ :: _, [], h, _, _ => Bool.noConfusion h
theorem mEs_len {B : Blk} : ∀ {es : List E} {ys : List PySem.Expr}, mEs B es ys = true → es.length = ys.length
  | [], [], _ => rfl
  | e :: es, y :: ys, h => by
    rw [mEs, Bool.and_eq_true] at h
    rw [List.length_cons, List.length_cons, mEs_len h.2]
  | [], _ :: _, h => Bool.noConfusion h
  | _ :: _, [], h => Bool.noConfusion h
theorem behind_ok {op : CmpOp} {e : PySem.Expr} (h : okX e = true) : behindInMarks op e = false := by
  cases e <;> first | rfl | exact Bool.noConfusion h
theorem plainIx_ok {e : PySem.Expr} (h : okX e = true) : ∀ o i, subscripted e false o i = operate [o, i] (getItem o i) := by
  intro o i
  cases e <;> first | rfl | exact Bool.noConfusion h

/-! ### what is known of the place where the code stands -/
/-- a callee's promise: it comes to what the machine says -/
def spQ (W : Nm) (G : Cxt) (f n : Nat) : Sp := fun vs H Q E => ∃ am args h, RVs am args vs ∧ Sim W am h H ∧ args.length = n ∧ Post W (fun c d _ H => E c d H) RV am [] (G.call f args h) Q
structure Callee (X : Cx) (W : Nm) (G : Cxt) (i : Nat) (fd : FD) : Prop where
  ex : ∃ (f : Addr) (fdat : FuncData) (k : Nat), X.mg fd.name = some (.ref f) ∧ PySem.W.keepIn X.K (.ref f) = true ∧ Room k X.A ∧ Binds X.K fdat (fd.N.take fd.np) [] ∧
    FnOk X.prog X.w X.K X.mg X.base (L2.CX X.prog X.w) k f fdat (fd.N.take fd.np) (spQ W G i fd.np)
structure Cn (X : Cx) (W : Nm) (G : Cxt) (B : Blk) (wx : WX) : Prop where
  hK : X.K = W.K
  hN : X.N = B.N
  hs : X.env.scope = B.sc
  hc : X.calm = true
  nd : X.N.Nodup
  hu : X.A.units + 64 < cLine
  blt : ∀ b ∈ B.blt, X.mg b = none
  tk : Takes X wx
  own : ∀ Cl, W.okc Cl → ∀ (H : Hp) (a dx : Addr) (ys : List (Str × V)), H a = some (.ins (W.ca Cl) dx ys) → ∃ t, TyX X.K H (.ref a) t ∧ ∀ ty : Ty, PySem.W.kitOne X.K t (.type ty.name) = some false
  fns : ∀ i fd, B.fns[i]? = some fd → Callee X W G i fd

theorem PE.imp {X : Cx} {e : PySem.Expr} {t t' : TE} (h : PE X e t) (k : ∀ σ H Q, t' σ H Q → t σ H Q) : PE X e t' := ⟨fun pins s σ H Q I q => h.run pins s σ H Q I (k σ H Q q)⟩
theorem PT.imp {X : Cx} {e : PySem.Expr} {t t' : TT} (h : PT X e t) (k : ∀ σ H Q, t' σ H Q → t σ H Q) : PT X e t' := ⟨fun pins s σ H Q I q => h.run pins s σ H Q I (k σ H Q q)⟩
theorem PW.imp {X : Cx} {e : PySem.Expr} {t t' : TT} (h : PW X e t) (k : ∀ σ H Q, t' σ H Q → t σ H Q) : PW X e t' := ⟨fun whole pins s σ H Q I q => h.run whole pins s σ H Q I (k σ H Q q)⟩
theorem PA.imp {X : Cx} {e : List PySem.Expr} {t t' : TA} (h : PA X e t) (k : ∀ σ H Q, t' σ H Q → t σ H Q) : PA X e t' := ⟨fun pos pins s σ H Q I q => h.run pos pins s σ H Q I (k σ H Q q)⟩

/-! ### truth -/
theorem tru_ok' {W : Nm} {K : PySem.W.Frag} (hK : K = W.K) {am : List Addr} {h h2 : Hh} {H : Hp} {v w : V} {b : Bool} (S : Sim W am h H) (r : RV am v w) (e : tru v h = .ok b h2) : h2 = h ∧ TruV K w H b := by
  subst hK
  cases v with
  | non => cases r; cases e; exact ⟨rfl, rfl⟩
  | bl c => cases r; cases e; exact ⟨rfl, rfl⟩
  | int i => cases r; cases e; exact ⟨rfl, rfl⟩
  | str y =>
    cases r
    unfold tru at e
    dsimp only at e
    split at e
    · rename_i hl
      cases e
      exact ⟨rfl, by rw [← line_eq]; exact hl, rfl⟩
    · cases e
  | ref i =>
    unfold tru at e
    dsimp only at e
    cases hx : seqAt h (V.ref i) with
    | none => rw [hx] at e; cases e
    | some xs =>
      rw [hx] at e
      cases e
      obtain ⟨p, ys, rfl, q, rs⟩ := S.seq r hx
      have el : ys.isEmpty = xs.isEmpty := by cases rs <;> rfl
      refine ⟨rfl, ?_⟩
      rcases q with q | q
      · exact .inl ⟨ys, q, by rw [el]⟩
      · exact .inr (.inl ⟨ys, q, by rw [el]⟩)
  | _ =>
    unfold tru at e
    simp [seqAt, lstAt, tupAt] at e
theorem tru_nx {v : V} {h h' : Hh} {c : Nat} {d : Option Nat} : tru v h ≠ .exc c d h' := by
  intro e
  cases v <;> unfold tru at e <;> dsimp only at e <;> (try split at e) <;> cases e
/-- a truth's end -/
theorem tru_end {W : Nm} {wx : WX} {K : PySem.W.Frag} (hK : K = W.K) {am : List Addr} {h : Hh} {H : Hp} {σ : L2.St} {v w : V} {Q : Bool → Hp → Prop} (S : Sim W am h H) (r : RV am v w) (P : Post W wx RB am σ (tru v h) Q) : ∃ k, TruV K w H k ∧ Q k H := by
  cases e : tru v h with
  | ok b h2 =>
    obtain ⟨rfl, t⟩ := tru_ok' hK S r e
    rw [e] at P
    exact ⟨b, t, Post.at P S rfl⟩
  | exc c d h2 => exact absurd e tru_nx
  | bad => rw [e] at P; exact P.elim

/-! ### o[i], the built-in functions, isinstance -/
theorem ixs_nx : NX ixs := by
  intro x y h c d h' e
  unfold ixs at e
  split at e
  · split at e
    · split at e
      · split at e <;> cases e
      · cases e
    · split at e
      · split at e <;> cases e
      · cases e
  · cases e
theorem ix_seqs {X : Cx} : IxR X (fun x y H Q => rIxL X.K x y H Q ∨ rIxT X.K x y H Q ∨ rIxS x y H Q) := by
  intro value slice pins s σ H x y v u Q I rx ry h hs
  rcases h with h | h | h
  · exact ix_list value slice pins s σ H x y v u Q I rx ry h hs
  · exact ix_tup value slice pins s σ H x y v u Q I rx ry h hs
  · exact ix_str value slice pins s σ H x y v u Q I rx ry h hs
theorem ix_ok {X : Cx} {W : Nm} (hK : X.K = W.K) : IxR X (rS W ixs) := by
  intro value slice pins s σ H x y v u Q I rx ry ⟨am, x', y', h, r1, r2, S, P⟩ hs
  refine ix_seqs value slice pins s σ H x y v u Q I rx ry ?_ hs
  cases y' with
  | int i =>
    cases r2
    cases x' with
    | str z =>
      cases r1
      unfold ixs at P
      dsimp only at P
      by_cases hl : z.length ≤ LINE
      · rw [if_pos hl] at P
        cases ha : atI z.cps.toList i with
        | none => rw [ha] at P; exact P.elim
        | some c =>
          rw [ha] at P
          exact .inr (.inr ⟨z, i, c, rfl, rfl, by rw [← line_eq]; exact hl, ha, Ok1.at P S rfl⟩)
      · rw [if_neg hl] at P
        exact P.elim
    | ref k =>
      unfold ixs at P
      dsimp only at P
      cases hx : seqAt h (V.ref k) with
      | none => rw [hx] at P; exact P.elim
      | some xs =>
        rw [hx] at P
        dsimp only at P
        cases ha : atI xs i with
        | none => rw [ha] at P; exact P.elim
        | some v =>
          rw [ha] at P
          obtain ⟨p, ys, rfl, q, rs⟩ := S.seq r1 hx
          obtain ⟨w, hw, rw'⟩ := atI_rel rs ha
          rcases q with q | q
          · exact .inl ⟨p, ys, i, w, rfl, rfl, by rw [hK]; exact q, hw, Ok1.at P S rw'⟩
          · exact .inr (.inl ⟨p, ys, i, w, rfl, rfl, by rw [hK]; exact q, hw, Ok1.at P S rw'⟩)
    | _ => exact (show False from P).elim
  | _ => unfold ixs at P; exact P.elim
def rB (W : Nm) (sem : List V → Hh → Res V) : List V → Hp → VK → Prop := fun xs H Q => ∃ am vs h, RVs am vs xs ∧ Sim W am h H ∧ Ok1 W am (sem vs h) Q
theorem len_ok {X : Cx} {W : Nm} (hK : X.K = W.K) {am : List Addr} {v w : V} {h : Hh} {H : Hp} {Q : VK} (r : RV am v w) (S : Sim W am h H) (P : Ok1 W am (bLen v h) Q) :
    (∃ x : Str, [w] = [V.str x] ∧ x.length ≤ sizeLine ∧ Q (.int x.length) H) ∨ ∃ p ys, [w] = [V.ref p] ∧ (SqL X.K H p ys ∨ SqT X.K H p ys) ∧ Q (.int ys.length) H := by
  cases v with
  | str y =>
    cases r
    unfold bLen at P
    dsimp only at P
    by_cases hl : y.length ≤ LINE
    · rw [if_pos hl] at P
      exact .inl ⟨y, rfl, by rw [← line_eq]; exact hl, Ok1.at P S rfl⟩
    · rw [if_neg hl] at P
      exact P.elim
  | ref k =>
    unfold bLen at P
    dsimp only at P
    cases hx : seqAt h (V.ref k) with
    | none => rw [hx] at P; exact P.elim
    | some xs =>
      rw [hx] at P
      obtain ⟨p, ys, rfl, q, rs⟩ := S.seq r hx
      refine .inr ⟨p, ys, rfl, by rw [hK]; exact q, ?_⟩
      rw [← Paired.len rs]
      exact Ok1.at P S rfl
  | _ => exact (show False from P).elim
theorem call_lenA {X : Cx} : CallR X (.builtin "len") (fun xs H Q => (∃ x : Str, xs = [V.str x] ∧ x.length ≤ sizeLine ∧ Q (.int x.length) H) ∨ ∃ p ys, xs = [V.ref p] ∧ (SqL X.K H p ys ∨ SqT X.K H p ys) ∧ Q (.int ys.length) H) := by
  intro pins s σ H xs us Q I r h
  rcases h with ⟨x, e, hl, q⟩ | ⟨p, ys, e, hq, q⟩
  · exact call_len_str pins s σ H xs us Q I r ⟨x, e, hl, q⟩
  · exact call_len_seq pins s σ H xs us Q I r ⟨p, ys, e, hq, q⟩
theorem bi_ok {X : Cx} {W : Nm} (hK : X.K = W.K) (hc : X.calm = true) (f : Bi) : CallR X f.val (rB W (bi f)) := by
  intro pins s σ H xs us Q I r ⟨am, vs, h, rs, S, P⟩
  cases f with
  | len =>
    cases rs with
    | nil => exact P.elim
    | cons r1 t =>
      cases t with
      | nil => exact call_lenA pins s σ H _ us Q I r (len_ok hK r1 S P)
      | cons _ _ => unfold bi at P; exact P.elim
  | abs =>
    cases rs with
    | nil => exact P.elim
    | @cons a b l1 l2 r1 t =>
      cases a with
      | int i =>
        cases t with
        | nil => cases r1; exact call_abs pins s σ H _ us Q I r ⟨i, rfl, Ok1.at P S rfl⟩
        | cons _ _ => exact P.elim
      | _ => cases t <;> exact P.elim
  | max =>
    cases rs with
    | nil => exact P.elim
    | @cons a b l1 l2 r1 t =>
      cases t with
      | nil => cases a <;> exact P.elim
      | @cons a2 b2 l3 l4 r2 t2 =>
        cases t2 with
        | nil =>
          cases a with
          | int i =>
            cases a2 with
            | int j => cases r1; cases r2; exact call_max2 hc pins s σ H _ us Q I r ⟨i, j, rfl, Ok1.at P S rfl⟩
            | _ => exact P.elim
          | _ => cases a2 <;> exact P.elim
        | cons _ _ => cases a <;> cases a2 <;> exact P.elim
  | min =>
    cases rs with
    | nil => exact P.elim
    | @cons a b l1 l2 r1 t =>
      cases t with
      | nil => cases a <;> exact P.elim
      | @cons a2 b2 l3 l4 r2 t2 =>
        cases t2 with
        | nil =>
          cases a with
          | int i =>
            cases a2 with
            | int j => cases r1; cases r2; exact call_min2 hc pins s σ H _ us Q I r ⟨i, j, rfl, Ok1.at P S rfl⟩
            | _ => exact P.elim
          | _ => cases a2 <;> exact P.elim
        | cons _ _ => cases a <;> cases a2 <;> exact P.elim
  | int =>
    cases rs with
    | nil => exact P.elim
    | @cons a b l1 l2 r1 t =>
      cases t with
      | nil =>
        cases a with
        | int i => cases r1; exact call_int1 pins s σ H _ us Q I r (.inl ⟨i, rfl, Ok1.at P S rfl⟩)
        | bl c => cases r1; exact call_int1 pins s σ H _ us Q I r (.inr ⟨c, rfl, Ok1.at P S rfl⟩)
        | _ => exact P.elim
      | cons _ _ => cases a <;> exact P.elim
theorem bi_nx (f : Bi) {vs : List V} {h h' : Hh} {c : Nat} {d : Option Nat} : bi f vs h ≠ .exc c d h' := by
  intro e
  unfold bi at e
  split at e
  · unfold bLen at e
    split at e
    · split at e <;> cases e
    · split at e <;> cases e
  all_goals cases e
theorem rB_of {W : Nm} {wx : WX} {sem : List V → Hh → Res V} (nx : ∀ vs h c d h', sem vs h ≠ .exc c d h') {am : List Addr} {vs xs : List V} {h : Hh} {H : Hp} {σ : L2.St} {Q : VK} (r : RVs am vs xs) (S : Sim W am h H) (P : Post W wx RV am σ (sem vs h) Q) : rB W sem xs H Q := by
  refine ⟨am, vs, h, r, S, ?_⟩
  cases e : sem vs h with
  | ok v h2 => rw [e] at P; exact P
  | exc c d h2 => exact absurd e (nx _ _ _ _ _)
  | bad => rw [e] at P; exact P
/-- the type of a value of ours -/
def Kd.ty : Kd → String
  | .non => "NoneType" | .bl => "bool" | .int => "int" | .str => "str" | .list => "list" | .tuple => "tuple" | .dict => "dict" | .own _ => ""
theorem kd_ok {W : Nm} {am : List Addr} {h : Hh} {H : Hp} {v w : V} {k : Kd} (S : Sim W am h H) (r : RV am v w) (e : kd h v = some k) (no : ∀ C, k ≠ .own C) : TyX W.K H w (.type k.ty) := by
  cases v with
  | non => cases r; cases e; exact .base .non
  | bl b => cases r; cases e; exact .base (.bl b)
  | int i => cases r; cases e; exact .base (.int i)
  | str x => cases r; cases e; exact .base (.str x)
  | ref i =>
    obtain ⟨a, ha, rfl⟩ := r
    unfold kd at e
    dsimp only at e
    split at e
    · rename_i xs hc
      cases e
      obtain ⟨ys, _, q⟩ := S.cell i _ a hc ha
      exact .base (.lst q)
    · rename_i xs hc
      cases e
      obtain ⟨ys, _, q⟩ := S.cell i _ a hc ha
      rcases q with (q | ⟨o, q⟩) | ⟨o, its, n, q, c, _⟩
      · exact .base (.lst q)
      · exact .base (.frz q)
      · exact .kList q c
    · rename_i xs hc
      cases e
      obtain ⟨ys, _, q⟩ := S.cell i _ a hc ha
      rcases q with (q | ⟨o, q⟩) | ⟨o, its, n, q, c, _⟩
      · exact .base (.tup q)
      · exact .fTuple q
      · exact .kTuple q c
    · rename_i xs hc
      cases e
      obtain ⟨ys, _, q⟩ := S.cell i _ a hc ha
      exact .base (.dK q)
    · rename_i xs hc
      cases e
      obtain ⟨ys, o, _, q⟩ := S.cell i _ a hc ha
      exact .fDict q
    · cases e
      exact absurd rfl (no _)
    · cases e
  | _ => cases e
theorem kd_own {W : Nm} {am : List Addr} {h : Hh} {H : Hp} {v w : V} {C : Nat} (S : Sim W am h H) (r : RV am v w) (e : kd h v = some (.own C)) : ∃ a dx ys, w = .ref a ∧ W.okc C ∧ H a = some (.ins (W.ca C) dx ys) := by
  cases v with
  | ref i =>
    obtain ⟨a, ha, rfl⟩ := r
    unfold kd at e
    dsimp only at e
    split at e
    all_goals try cases e
    rename_i fs hc
    obtain ⟨dx, ys, q, k, _⟩ := S.cell i _ a hc ha
    exact ⟨a, dx, ys, rfl, k, q⟩
  | _ => cases e
theorem kit_kd (k : Kd) (t : Ty) (no : ∀ C, k ≠ .own C) (K : PySem.W.Frag) : PySem.W.kitOne K (.type k.ty) (.type t.name) = some (k.isTy t) := by
  apply kit_ty
  cases k <;> cases t <;> first | decide +kernel | exact absurd rfl (no _)
end QM

/-! QM5: the printed expressions come to what the machine says -/
namespace QM
open PySem L2 PyProof.Rows

theorem bind_assoc {α β γ : Type} (r : Res α) (k : α → Hh → Res β) (k' : β → Hh → Res γ) : (r.bind k).bind k' = r.bind fun a h => (k a h).bind k' := by
  cases r <;> rfl
theorem cmp_bl {o : Bop} {op : CmpOp} (e : cmpo o = some op) {x y v : V} {h h2 : Hh} (r : bop o x y h = .ok v h2) : ∃ b, v = .bl b := by
  cases o <;> cases e <;> simp only [bop] at r
  · unfold bEq at r
    split at r
    · cases r; exact ⟨_, rfl⟩
    · split at r
      · split at r <;> cases r; exact ⟨_, rfl⟩
      · cases r
  · unfold bEq at r
    split at r
    · cases r; exact ⟨_, rfl⟩
    · split at r
      · split at r <;> cases r; exact ⟨_, rfl⟩
      · cases r
  · unfold bLt at r
    split at r <;> cases r <;> exact ⟨_, rfl⟩
  · unfold bLe at r
    split at r <;> cases r; exact ⟨_, rfl⟩
  · unfold bGt at r
    split at r <;> cases r; exact ⟨_, rfl⟩
  · unfold bGe at r
    split at r <;> cases r; exact ⟨_, rfl⟩
  · unfold bIs at r
    split at r <;> cases r <;> exact ⟨_, rfl⟩
  · unfold bIs at r
    split at r <;> cases r <;> exact ⟨_, rfl⟩
  · unfold bIn at r
    split at r
    · split at r <;> cases r; exact ⟨_, rfl⟩
    · split at r
      · split at r <;> cases r; exact ⟨_, rfl⟩
      · cases r
  · unfold bIn at r
    split at r
    · split at r <;> cases r; exact ⟨_, rfl⟩
    · split at r
      · split at r <;> cases r; exact ⟨_, rfl⟩
      · cases r

section
variable {X : Cx} {W : Nm} {G : Cxt} {B : Blk} {wx : WX}
theorem test_end {am : List Addr} {σ : L2.St} {H : Hp} {h : Hh} {sem : V → V → Hh → Res V} (nx : NX sem) (hb : ∀ x y h v h2, sem x y h = .ok v h2 → ∃ b, v = .bl b) {x y x' y' : V} {Q : Bool → Hp → Prop} (rx : RV am x' x) (ry : RV am y' y) (S : Sim W am h H)
    (P : Post W wx RB am σ ((sem x' y' h).bind tru) Q) : rS W sem x y H fun z H' => ∃ k, z = .bl k ∧ Q k H' := by
  refine ⟨am, x', y', h, rx, ry, S, ?_⟩
  cases e : sem x' y' h with
  | ok v h2 =>
    obtain ⟨b, rfl⟩ := hb _ _ _ _ _ e
    rw [e] at P
    intro am' w H' p S' r
    cases r
    exact ⟨b, rfl, P am' _ H' p S' rfl⟩
  | exc c d h2 => exact absurd e (nx _ _ _ _ _ _)
  | bad => rw [e] at P; exact P

structure OkE (X : Cx) (W : Nm) (G : Cxt) (wx : WX) (E : E) (e : PySem.Expr) : Prop where
  pe : PE X e (tE W wx (evE G E))
  pt : PT X e (tT W wx (evT G E))
  pw : ∀ op vs p, e = .BoolOp op vs p → PW X e (tT W wx (evT G E))

theorem pt_gen {e : PySem.Expr} {sem : Sl → Hh → Res V} (hK : X.K = W.K) (h : PE X e (tE W wx sem)) (he : ∀ whole, isTrue e X.env whole = (do let v ← whole; standAt e.pos; holding [v] (truthy v))) :
    PT X e (tT W wx fun s h => (sem s h).bind tru) := by
  refine PT.imp (pt_truth h he) ?_
  rintro σ H Q ⟨am, s, h, rs, S, P⟩
  exact ⟨am, s, h, rs, S, P.of_bind fun am' v w h' H' pf S' rv P' => tru_end hK S' rv P'⟩
theorem okE_gen {E : E} {e : PySem.Expr} (hK : X.K = W.K) (h : PE X e (tE W wx (evE G E))) (he : ∀ whole, isTrue e X.env whole = (do let v ← whole; standAt e.pos; holding [v] (truthy v))) (nb : ∀ op vs p, e ≠ .BoolOp op vs p) : OkE X W G wx E e :=
  ⟨h, pt_gen hK h he, fun op vs p q => absurd q (nb op vs p)⟩

theorem vis_of (C : Cn X W G B wx) {x : Str} (h : isLoc B.sc x = true) : Vis X.env.scope x := by
  rw [C.hs]
  unfold isLoc at h
  split at h
  · rename_i q; exact .inl q
  · rename_i q; exact .inr (.inl q)
  · rename_i q; exact .inr (.inr q)
  · cases h
theorem gl_of (C : Cn X W G B wx) {x : Str} (h : isGl B.sc x = true) : Gl X x := by
  show X.env.scope.names.lookup x = some .globalImplicit
  rw [C.hs]
  unfold isGl at h
  split at h
  · rename_i q; exact q
  · cases h
theorem okName1 {x : Str} (h : okName x = true) : (x == ("__debug__" : Str)) = false := by
  unfold okName at h
  rw [Bool.and_eq_true] at h
  simpa using h.1
theorem okName2 {x : Str} (h : okName x = true) : (x == ("__classdict__" : Str)) = false := by
  unfold okName at h
  rw [Bool.and_eq_true] at h
  simpa using h.2
theorem bl_of (C : Cn X W G B wx) {x : Str} (h : isBl B x = true) : Gl X x ∧ X.mg x = none ∧ x ≠ "__name__" ∧ (x == ("__debug__" : Str)) = false := by
  unfold isBl at h
  simp only [Bool.and_eq_true] at h
  obtain ⟨⟨⟨h1, h2⟩, h3⟩, h4⟩ := h
  exact ⟨gl_of C h1, C.blt x (by simpa using h2), by simpa using h4, okName1 h3⟩

theorem e_c (C : Cn X W G B wx) {v : V} {k : Const} {j : Nat} {p : Pos} (h : mC v k = true) : OkE X W G wx (.c v) (.Constant k j p) := by
  refine okE_gen C.hK ?_ (fun _ => rfl) (fun _ _ _ => by intro z; cases z)
  have go : ∀ (flat : flatV v = true), PE X (.Constant k j p) (tC v) → PE X (.Constant k j p) (tE W wx (evE G (.c v))) := fun flat h => by
    refine PE.imp h ?_
    rintro σ H Q ⟨am, s, h, rs, S, P⟩
    refine Post.at (w := v) P S ?_
    cases v <;> first | rfl | exact Bool.noConfusion flat
  cases v <;> cases k <;> first | exact Bool.noConfusion h | skip
  · exact go rfl pe_non
  · have e := eq_of_beq h
    subst e
    exact go rfl pe_bl
  · have e := eq_of_beq h
    subst e
    exact go rfl pe_int
  · have e := of_decide_eq_true h
    subst e
    exact go rfl pe_str
theorem e_v (C : Cn X W G B wx) {i : Nat} {x : Str} {p : Pos} (h1 : B.N[i]? = some x) (h2 : isLoc B.sc x = true) (h3 : okName x = true) : OkE X W G wx (.v i) (.Name x p) := by
  refine okE_gen C.hK ?_ (fun _ => rfl) (fun _ _ _ => by intro z; cases z)
  refine PE.imp (pe_var (i := i) (by rw [C.hN]; exact h1) (vis_of C h2) (okName1 h3) (okName2 h3)) ?_
  rintro σ H Q ⟨am, s, h, rs, S, P⟩
  simp only [evE] at P
  split at P
  · rename_i v hv
    obtain ⟨w, hw, r⟩ := Paired.get rs hv
    cases w with
    | none => exact r.elim
    | some w => exact ⟨w, hw, Post.at P S r⟩
  · exact P.elim
/-- two parts, then an operation on the values -/
theorem two_parts {A Bm : Sl → Hh → Res V} {sem : V → V → Hh → Res V} (nx : NX sem) {σ : L2.St} {H : Hp} {Q : VK} (h : tE W wx (fun s h => (A s h).bind fun x h => (Bm s h).bind fun y h => sem x y h) σ H Q) : tOp (rS W sem) (tE W wx A) (tE W wx Bm) σ H Q := by
  obtain ⟨am, s, h, rs, S, P⟩ := h
  refine ⟨am, s, h, rs, S, P.of_bind fun am1 v1 w1 h1 H1 p1 S1 r1 P1 => ?_⟩
  refine ⟨am1, s, h1, RSl.mono p1 rs, S1, P1.of_bind fun am2 v2 w2 h2 H2 p2 S2 r2 P2 => ?_⟩
  exact rS_of nx (RV.mono p2 r1) r2 S2 P2
theorem two_parts_t {A Bm : Sl → Hh → Res V} {sem : V → V → Hh → Res V} (nx : NX sem) (hb : ∀ x y h v h2, sem x y h = .ok v h2 → ∃ b, v = .bl b) {σ : L2.St} {H : Hp} {Q : Bool → Hp → Prop} (h : tT W wx (fun s h => ((A s h).bind fun x h => (Bm s h).bind fun y h => sem x y h).bind tru) σ H Q) :
    tTest (tOp (rS W sem) (tE W wx A) (tE W wx Bm)) σ H Q := by
  obtain ⟨am, s, h, rs, S, P⟩ := h
  dsimp only at P
  rw [bind_assoc] at P
  refine ⟨am, s, h, rs, S, P.of_bind fun am1 v1 w1 h1 H1 p1 S1 r1 P1 => ?_⟩
  rw [bind_assoc] at P1
  refine ⟨am1, s, h1, RSl.mono p1 rs, S1, P1.of_bind fun am2 v2 w2 h2 H2 p2 S2 r2 P2 => ?_⟩
  exact test_end nx hb (RV.mono p2 r1) r2 S2 P2
theorem e_arith (C : Cn X W G B wx) {o : Bop} {op : Operator} {A Bm : E} {a b : PySem.Expr} {p : Pos} (e : arith o = some op) (ha : OkE X W G wx A a) (hb : OkE X W G wx Bm b) : OkE X W G wx (.bin o A Bm) (.BinOp a op b p) := by
  refine okE_gen C.hK ?_ (fun _ => rfl) (fun _ _ _ => by intro z; cases z)
  refine PE.imp (pe_op (arith_ok (W := W) e) ha.pe hb.pe) ?_
  intro σ H Q h
  simp only [evE] at h
  exact two_parts (bop_nx o) h
theorem e_cmp (C : Cn X W G B wx) {o : Bop} {op : CmpOp} {A Bm : E} {a b : PySem.Expr} {p : Pos} (e : cmpo o = some op) (ha : OkE X W G wx A a) (hb : OkE X W G wx Bm b) (ok : okX b = true) : OkE X W G wx (.bin o A Bm) (.Compare a [op] [b] p) := by
  refine ⟨?_, ?_, fun _ _ _ z => by cases z⟩
  · refine PE.imp (pe_cmpR (cmp_ok C.hK C.hu e) ha.pe hb.pe (behind_ok ok)) ?_
    intro σ H Q h
    simp only [evE] at h
    exact two_parts (bop_nx o) h
  · refine PT.imp (pt_cmpR (cmp_ok C.hK C.hu e) ha.pe hb.pe (behind_ok ok)) ?_
    intro σ H Q h
    unfold evT at h
    simp only [evE] at h
    exact two_parts_t (bop_nx o) (fun _ _ _ _ _ r => cmp_bl e r) h
theorem e_neg (C : Cn X W G B wx) {A : E} {a : PySem.Expr} {p : Pos} (ha : OkE X W G wx A a) : OkE X W G wx (.neg A) (.UnaryOp .USub a p) := by
  refine okE_gen C.hK ?_ (fun _ => rfl) (fun _ _ _ => by intro z; cases z)
  refine PE.imp (pe_un un_neg ha.pe) ?_
  rintro σ H Q ⟨am, s, h, rs, S, P⟩
  simp only [evE] at P
  refine ⟨am, s, h, rs, S, P.of_bind fun am1 v1 w1 h1 H1 p1 S1 r1 P1 => ?_⟩
  cases v1 with
  | int i => cases r1; exact ⟨i, rfl, Post.at P1 S1 rfl⟩
  | _ => exact P1.elim
theorem e_not (C : Cn X W G B wx) {A : E} {a : PySem.Expr} {p : Pos} (ha : OkE X W G wx A a) : OkE X W G wx (.not A) (.UnaryOp .Not a p) := by
  refine ⟨?_, ?_, fun _ _ _ z => by cases z⟩
  · refine PE.imp (pe_notT ha.pe) ?_
    rintro σ H Q ⟨am, s, h, rs, S, P⟩
    simp only [evE] at P
    refine ⟨am, s, h, rs, S, P.of_bind fun am1 v1 w1 h1 H1 p1 S1 r1 P1 => ?_⟩
    cases e : tru v1 h1 with
    | ok b h2 =>
      obtain ⟨rfl, t⟩ := tru_ok' C.hK S1 r1 e
      rw [e] at P1
      exact ⟨b, t, Post.at P1 S1 rfl⟩
    | exc c d h2 => exact absurd e tru_nx
    | bad => rw [e] at P1; exact P1.elim
  · refine PT.imp (pt_not ha.pt) ?_
    rintro σ H Q ⟨am, s, h, rs, S, P⟩
    unfold evT at P
    simp only [evE] at P
    refine ⟨am, s, h, rs, S, ?_⟩
    unfold evT
    rw [bind_assoc] at P
    cases e : evE G A s h with
    | ok v h2 =>
      rw [e] at P
      show Post W wx RB am σ (tru v h2) _
      have P : Post W wx RB am σ (((tru v h2).bind fun b h => Res.ok (V.bl (!b)) h).bind tru) Q := P
      cases e2 : tru v h2 with
      | ok b h3 =>
        rw [e2] at P
        intro am' w H' pf S' r
        cases r
        exact P am' _ H' pf S' rfl
      | exc c d h3 => exact absurd e2 tru_nx
      | bad => rw [e2] at P; exact P
    | exc c d h2 => rw [e] at P; exact P
    | bad => rw [e] at P; exact P
theorem and_v {A Bm : E} {ta tb : TE} {σ : L2.St} {H : Hp} {Q : VK} (h : tE W wx (evE G (.and A Bm)) σ H Q) : tAndV (tE W wx (evE G A)) (tE W wx (evE G Bm)) σ H Q := by
  obtain ⟨am, s, h, rs, S, P⟩ := h
  simp only [evE] at P
  refine ⟨am, s, h, rs, S, P.of_bind fun am1 v1 w1 h1 H1 p1 S1 r1 P1 => ?_⟩
  cases v1 with
  | bl c =>
    cases r1
    refine ⟨c, rfl, ?_⟩
    cases c with
    | true => exact iteT ⟨am1, s, h1, RSl.mono p1 rs, S1, P1⟩
    | false => exact iteF (Post.at P1 S1 rfl)
  | _ => exact P1.elim
theorem or_v {A Bm : E} {ta tb : TE} {σ : L2.St} {H : Hp} {Q : VK} (h : tE W wx (evE G (.or A Bm)) σ H Q) : tOrV (tE W wx (evE G A)) (tE W wx (evE G Bm)) σ H Q := by
  obtain ⟨am, s, h, rs, S, P⟩ := h
  simp only [evE] at P
  refine ⟨am, s, h, rs, S, P.of_bind fun am1 v1 w1 h1 H1 p1 S1 r1 P1 => ?_⟩
  cases v1 with
  | bl c =>
    cases r1
    refine ⟨c, rfl, ?_⟩
    cases c with
    | true => exact iteT (Post.at P1 S1 rfl)
    | false => exact iteF ⟨am1, s, h1, RSl.mono p1 rs, S1, P1⟩
  | _ => exact P1.elim
theorem and_t {A Bm : E} {σ : L2.St} {H : Hp} {Q : Bool → Hp → Prop} (h : tT W wx (evT G (.and A Bm)) σ H Q) : tAnd (tT W wx (evT G A)) (tT W wx (evT G Bm)) σ H Q := by
  obtain ⟨am, s, h, rs, S, P⟩ := h
  unfold evT at P
  simp only [evE] at P
  refine ⟨am, s, h, rs, S, ?_⟩
  unfold evT
  rw [bind_assoc] at P
  cases e : evE G A s h with
  | ok v h2 =>
    rw [e] at P
    cases v with
    | bl c =>
      intro am' w H' pf S' r
      cases r
      cases c with
      | true => exact iteT ⟨am', s, h2, RSl.mono pf rs, S', Post.mono pf P⟩
      | false => exact iteF (P am' _ H' pf S' rfl)
    | _ => exact P.elim
  | exc c d h2 => rw [e] at P; exact P
  | bad => rw [e] at P; exact P
theorem or_t {A Bm : E} {σ : L2.St} {H : Hp} {Q : Bool → Hp → Prop} (h : tT W wx (evT G (.or A Bm)) σ H Q) : tOr (tT W wx (evT G A)) (tT W wx (evT G Bm)) σ H Q := by
  obtain ⟨am, s, h, rs, S, P⟩ := h
  unfold evT at P
  simp only [evE] at P
  refine ⟨am, s, h, rs, S, ?_⟩
  unfold evT
  rw [bind_assoc] at P
  cases e : evE G A s h with
  | ok v h2 =>
    rw [e] at P
    cases v with
    | bl c =>
      intro am' w H' pf S' r
      cases r
      cases c with
      | true => exact iteT (P am' _ H' pf S' rfl)
      | false => exact iteF ⟨am', s, h2, RSl.mono pf rs, S', Post.mono pf P⟩
    | _ => exact P.elim
  | exc c d h2 => rw [e] at P; exact P
  | bad => rw [e] at P; exact P
theorem e_and2 {A Bm : E} {a b : PySem.Expr} {p : Pos} (ha : OkE X W G wx A a) (hb : OkE X W G wx Bm b) : OkE X W G wx (.and A Bm) (.BoolOp .And [a, b] p) := by
  have w : PW X (.BoolOp .And [a, b] p) (tT W wx (evT G (.and A Bm))) := PW.imp (pw_and ha.pt (pw_and1 hb.pt)) fun _ _ _ h => and_t h
  exact ⟨PE.imp (pe_and ha.pe (pe_one hb.pe)) fun _ _ _ h => and_v (ta := tE W wx (evE G A)) (tb := tE W wx (evE G A)) h, w.pt, fun _ _ _ _ => w⟩
theorem e_and3 {A Bm : E} {a b c : PySem.Expr} {r : List PySem.Expr} {p : Pos} (ha : OkE X W G wx A a) (hb : OkE X W G wx Bm (.BoolOp .And (b :: c :: r) p)) : OkE X W G wx (.and A Bm) (.BoolOp .And (a :: b :: c :: r) p) := by
  have w : PW X (.BoolOp .And (a :: b :: c :: r) p) (tT W wx (evT G (.and A Bm))) := PW.imp (pw_and ha.pt (hb.pw _ _ _ rfl)) fun _ _ _ h => and_t h
  exact ⟨PE.imp (pe_and ha.pe hb.pe) fun _ _ _ h => and_v (ta := tE W wx (evE G A)) (tb := tE W wx (evE G A)) h, w.pt, fun _ _ _ _ => w⟩
theorem e_or2 {A Bm : E} {a b : PySem.Expr} {p : Pos} (ha : OkE X W G wx A a) (hb : OkE X W G wx Bm b) : OkE X W G wx (.or A Bm) (.BoolOp .Or [a, b] p) := by
  have w : PW X (.BoolOp .Or [a, b] p) (tT W wx (evT G (.or A Bm))) := PW.imp (pw_or ha.pt (pw_or1 hb.pt)) fun _ _ _ h => or_t h
  exact ⟨PE.imp (pe_or ha.pe (pe_one hb.pe)) fun _ _ _ h => or_v (ta := tE W wx (evE G A)) (tb := tE W wx (evE G A)) h, w.pt, fun _ _ _ _ => w⟩
theorem e_or3 {A Bm : E} {a b c : PySem.Expr} {r : List PySem.Expr} {p : Pos} (ha : OkE X W G wx A a) (hb : OkE X W G wx Bm (.BoolOp .Or (b :: c :: r) p)) : OkE X W G wx (.or A Bm) (.BoolOp .Or (a :: b :: c :: r) p) := by
  have w : PW X (.BoolOp .Or (a :: b :: c :: r) p) (tT W wx (evT G (.or A Bm))) := PW.imp (pw_or ha.pt (hb.pw _ _ _ rfl)) fun _ _ _ h => or_t h
  exact ⟨PE.imp (pe_or ha.pe hb.pe) fun _ _ _ h => or_v (ta := tE W wx (evE G A)) (tb := tE W wx (evE G A)) h, w.pt, fun _ _ _ _ => w⟩
theorem e_chain (C : Cn X W G B wx) {o o' : Bop} {op op' : CmpOp} {A Bm Cm : E} {a b c : PySem.Expr} {p : Pos} (e : cmpo o = some op) (e' : cmpo o' = some op') (ha : OkE X W G wx A a) (hb : OkE X W G wx Bm b) (hc : OkE X W G wx Cm c) (ok : okX c = true) :
    OkE X W G wx (.chain o o' A Bm Cm) (.Compare a [op, op'] [b, c] p) := by
  have hm : lastMarks [op, op'] [b, c] = false := behind_ok (op := op') ok
  have core : ∀ {σ : L2.St} {H : Hp} {Q : VK}, tE W wx (evE G (.chain o o' A Bm Cm)) σ H Q → tChain (rS W (bop o)) (rS W (bop o')) (tE W wx (evE G A)) (tE W wx (evE G Bm)) (tE W wx (evE G Cm)) σ H Q := fun {σ H Q} h => by
    obtain ⟨am, s, h, rs, S, P⟩ := h
    simp only [evE] at P
    refine ⟨am, s, h, rs, S, P.of_bind fun am1 v1 w1 h1 H1 p1 S1 r1 P1 => ?_⟩
    refine ⟨am1, s, h1, RSl.mono p1 rs, S1, P1.of_bind fun am2 v2 w2 h2 H2 p2 S2 r2 P2 => ?_⟩
    refine ⟨am2, v1, v2, h2, RV.mono p2 r1, r2, S2, ?_⟩
    cases q : bop o v1 v2 h2 with
    | ok z h3 =>
      obtain ⟨k, rfl⟩ := cmp_bl e q
      rw [q] at P2
      intro am3 w3 H3 p3 S3 r3
      cases r3
      refine ⟨k, rfl, ?_⟩
      cases k with
      | true =>
        have P3 : Post W wx RV am2 σ ((evE G Cm s h3).bind fun w h => bop o' v2 w h) Q := P2
        refine iteT ⟨am3, s, h3, RSl.mono ((p1.trans p2).trans p3) rs, S3, (Post.mono p3 P3).of_bind fun am4 v4 w4 h4 H4 p4 S4 r4 P4 => ?_⟩
        exact rS_of (bop_nx o') (RV.mono (p3.trans p4) r2) r4 S4 P4
      | false => exact iteF (P2 am3 _ H3 p3 S3 rfl)
    | exc c d h3 => exact absurd q (bop_nx o _ _ _ _ _ _)
    | bad => rw [q] at P2; exact P2
  refine ⟨PE.imp (pe_chain (cmp_ok C.hK C.hu e) (cmp_ok C.hK C.hu e') ha.pe hb.pe hc.pe hm) fun _ _ _ h => core h, ?_, fun _ _ _ z => by cases z⟩
  refine PT.imp (pt_chain (cmp_ok C.hK C.hu e) (cmp_ok C.hK C.hu e') ha.pe hb.pe hc.pe hm) fun σ H Q h => ?_
  refine core (Q := fun z H' => ∃ k, z = .bl k ∧ Q k H') ?_
  obtain ⟨am, s, h, rs, S, P⟩ := h
  refine ⟨am, s, h, rs, S, ?_⟩
  unfold evT at P
  have isB : ∀ v h2, evE G (.chain o o' A Bm Cm) s h = .ok v h2 → ∃ b, v = .bl b := fun v h2 r => by
    simp only [evE] at r
    cases q1 : evE G A s h with
    | ok v1 h1 =>
      rw [q1] at r
      dsimp only [Res.bind] at r
      cases q2 : evE G Bm s h1 with
      | ok v2 h3 =>
        rw [q2] at r
        dsimp only [Res.bind] at r
        cases q3 : bop o v1 v2 h3 with
        | ok z h4 =>
          rw [q3] at r
          dsimp only [Res.bind] at r
          split at r
          · cases q4 : evE G Cm s h4 with
            | ok v5 h5 =>
              rw [q4] at r
              exact cmp_bl e' r
            | exc _ _ _ => rw [q4] at r; cases r
            | bad => rw [q4] at r; cases r
          · cases r
            exact ⟨_, rfl⟩
          · cases r
        | exc _ _ _ => rw [q3] at r; cases r
        | bad => rw [q3] at r; cases r
      | exc _ _ _ => rw [q2] at r; cases r
      | bad => rw [q2] at r; cases r
    | exc _ _ _ => rw [q1] at r; cases r
    | bad => rw [q1] at r; cases r
  cases q : evE G (.chain o o' A Bm Cm) s h with
  | ok v h2 =>
    obtain ⟨b, rfl⟩ := isB v h2 q
    rw [q] at P
    intro am' w H' pf S' r
    cases r
    exact ⟨b, rfl, P am' _ H' pf S' rfl⟩
  | exc c d h2 => rw [q] at P; exact P
  | bad => rw [q] at P; exact P
theorem e_ix (C : Cn X W G B wx) {A Bm : E} {a b : PySem.Expr} {p : Pos} (ha : OkE X W G wx A a) (hb : OkE X W G wx Bm b) (ok : okX b = true) : OkE X W G wx (.ix A Bm) (.Subscript a b p) := by
  refine okE_gen C.hK ?_ (fun _ => rfl) (fun _ _ _ => by intro z; cases z)
  refine PE.imp (pe_ix (ix_ok C.hK) ha.pe hb.pe (plainIx_ok ok)) ?_
  intro σ H Q h
  simp only [evE] at h
  exact two_parts ixs_nx h
/-- arguments, then what is done with them -/
theorem args_then {es : List E} {sem : List V → Hh → Res V} {r : List V → Hp → VK → Prop} {σ : L2.St} {H : Hp} {Q : VK} (h : tE W wx (fun s h => (evEs G es s h).bind fun vs h => sem vs h) σ H Q)
    (k : ∀ am s vs xs h H, RSl am s σ → RVs am vs xs → Sim W am h H → Post W wx RV am σ (sem vs h) Q → r xs H Q) : tCB r (tA W wx (evEs G es)) σ H Q := by
  obtain ⟨am, s, h, rs, S, P⟩ := h
  exact ⟨am, s, h, rs, S, P.of_bind fun am1 v1 w1 h1 H1 p1 S1 r1 P1 => k am1 s v1 w1 h1 H1 (RSl.mono p1 rs) r1 S1 P1⟩
theorem bi_boot (f : Bi) : bootBuiltins f.name = some f.val := by cases f <;> decide +kernel
theorem e_bi (C : Cn X W G B wx) {f : Bi} {es : List E} {x : Str} {ys : List PySem.Expr} {p0 p : Pos} (hx : x = f.name) (hb : isBl B x = true) (ne : ys.isEmpty = false) (ok : ∀ y ∈ ys, okX y = true) (ha : PA X ys (tA W wx (evEs G es))) : OkE X W G wx (.bi f es) (.Call (.Name x p0) ys [] p) := by
  refine okE_gen C.hK ?_ (fun _ => rfl) (fun _ _ _ => by intro z; cases z)
  obtain ⟨hg, hm, hn, hd⟩ := bl_of C hb
  have hv : bootBuiltins x = some f.val := by rw [hx]; exact bi_boot f
  cases ys with
  | nil => cases ne
  | cons y ys =>
    have he := star_cons (es := ys) (env := X.env) (ok y List.mem_cons_self)
    have hpl := star_any (pos := p) (env := X.env) fun z hz => ok z (List.mem_cons_of_mem y hz)
    have imp : ∀ σ H Q, tE W wx (evE G (.bi f es)) σ H Q → tCB (rB W (bi f)) (tA W wx (evEs G es)) σ H Q := fun σ H Q h => by
      simp only [evE] at h
      exact args_then h fun am s vs xs h H rs r S P => rB_of (fun _ _ _ _ _ => bi_nx f) r S P
    have call := bi_ok (W := W) C.hK C.hc f
    cases f with
    | int => exact PE.imp (pe_callTy call hg hm hv ha hn hd he hpl) imp
    | len => exact PE.imp (pe_callB call hg hm hv ha hn hd he hpl) imp
    | abs => exact PE.imp (pe_callB call hg hm hv ha hn hd he hpl) imp
    | max => exact PE.imp (pe_callB call hg hm hv ha hn hd he hpl) imp
    | min => exact PE.imp (pe_callB call hg hm hv ha hn hd he hpl) imp
theorem ty_boot (t : Ty) : bootBuiltins (Str.ofString t.name) = some (.type t.name) := by cases t <;> decide +kernel
theorem e_isTy (C : Cn X W G B wx) {t : Ty} {A : E} {x T : Str} {a : PySem.Expr} {p0 p1 p : Pos} (hx : x = ("isinstance" : Str)) (hb : isBl B x = true) (hT : T = Str.ofString t.name) (hbT : isBl B T = true) (ok : okX a = true) (ha : OkE X W G wx A a) : OkE X W G wx (.isTy t A) (.Call (.Name x p0) [a, .Name T p1] [] p) := by
  refine okE_gen C.hK ?_ (fun _ => rfl) (fun _ _ _ => by intro z; cases z)
  obtain ⟨hg, hm, hn, hd⟩ := bl_of C hb
  obtain ⟨hg2, hm2, hn2, hd2⟩ := bl_of C hbT
  have hv : bootBuiltins x = some (.builtin "isinstance") := by rw [hx]; decide +kernel
  have hv2 : bootBuiltins T = some (.type t.name) := by rw [hT]; exact ty_boot t
  have he := star_cons (es := [.Name T p1]) (env := X.env) ok
  refine PE.imp (pe_callB call_isi hg hm hv (pa_cons ha.pe (pa_cons (pe_bltn (v := .ty t.name) hg2 hm2 hv2 rfl hn2 hd2) pa_nil) he) hn hd he rfl) ?_
  rintro σ H Q ⟨am, s, h, rs, S, P⟩
  simp only [evE] at P
  refine ⟨am, s, h, rs, S, P.of_bind fun am1 v1 w1 h1 H1 p1 S1 r1 P1 => ?_⟩
  unfold isTy at P1
  cases q : kd h1 v1 with
  | none => rw [q] at P1; exact P1.elim
  | some k =>
    rw [q] at P1
    cases k with
    | own Cl =>
      obtain ⟨a, dx, ys, hw, hc, ha⟩ := kd_own S1 r1 q
      obtain ⟨ty, k1, k2⟩ := C.own Cl hc _ _ _ _ ha
      subst hw
      exact ⟨_, .ty t.name, _, _, _, rfl, .ty _, k1, k2 t, Post.at P1 S1 rfl⟩
    | _ => exact ⟨w1, .ty t.name, _, _, _, rfl, .ty _, by rw [C.hK]; exact kd_ok S1 r1 q (fun _ z => by cases z), kit_kd _ t (fun _ z => by cases z) _, Post.at P1 S1 rfl⟩
theorem e_lst (C : Cn X W G B wx) {es : List E} {ys : List PySem.Expr} {p : Pos} (ha : PA X ys (tA W wx (evEs G es))) : OkE X W G wx (.lst es) (.List ys p) := by
  refine okE_gen C.hK ?_ (fun _ => rfl) (fun _ _ _ => by intro z; cases z)
  refine PE.imp (pe_lst ha) ?_
  rintro σ H Q ⟨am, s, h, rs, S, P⟩
  simp only [evE] at P
  refine ⟨am, s, h, rs, S, P.of_bind fun am1 v1 w1 h1 H1 p1 S1 r1 P1 => ?_⟩
  by_cases hl : v1.length ≤ LINE
  · rw [if_pos hl] at P1
    refine ⟨by rw [← Paired.len r1, ← line_eq]; exact hl, fun q hq => P1 _ _ _ (Pf.snoc _ q) (S1.push hq ⟨w1, RVs.mono (Pf.snoc _ _) r1, upd_same⟩) ⟨q, ?_, rfl⟩⟩
    rw [← S1.len]
    simp
  · rw [if_neg hl] at P1
    exact P1.elim
theorem e_tup (C : Cn X W G B wx) {es : List E} {ys : List PySem.Expr} {k : Nat} {p : Pos} (ha : PA X ys (tA W wx (evEs G es))) : OkE X W G wx (.tup es) (.Tuple ys k p) := by
  refine okE_gen C.hK ?_ (fun _ => rfl) (fun _ _ _ => by intro z; cases z)
  refine PE.imp (pe_tup ha) ?_
  rintro σ H Q ⟨am, s, h, rs, S, P⟩
  simp only [evE] at P
  refine ⟨am, s, h, rs, S, P.of_bind fun am1 v1 w1 h1 H1 p1 S1 r1 P1 => ?_⟩
  by_cases hl : v1.length ≤ LINE
  · rw [if_pos hl] at P1
    refine ⟨by rw [← Paired.len r1, ← line_eq]; exact hl, fun q hq => P1 _ _ _ (Pf.snoc _ q) (S1.push hq ⟨w1, RVs.mono (Pf.snoc _ _) r1, .of upd_same⟩) ⟨q, ?_, rfl⟩⟩
    rw [← S1.len]
    simp
  · rw [if_neg hl] at P1
    exact P1.elim
/-- a call without arguments, its raising wished for at the caller's slots -/
theorem pe_call0SD {CX : CXT} {k : Nat} {f : Addr} {fd : FuncData} {ps : List Str} {sp : Sp} {dvs : List V} {ds : List Value} {E : L2.St → XK} {x : Str} {p pos : Pos} (F : FnOk X.prog X.w X.K X.mg X.base CX k f fd ps sp) (hr : Room k X.A) (hg : Gl X x) (hm : X.mg x = some (.ref f)) (hk : PySem.W.keepIn X.K (.ref f) = true) (hb : Binds X.K fd ps ds) (hd : Vals dvs ds) (hx : ∀ σ, PassesAt CX X σ (E σ))
    (hdb : (x == ("__debug__" : Str)) = false) : PE X (.Call (.Name x p) [] [] pos) (tCallSD sp dvs E tNil) := by
  refine ⟨fun pins s σ H Q I h => ?_⟩
  refine wpAny_Call_Name_kw (ld_glob I hg hm ?_ hdb)
  exact PySem.W.callWith_K0 I.kIn hk (run_fnSD (us := []) F hr hb hd (hx σ) I .nil h)
theorem e_call (C : Cn X W G B wx) {f : Nat} {fd : FD} {es : List E} {x : Str} {ys : List PySem.Expr} {p0 p : Pos} (hf : B.fns[f]? = some fd) (hx : fd.name = x) (hg : isGl B.sc x = true) (hn : okName x = true) (ok : ∀ y ∈ ys, okX y = true) (ha : PA X ys (tA W wx (evEs G es)))
    (hl : ys.length = fd.np) (hl2 : es.length = fd.np) (elen : ∀ s h vs h2, evEs G es s h = .ok vs h2 → vs.length = es.length) : OkE X W G wx (.call f es) (.Call (.Name x p0) ys [] p) := by
  refine okE_gen C.hK ?_ (fun _ => rfl) (fun _ _ _ => by intro z; cases z)
  obtain ⟨a, fdat, k, hm, hk, hr, hb, F⟩ := (C.fns f fd hf).ex
  rw [hx] at hm
  have imp : ∀ σ H Q, tE W wx (evE G (.call f es)) σ H Q → tCallSD (spQ W G f fd.np) [] (WE wx) (tA W wx (evEs G es)) σ H Q := fun σ H Q h => by
    obtain ⟨am, s, h, rs, S, P⟩ := h
    simp only [evE] at P
    refine ⟨am, s, h, rs, S, ?_⟩
    cases q : evEs G es s h with
    | ok vs h2 =>
      rw [q] at P
      intro am1 w1 H1 p1 S1 r1
      refine ⟨am1, vs, h2, by rw [List.append_nil]; exact r1, S1, (elen s h vs h2 q).trans hl2, ?_⟩
      have P1 : Post W wx RV am1 σ (G.call f vs h2) Q := Post.mono p1 P
      cases e : G.call f vs h2 with
      | ok v h3 => rw [e] at P1; exact P1
      | exc c d h3 => rw [e] at P1; exact P1
      | bad => rw [e] at P1; exact P1
    | exc c d h2 => rw [q] at P; exact P
    | bad => rw [q] at P; exact P
  cases ys with
  | nil =>
    refine PE.imp (pe_call0SD F hr (gl_of C hg) hm hk hb .nil (fun σ => passAt C.tk σ) (okName1 hn)) fun σ H Q h => ?_
    have e : es = [] := by
      cases es with
      | nil => rfl
      | cons _ _ =>
        rw [← hl2] at hl
        cases hl
    subst e
    obtain ⟨am, s, h, rs, S, P⟩ := imp σ H Q h
    exact P.at S .nil
  | cons y ys =>
    have he := star_cons (es := ys) (env := X.env) (ok y List.mem_cons_self)
    have hpl := star_any (pos := p) (env := X.env) fun z hz => ok z (List.mem_cons_of_mem y hz)
    exact PE.imp (pe_callSD F hr (gl_of C hg) hm hk hb .nil (fun σ => passAt C.tk σ) ha (okName1 hn) he hpl) imp
end
theorem evEs_len {G : Cxt} : ∀ {es : List E} {s : Sl} {h h2 : Hh} {vs : List V}, evEs G es s h = .ok vs h2 → vs.length = es.length
  | [], _, _, _, _, e => by rw [evEs] at e; cases e; rfl
  | e :: es, s, h, h2, vs, q => by
    rw [evEs] at q
    cases q1 : evE G e s h with
    | ok v h3 =>
      rw [q1] at q
      dsimp only [Res.bind] at q
      cases q2 : evEs G es s h3 with
      | ok ws h4 =>
        rw [q2] at q
        cases q
        rw [List.length_cons, List.length_cons, evEs_len q2]
      | exc _ _ _ => rw [q2] at q; cases q
      | bad => rw [q2] at q; cases q
    | exc _ _ _ => rw [q1] at q; cases q
    | bad => rw [q1] at q; cases q
end QM

/-! QM6: all expressions; statements; defs -/
namespace QM
open PySem L2 PyProof.Rows

section
variable {X : Cx} {W : Nm} {G : Cxt} {B : Blk} {wx : WX}
mutual
theorem sE (C : Cn X W G B wx) : ∀ (E : E) (e : PySem.Expr), mE B E e = true → OkE X W G wx E e
  | .c v, e, h => by
    cases e with
    | Constant k j p => exact e_c C h
    | _ => exact Bool.noConfusion h
  | .v i, e, h => by
    cases e with
    | Name x p =>
      have h : (decide (B.N[i]? = some x) && isLoc B.sc x && okName x) = true := h
      simp only [Bool.and_eq_true, decide_eq_true_eq] at h
      exact e_v C h.1.1 h.1.2 h.2
    | _ => exact Bool.noConfusion h
  | .bin o a b, e, h => by
    cases e with
    | BinOp x op y p =>
      have h : (decide (arith o = some op) && mE B a x && mE B b y) = true := h
      simp only [Bool.and_eq_true, decide_eq_true_eq] at h
      exact e_arith C h.1.1 (sE C a x h.1.2) (sE C b y h.2)
    | Compare x ops ys p =>
      cases ops with
      | nil => exact Bool.noConfusion h
      | cons op r =>
        cases r with
        | cons _ _ => cases ys <;> exact Bool.noConfusion h
        | nil =>
          cases ys with
          | nil => exact Bool.noConfusion h
          | cons y ys =>
            cases ys with
            | cons _ _ => exact Bool.noConfusion h
            | nil =>
              have h : (decide (cmpo o = some op) && mE B a x && mE B b y) = true := h
              simp only [Bool.and_eq_true, decide_eq_true_eq] at h
              exact e_cmp C h.1.1 (sE C a x h.1.2) (sE C b y h.2) (mE_ok h.2)
    | _ => exact Bool.noConfusion h
  | .neg a, e, h => by
    cases e with
    | UnaryOp op x p =>
      cases op with
      | USub => exact e_neg C (sE C a x h)
      | _ => exact Bool.noConfusion h
    | _ => exact Bool.noConfusion h
  | .not a, e, h => by
    cases e with
    | UnaryOp op x p =>
      cases op with
      | Not => exact e_not C (sE C a x h)
      | _ => exact Bool.noConfusion h
    | _ => exact Bool.noConfusion h
  | .and a b, e, h => by
    cases e with
    | BoolOp op vs p =>
      cases op with
      | Or => cases vs <;> exact Bool.noConfusion h
      | And =>
        cases vs with
        | nil => exact Bool.noConfusion h
        | cons x vs =>
          cases vs with
          | nil => exact Bool.noConfusion h
          | cons y vs =>
            cases vs with
            | nil =>
              have h : (mE B a x && mE B b y) = true := h
              simp only [Bool.and_eq_true] at h
              exact e_and2 (sE C a x h.1) (sE C b y h.2)
            | cons z vs =>
              cases b with
              | and b1 b2 =>
                have h : (mE B a x && mE B (.and b1 b2) (.BoolOp .And (y :: z :: vs) p)) = true := h
                simp only [Bool.and_eq_true] at h
                exact e_and3 (sE C a x h.1) (sE C (.and b1 b2) _ h.2)
              | _ =>
                have h : (mE B a x && false) = true := h
                rw [Bool.and_false] at h
                cases h
    | _ => exact Bool.noConfusion h
  | .or a b, e, h => by
    cases e with
    | BoolOp op vs p =>
      cases op with
      | And => cases vs <;> exact Bool.noConfusion h
      | Or =>
        cases vs with
        | nil => exact Bool.noConfusion h
        | cons x vs =>
          cases vs with
          | nil => exact Bool.noConfusion h
          | cons y vs =>
            cases vs with
            | nil =>
              have h : (mE B a x && mE B b y) = true := h
              simp only [Bool.and_eq_true] at h
              exact e_or2 (sE C a x h.1) (sE C b y h.2)
            | cons z vs =>
              cases b with
              | or b1 b2 =>
                have h : (mE B a x && mE B (.or b1 b2) (.BoolOp .Or (y :: z :: vs) p)) = true := h
                simp only [Bool.and_eq_true] at h
                exact e_or3 (sE C a x h.1) (sE C (.or b1 b2) _ h.2)
              | _ =>
                have h : (mE B a x && false) = true := h
                rw [Bool.and_false] at h
                cases h
    | _ => exact Bool.noConfusion h
  | .chain o o' a b c, e, h => by
    cases e with
    | Compare x ops ys p =>
      cases ops with
      | nil => exact Bool.noConfusion h
      | cons op r =>
        cases r with
        | nil => cases ys <;> exact Bool.noConfusion h
        | cons op' r2 =>
          cases r2 with
          | cons _ _ => cases ys <;> exact Bool.noConfusion h
          | nil =>
            cases ys with
            | nil => exact Bool.noConfusion h
            | cons y ys =>
              cases ys with
              | nil => exact Bool.noConfusion h
              | cons z ys =>
                cases ys with
                | cons _ _ => exact Bool.noConfusion h
                | nil =>
                  have h : (decide (cmpo o = some op) && decide (cmpo o' = some op') && mE B a x && mE B b y && mE B c z) = true := h
                  simp only [Bool.and_eq_true, decide_eq_true_eq] at h
                  exact e_chain C h.1.1.1.1 h.1.1.1.2 (sE C a x h.1.1.2) (sE C b y h.1.2) (sE C c z h.2) (mE_ok h.2)
    | _ => exact Bool.noConfusion h
  | .ifx c a b, e, h => by cases e <;> exact Bool.noConfusion h
  | .ix a b, e, h => by
    cases e with
    | Subscript x y p =>
      have h : (mE B a x && mE B b y) = true := h
      simp only [Bool.and_eq_true] at h
      exact e_ix C (sE C a x h.1) (sE C b y h.2) (mE_ok h.2)
    | _ => exact Bool.noConfusion h
  | .bi f es, e, h => by
    cases e with
    | Call fn ys ks p =>
      cases fn with
      | Name x p0 =>
        cases ks with
        | cons _ _ => cases ys <;> exact Bool.noConfusion h
        | nil =>
          have h : (decide (x = f.name) && isBl B x && (!ys.isEmpty) && mEs B es ys) = true := h
          simp only [Bool.and_eq_true, decide_eq_true_eq, Bool.not_eq_true'] at h
          exact e_bi C h.1.1.1 h.1.1.2 h.1.2 (mEs_ok h.2) (sEs C es ys h.2)
      | _ => exact Bool.noConfusion h
    | _ => exact Bool.noConfusion h
  | .isTy t a, e, h => by
    cases e with
    | Call fn ys ks p =>
      cases fn with
      | Name x p0 =>
        cases ys with
        | nil => exact Bool.noConfusion h
        | cons y ys =>
          cases ys with
          | nil => exact Bool.noConfusion h
          | cons z ys =>
            cases z with
            | Name T p1 =>
              cases ys with
              | cons _ _ => exact Bool.noConfusion h
              | nil =>
                cases ks with
                | cons _ _ => exact Bool.noConfusion h
                | nil =>
                  have h : (decide (x = ("isinstance" : Str)) && isBl B x && decide (T = (Str.ofString t.name)) && isBl B T && mE B a y) = true := h
                  simp only [Bool.and_eq_true, decide_eq_true_eq] at h
                  exact e_isTy C h.1.1.1.1 h.1.1.1.2 h.1.1.2 h.1.2 (mE_ok h.2) (sE C a y h.2)
            | _ => exact Bool.noConfusion h
      | _ => exact Bool.noConfusion h
    | _ => exact Bool.noConfusion h
  | .lst es, e, h => by
    cases e with
    | List ys p => exact e_lst C (sEs C es ys h)
    | _ => exact Bool.noConfusion h
  | .tup es, e, h => by
    cases e with
    | Tuple ys k p => exact e_tup C (sEs C es ys h)
    | _ => exact Bool.noConfusion h
  | .call f es, e, h => by
    cases e with
    | Call fn ys ks p =>
      cases fn with
      | Name x p0 =>
        cases ks with
        | cons _ _ => cases ys <;> exact Bool.noConfusion h
        | nil =>
          cases q : B.fns[f]? with
          | none =>
            rw [mE] at h
            rw [q] at h
            cases h
          | some fd =>
            rw [mE, q] at h
            simp only [Bool.and_eq_true, decide_eq_true_eq] at h
            obtain ⟨⟨⟨⟨h1, h2⟩, h3⟩, h4⟩, h5⟩ := h
            exact e_call C q h1 h2 h3 (mEs_ok h4) (sEs C es ys h4) ((mEs_len h4).symm.trans h5) h5 fun _ _ _ _ z => evEs_len z
      | _ => exact Bool.noConfusion h
    | _ => exact Bool.noConfusion h
theorem sEs (C : Cn X W G B wx) : ∀ (es : List E) (ys : List PySem.Expr), mEs B es ys = true → PA X ys (tA W wx (evEs G es))
  | [], ys, h => by
    cases ys with
    | cons _ _ => exact Bool.noConfusion h
    | nil =>
      refine PA.imp pa_nil ?_
      rintro σ H Q ⟨am, s, h, rs, S, P⟩
      simp only [evEs] at P
      exact Post.at P S .nil
  | e :: es, ys, h => by
    cases ys with
    | nil => exact Bool.noConfusion h
    | cons y ys =>
      have h : (mE B e y && mEs B es ys) = true := h
      simp only [Bool.and_eq_true] at h
      refine PA.imp (pa_cons (sE C e y h.1).pe (sEs C es ys h.2) (star_cons (mE_ok h.1))) ?_
      rintro σ H Q ⟨am, s, h, rs, S, P⟩
      simp only [evEs] at P
      refine ⟨am, s, h, rs, S, P.of_bind fun am1 v1 w1 h1 H1 p1 S1 r1 P1 => ?_⟩
      refine ⟨am1, s, h1, RSl.mono p1 rs, S1, P1.of_bind fun am2 v2 w2 h2 H2 p2 S2 r2 P2 => ?_⟩
      exact Post.at P2 S2 (.cons (RV.mono p2 r1) r2)
end
end

/-! ### statements -/
def PostS (W : Nm) (wx : WX) (am : List Addr) (o : Out) (D : Ends) : Prop :=
  match o with
  | .nx s h => ∀ am' σ' H', Pf am am' → RSl am' s σ' → Sim W am' h H' → D.nx σ' H'
  | .ret v h => ∀ am' w H', Pf am am' → Sim W am' h H' → RV am' v w → D.rt w H'
  | .exc c d s h => ∀ am' σ' dd H', Pf am am' → RSl am' s σ' → Sim W am' h H' → RD am' d dd → wx (.ref (W.ca c)) dd σ' H'
  | .brk s h => ∀ am' σ' H', Pf am am' → RSl am' s σ' → Sim W am' h H' → D.bk σ' H'
  | .ct s h => ∀ am' σ' H', Pf am am' → RSl am' s σ' → Sim W am' h H' → D.ct σ' H'
  | .bad => False
def tS (W : Nm) (wx : WX) (sem : Sl → Hh → Out) : TS := fun D σ H => ∃ am s h, RSl am s σ ∧ Sim W am h H ∧ PostS W wx am (sem s h) D
section
variable {W : Nm} {wx : WX} {am : List Addr}
theorem PostS.mono {am' : List Addr} (p : Pf am am') {o : Out} {D : Ends} (h : PostS W wx am o D) : PostS W wx am' o D := by
  cases o with
  | nx s h' => exact fun a2 σ' H' p2 => h a2 σ' H' (p.trans p2)
  | ret s h' => exact fun a2 σ' H' p2 => h a2 σ' H' (p.trans p2)
  | exc c d s h' => exact fun a2 σ' dd H' p2 => h a2 σ' dd H' (p.trans p2)
  | brk s h' => exact fun a2 σ' H' p2 => h a2 σ' H' (p.trans p2)
  | ct s h' => exact fun a2 σ' H' p2 => h a2 σ' H' (p.trans p2)
  | bad => exact h
theorem PostS.of_out {α β : Type} {R : List Addr → α → β → Prop} {r : Res α} {s : Sl} {σ : L2.St} {k : α → Hh → Out} {D : Ends} {Q : β → Hp → Prop} (h : PostS W wx am (r.out s k) D) (rs : RSl am s σ)
    (f : ∀ am' v w h' H', Pf am am' → Sim W am' h' H' → R am' v w → PostS W wx am' (k v h') D → Q w H') : Post W wx R am σ r Q := by
  cases r with
  | ok v h' => exact fun am' w H' p S rv => f am' v w h' H' p S rv (PostS.mono p h)
  | exc c d h' => exact fun am' dd H' p S rd => h am' σ dd H' p (RSl.mono p rs) S rd
  | bad => exact h
theorem PostS.nx {s : Sl} {h : Hh} {σ : L2.St} {H : Hp} {D : Ends} (P : PostS W wx am (.nx s h) D) (rs : RSl am s σ) (S : Sim W am h H) : D.nx σ H := P am σ H (Pf.refl _) rs S
theorem PostS.rt {v w : V} {h : Hh} {H : Hp} {D : Ends} (P : PostS W wx am (.ret v h) D) (S : Sim W am h H) (r : RV am v w) : D.rt w H := P am w H (Pf.refl _) S r
/-- other ends behind the same code -/
theorem PostS.seq {o : Out} {k : Sl → Hh → Out} {D : Ends} {u : TS} (h : PostS W wx am (o.seq k) D) (f : ∀ am' s h' σ' H', Pf am am' → RSl am' s σ' → Sim W am' h' H' → PostS W wx am' (k s h') D → u D σ' H') : PostS W wx am o { D with nx := u D } := by
  cases o with
  | nx s h' => exact fun am' σ' H' p rs S => f am' s h' σ' H' p rs S (PostS.mono p h)
  | ret v h' => exact h
  | exc c d s h' => exact h
  | brk s h' => exact h
  | ct s h' => exact h
  | bad => exact h
end
theorem PS.imp {X : Cx} {e : PySem.Stmt} {t t' : TS} (h : PS X e t) (k : ∀ D σ H, t' D σ H → t D σ H) : PS X e t' := ⟨fun pins s σ H D I q => h.run pins s σ H D I (k D σ H q)⟩
theorem PSs.imp {X : Cx} {e : List PySem.Stmt} {t t' : TS} (h : PSs X e t) (k : ∀ D σ H, t' D σ H → t D σ H) : PSs X e t' := ⟨fun pins s σ H D I q => h.run pins s σ H D I (k D σ H q)⟩

/-! ### their terms against the text -/
def isLc (sc : Scope) (x : Str) : Bool := match sc.names.lookup x with
  | some .local => true
  | some .cell => true
  | _ => false
def isL1 (sc : Scope) (x : Str) : Bool := match sc.names.lookup x with
  | some .local => true
  | _ => false
/-- the names of a target -/
def mTs (B : Blk) : List Nat → List PySem.Expr → Bool
  | [], [] => true
  | i :: is, .Name x _ :: ts => decide (B.N[i]? = some x) && isLc B.sc x && mTs B is ts
  | _, _ => false
/-- x, y = u, v -/
def parX : PySem.Expr → PySem.Expr → Option (Str × Pos × Str × Pos × PySem.Expr × PySem.Expr)
  | .Tuple [.Name x px, .Name y py] _ _, .Tuple [u, v] _ _ => some (x, px, y, py, u, v)
  | _, _ => none
theorem parX_eq {t w : PySem.Expr} {x y : Str} {px py : Pos} {u v : PySem.Expr} (h : parX t w = some (x, px, y, py, u, v)) : ∃ k pt k2 pt2, t = .Tuple [.Name x px, .Name y py] k pt ∧ w = .Tuple [u, v] k2 pt2 := by
  unfold parX at h
  split at h
  · cases h
    exact ⟨_, _, _, _, rfl, rfl⟩
  · cases h
def isTupX : PySem.Expr → Bool
  | .Tuple _ _ _ => true
  | _ => false
mutual
def mS (B : Blk) : S → PySem.Stmt → Bool
  | .set i e, .Assign [.Name x _] y _ => decide (B.N[i]? = some x) && isLc B.sc x && mE B e y
  | .tup is e, .Assign [.Tuple ts _ _] y _ => mTs B is ts && mE B e y && !isTupX y
  | .par i j a b, .Assign [t] w _ => (match parX t w with
    | some (x, px, y, py, u, v) => decide (B.N[i]? = some x) && decide (B.N[j]? = some y) && decide (i ≠ j) && isL1 B.sc x && isL1 B.sc y && mE B a u && mE B b v && !(decide (x = y)) &&
      (px.line == py.line) && !([u, v].all (foldedForSure 8)) && !([u, v].all (constantsAlone 8))
    | none => false)
  | .ret e, .Return (some y) _ => mE B e y
  | .ite c a b, .If y sa sb _ => mE B c y && mSs B a sa && mSs B b sb
  | .whl c b, .While y sb [] _ => mE B c y && mSs B b sb
  | .expr e, .Expr y _ => mE B e y
  | .pass, .Pass _ => true
  | _, _ => false
def mSs (B : Blk) : List S → List PySem.Stmt → Bool
  | [], [] => true
  | s :: r, y :: ys => mS B s y && mSs B r ys
  | _, _ => false
end

/-- what statements ask besides -/
structure Cs (X : Cx) (W : Nm) (G : Cxt) (B : Blk) (wx : WX) : Prop extends Cn X W G B wx where
  po : PassesOwn (model X.prog X.w) X.A X.env X.xe
  fn : ∀ x, X.fn x = true
  kf : X.env.scope.kind = .function
section
variable {X : Cx} {W : Nm} {G : Cxt} {B : Blk} {wx : WX}
theorem swaps_ok {e : PySem.Expr} {t : Option PySem.Expr} {l : Nat} {env : PySem.Env} (h : okX e = true) : swapsWith e t l env = pure false := by
  cases e <;> first | rfl | exact Bool.noConfusion h
theorem lc_of (C : Cn X W G B wx) {x : Str} (h : isLc B.sc x = true) : Loc X.env.scope x := by
  rw [C.hs]
  unfold isLc at h
  split at h
  · rename_i q; exact .inl q
  · rename_i q; exact .inr q
  · cases h
theorem l1_of (C : Cn X W G B wx) {x : Str} (h : isL1 B.sc x = true) : X.env.scope.names.lookup x = some .local := by
  rw [C.hs]
  unfold isL1 at h
  split at h
  · rename_i q; exact q
  · cases h
theorem s_set (C : Cs X W G B wx) {i : Nat} {E : E} {x : Str} {e : PySem.Expr} {p0 p : Pos} (h1 : B.N[i]? = some x) (h2 : isLc B.sc x = true) (ok : okX e = true) (he : OkE X W G wx E e) : PS X (.Assign [.Name x p0] e p) (tS W wx (evS G (.set i E))) := by
  refine PS.imp (ps_set (i := i) C.nd (by rw [C.hN]; exact h1) (lc_of C.toCn h2) he.pe (swaps_ok ok) (.inl (C.fn x))) ?_
  rintro D σ H ⟨am, s, h, rs, S, P⟩
  simp only [evS] at P
  refine ⟨am, s, h, rs, S, P.of_out rs fun am1 v1 w1 h1 H1 p1 S1 r1 P1 => ?_⟩
  exact P1.nx (Paired.set (F := RS am1) (x := some v1) (y := some w1) r1 i (RSl.mono p1 rs)) S1
theorem s_ret (C : Cs X W G B wx) {E : E} {e : PySem.Expr} {p : Pos} (he : OkE X W G wx E e) : PS X (.Return (some e) p) (tS W wx (evS G (.ret E))) := by
  refine PS.imp (ps_ret he.pe) ?_
  rintro D σ H ⟨am, s, h, rs, S, P⟩
  simp only [evS] at P
  exact ⟨am, s, h, rs, S, P.of_out rs fun am1 v1 w1 h1 H1 p1 S1 r1 P1 => P1.rt S1 r1⟩
theorem s_expr (C : Cs X W G B wx) {E : E} {e : PySem.Expr} {p : Pos} (ok : okX e = true) (he : OkE X W G wx E e) : PS X (.Expr e p) (tS W wx (evS G (.expr E))) := by
  refine PS.imp (ps_expr he.pe (swaps_ok ok)) ?_
  rintro D σ H ⟨am, s, h, rs, S, P⟩
  simp only [evS] at P
  exact ⟨am, s, h, rs, S, P.of_out rs fun am1 v1 w1 h1 H1 p1 S1 r1 P1 => P1.nx (RSl.mono p1 rs) S1⟩
theorem s_pass {p : Pos} : PS X (.Pass p) (tS W wx (evS G .pass)) := by
  refine PS.imp ps_pass ?_
  rintro D σ H ⟨am, s, h, rs, S, P⟩
  simp only [evS] at P
  exact P.nx rs S
theorem s_ite {c : E} {a b : List S} {e : PySem.Expr} {sa sb : List PySem.Stmt} {p : Pos} (hc : OkE X W G wx c e) (ha : PSs X sa (tS W wx (evSs G a))) (hb : PSs X sb (tS W wx (evSs G b))) : PS X (.If e sa sb p) (tS W wx (evS G (.ite c a b))) := by
  refine PS.imp (ps_if hc.pt ha hb) ?_
  rintro D σ H ⟨am, s, h, rs, S, P⟩
  simp only [evS] at P
  refine ⟨am, s, h, rs, S, P.of_out rs fun am1 v1 w1 h1 H1 p1 S1 r1 P1 => ?_⟩
  cases r1
  cases v1 with
  | true => exact iteT ⟨am1, s, h1, RSl.mono p1 rs, S1, P1⟩
  | false => exact iteF ⟨am1, s, h1, RSl.mono p1 rs, S1, P1⟩
theorem s_whl (C : Cs X W G B wx) {c : E} {b : List S} {e : PySem.Expr} {sb : List PySem.Stmt} {p : Pos} (hc : OkE X W G wx c e) (hb : PSs X sb (tS W wx (evSs G b))) : PS X (.While e sb [] p) (tS W wx (evS G (.whl c b))) := by
  refine PS.imp (ps_while C.po hc.pt hb) ?_
  rintro D σ H ⟨am, s, h, rs, S, P⟩
  simp only [evS] at P
  refine ⟨fun m σ H => ∃ am s h, RSl am s σ ∧ Sim W am h H ∧ PostS W wx am (whileN (evT G c) (evSs G b) m s h) D, ⟨FUEL, am, s, h, rs, S, P⟩, ?_⟩
  rintro m σ H ⟨am, s, h, rs, S, P⟩
  cases m with
  | zero => exact (show False from P).elim
  | succ m =>
    simp only [whileN] at P
    refine ⟨am, s, h, rs, S, P.of_out rs fun am1 v1 w1 h1 H1 p1 S1 r1 P1 => ?_⟩
    cases r1
    cases v1 with
    | false => exact iteF (P1.nx (RSl.mono p1 rs) S1)
    | true =>
      refine iteT ⟨fun σ' H' => ∃ am s h, RSl am s σ' ∧ Sim W am h H' ∧ PostS W wx am (whileN (evT G c) (evSs G b) m s h) D, fun σ' H' z => ⟨m, Nat.lt_succ_self m, z⟩, am1, s, h1, RSl.mono p1 rs, S1, ?_⟩
      rw [if_pos rfl] at P1
      cases q : evSs G b s h1 with
      | nx s2 h2 =>
        rw [q] at P1
        exact fun am2 σ2 H2 p2 rs2 S2 => ⟨am2, s2, h2, rs2, S2, PostS.mono p2 P1⟩
      | ct s2 h2 =>
        rw [q] at P1
        exact fun am2 σ2 H2 p2 rs2 S2 => ⟨am2, s2, h2, rs2, S2, PostS.mono p2 P1⟩
      | brk s2 h2 => rw [q] at P1; exact P1
      | ret v h2 => rw [q] at P1; exact P1
      | exc c d s2 h2 => rw [q] at P1; exact P1
      | bad => rw [q] at P1; exact P1
/-- the targets of a tuple -/
def gN : List Nat → TGs
  | [] => gNil
  | i :: is => gCons (gName i) (gN is)
theorem targets (C : Cs X W G B wx) : ∀ {is : List Nat} {ts : List PySem.Expr}, mTs B is ts = true → PGs X ts (gN is) ∧ (assignEach ts X.env).length = is.length ∧ (assignEach ts X.env).findIdx? (·.1) = none
  | [], [], _ => ⟨pgs_nil, rfl, rfl⟩
  | i :: is, .Name x p :: ts, h => by
    have h : (decide (B.N[i]? = some x) && isLc B.sc x && mTs B is ts) = true := h
    simp only [Bool.and_eq_true, decide_eq_true_eq] at h
    obtain ⟨a, b, c⟩ := targets C h.2
    have e : assignEach (.Name x p :: ts) X.env = (false, assign (.Name x p) X.env) :: assignEach ts X.env := rfl
    refine ⟨pgs_cons (pg_name (i := i) C.nd (by rw [C.hN]; exact h.1.1) (lc_of C.toCn h.1.2) (.inl (C.fn x))) a rfl, ?_, ?_⟩
    · rw [e, List.length_cons, List.length_cons, b]
    · rw [e, List.findIdx?_cons, c]
      rfl
  | [], _ :: _, h => Bool.noConfusion h
  | _ :: _, [], h => Bool.noConfusion h
  | _ :: _, t :: _, h => by
    cases t <;> first | exact Bool.noConfusion h | skip
    rename_i i is ts x p
    have h : (decide (B.N[i]? = some x) && isLc B.sc x && mTs B is ts) = true := h
    simp only [Bool.and_eq_true, decide_eq_true_eq] at h
    obtain ⟨a, b, c⟩ := targets C h.2
    have e : assignEach (.Name x p :: ts) X.env = (false, assign (.Name x p) X.env) :: assignEach ts X.env := rfl
    refine ⟨pgs_cons (pg_name (i := i) C.nd (by rw [C.hN]; exact h.1.1) (lc_of C.toCn h.1.2) (.inl (C.fn x))) a rfl, ?_, ?_⟩
    · rw [e, List.length_cons, List.length_cons, b]
    · rw [e, List.findIdx?_cons, c]
      rfl
theorem sets_len : ∀ {is : List Nat} {xs : List V} {s s' : Sl}, sets is xs s = some s' → is.length = xs.length
  | [], [], _, _, _ => rfl
  | i :: is, x :: xs, s, s', h => by rw [List.length_cons, List.length_cons, sets_len (s := s.set i (some x)) h]
  | [], _ :: _, _, _, h => by cases h
  | _ :: _, [], _, _, h => by cases h
theorem sets_ok {am : List Addr} : ∀ {is : List Nat} {xs ys : List V} {s s' : Sl} {σ : L2.St} {H : Hp} {Q : L2.St → Hp → Prop}, RSl am s σ → RVs am xs ys → sets is xs s = some s' → (∀ σ', RSl am s' σ' → Q σ' H) → gN is ys σ H Q
  | [], [], _, _, _, σ, H, Q, rs, .nil, e, k => by
    cases e
    exact ⟨rfl, k σ rs⟩
  | i :: is, x :: xs, y :: ys, s, s', σ, H, Q, rs, .cons r t, e, k => ⟨y, ys, rfl, sets_ok (s := s.set i (some x)) (Paired.set (F := RS am) (x := some x) (y := some y) r i rs) t e k⟩
  | [], _ :: _, _, _, _, _, _, _, _, _, e, _ => by cases e
  | _ :: _, [], _, _, _, _, _, _, _, _, e, _ => by cases e
theorem s_tup (C : Cs X W G B wx) {is : List Nat} {E : E} {ts : List PySem.Expr} {e : PySem.Expr} {k : Nat} {p0 p : Pos} (ht : mTs B is ts = true) (ok : okX e = true) (nt : isTupX e = false) (he : OkE X W G wx E e) : PS X (.Assign [.Tuple ts k p0] e p) (tS W wx (evS G (.tup is E))) := by
  obtain ⟨a, b, c⟩ := targets C ht
  have hw : swappedStores [.Tuple ts k p0] e X.env = pure none := by cases e <;> first | rfl | exact Bool.noConfusion nt
  refine PS.imp (ps_asg he.pe (pg_tup C.hc a b c) (by show swapsWith e (some (.Tuple ts k p0)) p.line X.env = pure false; exact swaps_ok ok) hw) ?_
  rintro D σ H ⟨am, s, h, rs, S, P⟩
  simp only [evS] at P
  refine ⟨am, s, h, rs, S, P.of_out rs fun am1 v1 w1 h1 H1 p1 S1 r1 P1 => ?_⟩
  cases q : tupAt h1 v1 with
  | none => rw [q] at P1; exact P1.elim
  | some xs =>
    rw [q] at P1
    dsimp only at P1
    obtain ⟨pp, ys, rfl, hq, rr⟩ := S1.tup r1 q
    cases q2 : sets is xs s with
    | none => rw [q2] at P1; exact P1.elim
    | some s2 =>
      rw [q2] at P1
      refine ⟨pp, ys, rfl, by rw [C.hK]; exact hq, by rw [← Paired.len rr, ← sets_len q2], ?_⟩
      exact sets_ok (RSl.mono p1 rs) rr q2 fun σ' rs' => P1.nx rs' S1
theorem s_par (C : Cs X W G B wx) {i j : Nat} {Ea Eb : E} {x y : Str} {u v : PySem.Expr} {px py pt pt2 p : Pos} {k k2 : Nat} (hi : B.N[i]? = some x) (hj : B.N[j]? = some y) (hij : i ≠ j) (hx : isL1 B.sc x = true) (hy : isL1 B.sc y = true) (ha : OkE X W G wx Ea u) (hb : OkE X W G wx Eb v) (oku : okX u = true) (okv : okX v = true)
    (xy : x ≠ y) (hl : (px.line == py.line) = true) (f1 : [u, v].all (foldedForSure 8) = false) (f2 : [u, v].all (constantsAlone 8) = false) : PS X (.Assign [.Tuple [.Name x px, .Name y py] k pt] (.Tuple [u, v] k2 pt2) p) (tS W wx (evS G (.par i j Ea Eb))) := by
  have lx := l1_of C.toCn hx
  have ly := l1_of C.toCn hy
  have hw : swappedStores [.Tuple [.Name x px, .Name y py] k pt] (.Tuple [u, v] k2 pt2) X.env = pure (some [x, y]) := by
    have kx : X.env.kindOf x = some .local := lx
    have ky : X.env.kindOf y = some .local := ly
    have bk : X.env.blockKind = .function := by unfold Env.blockKind; rw [C.kf]; rfl
    have st : ([u, v].any fun | .Starred .. => true | _ => false) = false := by
      cases u <;> cases v <;> first | rfl | exact Bool.noConfusion oku | exact Bool.noConfusion okv
    have hl2 : (py.line == px.line) = true := by rw [beq_iff_eq] at hl ⊢; exact hl.symm
    unfold swappedStores
    dsimp only
    have ed : [x, y].eraseDups.length = 2 := by
      have : (y == x) = false := by rw [beq_eq_false_iff_ne]; exact Ne.symm xy
      simp [List.eraseDups_cons, this]
    simp [bk, st, kx, ky, hl2, f1, f2, Expr.pos, List.filterMap, ed]
    intro z
    exfalso
    clear st f1 f2 ha hb
    rcases z with z | z
    · cases u <;> first | exact Bool.noConfusion z | exact Bool.noConfusion oku
    · cases v <;> first | exact Bool.noConfusion z | exact Bool.noConfusion okv
  refine PS.imp (ps_par (i := i) (j := j) C.hc C.nd (by rw [C.hN]; exact hi) (by rw [C.hN]; exact hj) hij lx ly (pa_cons ha.pe (pa_cons hb.pe pa_nil (star_cons okv)) (star_cons oku)) hw rfl) ?_
  rintro D σ H ⟨am, s, h, rs, S, P⟩
  simp only [evS] at P
  refine ⟨am, s, h, rs, S, P.of_out rs fun am1 v1 w1 h1 H1 p1 S1 r1 P1 => ?_⟩
  refine ⟨am1, s, h1, RSl.mono p1 rs, S1, P1.of_out (RSl.mono p1 rs) fun am2 v2 w2 h2 H2 p2 S2 r2 P2 => ?_⟩
  refine ⟨w1, w2, rfl, P2.nx ?_ S2⟩
  exact Paired.set (F := RS am2) (x := some v2) (y := some w2) r2 j (Paired.set (F := RS am2) (x := some v1) (y := some w1) (RV.mono p2 r1) i (RSl.mono (p1.trans p2) rs))
end
end QM

/-! QM7: all statements; the table of defs; a law -/
namespace QM
open PySem L2 PyProof.Rows
section
variable {X : Cx} {W : Nm} {G : Cxt} {B : Blk} {wx : WX}
mutual
theorem sS (C : Cs X W G B wx) : ∀ (s : S) (y : PySem.Stmt), mS B s y = true → PS X y (tS W wx (evS G s))
  | .set i e, y, h => by
    cases y with
    | Assign ts v p =>
      cases ts with
      | nil => exact Bool.noConfusion h
      | cons t ts =>
        cases t with
        | Name x p0 =>
          cases ts with
          | cons _ _ => exact Bool.noConfusion h
          | nil =>
            have h : (decide (B.N[i]? = some x) && isLc B.sc x && mE B e v) = true := h
            simp only [Bool.and_eq_true, decide_eq_true_eq] at h
            exact s_set C h.1.1 h.1.2 (mE_ok h.2) (sE C.toCn e v h.2)
        | _ => exact Bool.noConfusion h
    | _ => exact Bool.noConfusion h
  | .tup is e, y, h => by
    cases y with
    | Assign ts v p =>
      cases ts with
      | nil => exact Bool.noConfusion h
      | cons t ts =>
        cases t with
        | Tuple us k p0 =>
          cases ts with
          | cons _ _ => exact Bool.noConfusion h
          | nil =>
            have h : (mTs B is us && mE B e v && !isTupX v) = true := h
            simp only [Bool.and_eq_true, Bool.not_eq_true'] at h
            exact s_tup C h.1.1 (mE_ok h.1.2) h.2 (sE C.toCn e v h.1.2)
        | _ => exact Bool.noConfusion h
    | _ => exact Bool.noConfusion h
  | .par i j a b, y, h => by
    cases y with
    | Assign ts w p =>
      rcases ts with _ | ⟨t, ts⟩
      · exact Bool.noConfusion h
      rcases ts with _ | ⟨t', ts⟩
      · cases q : parX t w with
        | none =>
          rw [mS, q] at h
          cases h
        | some z =>
          obtain ⟨x, px, y, py, u, v⟩ := z
          rw [mS, q] at h
          dsimp only at h
          obtain ⟨k, pt, k2, pt2, rfl, rfl⟩ := parX_eq q
          rw [Bool.and_eq_true, Bool.and_eq_true, Bool.and_eq_true, Bool.and_eq_true, Bool.and_eq_true, Bool.and_eq_true, Bool.and_eq_true, Bool.and_eq_true, Bool.and_eq_true, Bool.and_eq_true] at h
          obtain ⟨⟨⟨⟨⟨⟨⟨⟨⟨⟨h1, h2⟩, h3⟩, h4⟩, h5⟩, h6⟩, h7⟩, h8⟩, h9⟩, h10⟩, h11⟩ := h
          exact s_par C (of_decide_eq_true h1) (of_decide_eq_true h2) (of_decide_eq_true h3) h4 h5 (sE C.toCn a u h6) (sE C.toCn b v h7) (mE_ok h6) (mE_ok h7) (by simpa using h8) h9 ((Bool.not_eq_true' _).mp h10) ((Bool.not_eq_true' _).mp h11)
      · exact Bool.noConfusion h
    | _ => exact Bool.noConfusion h
  | .ret e, y, h => by
    cases y with
    | Return v p =>
      cases v with
      | none => exact Bool.noConfusion h
      | some v => exact s_ret C (sE C.toCn e v h)
    | _ => exact Bool.noConfusion h
  | .ite c a b, y, h => by
    cases y with
    | If t sa sb p =>
      have h : (mE B c t && mSs B a sa && mSs B b sb) = true := h
      simp only [Bool.and_eq_true] at h
      exact s_ite (sE C.toCn c t h.1.1) (sSs C a sa h.1.2) (sSs C b sb h.2)
    | _ => exact Bool.noConfusion h
  | .whl c b, y, h => by
    cases y with
    | While t sb oe p =>
      cases oe with
      | cons _ _ => exact Bool.noConfusion h
      | nil =>
        have h : (mE B c t && mSs B b sb) = true := h
        simp only [Bool.and_eq_true] at h
        exact s_whl C (sE C.toCn c t h.1) (sSs C b sb h.2)
    | _ => exact Bool.noConfusion h
  | .expr e, y, h => by
    cases y with
    | Expr v p => exact s_expr C (mE_ok h) (sE C.toCn e v h)
    | _ => exact Bool.noConfusion h
  | .pass, y, h => by
    cases y with
    | Pass p => exact s_pass
    | _ => exact Bool.noConfusion h
theorem sSs (C : Cs X W G B wx) : ∀ (r : List S) (ys : List PySem.Stmt), mSs B r ys = true → PSs X ys (tS W wx (evSs G r))
  | [], ys, h => by
    cases ys with
    | cons _ _ => exact Bool.noConfusion h
    | nil =>
      refine PSs.imp pss_nil ?_
      rintro D σ H ⟨am, s, h, rs, S, P⟩
      simp only [evSs] at P
      exact P.nx rs S
  | s :: r, ys, h => by
    cases ys with
    | nil => exact Bool.noConfusion h
    | cons y ys =>
      have h : (mS B s y && mSs B r ys) = true := h
      simp only [Bool.and_eq_true] at h
      refine PSs.imp (pss_cons (sS C s y h.1) (sSs C r ys h.2)) ?_
      rintro D σ H ⟨am, st, h, rs, S, P⟩
      simp only [evSs] at P
      exact ⟨am, st, h, rs, S, P.seq fun am' s' h' σ' H' p rs' S' P' => ⟨am', s', h', rs', S', P'⟩⟩
end
end

/-! ### the table of defs -/
/-- a def of the table as it stands behind the top -/
def RowAt (K : PySem.W.Frag) (mg : Str → Option Value) (blt : List Str) (tab : List FD) (fd : FD) (f : Addr) (fdat : FuncData) : Prop :=
  ∃ st : PySem.Stmt, Fun K fd.name fd.name st f fdat ∧ FnScope fd.N (fd.N.take fd.np) (defScope st) ∧ fd.np ≤ fd.N.length ∧
    mSs ⟨fd.N, defScope st, tab, blt⟩ fd.body (defBody st) = true ∧ mg fd.name = some (.ref f) ∧ ∀ us : List Value, us.length = (fd.N.take fd.np).length → bindArgs fdat ⟨us, []⟩ = pure ((fd.N.take fd.np).zip us)
structure Row (K : PySem.W.Frag) (mg : Str → Option Value) (blt : List Str) (tab : List FD) (fd : FD) : Prop where
  ex : ∃ (f : Addr) (fdat : FuncData), RowAt K mg blt tab fd f fdat
structure Top (K : PySem.W.Frag) (mg : Str → Option Value) (blt : List Str) (W : Nm) (tab : List FD) (fa : Nat → Addr) (fdt : Nat → FuncData) : Prop where
  hK : K = W.K
  bl : ∀ b ∈ blt, mg b = none
  own : ∀ Cl, W.okc Cl → ∀ (H : Hp) (a dx : Addr) (ys : List (Str × V)), H a = some (.ins (W.ca Cl) dx ys) → ∃ t, TyX K H (.ref a) t ∧ ∀ ty : Ty, PySem.W.kitOne K t (.type ty.name) = some false
  rows : ∀ i fd, tab[i]? = some fd → RowAt K mg blt tab fd (fa i) (fdt i)
theorem Top.of {K : PySem.W.Frag} {mg : Str → Option Value} {blt : List Str} {W : Nm} {tab : List FD} (hK : K = W.K) (bl : ∀ b ∈ blt, mg b = none)
    (own : ∀ Cl, W.okc Cl → ∀ (H : Hp) (a dx : Addr) (ys : List (Str × V)), H a = some (.ins (W.ca Cl) dx ys) → ∃ t, TyX K H (.ref a) t ∧ ∀ ty : Ty, PySem.W.kitOne K t (.type ty.name) = some false)
    (rows : ∀ fd ∈ tab, Row K mg blt tab fd) : ∃ fa fdt, Top K mg blt W tab fa fdt := by
  have ch : ∀ i : Nat, ∃ p : Addr × FuncData, ∀ fd, tab[i]? = some fd → RowAt K mg blt tab fd p.1 p.2 := fun i => by
    cases q : tab[i]? with
    | none => exact ⟨(0, Classical.choice ⟨(default : FuncData)⟩), fun fd z => by cases z⟩
    | some fd =>
      obtain ⟨f, fdat, r⟩ := (rows fd (List.mem_of_getElem? q)).ex
      exact ⟨(f, fdat), fun fd' z => by cases z; exact r⟩
  exact ⟨fun i => (Classical.choose (ch i)).1, fun i => (Classical.choose (ch i)).2, hK, bl, own, fun i fd z => Classical.choose_spec (ch i) fd z⟩
theorem no_sp {P : Program} {w : World} {K : PySem.W.Frag} {mg : Str → Option Value} {base : Heap} {CX : CXT} {k : Nat} {f : Addr} {fd : FuncData} {ps : List Str} {sp : Sp} (no : ∀ vs H Q E, ¬ sp vs H Q E) : FnOk P w K mg base CX k f fd ps sp :=
  ⟨fun vs H Q E h => absurd h (no vs H Q E), fun A outer s H args us vs Q E _ _ _ _ h => absurd h (no vs H Q E)⟩
theorem start_rel {am : List Addr} (N : List Str) : ∀ {vs ws : List V}, RVs am vs ws → RSl am (startQ N.length vs) (L2.start N ws) := by
  intro vs ws r
  unfold startQ L2.start
  rw [← Paired.len r]
  refine Paired.app ?_ ?_
  · induction r with
    | nil => exact .nil
    | cons a _ ih => exact .cons a ih
  · generalize N.length - vs.length = n
    induction n with
    | zero => exact .nil
    | succ n ih => exact .cons trivial ih
theorem fns_ok {P : Program} {w : World} {K : PySem.W.Frag} {mg : Str → Option Value} {base : Heap} {blt : List Str} {W : Nm} {tab : List FD} {fa : Nat → Addr} {fdt : Nat → FuncData} (T : Top K mg blt W tab fa fdt) :
    ∀ (d i : Nat) (fd : FD), tab[i]? = some fd → FnOk P w K mg base (L2.CX P w) (2 * d) (fa i) (fdt i) (fd.N.take fd.np) (spQ W (cxt tab d) i fd.np)
  | 0, i, fd, hi => no_sp fun vs H Q E ⟨am, args, h, _, _, _, P⟩ => P
  | d + 1, i, fd, hi => by
    obtain ⟨st, F, S, hnp, m, hm, hb⟩ := T.rows i fd hi
    have ih := fns_ok (P := P) (w := w) (base := base) T d
    show FnOk P w K mg base (L2.CX P w) (2 * d + 1 + 1) (fa i) (fdt i) (fd.N.take fd.np) _
    refine F.okX S (fun vs H Q E h => ?_) (fun cdv A outer s H vs Q E hr h => ?_)
    · obtain ⟨am, args, h, r, _, hl, _⟩ := h
      rw [← Paired.len r, hl, List.length_take]
      omega
    · obtain ⟨am, args, h0, r, Si, hl, Po⟩ := h
      have C : Cs (cxOf (L2.CX P w) P w K mg base fd.N fd.name (defScope st) (fa i) cdv A outer s H E) W (cxt tab d) ⟨fd.N, defScope st, tab, blt⟩ (fun cls dd _ H => E cls dd H) := {
        hK := T.hK
        hN := rfl
        hs := rfl
        hc := rfl
        nd := S.nd
        hu := hr.units
        blt := T.bl
        tk := takes_of rfl rfl rfl rfl
        own := T.own
        fns := fun j fd2 hj => by
          obtain ⟨st2, F2, S2, hnp2, _, m2, b2⟩ := T.rows j fd2 hj
          exact ⟨fa j, fdt j, 2 * d, m2, F2.kp, hr.mono (Nat.le_succ _), .all b2, ih j fd2 hj⟩
        po := passes_of rfl
        fn := fun _ => rfl
        kf := S.kind }
      refine ⟨_, sSs C fd.body (defBody st) m, am, startQ fd.N.length args, h0, start_rel fd.N r, Si, ?_⟩
      have e : (cxt tab (d + 1)).call i args h0 = runF (cxt tab d) fd args h0 := by
        show (match tab[i]? with | some fd => runF (cxt tab d) fd args h0 | none => .bad) = _
        rw [hi]
      rw [e] at Po
      unfold runF at Po
      rw [if_pos hl] at Po
      cases q : evSs (cxt tab d) fd.body (startQ fd.N.length args) h0 with
      | nx s2 h2 =>
        rw [q] at Po
        exact fun am' σ' H' p rs S' => Po am' .non H' p S' rfl
      | ret v h2 =>
        rw [q] at Po
        exact Po
      | exc c dd s2 h2 =>
        rw [q] at Po
        exact fun am' σ' ed H' p rs S' rd => Po am' ed H' p S' rd
      | brk s2 h2 => rw [q] at Po; exact Po.elim
      | ct s2 h2 => rw [q] at Po; exact Po.elim
      | bad => rw [q] at Po; exact Po.elim

/-! ### a law: what the walk's end asks -/
/-- the script's own cell -/
def scr (ns : List Int) : Hh := [.frz (.lst (ns.map V.int))]
theorem ints_rel {am : List Addr} : ∀ ns : List Int, RVs am (ns.map V.int) (ns.map V.int)
  | [] => .nil
  | n :: r => .cons rfl (ints_rel r)
theorem law_sp {W : Nm} {K : PySem.W.Frag} (hK : K = W.K) {G : Cxt} {i : Nat} {ns : List Int} {H : Hp} {a : Addr} (hS : SqL K H a (ns.map V.int)) (h : ∃ h2, G.call i [.ref 0] (scr ns) = .ok (.bl true) h2) :
    spQ W G i 1 [.ref a] H (fun v _ => v = .bl true) fun _ _ _ => False := by
  subst hK
  obtain ⟨h2, e⟩ := h
  refine ⟨[a], [.ref 0], scr ns, .cons ⟨a, rfl, rfl⟩ .nil, ⟨rfl, fun j c b hc hb => ?_, fun j k b c d hj hk _ _ ne => ?_⟩, rfl, ?_⟩
  · cases j with
    | zero =>
      cases hc
      cases hb
      exact ⟨_, ints_rel ns, hS⟩
    | succ j => cases hb
  · cases j with
    | zero =>
      cases k with
      | zero => exact absurd rfl ne
      | succ k => cases hk
    | succ j => cases hj
  · rw [e]
    intro am' w H' _ _ r
    exact r
theorem cx_no {P : Program} {w : World} {H : Hp} {s : Shared} {e : Value} {s' : Shared} (h : L2.CX P w [] H s (fun _ _ _ => False) e s') : False := by
  obtain ⟨_, _, _, _, _, _, _, _, _, _, _, _, z⟩ := h
  exact z
theorem walkQ {l : PySem.W.OpenLaw} {q : Program} {loose : List Str} {XP : (Str → Option Value) → Heap → Prop} {YP : World → Heap → Prop} {d : DefRec} {K : Params → PySem.W.Frag} {x : Str} {tab : List FD} {blt : List Str} {i D : Nat} {fl : FD}
    (hn : l.most = some 63) (hdf : d.params.defaults = []) (hr : Room (2 * D) callerA)
    (hY : ∀ (w : World) (h : Heap), YP w h → (K w.params).In h)
    (hi : tab[i]? = some fl) (hx : fl.N.take fl.np = [x]) (h1 : fl.np = 1) (hname : fl.name = d.name)
    (F : ∀ (w : World) (mg : Str → Option Value) (h : Heap), (K w.params).In h → h.Ns mainGlobals mg → ∃ (W : Nm) (fa : Nat → Addr) (fdt : Nat → FuncData), Top (K w.params) mg blt W tab fa fdt)
    (law : ∀ ns : List Int, ns.length ≤ 63 → ∃ h2, (cxt tab D).call i [.ref 0] (scr ns) = .ok (.bl true) h2) :
    PySem.W.WalkO q loose XP YP l.row.toRowW d [] (fun f vs => PySem.call f vs) := by
  refine Att.attach_call hn hdf fun w s₀ s₁ mg mb fa o pm cd doc a vs ns G Y ho hd hcd hmg hobj hints hlen hg => ?_
  have KX := hY w _ Y
  obtain ⟨W, ga, gdt, T⟩ := F w mg _ KX G.T.g
  obtain ⟨st, F2, S2, hnp2, _, m2, b2⟩ := T.rows i fl hi
  have ef : fa = ga i := by
    have q := hmg.symm.trans ((congrArg mg hname.symm).trans m2)
    cases q
    rfl
  subst ef
  rw [hx] at b2
  refine L2.law_call (x := x) (fd := gdt i) (sp := spQ W (cxt tab D) i 1) (CX := L2.CX l.prog w) (k := 2 * D) KX G.T.g G.T.b G.T.builtins G.T.nolimit hg hobj hints (Nat.le_trans hlen (by rw [sizeLine_eq]; decide)) hr (fun base KB NB => ?_) (fun s u => .of_eq (b2 [u] rfl)) (fun H hO hS => law_sp T.hK hS (law ns hlen)) fun H e s' => cx_no
  have z := fns_ok (P := l.prog) (w := w) (base := base) T D i fl hi
  rw [hx, h1] at z
  exact z
end QM

/-! QM8: reckoning with the machine -/
namespace QM
open PySem L2
theorem call_eq {tab : List FD} {d i : Nat} {fd : FD} (e : tab[i]? = some fd) (vs : List V) (h : Hh) : (cxt tab (d + 1)).call i vs h = runF (cxt tab d) fd vs h := by
  show (match tab[i]? with | some fd => runF (cxt tab d) fd vs h | none => .bad) = _
  rw [e]
theorem atI_map (ns : List Int) (k : Nat) (h : k < ns.length) : atI (ns.map V.int) (k : Int) = some (.int (ns.getD k 0)) := by
  have e : (ns.map V.int)[k]? = some (.int (ns.getD k 0)) := by
    rw [List.getElem?_map, List.getElem?_eq_getElem h, List.getD_eq_getElem?_getD, List.getElem?_eq_getElem h]
    rfl
  exact atI_nat e
theorem ten_big : 10 ^ 1000 < big := by
  unfold big
  decide +kernel
theorem lt_big {n : Nat} (h : n ≤ 10 ^ 1000) : n < big := Nat.lt_of_le_of_lt h ten_big
theorem int_big {i : Int} (m : Int) (h1 : -m ≤ i) (h2 : i ≤ m) (hm : m ≤ 10 ^ 200) : i.natAbs < big := by
  have e : i.natAbs ≤ m.natAbs := by omega
  refine Nat.lt_of_le_of_lt e (lt_big ?_)
  have h3 : (m.natAbs : Int) ≤ 10 ^ 200 := by
    by_cases h0 : 0 ≤ m
    · omega
    · have : (0 : Int) ≤ 10 ^ 200 := by decide +kernel
      omega
  have h4 : m.natAbs ≤ 10 ^ 200 := by
    have : ((10 ^ 200 : Nat) : Int) = 10 ^ 200 := by decide +kernel
    omega
  exact Nat.le_trans h4 (by decide +kernel)
theorem log_lt {i : Int} (m : Int) (h1 : -m ≤ i) (h2 : i ≤ m) (hm : m ≤ 10 ^ 1000) : i.natAbs.log2 < 9000 := by
  refine log2_le _ _ ?_ (by decide)
  have e : i.natAbs ≤ m.natAbs := by omega
  refine Nat.lt_of_le_of_lt e ?_
  have h4 : m.natAbs ≤ 10 ^ 1000 := by
    have h5 : ((10 ^ 1000 : Nat) : Int) = 10 ^ 1000 := by decide +kernel
    have h6 : (0 : Int) ≤ 10 ^ 1000 := by decide +kernel
    omega
  exact Nat.lt_of_le_of_lt h4 (by decide +kernel)
/-- a positive divisor: % and // are the usual ones -/
theorem fmod_pos {i j : Int} (h : 0 < j) : i.fmod j = i % j := Int.fmod_eq_emod_of_nonneg i (by omega)
theorem fdiv_pos {i j : Int} (h : 0 < j) : i.fdiv j = i / j := Int.fdiv_eq_ediv_of_nonneg i (by omega)
theorem bMod_pos {i j : Int} {h : Hh} (hj : 0 < j) : bMod h (.int i) (.int j) = .ok (.int (i % j)) h := by
  unfold bMod
  dsimp only
  rw [if_pos (by omega), fmod_pos hj]
theorem bDiv_pos {i j : Int} {h : Hh} (hj : 0 < j) (hm : j ≤ 10 ^ 200) : bDiv h (.int i) (.int j) = .ok (.int (i / j)) h := by
  unfold bDiv
  dsimp only
  rw [if_pos ⟨by omega, log_lt j (by omega) (by omega) (Int.le_trans hm (by decide +kernel))⟩, fdiv_pos hj]
theorem bMul_ok {i j : Int} {h : Hh} (h1 : i.natAbs < big) (h2 : j.natAbs < big) : bMul h (.int i) (.int j) = .ok (.int (i * j)) h := by
  unfold bMul
  dsimp only
  rw [if_pos ⟨h1, h2⟩]
theorem bPow_ok {i j : Int} {h : Hh} (h0 : 0 ≤ j) (h1 : j ≤ 1000000) (h2 : i.natAbs < 2 ^ 64) : bPow h (.int i) (.int j) = .ok (.int (i ^ j.toNat)) h := by
  unfold bPow
  dsimp only
  rw [if_pos ⟨h0, h1, h2⟩]
theorem seqAt_frz {h : Hh} {i : Nat} {xs : List V} (e : h[i]? = some (.frz (.lst xs))) : seqAt h (.ref i) = some xs := by simp [seqAt, lstAt, e]
theorem seqAt_lst {h : Hh} {i : Nat} {xs : List V} (e : h[i]? = some (.lst xs)) : seqAt h (.ref i) = some xs := by simp [seqAt, lstAt, e]
theorem seqAt_tup {h : Hh} {i : Nat} {xs : List V} (e : h[i]? = some (.tup xs)) : seqAt h (.ref i) = some xs := by simp [seqAt, lstAt, tupAt, e]
@[simp] theorem new_get (h : Hh) (c : Cell) : (h ++ [c])[h.length]? = some c := by simp
theorem old_get {h : Hh} {i : Nat} {c : Cell} (h2 : Hh) (e : h[i]? = some c) : (h ++ h2)[i]? = some c := by
  obtain ⟨hi, _⟩ := List.getElem?_eq_some_iff.mp e
  rw [List.getElem?_append_left hi]
  exact e

/-! ### the machine's steps, each at its full arguments -/
section
variable {G : Cxt} {σ : Sl} {h : Hh}
@[simp] theorem x_c {v : V} : evE G (.c v) σ h = .ok v h := rfl
@[simp] theorem x_v {i : Nat} : evE G (.v i) σ h = (match σ[i]? with | some (some v) => .ok v h | _ => .bad) := rfl
@[simp] theorem x_bin {o : Bop} {a b : E} : evE G (.bin o a b) σ h = (evE G a σ h).bind fun x h => (evE G b σ h).bind fun y h => bop o x y h := rfl
@[simp] theorem x_neg {a : E} : evE G (.neg a) σ h = (evE G a σ h).bind fun x h => match x with | .int i => .ok (.int (-i)) h | _ => .bad := rfl
@[simp] theorem x_not {a : E} : evE G (.not a) σ h = (evE G a σ h).bind fun x h => (tru x h).bind fun b h => .ok (.bl (!b)) h := rfl
@[simp] theorem x_and {a b : E} : evE G (.and a b) σ h = (evE G a σ h).bind fun x h => match x with | .bl true => evE G b σ h | .bl false => .ok (.bl false) h | _ => .bad := rfl
@[simp] theorem x_or {a b : E} : evE G (.or a b) σ h = (evE G a σ h).bind fun x h => match x with | .bl true => .ok (.bl true) h | .bl false => evE G b σ h | _ => .bad := rfl
@[simp] theorem x_chain {o o' : Bop} {a b c : E} : evE G (.chain o o' a b c) σ h = (evE G a σ h).bind fun x h => (evE G b σ h).bind fun y h => (bop o x y h).bind fun z h => match z with
    | .bl true => (evE G c σ h).bind fun w h => bop o' y w h
    | .bl false => .ok (.bl false) h
    | _ => .bad := rfl
@[simp] theorem x_ix {a b : E} : evE G (.ix a b) σ h = (evE G a σ h).bind fun x h => (evE G b σ h).bind fun y h => ixs x y h := rfl
@[simp] theorem x_bi {f : Bi} {es : List E} : evE G (.bi f es) σ h = (evEs G es σ h).bind fun vs h => bi f vs h := rfl
@[simp] theorem x_isTy {t : Ty} {a : E} : evE G (.isTy t a) σ h = (evE G a σ h).bind fun x h => isTy t x h := rfl
@[simp] theorem x_lst {es : List E} : evE G (.lst es) σ h = (evEs G es σ h).bind fun vs h => if vs.length ≤ LINE then .ok (.ref h.length) (h ++ [.lst vs]) else .bad := rfl
@[simp] theorem x_tup {es : List E} : evE G (.tup es) σ h = (evEs G es σ h).bind fun vs h => if vs.length ≤ LINE then .ok (.ref h.length) (h ++ [.tup vs]) else .bad := rfl
@[simp] theorem x_call {f : Nat} {es : List E} : evE G (.call f es) σ h = (evEs G es σ h).bind fun vs h => G.call f vs h := rfl
@[simp] theorem x_nil : evEs G [] σ h = .ok [] h := rfl
@[simp] theorem x_cons {e : E} {r : List E} : evEs G (e :: r) σ h = (evE G e σ h).bind fun v h => (evEs G r σ h).bind fun vs h => .ok (v :: vs) h := rfl
@[simp] theorem x_T {e : E} : evT G e σ h = (evE G e σ h).bind tru := rfl
@[simp] theorem y_set {i : Nat} {e : E} : evS G (.set i e) σ h = (evE G e σ h).out σ fun v h => .nx (σ.set i (some v)) h := rfl
@[simp] theorem y_par {i j : Nat} {a b : E} : evS G (.par i j a b) σ h = (evE G a σ h).out σ fun x h => (evE G b σ h).out σ fun y h => .nx ((σ.set i (some x)).set j (some y)) h := rfl
@[simp] theorem y_tup {is : List Nat} {e : E} : evS G (.tup is e) σ h = (evE G e σ h).out σ fun v h => match tupAt h v with
    | some xs => match sets is xs σ with
      | some σ' => .nx σ' h
      | none => .bad
    | none => .bad := rfl
@[simp] theorem y_ret {e : E} : evS G (.ret e) σ h = (evE G e σ h).out σ fun v h => .ret v h := rfl
@[simp] theorem y_ite {c : E} {a b : List S} : evS G (.ite c a b) σ h = (evT G c σ h).out σ fun t h => if t = true then evSs G a σ h else evSs G b σ h := rfl
@[simp] theorem y_whl {c : E} {b : List S} : evS G (.whl c b) σ h = whileN (evT G c) (evSs G b) FUEL σ h := rfl
@[simp] theorem y_expr {e : E} : evS G (.expr e) σ h = (evE G e σ h).out σ fun _ h => .nx σ h := rfl
@[simp] theorem y_pass : evS G .pass σ h = .nx σ h := rfl
@[simp] theorem y_nil : evSs G [] σ h = .nx σ h := rfl
@[simp] theorem y_cons {s : S} {r : List S} : evSs G (s :: r) σ h = (evS G s σ h).seq fun σ h => evSs G r σ h := rfl
theorem w_step {c : Sl → Hh → Res Bool} {b : Sl → Hh → Out} {n : Nat} : whileN c b (n + 1) σ h = (c σ h).out σ fun t h => if t = true then (match b σ h with
      | .nx σ' h' => whileN c b n σ' h'
      | .ct σ' h' => whileN c b n σ' h'
      | .brk σ' h' => .nx σ' h'
      | r => r) else .nx σ h := rfl
end

/-! ### a def's run, statement by statement: the rest is kept closed -/
@[simp] theorem x_bop (o : Bop) (x y : V) (h : Hh) : bop o x y h = (match o with
  | .add => bAdd h x y | .sub => bSub h x y | .mul => bMul h x y | .fdiv => bDiv h x y | .mod => bMod h x y | .pow => bPow h x y
  | .eq => bEq false h x y | .ne => bEq true h x y | .lt => bLt h x y | .le => bLe h x y | .gt => bGt h x y | .ge => bGe h x y
  | .is => bIs false h x y | .isNot => bIs true h x y | .isin => bIn false h x y | .notin => bIn true h x y) := rfl
@[simp] theorem x_add_i (h : Hh) (i j : Int) : bAdd h (.int i) (.int j) = .ok (.int (i + j)) h := rfl
@[simp] theorem x_sub_i (h : Hh) (i j : Int) : bSub h (.int i) (.int j) = .ok (.int (i - j)) h := rfl
@[simp] theorem x_lt_i (h : Hh) (i j : Int) : bLt h (.int i) (.int j) = .ok (.bl (decide (i < j))) h := rfl
@[simp] theorem x_le_i (h : Hh) (i j : Int) : bLe h (.int i) (.int j) = .ok (.bl (decide (i ≤ j))) h := rfl
@[simp] theorem x_gt_i (h : Hh) (i j : Int) : bGt h (.int i) (.int j) = .ok (.bl (decide (j < i))) h := rfl
@[simp] theorem x_ge_i (h : Hh) (i j : Int) : bGe h (.int i) (.int j) = .ok (.bl (decide (j ≤ i))) h := rfl
@[simp] theorem x_eq_i (b : Bool) (h : Hh) (i j : Int) : bEq b h (.int i) (.int j) = .ok (.bl (if b then !decide (i = j) else decide (i = j))) h := by
  unfold bEq
  simp [scal]
@[simp] theorem x_eq_s (b : Bool) (h : Hh) (i j : Str) : bEq b h (.str i) (.str j) = .ok (.bl (if b then !decide (i = j) else decide (i = j))) h := by
  unfold bEq
  simp [scal]
@[simp] theorem x_eq_b (b : Bool) (h : Hh) (i j : Bool) : bEq b h (.bl i) (.bl j) = .ok (.bl (if b then !decide (i = j) else decide (i = j))) h := by
  unfold bEq
  simp [scal]
@[simp] theorem x_is_n (b : Bool) (h : Hh) (x : V) : bIs b h x .non = .ok (.bl (if b then !decide (x = .non) else decide (x = .non))) h := by
  unfold bIs
  cases x <;> rfl
@[simp] theorem x_is_b (b : Bool) (h : Hh) (x y : Bool) : bIs b h (.bl x) (.bl y) = .ok (.bl (if b then !decide (x = y) else decide (x = y))) h := rfl
@[simp] theorem x_tru_b (h : Hh) (b : Bool) : tru (.bl b) h = .ok b h := rfl
@[simp] theorem x_tru_i (h : Hh) (i : Int) : tru (.int i) h = .ok (i != 0) h := rfl
@[simp] theorem x_tru_n (h : Hh) : tru .non h = .ok false h := rfl
@[simp] theorem x_line2 : (2 ≤ LINE) = True := by simp [LINE]
@[simp] theorem x_line3 : (3 ≤ LINE) = True := by simp [LINE]
@[simp] theorem x_line1 : (1 ≤ LINE) = True := by simp [LINE]
@[simp] theorem x_line0 : (0 ≤ LINE) = True := by simp
theorem line_small {n : Nat} (h : n ≤ 16777216) : n ≤ LINE := h

def At (P : Out → Prop) (o : Out) : Prop := P o
def Gd {α : Type} (r : Res α) (Q : α → Hh → Prop) : Prop := match r with
  | .ok a h => Q a h
  | _ => False
def Ret (Q : V → Hh → Prop) : Out → Prop
  | .ret v h => Q v h
  | .nx _ h => Q .non h
  | _ => False
theorem Gd.ex {α : Type} {r : Res α} {Q : α → Hh → Prop} (h : Gd r Q) : ∃ a g, r = .ok a g ∧ Q a g := by
  cases r with
  | ok a g => exact ⟨a, g, rfl, h⟩
  | exc _ _ _ => exact h.elim
  | bad => exact h.elim
theorem Gd.call {tab : List FD} {d i : Nat} {fd : FD} {vs : List V} {h : Hh} {Q : V → Hh → Prop} (e : tab[i]? = some fd) (hl : vs.length = fd.np) (k : At (Ret Q) (evSs (cxt tab d) fd.body (startQ fd.N.length vs) h)) : Gd ((cxt tab (d + 1)).call i vs h) Q := by
  rw [call_eq e]
  unfold runF
  rw [if_pos hl]
  revert k
  cases evSs (cxt tab d) fd.body (startQ fd.N.length vs) h <;> exact fun k => k
theorem st {G : Cxt} {P : Out → Prop} {s : S} {r : List S} {σ : Sl} {h : Hh} (k : ∀ K : Sl → Hh → Out, K = evSs G r → At P ((evS G s σ h).seq K)) : At P (evSs G (s :: r) σ h) := k _ rfl
@[simp] theorem at_ret {Q : V → Hh → Prop} {v : V} {h : Hh} : At (Ret Q) (.ret v h) = Q v h := rfl
@[simp] theorem at_nx {Q : V → Hh → Prop} {σ : Sl} {h : Hh} : At (Ret Q) (.nx σ h) = Q .non h := rfl
end QM

namespace Q
open PySem L2 QM
def top (i : Nat) : Stmt := PySem.Challenge.pw_quotatree_k01_divisor.main.body.getD i (.Pass ⟨0, 0, 0, 0⟩)
abbrev i_divisor : Nat := 0
abbrev i_law_cell : Nat := 1
abbrev i_law_whole : Nat := 2
abbrev i_law_signed : Nat := 3
abbrev i_law_good : Nat := 4
abbrev i_law : Nat := 5
def f_divisor : FD := { name := "divisor", np := 2, N := ["one", "other", "rest"], body := [.set 0 (.bi .abs [.v 0]),
    .set 1 (.bi .abs [.v 1]),
    .whl (.bin .gt (.v 1) (.c (.int 0))) [.set 2 (.bin .mod (.v 0) (.v 1)),
    .set 0 (.v 1),
    .set 1 (.v 2)],
    .ret (.v 0)] }
def f_law_cell : FD := { name := "_law_cell", np := 2, N := ["_law_script", "_law_k"], body := [.ite (.bin .lt (.v 1) (.bi .len [.v 0])) [.ret (.ix (.v 0) (.v 1))] [],
    .ret (.c (.int 0))] }
def f_law_whole : FD := { name := "_law_whole", np := 1, N := ["_law_found"], body := [.ret (.and (.isTy .int (.v 0)) (.not (.isTy .bool (.v 0))))] }
def f_law_signed : FD := { name := "_law_signed", np := 2, N := ["_law_cell_here", "_law_span"], body := [.ret (.bin .sub (.bin .mod (.v 0) (.bin .add (.bin .mul (.c (.int 2)) (.v 1)) (.c (.int 1)))) (.v 1))] }
def f_law_good : FD := { name := "_law_good", np := 4, N := ["_law_found", "_law_one", "_law_other", "_law_share"], body := [.ite (.or (.not (.call i_law_whole [.v 0])) (.bin .lt (.v 0) (.c (.int 0)))) [.ret (.c (.bl false))] [],
    .ite (.bin .eq (.v 0) (.c (.int 0))) [.ret (.and (.bin .eq (.v 1) (.c (.int 0))) (.bin .eq (.v 2) (.c (.int 0))))] [],
    .ret (.and (.bin .eq (.bin .mod (.v 1) (.v 0)) (.c (.int 0))) (.and (.bin .eq (.bin .mod (.v 2) (.v 0)) (.c (.int 0))) (.bin .eq (.bin .mod (.v 0) (.v 3)) (.c (.int 0)))))] }
def f_law : FD := { name := "law", np := 1, N := ["_law_script", "_law_way", "_law_share", "_law_span", "_law_one", "_law_other"], body := [.set 1 (.call i_law_cell [.v 0, .c (.int 0)]),
    .set 2 (.bin .add (.c (.int 1)) (.bin .mod (.call i_law_cell [.v 0, .c (.int 1)]) (.ix (.lst [.c (.int 1), .c (.int 40), .bin .pow (.c (.int 10)) (.c (.int 30))]) (.bin .mod (.v 1) (.c (.int 3)))))),
    .set 3 (.ix (.lst [.c (.int 40), .bin .pow (.c (.int 10)) (.c (.int 30))]) (.bin .mod (.bin .fdiv (.v 1) (.c (.int 3))) (.c (.int 2)))),
    .set 4 (.bin .mul (.v 2) (.call i_law_signed [.call i_law_cell [.v 0, .c (.int 2)], .v 3])),
    .set 5 (.bin .mul (.v 2) (.call i_law_signed [.call i_law_cell [.v 0, .c (.int 3)], .v 3])),
    .ite (.bin .isin (.bin .mod (.bin .fdiv (.v 1) (.c (.int 6))) (.c (.int 5))) (.tup [.c (.int 1), .c (.int 3)])) [.set 4 (.c (.int 0))] [],
    .ite (.bin .isin (.bin .mod (.bin .fdiv (.v 1) (.c (.int 6))) (.c (.int 5))) (.tup [.c (.int 2), .c (.int 3)])) [.set 5 (.c (.int 0))] [],
    .ret (.and (.call i_law_good [.call i_divisor [.v 4, .v 5], .v 4, .v 5, .v 2]) (.call i_law_good [.call i_divisor [.v 5, .v 4], .v 4, .v 5, .v 2]))] }
def tab : List FD := [f_divisor, f_law_cell, f_law_whole, f_law_signed, f_law_good, f_law]
def blt : List Str := ["abs", "len", "isinstance", "int", "bool"]
def DEPTH : Nat := 5
def cell (ns : List Int) (k : Nat) : Int := ns.getD k 0
theorem call_cell (d : Nat) (ns : List Int) (h : Hh) (hs : h[0]? = some (.frz (.lst (ns.map .int)))) (k : Nat) :
    (cxt tab (d + 1)).call i_law_cell [.ref 0, .int k] h = .ok (.int (cell ns k)) h := by
  rw [call_eq (fd := f_law_cell) rfl]
  have hq := seqAt_frz hs
  by_cases hk : k < ns.length
  · have hk' : (k : Int) < ns.length := by omega
    simp [runF, f_law_cell, startQ, bLt, bi, bLen, ixs, hq, hk', hk, atI_map, cell]
  · have hk' : ¬ (k : Int) < ns.length := by omega
    simp [runF, f_law_cell, startQ, bLt, bi, bLen, ixs, hq, hk', hk, cell]
theorem call_whole (d : Nat) (i : Int) (h : Hh) : (cxt tab (d + 1)).call i_law_whole [.int i] h = .ok (.bl true) h := by
  rw [call_eq (fd := f_law_whole) rfl]
  simp [runF, f_law_whole, startQ, isTy, kd, Kd.isTy]
theorem call_signed (d : Nat) (x s : Int) (h : Hh) (h0 : 0 ≤ s) (h1 : s ≤ 10 ^ 100) : (cxt tab (d + 1)).call i_law_signed [.int x, .int s] h = .ok (.int (x % (2 * s + 1) - s)) h := by
  rw [call_eq (fd := f_law_signed) rfl]
  have hm : bMul h (.int 2) (.int s) = .ok (.int (2 * s)) h := bMul_ok (lt_big (by decide +kernel)) (int_big s (by omega) (by omega) (Int.le_trans h1 (by decide +kernel)))
  simp [runF, f_law_signed, startQ, hm, bAdd, bSub, bMod_pos (show (0 : Int) < 2 * s + 1 by omega)]
/-- the loop of divisor -/
theorem gcd_loop (G : Cxt) (h : Hh) : ∀ (n : Nat) (x y : Nat) (r : Option V), y < n → ∃ r', whileN (evT G (.bin .gt (.v 1) (.c (.int 0)))) (evSs G [.set 2 (.bin .mod (.v 0) (.v 1)), .set 0 (.v 1), .set 1 (.v 2)]) n [some (.int x), some (.int y), r] h =
    .nx [some (.int (Nat.gcd x y)), some (.int 0), r'] h
  | 0, _, _, _, hy => absurd hy (Nat.not_lt_zero _)
  | n + 1, x, 0, r, _ => ⟨r, by simp [w_step, bGt]⟩
  | n + 1, x, y + 1, r, hy => by
    have hp : (0 : Int) < (y : Int) + 1 := by omega
    have hlt : x % (y + 1) < y + 1 := Nat.mod_lt _ (by omega)
    obtain ⟨r', e⟩ := gcd_loop G h n (y + 1) (x % (y + 1)) (some (.int ((x % (y + 1) : Nat) : Int))) (by omega)
    refine ⟨r', ?_⟩
    have e2 : Nat.gcd x (y + 1) = Nat.gcd (y + 1) (x % (y + 1)) := by
      rw [Nat.gcd_comm x (y + 1), Nat.gcd_rec (y + 1) x, Nat.gcd_comm]
    rw [e2, ← e]
    rw [w_step]
    simp [bGt, bMod_pos hp, hp]
theorem call_divisor (d : Nat) (a b : Int) (h : Hh) (hb : b.natAbs < 10 ^ 300) : (cxt tab (d + 1)).call i_divisor [.int a, .int b] h = .ok (.int (Int.gcd a b)) h := by
  rw [call_eq (fd := f_divisor) rfl]
  have ea : (if a < 0 then -a else a) = (a.natAbs : Int) := by split <;> omega
  have eb : (if b < 0 then -b else b) = (b.natAbs : Int) := by split <;> omega
  obtain ⟨r', e⟩ := gcd_loop (cxt tab d) h FUEL a.natAbs b.natAbs none (Nat.lt_trans hb (by unfold FUEL; decide +kernel))
  simp [runF, f_divisor, startQ, bi, ea, eb, e, Int.gcd]
theorem call_good (d : Nat) (g one other share : Int) (h : Hh) (h0 : 0 ≤ g) (hz : g = 0 → one = 0 ∧ other = 0) (hs : 0 < share) (hd : 0 < g → one % g = 0 ∧ other % g = 0 ∧ g % share = 0) :
    (cxt tab (d + 2)).call i_law_good [.int g, .int one, .int other, .int share] h = .ok (.bl true) h := by
  rw [call_eq (fd := f_law_good) rfl]
  have hn : ¬ g < 0 := by omega
  by_cases e : g = 0
  · obtain ⟨rfl, rfl⟩ := hz e
    subst e
    simp [runF, f_law_good, startQ, call_whole, bLt, bEq, scal]
  · obtain ⟨e1, e2, e3⟩ := hd (by omega)
    simp [runF, f_law_good, startQ, call_whole, bLt, bEq, scal, hn, e, bMod_pos (show 0 < g by omega), bMod_pos hs, e1, e2, e3]
/-- what is asked of the two divisors -/
theorem gcd_asked (a b share : Int) (hs : 0 < share) (h1 : share ∣ a) (h2 : share ∣ b) : 0 ≤ (Int.gcd a b : Int) ∧ ((Int.gcd a b : Int) = 0 → a = 0 ∧ b = 0) ∧ (0 < (Int.gcd a b : Int) → a % (Int.gcd a b : Int) = 0 ∧ b % (Int.gcd a b : Int) = 0 ∧ (Int.gcd a b : Int) % share = 0) := by
  refine ⟨by omega, fun h => ?_, fun h => ⟨?_, ?_, ?_⟩⟩
  · have : Int.gcd a b = 0 := by omega
    exact Int.gcd_eq_zero_iff.mp this
  · exact Int.emod_eq_zero_of_dvd (Int.gcd_dvd_left a b)
  · exact Int.emod_eq_zero_of_dvd (Int.gcd_dvd_right a b)
  · exact Int.emod_eq_zero_of_dvd (Int.dvd_coe_gcd h1 h2)
/-- the end of the law, from any two numbers that the share divides -/
theorem law_end (d : Nat) (script : V) (way share span a b : Int) (h : Hh) (hs : 0 < share) (h1 : share ∣ a) (h2 : share ∣ b) (ha : a.natAbs < 10 ^ 300) (hb : b.natAbs < 10 ^ 300) :
    evS (cxt tab (d + 3)) (.ret (.and (.call i_law_good [.call i_divisor [.v 4, .v 5], .v 4, .v 5, .v 2]) (.call i_law_good [.call i_divisor [.v 5, .v 4], .v 4, .v 5, .v 2]))) [some script, some (.int way), some (.int share), some (.int span), some (.int a), some (.int b)] h = .ret (.bl true) h := by
  obtain ⟨a0, a1, a2⟩ := gcd_asked a b share hs h1 h2
  have e : Int.gcd b a = Int.gcd a b := Int.gcd_comm b a
  have g := call_good (d + 1) (Int.gcd a b) a b share h a0 a1 hs a2
  simp [call_divisor (d + 2) a b h hb, call_divisor (d + 2) b a h ha, e, g]
theorem law_true : ∀ ns : List Int, ns.length ≤ 63 → ∃ h2, (cxt tab DEPTH).call i_law [.ref 0] (scr ns) = .ok (.bl true) h2 := by
  intro ns _
  suffices z : Gd ((cxt tab DEPTH).call i_law [.ref 0] (scr ns)) (fun v _ => v = .bl true) by
    obtain ⟨v, g, e, rfl⟩ := z.ex
    exact ⟨g, e⟩
  refine Gd.call (d := 4) (fd := f_law) rfl rfl ?_
  have hc : ∀ (k : Int) (g : Hh), 0 ≤ k → g[0]? = some (.frz (.lst (ns.map .int))) → (cxt tab 4).call i_law_cell [.ref 0, .int k] g = .ok (.int (cell ns k.toNat)) g := fun k g hk hg => by
    have := call_cell 3 ns g hg k.toNat
    rwa [show ((k.toNat : Nat) : Int) = k by omega] at this
  have h0 : (scr ns)[0]? = some (.frz (.lst (ns.map .int))) := rfl
  refine st fun K hK => ?_
  simp [f_law, startQ, hc, h0]
  subst hK
  obtain ⟨m, hm, m0, m1⟩ : ∃ m : Int, atI [V.int 1, V.int 40, V.int 1000000000000000000000000000000] (cell ns 0 % 3) = some (.int m) ∧ 0 < m ∧ m ≤ 1000000000000000000000000000000 := by
    have w3 : cell ns 0 % 3 = 0 ∨ cell ns 0 % 3 = 1 ∨ cell ns 0 % 3 = 2 := by omega
    rcases w3 with e | e | e <;> rw [e]
    · exact ⟨1, rfl, by decide, by decide⟩
    · exact ⟨40, rfl, by decide, by decide⟩
    · exact ⟨1000000000000000000000000000000, rfl, by decide, by decide⟩
  refine st fun K hK => ?_
  simp [hc, h0, bPow_ok, bMod_pos, ixs, seqAt_lst, hm, m0]
  subst hK
  have l1 := Int.emod_nonneg (cell ns 1) (by omega : m ≠ 0)
  have l2 := Int.emod_lt_of_pos (cell ns 1) m0
  generalize hsh : 1 + cell ns 1 % m = share
  have h1 : (scr ns ++ [Cell.lst [V.int 1, V.int 40, V.int 1000000000000000000000000000000]])[0]? = some (.frz (.lst (ns.map .int))) := rfl
  generalize scr ns ++ [Cell.lst [V.int 1, V.int 40, V.int 1000000000000000000000000000000]] = g1 at h1 ⊢
  obtain ⟨p, hp, p0, p1⟩ : ∃ m : Int, atI [V.int 40, V.int 1000000000000000000000000000000] (cell ns 0 / 3 % 2) = some (.int m) ∧ 0 < m ∧ m ≤ 1000000000000000000000000000000 := by
    have w3 : cell ns 0 / 3 % 2 = 0 ∨ cell ns 0 / 3 % 2 = 1 := by omega
    rcases w3 with e | e <;> rw [e]
    · exact ⟨40, rfl, by decide, by decide⟩
    · exact ⟨1000000000000000000000000000000, rfl, by decide, by decide⟩
  refine st fun K hK => ?_
  simp [bPow_ok, bMod_pos, bDiv_pos, ixs, seqAt_lst, hp]
  subst hK
  have h2 : (g1 ++ [Cell.lst [V.int 40, V.int 1000000000000000000000000000000]])[0]? = some (.frz (.lst (ns.map .int))) := old_get _ h1
  generalize g1 ++ [Cell.lst [V.int 40, V.int 1000000000000000000000000000000]] = g2 at h2 ⊢
  have hsg : ∀ (x : Int) (g : Hh), (cxt tab 4).call i_law_signed [.int x, .int p] g = .ok (.int (x % (2 * p + 1) - p)) g := fun x g => call_signed 3 x p g (by omega) (Int.le_trans p1 (by decide +kernel))
  have bs : ∀ x : Int, -p ≤ x % (2 * p + 1) - p ∧ x % (2 * p + 1) - p ≤ p := fun x => by
    have a := Int.emod_nonneg x (by omega : 2 * p + 1 ≠ 0)
    have b := Int.emod_lt_of_pos x (by omega : 0 < 2 * p + 1)
    omega
  have mb : ∀ (x : Int) (g : Hh), bMul g (.int share) (.int (x % (2 * p + 1) - p)) = .ok (.int (share * (x % (2 * p + 1) - p))) g := fun x g =>
    bMul_ok (int_big (1000000000000000000000000000000) (by omega) (by omega) (by decide +kernel)) (int_big p (bs x).1 (bs x).2 (Int.le_trans p1 (by decide +kernel)))
  refine st fun K hK => ?_
  simp [hc, h2, hsg, mb]
  subst hK
  refine st fun K hK => ?_
  simp [hc, h2, hsg, mb]
  subst hK
  have dv : ∀ x : Int, share ∣ share * (x % (2 * p + 1) - p) := fun x => Int.dvd_mul_right _ _
  have ab : ∀ x : Int, (share * (x % (2 * p + 1) - p)).natAbs < 10 ^ 300 := fun x => by
    rw [Int.natAbs_mul]
    have e1 : share.natAbs ≤ 10 ^ 30 := by omega
    have e2 : (x % (2 * p + 1) - p).natAbs ≤ 10 ^ 30 := by have := bs x; omega
    exact Nat.lt_of_le_of_lt (Nat.mul_le_mul e1 e2) (by decide +kernel)
  have d1 := dv (cell ns 2)
  have d2 := dv (cell ns 3)
  have a1 := ab (cell ns 2)
  have a2 := ab (cell ns 3)
  generalize share * (cell ns 2 % (2 * p + 1) - p) = one at d1 a1 ⊢
  generalize share * (cell ns 3 % (2 * p + 1) - p) = other at d2 a2 ⊢
  have fin : ∀ (a b : Int) (g : Hh), share ∣ a → share ∣ b → a.natAbs < 10 ^ 300 → b.natAbs < 10 ^ 300 → At (Ret fun v _ => v = V.bl true) (evSs (cxt tab 4) [.ret (.and (.call i_law_good [.call i_divisor [.v 4, .v 5], .v 4, .v 5, .v 2]) (.call i_law_good [.call i_divisor [.v 5, .v 4], .v 4, .v 5, .v 2]))] [some (.ref 0), some (.int (cell ns 0)), some (.int share), some (.int p), some (.int a), some (.int b)] g) := fun a b g q1 q2 q3 q4 => by
    rw [y_cons, law_end 1 (.ref 0) (cell ns 0) share p a b g (by omega) q1 q2 q3 q4]
    rfl
  have b0 : (0 : Int).natAbs < 10 ^ 300 := by decide +kernel
  have fin2 : ∀ (a b : Int) (g : Hh), share ∣ a → share ∣ b → a.natAbs < 10 ^ 300 → b.natAbs < 10 ^ 300 → At (Ret fun v _ => v = V.bl true) (evSs (cxt tab 4) (f_law.body.drop 6) [some (.ref 0), some (.int (cell ns 0)), some (.int share), some (.int p), some (.int a), some (.int b)] g) := fun a b g q1 q2 q3 q4 => by
    refine st fun K hK => ?_
    simp [bMod_pos, bDiv_pos, bIn, seqAt_tup, flatV, inV, eqV]
    split <;> simp only [seq_nx, hK]
    · exact fin a 0 _ q1 (Int.dvd_zero _) q3 b0
    · exact fin a b _ q1 q2 q3 q4
  refine st fun K hK => ?_
  simp [bMod_pos, bDiv_pos, bIn, seqAt_tup, flatV, inV, eqV]
  split <;> simp only [seq_nx, hK]
  · exact fin2 0 other _ (Int.dvd_zero _) d2 b0 a2
  · exact fin2 one other _ d1 d2 a1 a2

abbrev s_divisor : Stmt := top 1
theorem sc_divisor : FnScope f_divisor.N (f_divisor.N.take f_divisor.np) (defScope s_divisor) := ⟨rfl, rfl, rfl, by decide +kernel, rfl, by decide +kernel, by decide +kernel⟩
theorem m_divisor : mSs ⟨f_divisor.N, defScope s_divisor, tab, blt⟩ f_divisor.body (defBody s_divisor) = true := by decide +kernel
theorem r_divisor {K : PySem.W.Frag} {h : Heap} {mg : Str → Option Value} {f : Addr} (X : K.In h) (G : h.Ns mainGlobals mg) {od an : Option Addr} {sl : Array (Option Value)} {oc kV dc pm cd ct : Value}
    (a : PySem.W.nsIn K mainGlobals "divisor" = some (some (.ref f))) (l : K.lookup f = some ⟨oc, od, .func (PySem.W.fnOf "divisor" "divisor" (defArgs s_divisor) (defBody s_divisor) (defScope s_divisor) .none kV dc pm an cd ct), sl⟩) (c : PySem.W.codeIn K cd "divisor" = true) (k : PySem.W.keepIn K (.ref f) = true) : Row K mg blt tab f_divisor :=
  ⟨f, _, s_divisor, fun_mk (st := s_divisor) l c k, sc_divisor, by decide, m_divisor, PySem.W.mg_of X G a, fun us hl => match us, hl with | [_, _], _ => rfl⟩
abbrev s_law_cell : Stmt := top 3
theorem sc_law_cell : FnScope f_law_cell.N (f_law_cell.N.take f_law_cell.np) (defScope s_law_cell) := ⟨rfl, rfl, rfl, by decide +kernel, rfl, by decide +kernel, by decide +kernel⟩
theorem m_law_cell : mSs ⟨f_law_cell.N, defScope s_law_cell, tab, blt⟩ f_law_cell.body (defBody s_law_cell) = true := by decide +kernel
theorem r_law_cell {K : PySem.W.Frag} {h : Heap} {mg : Str → Option Value} {f : Addr} (X : K.In h) (G : h.Ns mainGlobals mg) {od an : Option Addr} {sl : Array (Option Value)} {oc kV dc pm cd ct : Value}
    (a : PySem.W.nsIn K mainGlobals "_law_cell" = some (some (.ref f))) (l : K.lookup f = some ⟨oc, od, .func (PySem.W.fnOf "_law_cell" "_law_cell" (defArgs s_law_cell) (defBody s_law_cell) (defScope s_law_cell) .none kV dc pm an cd ct), sl⟩) (c : PySem.W.codeIn K cd "_law_cell" = true) (k : PySem.W.keepIn K (.ref f) = true) : Row K mg blt tab f_law_cell :=
  ⟨f, _, s_law_cell, fun_mk (st := s_law_cell) l c k, sc_law_cell, by decide, m_law_cell, PySem.W.mg_of X G a, fun us hl => match us, hl with | [_, _], _ => rfl⟩
abbrev s_law_whole : Stmt := top 4
theorem sc_law_whole : FnScope f_law_whole.N (f_law_whole.N.take f_law_whole.np) (defScope s_law_whole) := ⟨rfl, rfl, rfl, by decide +kernel, rfl, by decide +kernel, by decide +kernel⟩
theorem m_law_whole : mSs ⟨f_law_whole.N, defScope s_law_whole, tab, blt⟩ f_law_whole.body (defBody s_law_whole) = true := by decide +kernel
theorem r_law_whole {K : PySem.W.Frag} {h : Heap} {mg : Str → Option Value} {f : Addr} (X : K.In h) (G : h.Ns mainGlobals mg) {od an : Option Addr} {sl : Array (Option Value)} {oc kV dc pm cd ct : Value}
    (a : PySem.W.nsIn K mainGlobals "_law_whole" = some (some (.ref f))) (l : K.lookup f = some ⟨oc, od, .func (PySem.W.fnOf "_law_whole" "_law_whole" (defArgs s_law_whole) (defBody s_law_whole) (defScope s_law_whole) .none kV dc pm an cd ct), sl⟩) (c : PySem.W.codeIn K cd "_law_whole" = true) (k : PySem.W.keepIn K (.ref f) = true) : Row K mg blt tab f_law_whole :=
  ⟨f, _, s_law_whole, fun_mk (st := s_law_whole) l c k, sc_law_whole, by decide, m_law_whole, PySem.W.mg_of X G a, fun us hl => match us, hl with | [_], _ => rfl⟩
abbrev s_law_signed : Stmt := top 5
theorem sc_law_signed : FnScope f_law_signed.N (f_law_signed.N.take f_law_signed.np) (defScope s_law_signed) := ⟨rfl, rfl, rfl, by decide +kernel, rfl, by decide +kernel, by decide +kernel⟩
theorem m_law_signed : mSs ⟨f_law_signed.N, defScope s_law_signed, tab, blt⟩ f_law_signed.body (defBody s_law_signed) = true := by decide +kernel
theorem r_law_signed {K : PySem.W.Frag} {h : Heap} {mg : Str → Option Value} {f : Addr} (X : K.In h) (G : h.Ns mainGlobals mg) {od an : Option Addr} {sl : Array (Option Value)} {oc kV dc pm cd ct : Value}
    (a : PySem.W.nsIn K mainGlobals "_law_signed" = some (some (.ref f))) (l : K.lookup f = some ⟨oc, od, .func (PySem.W.fnOf "_law_signed" "_law_signed" (defArgs s_law_signed) (defBody s_law_signed) (defScope s_law_signed) .none kV dc pm an cd ct), sl⟩) (c : PySem.W.codeIn K cd "_law_signed" = true) (k : PySem.W.keepIn K (.ref f) = true) : Row K mg blt tab f_law_signed :=
  ⟨f, _, s_law_signed, fun_mk (st := s_law_signed) l c k, sc_law_signed, by decide, m_law_signed, PySem.W.mg_of X G a, fun us hl => match us, hl with | [_, _], _ => rfl⟩
abbrev s_law_good : Stmt := top 6
theorem sc_law_good : FnScope f_law_good.N (f_law_good.N.take f_law_good.np) (defScope s_law_good) := ⟨rfl, rfl, rfl, by decide +kernel, rfl, by decide +kernel, by decide +kernel⟩
theorem m_law_good : mSs ⟨f_law_good.N, defScope s_law_good, tab, blt⟩ f_law_good.body (defBody s_law_good) = true := by decide +kernel
theorem r_law_good {K : PySem.W.Frag} {h : Heap} {mg : Str → Option Value} {f : Addr} (X : K.In h) (G : h.Ns mainGlobals mg) {od an : Option Addr} {sl : Array (Option Value)} {oc kV dc pm cd ct : Value}
    (a : PySem.W.nsIn K mainGlobals "_law_good" = some (some (.ref f))) (l : K.lookup f = some ⟨oc, od, .func (PySem.W.fnOf "_law_good" "_law_good" (defArgs s_law_good) (defBody s_law_good) (defScope s_law_good) .none kV dc pm an cd ct), sl⟩) (c : PySem.W.codeIn K cd "_law_good" = true) (k : PySem.W.keepIn K (.ref f) = true) : Row K mg blt tab f_law_good :=
  ⟨f, _, s_law_good, fun_mk (st := s_law_good) l c k, sc_law_good, by decide, m_law_good, PySem.W.mg_of X G a, fun us hl => match us, hl with | [_, _, _, _], _ => rfl⟩
abbrev s_law : Stmt := top 7
theorem sc_law : FnScope f_law.N (f_law.N.take f_law.np) (defScope s_law) := ⟨rfl, rfl, rfl, by decide +kernel, rfl, by decide +kernel, by decide +kernel⟩
theorem m_law : mSs ⟨f_law.N, defScope s_law, tab, blt⟩ f_law.body (defBody s_law) = true := by decide +kernel
theorem r_law {K : PySem.W.Frag} {h : Heap} {mg : Str → Option Value} {f : Addr} (X : K.In h) (G : h.Ns mainGlobals mg) {od an : Option Addr} {sl : Array (Option Value)} {oc kV dc pm cd ct : Value}
    (a : PySem.W.nsIn K mainGlobals "law" = some (some (.ref f))) (l : K.lookup f = some ⟨oc, od, .func (PySem.W.fnOf "law" "law" (defArgs s_law) (defBody s_law) (defScope s_law) .none kV dc pm an cd ct), sl⟩) (c : PySem.W.codeIn K cd "law" = true) (k : PySem.W.keepIn K (.ref f) = true) : Row K mg blt tab f_law :=
  ⟨f, _, s_law, fun_mk (st := s_law) l c k, sc_law, by decide, m_law, PySem.W.mg_of X G a, fun us hl => match us, hl with | [_], _ => rfl⟩
theorem all {K : PySem.W.Frag} {h : Heap} {mg : Str → Option Value} (X : K.In h) (G : h.Ns mainGlobals mg)
    (b0 : PySem.W.nsIn K mainGlobals "abs" = some none)
    (b1 : PySem.W.nsIn K mainGlobals "len" = some none)
    (b2 : PySem.W.nsIn K mainGlobals "isinstance" = some none)
    (b3 : PySem.W.nsIn K mainGlobals "int" = some none)
    (b4 : PySem.W.nsIn K mainGlobals "bool" = some none)
    (q_divisor : Row K mg blt tab f_divisor)
    (q_law_cell : Row K mg blt tab f_law_cell)
    (q_law_whole : Row K mg blt tab f_law_whole)
    (q_law_signed : Row K mg blt tab f_law_signed)
    (q_law_good : Row K mg blt tab f_law_good)
    (q_law : Row K mg blt tab f_law)
    : ∃ (W : Nm) (fa : Nat → Addr) (fdt : Nat → FuncData), Top K mg blt W tab fa fdt := by
  refine ⟨⟨K, fun _ => 0, fun _ => Str.empty, fun _ => False⟩, Top.of rfl ?_ (fun _ z => z.elim) ?_⟩
  · intro b hb
    simp only [blt, List.mem_cons, List.not_mem_nil, or_false] at hb
    rcases hb with rfl | rfl | rfl | rfl | rfl
    · exact PySem.W.mg_none_of X G b0
    · exact PySem.W.mg_none_of X G b1
    · exact PySem.W.mg_none_of X G b2
    · exact PySem.W.mg_none_of X G b3
    · exact PySem.W.mg_none_of X G b4
  · intro fd hfd
    simp only [tab, List.mem_cons, List.not_mem_nil, or_false] at hfd
    rcases hfd with rfl | rfl | rfl | rfl | rfl | rfl
    · exact q_divisor
    · exact q_law_cell
    · exact q_law_whole
    · exact q_law_signed
    · exact q_law_good
    · exact q_law
end Q
open PySem PySem.W PyProof.Rows
set_option maxRecDepth 100000 in
set_option maxHeartbeats 0 in
theorem PySem.Challenge.cw_quotatree_k01_divisor_holds : PySem.Challenge.rw_quotatree_k01_divisor.Holds := by
  w_on; o_law; k_head; (case hw => w_witness2)
  k_fill
  refine QM.walkQ (l := PySem.Challenge.rw_quotatree_k01_divisor) (tab := Q.tab) (blt := Q.blt) (i := Q.i_law) (D := Q.DEPTH) (fl := Q.f_law) rfl rfl ⟨rfl, by decide, by decide⟩ (fun w h Y => PySem.W.kIn_of Y) rfl rfl rfl rfl ?F Q.law_true
  case F =>
    intro w mg h KX G
    refine' Q.all KX G ?b0 ?b1 ?b2 ?b3 ?b4 (Q.r_divisor KX G ?a0 ?l0 ?c0 ?k0) (Q.r_law_cell KX G ?a1 ?l1 ?c1 ?k1) (Q.r_law_whole KX G ?a2 ?l2 ?c2 ?k2) (Q.r_law_signed KX G ?a3 ?l3 ?c3 ?k3) (Q.r_law_good KX G ?a4 ?l4 ?c4 ?k4) (Q.r_law KX G ?a5 ?l5 ?c5 ?k5)
    (case b0 => k_is)
    (case b1 => k_is)
    (case b2 => k_is)
    (case b3 => k_is)
    (case b4 => k_is)
    (case a0 => k_is); (case l0 => k_is); (case c0 => k_is); (case k0 => k_is)
    (case a1 => k_is); (case l1 => k_is); (case c1 => k_is); (case k1 => k_is)
    (case a2 => k_is); (case l2 => k_is); (case c2 => k_is); (case k2 => k_is)
    (case a3 => k_is); (case l3 => k_is); (case c3 => k_is); (case k3 => k_is)
    (case a4 => k_is); (case l4 => k_is); (case c4 => k_is); (case k4 => k_is)
    (case a5 => k_is); (case l5 => k_is); (case c5 => k_is); (case k5 => k_is)
#print axioms PySem.Challenge.cw_quotatree_k01_divisor_holds
