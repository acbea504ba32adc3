import PyProof.Rows.All
import Wide.All
import OpenK.AllK
import Wide.FinOn
import HandS.ForMost
import HandS.TryOnly
import HandS.TryMany
import HandS.IsInst
import HandS.Zip
import HandS.TupAny
import HandS.TupMul
import HandS.StrMore
import HandS.Replace
import HandS.CallSlots
import HandS.Deep
import HandS.Small
import HandS.Wide
import HandS.NoneIn
import HandS.More
import KE.SortData
import KE.IntBitsLaws
import PyProof.StrOps2
import PyProof.StrLawsFirst
import HandS.Conv
import HandS.Strs
import HandS.ExcInit
import HandS.ExcField
import HandS.Defaults
import HandS.Head0
import HandS.Head1
import HandS.Head2
import HandS.HeadEnd
import HandS.HeadHook1
import HandS.HeadHook2
import HandS.HeadHook3
import KE.KStateDown
import HandS.Base
import HandS.Call
import HandS.Ends
import HandS.Words
import HandS.WordsExc
import PySem.Challenge.RW_lightled_k82_whole_first_meeting_lit
set_option Elab.async false
set_option linter.all false
section
/-! Mini: a small language of tuples, texts, ints, lists, dicts, with an evaluator in plain Lean. -/
set_option autoImplicit false
namespace PL

abbrev Txt := List Nat
/-- values: data, or places of the store -/
inductive D where
  | non | bl (b : Bool) | int (i : Int) | str (s : Txt) | tup (xs : List D) | rol (xs : List D) | ktp (xs : List D) | loc (l : Nat) | cst (c : Nat) | err (ms ks : List Nat) (fs : List D) | ftup (xs : List D)
  deriving Inhabited

abbrev Key := Sum Int Txt
def Key.d : Key → D
  | .inl i => .int i
  | .inr s => .str s

mutual
def D.same : D → D → Bool
  | .non, .non => true
  | .bl a, .bl b => a == b
  | .int i, .int j => i == j
  | .str x, .str y => x == y
  | .tup xs, .tup ys => D.sameL xs ys
  | .rol xs, .rol ys => D.sameL xs ys
  | .ktp xs, .ktp ys => D.sameL xs ys
  | .ftup xs, .ftup ys => D.sameL xs ys
  | .loc l, .loc k => l == k
  | .cst l, .cst k => l == k
  | .err a j xs, .err b k ys => a == b && (j == k && D.sameL xs ys)
  | _, _ => false
def D.sameL : List D → List D → Bool
  | [], [] => true
  | x :: xs, y :: ys => D.same x y && D.sameL xs ys
  | _, _ => false
end
mutual
theorem D.same_eq : ∀ x y : D, D.same x y = true → x = y
  | .non, y, h => by cases y <;> simp_all [D.same]
  | .bl _, y, h => by cases y <;> simp_all [D.same]
  | .int _, y, h => by cases y <;> simp_all [D.same]
  | .str _, y, h => by cases y <;> simp_all [D.same]
  | .loc _, y, h => by cases y <;> simp_all [D.same]
  | .cst _, y, h => by cases y <;> simp_all [D.same]
  | .tup xs, y, h => by
    cases y with
    | tup ys => rw [D.same] at h; rw [D.sameL_eq xs ys h]
    | _ => simp [D.same] at h
  | .rol xs, y, h => by
    cases y with
    | rol ys => rw [D.same] at h; rw [D.sameL_eq xs ys h]
    | _ => simp [D.same] at h
  | .ktp xs, y, h => by
    cases y with
    | ktp ys => rw [D.same] at h; rw [D.sameL_eq xs ys h]
    | _ => simp [D.same] at h
  | .ftup xs, y, h => by
    cases y with
    | ftup ys => rw [D.same] at h; rw [D.sameL_eq xs ys h]
    | _ => simp [D.same] at h
  | .err a j xs, y, h => by
    cases y with
    | err b k ys =>
      rw [D.same, Bool.and_eq_true, Bool.and_eq_true] at h
      rw [D.sameL_eq xs ys h.2.2, show a = b from by simpa using h.1, show j = k from by simpa using h.2.1]
    | _ => simp [D.same] at h
theorem D.sameL_eq : ∀ xs ys : List D, D.sameL xs ys = true → xs = ys
  | [], ys, h => by cases ys <;> simp_all [D.sameL]
  | x :: xs, ys, h => by
    cases ys with
    | nil => simp [D.sameL] at h
    | cons y ys =>
      rw [D.sameL, Bool.and_eq_true] at h
      rw [D.same_eq x y h.1, D.sameL_eq xs ys h.2]
end
mutual
theorem D.same_rfl : ∀ x : D, D.same x x = true
  | .non => rfl
  | .bl _ => by simp [D.same]
  | .int _ => by simp [D.same]
  | .str _ => by simp [D.same]
  | .loc _ => by simp [D.same]
  | .cst _ => by simp [D.same]
  | .tup xs => by rw [D.same]; exact D.sameL_rfl xs
  | .rol xs => by rw [D.same]; exact D.sameL_rfl xs
  | .ktp xs => by rw [D.same]; exact D.sameL_rfl xs
  | .ftup xs => by rw [D.same]; exact D.sameL_rfl xs
  | .err a j xs => by rw [D.same, D.sameL_rfl xs]; simp
theorem D.sameL_rfl : ∀ xs : List D, D.sameL xs xs = true
  | [] => rfl
  | x :: xs => by rw [D.sameL, D.same_rfl x, D.sameL_rfl xs]; rfl
end
instance : DecidableEq D := fun x y => if h : D.same x y = true then .isTrue (D.same_eq x y h) else .isFalse fun e => h (by rw [e]; exact D.same_rfl y)

/-- what stands at a place of the store; lk: walked just now -/
inductive Obj where
  | lst (xs : List D)
  | dK (lk : Bool) (kvs : List (Key × D))
  | dT (lk : Bool) (kvs : List (List Key × D))
  deriving Inhabited, DecidableEq
abbrev Store := List Obj
abbrev Env := List (Option D)

/-- the most elements, signs that this evaluator lets be -/
def mostLen : Nat := 1000000

mutual
def D.data : D → Bool
  | .tup xs => D.dataL xs
  | .rol xs => D.dataL xs
  | .ktp xs => D.dataL xs
  | .ftup xs => D.dataL xs
  | .loc _ => false
  | .err _ _ _ => false
  | _ => true
def D.dataL : List D → Bool
  | [] => true
  | x :: xs => D.data x && D.dataL xs
end

/-- an error: its class and those it is of, its fields -/
structure Exc where
  ms : List Nat
  ks : List Nat
  fs : List D
inductive Res (α : Type) where
  | ok (a : α) (μ : Store)
  | exc (x : Exc) (μ : Store)
  | stuck
def Res.bind {α β : Type} (r : Res α) (f : α → Store → Res β) : Res β :=
  match r with
  | .ok a μ => f a μ
  | .exc x μ => .exc x μ
  | .stuck => .stuck
theorem Res.bind_ok {α β : Type} (a : α) (μ : Store) (f : α → Store → Res β) : (Res.ok a μ).bind f = f a μ := rfl
theorem Res.bind_exc {α β : Type} (x : Exc) (μ : Store) (f : α → Store → Res β) : (Res.exc x μ : Res α).bind f = .exc x μ := rfl
theorem Res.bind_stuck {α β : Type} (f : α → Store → Res β) : (Res.stuck : Res α).bind f = .stuck := rfl

/-! ### data compared -/
mutual
/-- == of data -/
def deq : D → D → Bool
  | .non, .non => true
  | .bl a, .bl b => a == b
  | .bl a, .int j => (if a then 1 else 0) == j
  | .int i, .bl b => i == (if b then 1 else 0)
  | .int i, .int j => i == j
  | .str x, .str y => x == y
  | .tup xs, .tup ys => deqL xs ys
  | .rol xs, .rol ys => deqL xs ys
  | _, _ => false
def deqL : List D → List D → Bool
  | [], [] => true
  | x :: xs, y :: ys => deq x y && deqL xs ys
  | _, _ => false
end
mutual
/-- can the two be compared by <, place by place -/
def alk : D → D → Bool
  | .int _, .int _ => true
  | .str _, .str _ => true
  | .tup xs, .tup ys => alkL xs ys
  | _, _ => false
def alkL : List D → List D → Bool
  | x :: xs, y :: ys => alk x y && alkL xs ys
  | [], _ => true
  | _ :: _, [] => true
end
mutual
/-- < of data that can be compared -/
def dlt : D → D → Bool
  | .int a, .int b => decide (a < b)
  | .str a, .str b => decide (a < b)
  | .tup xs, .tup ys => dltL xs ys
  | _, _ => false
def dltL : List D → List D → Bool
  | x :: xs, y :: ys => if deq x y then dltL xs ys else dlt x y
  | [], [] => false
  | [], _ :: _ => true
  | _ :: _, [] => false
end
mutual
/-- how deep tuples lie -/
def D.depth : D → Nat
  | .tup xs => D.depthL xs + 1
  | .rol xs => D.depthL xs + 1
  | .ktp xs => D.depthL xs + 1
  | _ => 0
def D.depthL : List D → Nat
  | [] => 0
  | x :: xs => max (D.depth x) (D.depthL xs)
end
mutual
/-- plain data: no constant tables, no places; texts of true signs -/
def D.plain : D → Bool
  | .tup xs => D.plainL xs
  | .rol _ => false
  | .ktp _ => false
  | .loc _ => false
  | .cst _ => false
  | .err _ _ _ => false
  | .ftup _ => false
  | .str s => s.all fun c => decide (c < 1114112)
  | _ => true
def D.plainL : List D → Bool
  | [] => true
  | x :: xs => D.plain x && D.plainL xs
end
/-- data that == takes -/
def D.eqOk (d : D) : Bool := D.plain d && decide (D.depth d ≤ 60)
/-- what is neither a row nor a place -/
def D.scal : D → Bool
  | .non => true
  | .bl _ => true
  | .int _ => true
  | .str _ => true
  | _ => false

/-! ### places in a row -/
def pyIx (n : Nat) (i : Int) : Option Nat :=
  if 0 ≤ i then (if i < n then some i.toNat else none) else if -(n : Int) ≤ i then some (i + n).toNat else none
def atIx {α : Type} (xs : List α) (i : Int) : Option α := (pyIx xs.length i).bind fun j => xs[j]?
/-- a slice's end, clipped -/
def clip (n d : Nat) : Option Int → Nat
  | none => d
  | some i => if i < 0 then (i + n).toNat else min i.toNat n
def cut {α : Type} (xs : List α) (lo hi : Option Int) : List α := (xs.drop (clip xs.length 0 lo)).take (clip xs.length xs.length hi - clip xs.length 0 lo)

/-! ### dicts -/
def look {κ : Type} [DecidableEq κ] (kvs : List (κ × D)) (k : κ) : Option D := (kvs.find? fun p => decide (p.1 = k)).map (·.2)
def put {κ : Type} [DecidableEq κ] (kvs : List (κ × D)) (k : κ) (v : D) : List (κ × D) :=
  if (kvs.any fun p => decide (p.1 = k)) = true then kvs.map (fun p => if p.1 = k then (p.1, v) else p) else kvs ++ [(k, v)]
def D.key : D → Option Key
  | .int i => some (.inl i)
  | .str s => some (.inr s)
  | _ => none
def D.keys : List D → Option (List Key)
  | [] => some []
  | x :: xs => match D.key x, D.keys xs with
    | some k, some ks => some (k :: ks)
    | _, _ => none

/-! ### the syntax -/
inductive Op where | add | sub | mul | fdiv | mod | pow
  deriving DecidableEq, Repr
inductive Cm where | eq | ne | lt | le | gt | ge | is | isn | inn | nin
  deriving DecidableEq, Repr
inductive Ty where | int | str | bool | tuple | list
  deriving DecidableEq, Repr
/-- built-in functions of one argument -/
inductive Bf where | len | abs | int | str | tuple | list | sorted | bool | tupleF
  deriving DecidableEq, Repr
/-- methods of built-in things -/
inductive Mf where | append | pop | popAt | extend | join | index | get | get2 | indexL | indexT
  deriving DecidableEq, Repr

mutual
inductive E where
  | v (i : Nat) | non | bl (b : Bool) | int (i : Int) | str (s : Txt)
  | glS (x : Nat) (s : Txt) | glC (x : Nat) (c : Nat)
  | tup (es : Es) | lst (es : Es) | dnK | dnT | disp (ks : List Key) (es : Es)
  | call (f : Nat) (es : Es)
  | bf (b : Bf) (e : E)
  | isi (e : E) (t : Ty)
  | meth (m : Mf) (o : E) (es : Es)
  | bin (op : Op) (a b : E)
  | neg (a : E)
  | cmp (c : Cm) (a b : E)
  | chain (c d : Cm) (a b e : E)
  | and (a b : E) | or (a b : E) | not (a : E)
  | ite (c a b : E)
  | ix (a b : E)
  | slL (a lo : E) | slU (a hi : E) | slB (a lo hi : E)
  | comp (t : T) (it : It) (c : Ec) (e : E) (own : List Nat)
  | errF (n i : Nat) | errIs (n : Nat) (cs : List Nat)
inductive Es where | nil | cons (e : E) (es : Es)
/-- a comprehension's test: none, one -/
inductive Ec where | yes | test (e : E)
/-- what a loop walks -/
inductive It where | val (e : E) | rng (e : E) | rng2 (a b : E) | rng3 (a b c : E) | keys (i : Nat)
/-- where a value is stored -/
inductive T where | nm (i : Nat) | tp (is : List Nat) | sb (o i : E)
end

mutual
inductive S where
  | asg (t : T) (e : E)
  | par (i j : Nat) (a b : E)
  | aug (i : Nat) (op : Op) (e : E)
  | ex (e : E)
  | ret (e : E) | retN
  | ite (c : E) (a b : Ss)
  | whl (c : E) (b : Ss)
  | fr (t : T) (it : It) (b : Ss)
  | brk | cont | pass
  | rse (ms ks : List Nat) (es : Es)
  | tr (b : Ss) (hs : Hs)
inductive Ss where | nil | cons (s : S) (ss : Ss)
/-- except clauses: the class, the name's slot, the suite -/
inductive Hs where | nil | cons (c : Nat) (n : Option Nat) (b : Ss) (hs : Hs)
end

/-! ### what operations do -/
section
variable (C : Nat → List (Key × D))
def okI {α : Type} (a : Option α) (μ : Store) : Res α := match a with
  | some a => .ok a μ
  | none => .stuck
/-- a new object -/
def new (o : Obj) (μ : Store) : Res D := .ok (.loc μ.length) (μ ++ [o])

def truthF (d : D) (μ : Store) : Res Bool := match d with
  | .non => .ok false μ
  | .bl b => .ok b μ
  | .int i => .ok (i != 0) μ
  | .str s => if s.length ≤ mostLen then .ok (!s.isEmpty) μ else .stuck
  | .tup xs => .ok (!xs.isEmpty) μ
  | .loc l => match μ[l]? with
    | some (.lst xs) => .ok (!xs.isEmpty) μ
    | _ => .stuck
  | _ => .stuck

def small (i : Int) : Bool := decide (-(2 ^ 64) < i ∧ i < 2 ^ 64)
def mulF (i j : Int) (μ : Store) : Res D := if small i || small j then .ok (.int (i * j)) μ else .stuck
def binF (op : Op) (x y : D) (μ : Store) : Res D := match op, x, y with
  | .add, .int i, .int j => .ok (.int (i + j)) μ
  | .sub, .int i, .int j => .ok (.int (i - j)) μ
  | .mul, .int i, .int j => mulF i j μ
  | .fdiv, .int i, .int j => if 0 < j ∧ j < 1073741824 then .ok (.int (i / j)) μ else .stuck
  | .mod, .int i, .int j => if 0 < j then .ok (.int (i % j)) μ else .stuck
  | .pow, .int i, .int j => if 0 ≤ j ∧ j ≤ 1000 ∧ 0 ≤ i ∧ i < 2 ^ 256 then .ok (.int (i ^ j.toNat)) μ else .stuck
  | .add, .str a, .str b => if a.length + b.length ≤ mostLen then .ok (.str (a ++ b)) μ else .stuck
  | .add, .tup a, .tup b => if a.length + b.length ≤ mostLen then .ok (.tup (a ++ b)) μ else .stuck
  | .mul, .tup a, .int k => if 2 ≤ k ∧ k ≤ 1000 ∧ a ≠ [] ∧ a.length ≤ 1000 then .ok (.tup (List.replicate k.toNat a).flatten) μ else if k = 1 then .ok (.tup a) μ else .stuck
  | .mul, .str a, .int k => if 2 ≤ k ∧ k ≤ 1000 ∧ a ≠ [] ∧ a.length ≤ 1000 then .ok (.str (List.replicate k.toNat a).flatten) μ else if k = 1 then .ok (.str a) μ else .stuck
  | .add, .loc a, .loc b => match μ[a]?, μ[b]? with
    | some (.lst xs), some (.lst ys) => if xs.length + ys.length ≤ mostLen then new (.lst (xs ++ ys)) μ else .stuck
    | _, _ => .stuck
  | _, _, _ => .stuck

/-- whether a key is there, its value -/
def findF (d k : D) (μ : Store) : Option (Option D) := match d with
  | .cst c => match k with
    | .str s => some (look (C c) (.inr s))
    | _ => none
  | .loc l => match μ[l]? with
    | some (.dK _ kvs) => match D.key k with
      | some q => some (look kvs q)
      | none => none
    | some (.dT _ kvs) => match k with
      | .tup ks => match D.keys ks with
        | some q => some (look kvs q)
        | none => none
      | _ => none
    | _ => none
  | _ => none
def inF (x y : D) (μ : Store) : Res Bool := match y with
  | .str b => match x with
    | .str [c] => .ok (decide (c ∈ b)) μ
    | _ => .stuck
  | .tup ys => if D.eqOk x && D.eqOk (.tup ys) then .ok (ys.any fun z => deq z x) μ else .stuck
  | .ftup ys => if D.eqOk x && D.eqOk (.tup ys) then .ok (ys.any fun z => deq z x) μ else .stuck
  | .cst _ => match findF C y x μ with
    | some o => .ok o.isSome μ
    | none => .stuck
  | .loc l => match μ[l]? with
    | some (.lst ys) => if D.eqOk x && D.eqOk (.tup ys) then .ok (ys.any fun z => deq z x) μ else .stuck
    | _ => match findF C y x μ with
      | some o => .ok o.isSome μ
      | none => .stuck
  | _ => .stuck
def D.isNon : D → Bool
  | .non => true
  | _ => false
def scalEq (x y : D) : Bool := match x, y with
  | .int _, .int _ => true
  | .bl _, .bl _ => true
  | .str _, .str _ => true
  | .int _, .str _ => true
  | .str _, .int _ => true
  | .non, .non => true
  | _, _ => false
def eqOk2 (x y : D) : Bool := scalEq x y || (D.eqOk x && D.eqOk y)
def cmpF (c : Cm) (x y : D) (μ : Store) : Res Bool := match c with
  | .eq => if eqOk2 x y then .ok (deq x y) μ else .stuck
  | .ne => if eqOk2 x y then .ok (!deq x y) μ else .stuck
  | .is => match y with
    | .non => .ok x.isNon μ
    | _ => .stuck
  | .isn => match y with
    | .non => .ok (!x.isNon) μ
    | _ => .stuck
  | .inn => inF C x y μ
  | .nin => (inF C x y μ).bind fun b μ => .ok (!b) μ
  | .lt => if alk x y && D.eqOk x && D.eqOk y then .ok (dlt x y) μ else .stuck
  | .gt => match x, y with
    | .int i, .int j => .ok (decide (j < i)) μ
    | .str i, .str j => .ok (decide (j < i)) μ
    | _, _ => .stuck
  | .le => match x, y with
    | .int i, .int j => .ok (decide (i ≤ j)) μ
    | .str i, .str j => .ok (!decide (j < i)) μ
    | _, _ => .stuck
  | .ge => match x, y with
    | .int i, .int j => .ok (decide (j ≤ i)) μ
    | .str i, .str j => .ok (!decide (i < j)) μ
    | _, _ => .stuck

def ixF (d i : D) (μ : Store) : Res D := match d with
  | .tup xs => match i with
    | .int i => okI (atIx xs i) μ
    | _ => .stuck
  | .rol xs => match i with
    | .int i => okI (atIx xs i) μ
    | _ => .stuck
  | .ftup xs => match i with
    | .int i => okI (atIx xs i) μ
    | _ => .stuck
  | .ktp xs => match i with
    | .int i => okI (atIx xs i) μ
    | _ => .stuck
  | .str s => match i with
    | .int i => if s.length ≤ mostLen then okI ((atIx s i).map fun c => D.str [c]) μ else .stuck
    | _ => .stuck
  | .cst _ => match findF C d i μ with
    | some (some v) => .ok v μ
    | _ => .stuck
  | .loc l => match μ[l]? with
    | some (.lst xs) => match i with
      | .int i => okI (atIx xs i) μ
      | _ => .stuck
    | some _ => match findF C d i μ with
      | some (some v) => .ok v μ
      | _ => .stuck
    | none => .stuck
  | _ => .stuck
def slF (d : D) (lo hi : Option Int) (μ : Store) : Res D := match d with
  | .tup xs => .ok (.tup (cut xs lo hi)) μ
  | .rol xs => new (.lst (cut xs lo hi)) μ
  | .str s => if s.length ≤ mostLen then .ok (.str (cut s lo hi)) μ else .stuck
  | .loc l => match μ[l]? with
    | some (.lst xs) => new (.lst (cut xs lo hi)) μ
    | _ => .stuck
  | _ => .stuck
def isiF (d : D) (t : Ty) (μ : Store) : Res Bool := match d with
  | .non => .ok false μ
  | .bl _ => .ok (t == .bool || t == .int) μ
  | .int _ => .ok (t == .int) μ
  | .str _ => .ok (t == .str) μ
  | .tup _ => .ok (t == .tuple) μ
  | .rol _ => .ok (t == .list) μ
  | .ftup _ => .ok (t == .tuple) μ
  | .loc l => match μ[l]? with
    | some (.lst _) => .ok (t == .list) μ
    | _ => .stuck
  | _ => .stuck

def allAlk (xs : List D) : Bool := xs.all fun a => xs.all fun b => alk a b
def sortOk (xs : List D) : Bool := (xs.all fun a => D.eqOk a) && allAlk xs && ((xs.all fun a => match a with | .tup (_ :: _) => true | _ => false) || xs.all fun a => match a with | .tup _ => false | _ => true)
def sortD (xs : List D) : List D := xs.mergeSort fun a b => !dlt b a
/-- what stands in a row: a tuple's, a list's items -/
def rowF (d : D) (μ : Store) : Option (List D) := match d with
  | .tup xs => some xs
  | .rol xs => some xs
  | .ktp xs => some xs
  | .loc l => match μ[l]? with
    | some (.lst xs) => some xs
    | _ => none
  | _ => none
/-- a list's items -/
def listF (d : D) (μ : Store) : Option (List D) := match d with
  | .rol xs => some xs
  | .loc l => match μ[l]? with
    | some (.lst xs) => some xs
    | _ => none
  | _ => none
/-- a dict's keys: tuples -/
def keysT (d : D) (μ : Store) : Option (List D) := match d with
  | .loc l => match μ[l]? with
    | some (.dT false kvs) => some (kvs.map fun p => .tup (p.1.map Key.d))
    | _ => none
  | _ => none
/-- a whole number's text -/
def intT (i : Int) : Txt := (toString i).toList.map Char.toNat
def bfF (b : Bf) (d : D) (μ : Store) : Res D := match b with
  | .len => match d with
    | .tup xs => .ok (.int xs.length) μ
    | .rol xs => .ok (.int xs.length) μ
    | .ftup xs => .ok (.int xs.length) μ
    | .str s => if s.length ≤ mostLen then .ok (.int s.length) μ else .stuck
    | .loc l => match μ[l]? with
      | some (.lst xs) => .ok (.int xs.length) μ
      | some (.dK _ kvs) => .ok (.int kvs.length) μ
      | _ => .stuck
    | _ => .stuck
  | .abs => match d with
    | .int i => .ok (.int (if i < 0 then -i else i)) μ
    | _ => .stuck
  | .int => match d with
    | .int i => .ok (.int i) μ
    | .bl b => .ok (.int (if b then 1 else 0)) μ
    | _ => .stuck
  | .bool => match d with
    | .int i => .ok (.bl (i != 0)) μ
    | .bl b => .ok (.bl b) μ
    | _ => .stuck
  | .tuple => match d with
    | .ktp _ => .stuck
    | _ => match rowF d μ with
      | some xs => .ok (.tup xs) μ
      | none => .stuck
  | .tupleF => match listF d μ with
    | some xs => .ok (.ftup xs) μ
    | none => .stuck
  | .list => match rowF d μ with
    | some xs => new (.lst xs) μ
    | none => .stuck
  | .sorted => match listF d μ with
    | some xs => if sortOk xs && decide (xs.length ≤ mostLen) then new (.lst (sortD xs)) μ else .stuck
    | none => match keysT d μ with
      | some xs => if sortOk xs && decide (xs.length ≤ mostLen) then new (.lst (sortD xs)) μ else .stuck
      | none => .stuck
  | .str => match d with
    | .int i => if i.natAbs < 2 ^ 1000 then .ok (.str (intT i)) μ else .stuck
    | _ => .stuck

def strsOf : List D → Option (List Txt)
  | [] => some []
  | .str s :: r => (strsOf r).map (s :: ·)
  | _ :: _ => none
def joinT (sep : Txt) : List Txt → Txt
  | [] => []
  | [a] => a
  | a :: r => a ++ (sep ++ joinT sep r)
def sumLen (sep : Txt) (ts : List Txt) : Nat := ts.foldr (fun t n => t.length + sep.length + n) 0
/-- where a sign stands first -/
def signAt (c : Nat) (s : Txt) : Option Nat := s.findIdx? (· == c)
def isLstD (d : D) (μ : Store) : Bool := match d with
  | .rol _ => true
  | .loc l => match μ[l]? with
    | some (.lst _) => true
    | _ => false
  | _ => false
def isStrD : D → Bool
  | .str _ => true
  | _ => false
def isTupD : D → Bool
  | .ftup _ => true
  | _ => false
def isDctD (d : D) (μ : Store) : Bool := match d with
  | .loc l => match μ[l]? with
    | some (.dK _ _) => true
    | some (.dT _ _) => true
    | _ => false
  | _ => false
/-- a method's receiver is of its type -/
def mfOk (m : Mf) (d : D) (μ : Store) : Bool := match m with
  | .append => isLstD d μ
  | .pop => isLstD d μ
  | .popAt => isLstD d μ
  | .extend => isLstD d μ
  | .join => isStrD d
  | .index => isStrD d
  | .get => isDctD d μ
  | .get2 => isDctD d μ
  | .indexL => isLstD d μ
  | .indexT => isTupD d
def methF (m : Mf) (o : D) (as : List D) (μ : Store) : Res D := match m with
  | .append => match o, as with
    | .loc l, [d] => match μ[l]? with
      | some (.lst xs) => if xs.length < mostLen then .ok .non (μ.set l (.lst (xs ++ [d]))) else .stuck
      | _ => .stuck
    | _, _ => .stuck
  | .pop => match o, as with
    | .loc l, [] => match μ[l]? with
      | some (.lst xs) => match xs[xs.length - 1]? with
        | some y => .ok y (μ.set l (.lst xs.dropLast))
        | none => .stuck
      | _ => .stuck
    | _, _ => .stuck
  | .popAt => match o, as with
    | .loc l, [.int i] => match μ[l]? with
      | some (.lst xs) => match pyIx xs.length i with
        | some k => match xs[k]? with
          | some y => if -(2 ^ 62) ≤ i ∧ i < 2 ^ 62 then .ok y (μ.set l (.lst (xs.eraseIdx k))) else .stuck
          | none => .stuck
        | none => .stuck
      | _ => .stuck
    | _, _ => .stuck
  | .extend => match o, as with
    | .loc l, [.loc r] => match μ[l]?, μ[r]? with
      | some (.lst xs), some (.lst ys) => if xs.length + ys.length ≤ mostLen ∧ l ≠ r then .ok .non (μ.set l (.lst (xs ++ ys))) else .stuck
      | _, _ => .stuck
    | _, _ => .stuck
  | .join => match o, as with
    | .str sep, [d] => match rowF d μ with
      | some xs => match strsOf xs with
        | some ts => if sumLen sep ts ≤ mostLen then .ok (.str (joinT sep ts)) μ else .stuck
        | none => .stuck
      | none => .stuck
    | _, _ => .stuck
  | .index => match o, as with
    | .str s, [.str [c]] => match signAt c s with
      | some i => if s.length ≤ mostLen then .ok (.int i) μ else .stuck
      | none => .stuck
    | _, _ => .stuck
  | .indexL => match as with
    | [d] => match listF o μ with
      | some xs => if D.eqOk d && D.eqOk (.tup xs) then (match xs.findIdx? fun z => deq z d with
        | some i => .ok (.int i) μ
        | none => .stuck) else .stuck
      | none => .stuck
    | _ => .stuck
  | .indexT => match o, as with
    | .ftup xs, [d] => if D.eqOk d && D.eqOk (.tup xs) then (match xs.findIdx? fun z => deq z d with
      | some i => .ok (.int i) μ
      | none => .stuck) else .stuck
    | _, _ => .stuck
  | .get => match as with
    | [k] => match findF C o k μ with
      | some r => .ok (r.getD .non) μ
      | none => .stuck
    | _ => .stuck
  | .get2 => match as with
    | [k, x] => match findF C o k μ with
      | some r => .ok (r.getD x) μ
      | none => .stuck
    | _ => .stuck
/-- o[i] = v -/
def setF (o i v : D) (μ : Store) : Res Unit := match o with
  | .loc l => match μ[l]? with
    | some (.lst xs) => match i with
      | .int i => match pyIx xs.length i with
        | some k => .ok () (μ.set l (.lst (xs.set k v)))
        | none => .stuck
      | _ => .stuck
    | some (.dK false kvs) => match D.key i with
      | some k => if kvs.length < mostLen then .ok () (μ.set l (.dK false (put kvs k v))) else .stuck
      | none => .stuck
    | some (.dT false kvs) => match i with
      | .tup ks => match D.keys ks with
        | some k => if kvs.length < mostLen then .ok () (μ.set l (.dT false (put kvs k v))) else .stuck
        | none => .stuck
      | _ => .stuck
    | _ => .stuck
  | _ => .stuck
/-! ### walks -/
/-- what a loop walks: its items; the place of a list that must stand still; of a dict that is locked -/
inductive Wk where
  | row (xs : List D)
  | lst (l : Nat) (xs : List D)
  | dct (l : Nat) (xs : List D)
def walkF (d : D) (μ : Store) : Option Wk := match d with
  | .tup xs => some (.row xs)
  | .rol xs => some (.row xs)
  | .ktp xs => some (.row xs)
  | .str s => if s.length ≤ mostLen then some (.row (s.map fun c => .str [c])) else none
  | .loc l => match μ[l]? with
    | some (.lst xs) => some (.lst l xs)
    | _ => none
  | _ => none
def keysF (d : D) (μ : Store) : Option Wk := match d with
  | .loc l => match μ[l]? with
    | some (.dK false kvs) => some (.dct l (kvs.map fun p => p.1.d))
    | some (.dT false kvs) => some (.dct l (kvs.map fun p => .tup (p.1.map Key.d)))
    | _ => none
  | _ => none
def setLk (b : Bool) : Obj → Obj
  | .dK _ k => .dK b k
  | .dT _ k => .dT b k
  | o => o
def Wk.items : Wk → List D
  | .row xs => xs
  | .lst _ xs => xs
  | .dct _ xs => xs
/-- ahead of a walk -/
def Wk.start (w : Wk) (μ : Store) : Store := match w with
  | .dct l _ => μ.modify l (setLk true)
  | _ => μ
/-- behind a walk -/
def Wk.stop (w : Wk) (μ : Store) : Store := match w with
  | .dct l _ => μ.modify l (setLk false)
  | _ => μ
/-- a list that is walked stands still -/
def Wk.stands (w : Wk) (μ : Store) : Prop := match w with
  | .lst l xs => μ[l]? = some (.lst xs)
  | _ => True
instance (w : Wk) (μ : Store) : Decidable (w.stands μ) := by
  unfold Wk.stands
  split <;> infer_instance
end

/-! ### expressions -/
inductive Flow where | nx | rt (d : D) | bk | ct
inductive SRes where
  | go (f : Flow) (ρ : Env) (μ : Store)
  | exc (x : Exc) (ρ : Env) (μ : Store)
  | stuck
def SRes.of {α : Type} (ρ : Env) (r : Res α) (f : α → Store → SRes) : SRes := match r with
  | .ok a μ => f a μ
  | .exc x μ => .exc x ρ μ
  | .stuck => .stuck
theorem SRes.of_ok {α : Type} (ρ : Env) (a : α) (μ : Store) (f : α → Store → SRes) : SRes.of ρ (.ok a μ) f = f a μ := rfl
/-- what follows where a statement went on -/
def SRes.next (r : SRes) (f : Env → Store → SRes) : SRes := match r with
  | .go .nx ρ μ => f ρ μ
  | r => r
theorem SRes.next_nx (ρ : Env) (μ : Store) (f : Env → Store → SRes) : (SRes.go .nx ρ μ).next f = f ρ μ := rfl
theorem SRes.next_rt (d : D) (ρ : Env) (μ : Store) (f : Env → Store → SRes) : (SRes.go (.rt d) ρ μ).next f = .go (.rt d) ρ μ := rfl
theorem SRes.next_bk (ρ : Env) (μ : Store) (f : Env → Store → SRes) : (SRes.go .bk ρ μ).next f = .go .bk ρ μ := rfl
theorem SRes.next_ct (ρ : Env) (μ : Store) (f : Env → Store → SRes) : (SRes.go .ct ρ μ).next f = .go .ct ρ μ := rfl
theorem SRes.next_exc (x : Exc) (ρ : Env) (μ : Store) (f : Env → Store → SRes) : (SRes.exc x ρ μ).next f = .exc x ρ μ := rfl

/-- a value's items go to slots, one after another -/
def setAll : List Nat → List D → Env → Env
  | i :: is, d :: ds, ρ => setAll is ds (ρ.set i (some d))
  | _, _, ρ => ρ
def unpackF (is : List Nat) (d : D) (ρ : Env) (μ : Store) : Res Env := match rowF d μ with
  | some xs => if xs.length = is.length then .ok (setAll is xs ρ) μ else .stuck
  | none => .stuck
def wipeE (ρ : Env) : List Nat → Env
  | [] => ρ
  | v :: vs => (wipeE ρ vs).set v none
/-- the turns of a comprehension whose list is at l -/
def compL (w : Wk) (l : Nat) (turn : D → Store → Res (Option D)) : List D → Store → Res Unit
  | [], μ => if w.stands μ then .ok () μ else .stuck
  | x :: xs, μ => if w.stands μ then match turn x μ with
    | .ok none μ' => compL w l turn xs μ'
    | .ok (some d) μ' => match μ'[l]? with
      | some (.lst acc) => if acc.length < mostLen then compL w l turn xs (μ'.set l (.lst (acc ++ [d]))) else .stuck
      | _ => .stuck
    | _ => .stuck
    else .stuck
/-- the turns of a for -/
def forL (w : Wk) (asg : D → Env → Store → Res Env) (body : Env → Store → SRes) : List D → Env → Store → SRes
  | [], ρ, μ => if w.stands μ then .go .nx ρ μ else .stuck
  | x :: xs, ρ, μ => if w.stands μ then SRes.of ρ (asg x ρ μ) fun ρ' μ' => match body ρ' μ' with
    | .go .nx ρ2 μ2 => forL w asg body xs ρ2 μ2
    | .go .ct ρ2 μ2 => forL w asg body xs ρ2 μ2
    | .go .bk ρ2 μ2 => .go .nx ρ2 μ2
    | r => r
    else .stuck
/-- the turns of a while -/
def whlL (test : Env → Store → Res Bool) (body : Env → Store → SRes) : Nat → Env → Store → SRes
  | 0, _, _ => .stuck
  | n + 1, ρ, μ => SRes.of ρ (test ρ μ) fun b μ' => if b then match body ρ μ' with
    | .go .nx ρ2 μ2 => whlL test body n ρ2 μ2
    | .go .ct ρ2 μ2 => whlL test body n ρ2 μ2
    | .go .bk ρ2 μ2 => .go .nx ρ2 μ2
    | r => r
    else .go .nx ρ μ'
def Wk.lk : Wk → Bool
  | .dct _ _ => true
  | _ => false
def unlock (w : Wk) (r : SRes) : SRes := match r with
  | .go f ρ μ => .go f ρ (w.stop μ)
  | .exc x ρ μ => if w.lk then .stuck else .exc x ρ μ
  | .stuck => .stuck
def rngF (lo : Int) (hi : Int) (μ : Store) : Res Wk := if -(2 ^ 61) ≤ lo ∧ lo < 2 ^ 61 ∧ -(2 ^ 61) ≤ hi ∧ hi < 2 ^ 61 then
  .ok (.row ((List.range (hi - lo).toNat).map fun (k : Nat) => D.int (lo + (k : Int)))) μ else .stuck
/-- behind a suite with a name: the name goes -/
def unset (i : Nat) : SRes → SRes
  | .go (.rt d) ρ μ => .go (.rt d) ρ μ
  | .go f ρ μ => .go f (ρ.set i none) μ
  | _ => .stuck
/-- behind a suite without -/
def noExc : SRes → SRes
  | .exc _ _ _ => .stuck
  | r => r
/-- how many numbers a range with a step has -/
def stepN (i j c : Int) : Nat := if 0 < c then (if i < j then ((j - i - 1) / c + 1).toNat else 0) else (i - j).toNat
def rngF3 (i j c : Int) (μ : Store) : Res Wk := if -(2 ^ 61) ≤ i ∧ i < 2 ^ 61 ∧ -(2 ^ 61) ≤ j ∧ j < 2 ^ 61 ∧ (c = -1 ∨ 0 < c ∧ c < 1000) then
  .ok (.row ((List.range (stepN i j c)).map fun (k : Nat) => D.int (i + (k : Int) * c))) μ else .stuck
abbrev CF := Nat → List D → Store → Res D

section
variable (C : Nat → List (Key × D)) (cf : CF) (N : Nat)
mutual
def ev : E → Env → Store → Res D
  | .v i, ρ, μ => match ρ[i]? with
    | some (some d) => .ok d μ
    | _ => .stuck
  | .non, _, μ => .ok .non μ
  | .bl b, _, μ => .ok (.bl b) μ
  | .int i, _, μ => .ok (.int i) μ
  | .str s, _, μ => .ok (.str s) μ
  | .glS _ s, _, μ => .ok (.str s) μ
  | .glC _ c, _, μ => .ok (.cst c) μ
  | .tup es, ρ, μ => (evs es ρ μ).bind fun ds μ => if ds.length ≤ mostLen then .ok (.tup ds) μ else .stuck
  | .lst es, ρ, μ => (evs es ρ μ).bind fun ds μ => if ds.length ≤ mostLen then new (.lst ds) μ else .stuck
  | .dnK, _, μ => new (.dK false []) μ
  | .dnT, _, μ => new (.dT false []) μ
  | .disp ks es, ρ, μ => (evs es ρ (μ ++ [.dK false []])).bind fun ds μ' => match μ'[μ.length]? with
    | some (.dK false []) => if ds.length = ks.length ∧ ks.length ≤ 15 then .ok (.loc μ.length) (μ'.set μ.length (.dK false ((ks.zip ds).foldl (fun acc p => put acc p.1 p.2) []))) else .stuck
    | _ => .stuck
  | .call f es, ρ, μ => (evs es ρ μ).bind fun ds μ => cf f ds μ
  | .bf b e, ρ, μ => (ev e ρ μ).bind fun d μ => bfF b d μ
  | .isi e t, ρ, μ => (ev e ρ μ).bind fun d μ => (isiF d t μ).bind fun b μ => .ok (.bl b) μ
  | .meth m o es, ρ, μ => (ev o ρ μ).bind fun d μ => if mfOk m d μ then (evs es ρ μ).bind fun ds μ => methF C m d ds μ else .stuck
  | .bin op a b, ρ, μ => (ev a ρ μ).bind fun x μ => (ev b ρ μ).bind fun y μ => binF op x y μ
  | .neg a, ρ, μ => (ev a ρ μ).bind fun x μ => match x with
    | .int i => .ok (.int (-i)) μ
    | _ => .stuck
  | .cmp c a b, ρ, μ => (ev a ρ μ).bind fun x μ => (ev b ρ μ).bind fun y μ => (cmpF C c x y μ).bind fun k μ => .ok (.bl k) μ
  | .chain c d a b e, ρ, μ => (ev a ρ μ).bind fun x μ => (ev b ρ μ).bind fun y μ => (cmpF C c x y μ).bind fun k μ =>
    if k then (ev e ρ μ).bind fun z μ => (cmpF C d y z μ).bind fun k μ => .ok (.bl k) μ else .ok (.bl false) μ
  | .and a b, ρ, μ => (ev a ρ μ).bind fun x μ => match x with
    | .bl k => if k then ev b ρ μ else .ok (.bl false) μ
    | _ => .stuck
  | .or a b, ρ, μ => (ev a ρ μ).bind fun x μ => match x with
    | .bl k => if k then .ok (.bl true) μ else ev b ρ μ
    | _ => .stuck
  | .not a, ρ, μ => (ev a ρ μ).bind fun x μ => match x with
    | .bl k => .ok (.bl (!k)) μ
    | _ => .stuck
  | .ite c a b, ρ, μ => (evT c ρ μ).bind fun k μ => if k then ev a ρ μ else ev b ρ μ
  | .ix a b, ρ, μ => (ev a ρ μ).bind fun x μ => (ev b ρ μ).bind fun y μ => ixF C x y μ
  | .slL a lo, ρ, μ => (ev a ρ μ).bind fun x μ => (ev lo ρ μ).bind fun y μ => match y with
    | .int i => slF x (some i) none μ
    | _ => .stuck
  | .slU a hi, ρ, μ => (ev a ρ μ).bind fun x μ => (ev hi ρ μ).bind fun y μ => match y with
    | .int i => slF x none (some i) μ
    | _ => .stuck
  | .slB a lo hi, ρ, μ => (ev a ρ μ).bind fun x μ => (ev lo ρ μ).bind fun y μ => match y with
    | .int i => (ev hi ρ μ).bind fun z μ => match z with
      | .int j => slF x (some i) (some j) μ
      | _ => .stuck
    | _ => .stuck
  | .comp t it c e own, ρ, μ => (evI it ρ μ).bind fun w μ1 =>
    (compL w μ1.length (fun x μ => (asgT t x (wipeE ρ own) μ).bind fun ρ2 μ => (evC c ρ2 μ).bind fun k μ =>
      if k then (ev e ρ2 μ).bind fun d μ => .ok (some d) μ else .ok none μ) w.items (w.start μ1 ++ [.lst []])).bind fun _ μ2 => .ok (.loc μ1.length) (w.stop μ2)
  | .errF n i, ρ, μ => match ρ[n]? with
    | some (some (.err _ ks fs)) => okI ((ks.findIdx? fun k => k == i).bind fun j => fs[j]?) μ
    | _ => .stuck
  | .errIs n cs, ρ, μ => match ρ[n]? with
    | some (some (.err ms _ _)) => .ok (.bl (cs.any fun c => ms.contains c)) μ
    | _ => .stuck
def evT : E → Env → Store → Res Bool
  | .and a b, ρ, μ => (evT a ρ μ).bind fun k μ => if k then evT b ρ μ else .ok false μ
  | .or a b, ρ, μ => (evT a ρ μ).bind fun k μ => if k then .ok true μ else evT b ρ μ
  | .not a, ρ, μ => (evT a ρ μ).bind fun k μ => .ok (!k) μ
  | .cmp c a b, ρ, μ => (ev a ρ μ).bind fun x μ => (ev b ρ μ).bind fun y μ => cmpF C c x y μ
  | .chain c d a b e, ρ, μ => (ev a ρ μ).bind fun x μ => (ev b ρ μ).bind fun y μ => (cmpF C c x y μ).bind fun k μ =>
    if k then (ev e ρ μ).bind fun z μ => cmpF C d y z μ else .ok false μ
  | .bl b, _, μ => .ok b μ
  | .bf b e, ρ, μ => ((ev e ρ μ).bind fun d μ => bfF b d μ).bind truthF
  | .isi e t, ρ, μ => (ev e ρ μ).bind fun d μ => isiF d t μ
  | .call f es, ρ, μ => ((evs es ρ μ).bind fun ds μ => cf f ds μ).bind truthF
  | .meth m o es, ρ, μ => ((ev o ρ μ).bind fun d μ => if mfOk m d μ then (evs es ρ μ).bind fun ds μ => methF C m d ds μ else .stuck).bind truthF
  | .ix a b, ρ, μ => ((ev a ρ μ).bind fun x μ => (ev b ρ μ).bind fun y μ => ixF C x y μ).bind truthF
  | .v i, ρ, μ => match ρ[i]? with
    | some (some d) => truthF d μ
    | _ => .stuck
  | .errIs n cs, ρ, μ => match ρ[n]? with
    | some (some (.err ms _ _)) => .ok (cs.any fun c => ms.contains c) μ
    | _ => .stuck
  | _, _, _ => .stuck
def evs : Es → Env → Store → Res (List D)
  | .nil, _, μ => .ok [] μ
  | .cons e es, ρ, μ => (ev e ρ μ).bind fun d μ => (evs es ρ μ).bind fun ds μ => .ok (d :: ds) μ
def evC : Ec → Env → Store → Res Bool
  | .yes, _, μ => .ok true μ
  | .test e, ρ, μ => evT e ρ μ
def evI : It → Env → Store → Res Wk
  | .val e, ρ, μ => (ev e ρ μ).bind fun d μ => okI (walkF d μ) μ
  | .rng e, ρ, μ => (ev e ρ μ).bind fun d μ => match d with
    | .int n => rngF 0 n μ
    | _ => .stuck
  | .rng2 a b, ρ, μ => (ev a ρ μ).bind fun x μ => (ev b ρ μ).bind fun y μ => match x, y with
    | .int i, .int j => rngF i j μ
    | _, _ => .stuck
  | .rng3 a b c, ρ, μ => (ev a ρ μ).bind fun x μ => (ev b ρ μ).bind fun y μ => (ev c ρ μ).bind fun z μ => match x, y, z with
    | .int i, .int j, .int k => rngF3 i j k μ
    | _, _, _ => .stuck
  | .keys i, ρ, μ => match ρ[i]? with
    | some (some d) => okI (keysF d μ) μ
    | _ => .stuck
def asgT : T → D → Env → Store → Res Env
  | .nm i, d, ρ, μ => .ok (ρ.set i (some d)) μ
  | .tp is, d, ρ, μ => unpackF is d ρ μ
  | .sb o i, d, ρ, μ => (ev o ρ μ).bind fun x μ => (ev i ρ μ).bind fun y μ => (setF x y d μ).bind fun _ μ => .ok ρ μ
end

/-! ### statements -/
mutual
def ex : S → Env → Store → SRes
  | .asg t e, ρ, μ => SRes.of ρ (ev C cf e ρ μ) fun d μ => SRes.of ρ (asgT C cf t d ρ μ) fun ρ μ => .go .nx ρ μ
  | .par i j a b, ρ, μ => SRes.of ρ (ev C cf a ρ μ) fun x μ => SRes.of ρ (ev C cf b ρ μ) fun y μ => .go .nx ((ρ.set i (some x)).set j (some y)) μ
  | .aug i op e, ρ, μ => match ρ[i]? with
    | some (some x) => SRes.of ρ (ev C cf e ρ μ) fun y μ => match x, y with
      | .int a, .int b => SRes.of ρ (binF op (.int a) (.int b) μ) fun z μ => .go .nx (ρ.set i (some z)) μ
      | _, _ => .stuck
    | _ => .stuck
  | .ex e, ρ, μ => SRes.of ρ (ev C cf e ρ μ) fun _ μ => .go .nx ρ μ
  | .ret e, ρ, μ => SRes.of ρ (ev C cf e ρ μ) fun d μ => .go (.rt d) ρ μ
  | .retN, ρ, μ => .go (.rt .non) ρ μ
  | .ite c a b, ρ, μ => SRes.of ρ (evT C cf c ρ μ) fun k μ => if k then exs a ρ μ else exs b ρ μ
  | .whl c b, ρ, μ => whlL (evT C cf c) (exs b) N ρ μ
  | .fr t it b, ρ, μ => SRes.of ρ (evI C cf it ρ μ) fun w μ => unlock w (forL w (asgT C cf t) (exs b) w.items ρ (w.start μ))
  | .brk, ρ, μ => .go .bk ρ μ
  | .cont, ρ, μ => .go .ct ρ μ
  | .pass, ρ, μ => .go .nx ρ μ
  | .rse ms ks es, ρ, μ => SRes.of ρ (evs C cf es ρ μ) fun ds μ => if ds.length = ks.length ∧ ks.length ≤ 900 then .exc ⟨ms, ks, ds⟩ ρ μ else .stuck
  | .tr b hs, ρ, μ => match exs b ρ μ with
    | .exc x ρ' μ' => exh hs x ρ' μ'
    | r => r
def exs : Ss → Env → Store → SRes
  | .nil, ρ, μ => .go .nx ρ μ
  | .cons s ss, ρ, μ => (ex s ρ μ).next fun ρ μ => exs ss ρ μ
def exh : Hs → Exc → Env → Store → SRes
  | .nil, x, ρ, μ => .exc x ρ μ
  | .cons c n b hs, x, ρ, μ => if x.ms.contains c then match n with
    | none => noExc (exs b ρ μ)
    | some i => unset i (exs b (ρ.set i (some (.err x.ms x.ks x.fs))) μ)
    else exh hs x ρ μ
end
end

/-! ### defs, calls -/
structure Fn where
  np : Nat
  ns : Nat
  body : Ss
structure Prog where
  fns : Nat → Option Fn
  cst : Nat → List (Key × D)
def startE (np ns : Nat) (ds : List D) : Env := ds.map some ++ List.replicate (ns - np) none
/-- what a body hands back -/
def handed (r : SRes) : Res D := match r with
  | .go .nx _ μ => .ok .non μ
  | .go (.rt d) _ μ => .ok d μ
  | .exc x _ μ => .exc x μ
  | _ => .stuck
mutual
/-- places moved up by n -/
def D.shift (n : Nat) : D → D
  | .tup xs => .tup (D.shiftL n xs)
  | .rol xs => .rol (D.shiftL n xs)
  | .ktp xs => .ktp (D.shiftL n xs)
  | .ftup xs => .ftup (D.shiftL n xs)
  | .loc l => .loc (n + l)
  | d => d
def D.shiftL (n : Nat) : List D → List D
  | [] => []
  | x :: xs => D.shift n x :: D.shiftL n xs
end
def Obj.shift (n : Nat) : Obj → Obj
  | .lst xs => .lst (D.shiftL n xs)
  | .dK b kvs => .dK b (kvs.map fun p => (p.1, p.2.shift n))
  | .dT b kvs => .dT b (kvs.map fun p => (p.1, p.2.shift n))
/-- behind a call of data alone: the callee's store is dropped but for a list of data that is handed back -/
def graft (r : Res D) (μ : Store) : Res D := match r with
  | .ok d μ' => if d.data then .ok d μ else match d with
    | .loc l => match μ'[l]? with
      | some (.lst xs) => if D.dataL xs then new (.lst xs) μ else .ok (d.shift μ.length) (μ ++ μ'.map (Obj.shift μ.length))
      | _ => .ok (d.shift μ.length) (μ ++ μ'.map (Obj.shift μ.length))
    | _ => .ok (d.shift μ.length) (μ ++ μ'.map (Obj.shift μ.length))
  | .exc x _ => if D.dataL x.fs then .exc x μ else .stuck
  | .stuck => .stuck
def callB (P : Prog) (N : Nat) (cf : CF) (fn : Fn) (ds : List D) (μ : Store) : Res D := handed (exs P.cst cf N fn.body (startE fn.np fn.ns ds) μ)
def callF (P : Prog) (N : Nat) : Nat → CF
  | 0 => fun _ _ _ => .stuck
  | k + 1 => fun f ds μ => match P.fns f with
    | some fn => if ds.length = fn.np then (if D.dataL ds then graft (callB P N (callF P N k) fn ds []) μ else callB P N (callF P N k) fn ds μ) else .stuck
    | none => .stuck
end PL
end
section
set_option Elab.async false
set_option linter.all false
set_option autoImplicit false
set_option maxRecDepth 100000
set_option maxHeartbeats 4000000
/-! Sound1: Mini's values and store against the abstract heap of the hand layer. -/
namespace PL
open PySem PySem.Spec PyProof.Rows L2

def S2 (s : Txt) : PySem.Str := ⟨s.toArray⟩
theorem S2_len (s : Txt) : (S2 s).length = s.length := by simp [S2, Str.length]
theorem S2_cps (s : Txt) : (S2 s).cps.toList = s := by simp [S2]
theorem S2_inj {a b : Txt} : S2 a = S2 b ↔ a = b := by
  constructor
  · intro h
    have := congrArg (fun z : PySem.Str => z.cps.toList) h
    simpa [S2] using this
  · intro h; rw [h]
theorem S2_app (a b : Txt) : S2 a ++ S2 b = S2 (a ++ b) := by
  show Str.append (S2 a) (S2 b) = _
  simp [Str.append, S2]
theorem S2_of (x : PySem.Str) : ∃ s, x = S2 s := ⟨x.cps.toList, by cases x; simp [S2]⟩
def K2 : PL.Key → L2.Key
  | .inl i => .inl i
  | .inr s => .inr (S2 s)
theorem K2_inj {a b : PL.Key} : K2 a = K2 b ↔ a = b := by
  cases a <;> cases b <;> simp [K2, S2_inj]
def Ks2 (ks : List PL.Key) : List L2.Key := ks.map K2
theorem Ks2_inj {a b : List PL.Key} : Ks2 a = Ks2 b ↔ a = b := by
  constructor
  · intro h
    exact List.map_inj_right (fun _ _ => K2_inj.mp) |>.mp h
  · intro h; rw [h]

theorem line_most : mostLen ≤ sizeLine := by rw [sizeLine_eq]; decide

/-- what stands fast through a law: the written part, where its tables stand -/
structure Gb where
  P : Program
  w : World
  K : PySem.W.Frag
  C : Nat → List (PL.Key × D)
  cA : Nat → Addr
  clsA : Nat → Addr
  mros : List (List Nat)
  fld : Nat → PySem.Str

/-- a list of the written part -/
def KLst (K : PySem.W.Frag) (a : Addr) (xs : List V) : Prop :=
  ∃ (o : PySem.Obj) (its : Array Value) (n : Nat), K.lookup a = some o ∧ o.cls = .type "list" ∧ o.dict = none ∧ o.data = .seq its n ∧ its.size ≤ sizeLine ∧ Vals xs its.toList
/-- a tuple of the written part -/
def KTup (K : PySem.W.Frag) (a : Addr) (xs : List V) : Prop :=
  ∃ (o : PySem.Obj) (its : Array Value) (n : Nat), K.lookup a = some o ∧ o.cls = .type "tuple" ∧ o.data = .seq its n ∧ its.size ≤ sizeLine ∧ Vals xs its.toList
theorem KTup.sq {K : PySem.W.Frag} {a : Addr} {xs : List V} (h : KTup K a xs) (H : Hp) : SqT K H a xs := .inr h
mutual
/-- a constant of the written part -/
def RepK (K : PySem.W.Frag) : D → V → Prop
  | .non, v => v = .non
  | .bl b, v => v = .bl b
  | .int i, v => v = .int i
  | .str s, v => v = .str (S2 s)
  | .ktp ds, v => ∃ a vs, v = .ref a ∧ KTup K a vs ∧ RepKL K ds vs
  | _, _ => False
def RepKL (K : PySem.W.Frag) : List D → List V → Prop
  | [], vs => vs = []
  | d :: ds, vs => ∃ v r, vs = v :: r ∧ RepK K d v ∧ RepKL K ds r
end
/-- a table with text keys of the written part -/
structure CstAt (K : PySem.W.Frag) (w : World) (a : Addr) (kvs : List (PL.Key × D)) : Prop where
  kd : ∃ es n, KDict K w a es n
  get : ∀ s : Txt, (look kvs (.inr s) = none ∧ PySem.W.nsIn K a (S2 s) = some none) ∨ ∃ d u v, look kvs (.inr s) = some d ∧ PySem.W.nsIn K a (S2 s) = some (some u) ∧ RelV v u ∧ RepK K d v
section
variable (g : Gb)
mutual
/-- v stands for d; ι: where the places of the store stand -/
def Rep (ι : List Addr) (H : Hp) : D → V → Prop
  | .non, v => v = .non
  | .bl b, v => v = .bl b
  | .int i, v => v = .int i
  | .str s, v => v = .str (S2 s)
  | .tup ds, v => ∃ a vs, v = .ref a ∧ H a = some (.tup vs) ∧ RepL ι H ds vs
  | .ktp ds, v => ∃ a vs, v = .ref a ∧ KTup g.K a vs ∧ RepL ι H ds vs
  | .rol ds, v => ∃ a vs, v = .ref a ∧ ((∃ o, H a = some (.frz o (.lst vs)) ∧ a ∉ ι) ∨ KLst g.K a vs) ∧ RepL ι H ds vs
  | .loc l, v => ∃ a, v = .ref a ∧ ι[l]? = some a
  | .cst c, v => v = .ref (g.cA c) ∧ CstAt g.K g.w (g.cA c) (g.C c)
  | .err _ _ _, _ => False
  | .ftup ds, v => ∃ a vs o, v = .ref a ∧ H a = some (.frz o (.tup vs)) ∧ (o.cls = .type "tuple" ∧ o.dict = none ∧ a ∉ ι) ∧ RepL ι H ds vs
def RepL (ι : List Addr) (H : Hp) : List D → List V → Prop
  | [], vs => vs = []
  | d :: ds, vs => ∃ v r, vs = v :: r ∧ Rep ι H d v ∧ RepL ι H ds r
end
/-- the entries of a dict, the keys by f -/
def RepKV {κ κ' : Type} (f : κ → κ') (ι : List Addr) (H : Hp) : List (κ × D) → List (κ' × V) → Prop
  | [], r => r = []
  | p :: t, r => ∃ v r', r = (f p.1, v) :: r' ∧ Rep g ι H p.2 v ∧ RepKV f ι H t r'
/-- o stands at a -/
def ObjR (ι : List Addr) (H : Hp) : PL.Obj → Addr → Prop
  | .lst ds, a => ∃ vs, H a = some (.lst vs) ∧ RepL g ι H ds vs
  | .dK false kvs, a => ∃ vs, H a = some (.dK vs) ∧ RepKV g K2 ι H kvs vs
  | .dK true kvs, a => ∃ o vs, H a = some (.frz o (.dK vs)) ∧ RepKV g K2 ι H kvs vs
  | .dT false kvs, a => ∃ vs, H a = some (.dT vs) ∧ RepKV g Ks2 ι H kvs vs
  | .dT true kvs, a => ∃ o vs, H a = some (.frz o (.dT vs)) ∧ RepKV g Ks2 ι H kvs vs
structure Sim (ι : List Addr) (μ : Store) (H : Hp) : Prop where
  nd : ι.Nodup
  len : ι.length = μ.length
  ob : ∀ (l : Nat) o a, μ[l]? = some o → ι[l]? = some a → ObjR g ι H o a
end
/-- what may have become of a heap: places more, the rest as it was -/
structure Ext0 (ι : List Addr) (H : Hp) (ι' : List Addr) (H' : Hp) : Prop where
  pre : ι <+: ι'
  keep : ∀ a o, H a = some o → a ∉ ι → H' a = some o
  fresh : ∀ a, a ∈ ι' → a ∉ ι → H a = none
  tup : ∀ a vs, H a = some (.tup vs) → H' a = some (.tup vs)
  nn : ∀ a, H a ≠ none → H' a ≠ none
/-- what is locked stays so -/
structure Ext (ι : List Addr) (H : Hp) (ι' : List Addr) (H' : Hp) : Prop extends Ext0 ι H ι' H' where
  fz : ∀ a o u, H a = some (.frz o u) → H' a = some (.frz o u)
/-- not locked -/
def NFz (H : Hp) (a : Addr) : Prop := ∀ o u, H a ≠ some (.frz o u)
theorem NFz.lst {H : Hp} {a : Addr} {xs : List V} (h : H a = some (.lst xs)) : NFz H a := fun o u e => by rw [h] at e; cases e
theorem NFz.dK {H : Hp} {a : Addr} {xs : List (L2.Key × V)} (h : H a = some (.dK xs)) : NFz H a := fun o u e => by rw [h] at e; cases e
theorem NFz.dT {H : Hp} {a : Addr} {xs : List (List L2.Key × V)} (h : H a = some (.dT xs)) : NFz H a := fun o u e => by rw [h] at e; cases e

theorem Ext.refl (ι : List Addr) (H : Hp) : Ext ι H ι H := ⟨⟨List.prefix_refl _, fun _ _ h _ => h, fun _ h n => absurd h n, fun _ _ h => h, fun _ h => h⟩, fun _ _ _ h => h⟩
theorem Ext.trans {ι ι1 ι2 : List Addr} {H H1 H2 : Hp} (a : Ext ι H ι1 H1) (b : Ext ι1 H1 ι2 H2) : Ext ι H ι2 H2 where
  pre := a.pre.trans b.pre
  keep := fun x o h n => b.keep x o (a.keep x o h n) fun m => by rw [a.fresh x m n] at h; cases h
  fresh := fun x m n => by
    by_cases h : x ∈ ι1
    · exact a.fresh x h n
    · have := b.fresh x m h
      cases e : H x with
      | none => rfl
      | some o => exact absurd this (a.nn x (by rw [e]; simp))
  tup := fun x vs h => b.tup x vs (a.tup x vs h)
  nn := fun x h => b.nn x (a.nn x h)
  fz := fun x o u h => b.fz x o u (a.fz x o u h)
theorem Ext0.ix {ι ι' : List Addr} {H H' : Hp} (e : Ext0 ι H ι' H') {l : Nat} {a : Addr} (h : ι[l]? = some a) : ι'[l]? = some a := by
  obtain ⟨t, rfl⟩ := e.pre
  rw [List.getElem?_append_left (List.getElem?_eq_some_iff.mp h).1]
  exact h
section
variable {g : Gb} {ι ι' : List Addr} {H H' : Hp}
mutual
theorem Ext0.rep (e : Ext0 ι H ι' H') : ∀ (d : D) (v : V), Rep g ι H d v → Rep g ι' H' d v
  | .non, _, h => h
  | .bl _, _, h => h
  | .int _, _, h => h
  | .str _, _, h => h
  | .tup ds, _, h => by
    obtain ⟨a, vs, rfl, ha, hr⟩ := h
    exact ⟨a, vs, rfl, e.tup _ _ ha, Ext0.repL e ds vs hr⟩
  | .ktp ds, _, h => by
    obtain ⟨a, vs, rfl, ha, hr⟩ := h
    exact ⟨a, vs, rfl, ha, Ext0.repL e ds vs hr⟩
  | .rol ds, _, h => by
    obtain ⟨a, vs, rfl, ha, hr⟩ := h
    refine ⟨a, vs, rfl, ?_, Ext0.repL e ds vs hr⟩
    rcases ha with ⟨o, ha, hn⟩ | ha
    · refine .inl ⟨o, e.keep _ _ ha hn, fun m => ?_⟩
      rw [e.fresh a m hn] at ha
      cases ha
    · exact .inr ha
  | .loc l, _, h => by
    obtain ⟨a, rfl, ha⟩ := h
    exact ⟨a, rfl, e.ix ha⟩
  | .cst _, _, h => h
  | .err _ _ _, _, h => h
  | .ftup ds, _, h => by
    obtain ⟨a, vs, o, rfl, ha, ⟨hc, hd, hn⟩, hr⟩ := h
    refine ⟨a, vs, o, rfl, e.keep _ _ ha hn, ⟨hc, hd, fun m => ?_⟩, Ext0.repL e ds vs hr⟩
    rw [e.fresh a m hn] at ha
    cases ha
theorem Ext0.repL (e : Ext0 ι H ι' H') : ∀ (ds : List D) (vs : List V), RepL g ι H ds vs → RepL g ι' H' ds vs
  | [], _, h => h
  | d :: ds, _, h => by
    obtain ⟨v, r, rfl, h1, h2⟩ := h
    exact ⟨v, r, rfl, Ext0.rep e d v h1, Ext0.repL e ds r h2⟩
end

theorem Ext0.repKV {κ κ' : Type} {f : κ → κ'} (e : Ext0 ι H ι' H') : ∀ (kvs : List (κ × D)) (vs : List (κ' × V)), RepKV g f ι H kvs vs → RepKV g f ι' H' kvs vs
  | [], _, h => h
  | p :: t, _, h => by
    obtain ⟨v, r, rfl, h1, h2⟩ := h
    exact ⟨v, r, rfl, e.rep _ _ h1, Ext0.repKV e t r h2⟩
mutual
theorem RepK.rep : ∀ (d : D) (v : V), RepK g.K d v → Rep g ι H d v
  | .non, _, h => h
  | .bl _, _, h => h
  | .int _, _, h => h
  | .str _, _, h => h
  | .ktp ds, _, h => by
    obtain ⟨a, vs, rfl, ha, hr⟩ := h
    exact ⟨a, vs, rfl, ha, RepK.repL ds vs hr⟩
  | .tup _, _, h => h.elim
  | .rol _, _, h => h.elim
  | .loc _, _, h => h.elim
  | .cst _, _, h => h.elim
  | .err _ _ _, _, h => h.elim
  | .ftup _, _, h => h.elim
theorem RepK.repL : ∀ (ds : List D) (vs : List V), RepKL g.K ds vs → RepL g ι H ds vs
  | [], _, h => h
  | d :: ds, _, h => by
    obtain ⟨v, r, rfl, h1, h2⟩ := h
    exact ⟨v, r, rfl, RepK.rep d v h1, RepK.repL ds r h2⟩
end
theorem ObjR.mono {o : PL.Obj} {a : Addr} (e : Ext0 ι H ι' H') (h : ObjR g ι H o a) (k : H' a = H a) : ObjR g ι' H' o a := by
  cases o with
  | lst ds =>
    obtain ⟨vs, h1, h2⟩ := h
    exact ⟨vs, k.trans h1, e.repL _ _ h2⟩
  | dK b kvs =>
    cases b with
    | false =>
      obtain ⟨vs, h1, h2⟩ := h
      exact ⟨vs, k.trans h1, e.repKV _ _ h2⟩
    | true =>
      obtain ⟨o, vs, h1, h2⟩ := h
      exact ⟨o, vs, k.trans h1, e.repKV _ _ h2⟩
  | dT b kvs =>
    cases b with
    | false =>
      obtain ⟨vs, h1, h2⟩ := h
      exact ⟨vs, k.trans h1, e.repKV _ _ h2⟩
    | true =>
      obtain ⟨o, vs, h1, h2⟩ := h
      exact ⟨o, vs, k.trans h1, e.repKV _ _ h2⟩
theorem ObjR.there {o : PL.Obj} {a : Addr} (h : ObjR g ι H o a) : ∃ u, H a = some u ∧ ∀ vs, u ≠ .tup vs := by
  cases o with
  | lst ds =>
    obtain ⟨vs, h1, h2⟩ := h
    exact ⟨_, h1, fun _ z => by cases z⟩
  | dK b kvs =>
    cases b with
    | false =>
      obtain ⟨vs, h1, h2⟩ := h
      exact ⟨_, h1, fun _ z => by cases z⟩
    | true =>
      obtain ⟨o, vs, h1, h2⟩ := h
      exact ⟨_, h1, fun _ z => by cases z⟩
  | dT b kvs =>
    cases b with
    | false =>
      obtain ⟨vs, h1, h2⟩ := h
      exact ⟨_, h1, fun _ z => by cases z⟩
    | true =>
      obtain ⟨o, vs, h1, h2⟩ := h
      exact ⟨_, h1, fun _ z => by cases z⟩
variable {μ : Store}
theorem Sim.there (S : Sim g ι μ H) {a : Addr} (h : a ∈ ι) : ∃ u, H a = some u ∧ ∀ vs, u ≠ .tup vs := by
  obtain ⟨l, hl⟩ := List.getElem?_of_mem h
  have hl' : l < μ.length := by rw [← S.len]; exact (List.getElem?_eq_some_iff.mp hl).1
  exact (S.ob l μ[l] a (by simp [hl']) hl).there
theorem Sim.notin (S : Sim g ι μ H) {a : Addr} (h : H a = none) : a ∉ ι := fun m => by
  obtain ⟨u, hu, _⟩ := S.there m
  rw [h] at hu; cases hu
theorem Sim.at (S : Sim g ι μ H) {l : Nat} {o : PL.Obj} (h : μ[l]? = some o) : ∃ a, ι[l]? = some a ∧ ObjR g ι H o a := by
  have hl : l < ι.length := by rw [S.len]; exact (List.getElem?_eq_some_iff.mp h).1
  exact ⟨ι[l], by simp [hl], S.ob l o _ h (by simp [hl])⟩
theorem Sim.of (S : Sim g ι μ H) (e : Ext0 ι H ι H') (k : ∀ a, a ∈ ι → H' a = H a) : Sim g ι μ H' :=
  ⟨S.nd, S.len, fun l o a h1 h2 => (S.ob l o a h1 h2).mono e (k a (List.mem_of_getElem? h2))⟩
/-- a new tuple -/
theorem ext_tup (S : Sim g ι μ H) {p : Addr} (hp : H p = none) (o : HO) : Ext ι H ι (upd H p o) :=
  ⟨⟨List.prefix_refl _, fun a u h _ => by rw [upd_ne (ne_of_none h hp)]; exact h, fun _ h n => absurd h n, fun a vs h => by rw [upd_ne (ne_of_none h hp)]; exact h, fun a h => by
    unfold upd; split
    · simp
    · exact h⟩, fun a vs u h => by rw [upd_ne (ne_of_none h hp)]; exact h⟩
theorem Sim.tup (S : Sim g ι μ H) {p : Addr} (hp : H p = none) (o : HO) : Sim g ι μ (upd H p o) :=
  S.of (ext_tup S hp o).toExt0 fun a h => upd_ne fun e => S.notin hp (e ▸ h)
/-- a new object -/
theorem ext_new (S : Sim g ι μ H) {p : Addr} (hp : H p = none) (u : HO) : Ext ι H (ι ++ [p]) (upd H p u) :=
  ⟨⟨⟨[p], rfl⟩, fun a u' h _ => by rw [upd_ne (ne_of_none h hp)]; exact h, fun a h n => by
    rcases List.mem_append.mp h with h | h
    · exact absurd h n
    · rw [List.mem_singleton.mp h]; exact hp, fun a vs h => by rw [upd_ne (ne_of_none h hp)]; exact h, fun a h => by
    unfold upd; split
    · simp
    · exact h⟩, fun a vs u h => by rw [upd_ne (ne_of_none h hp)]; exact h⟩
theorem Sim.new (S : Sim g ι μ H) {p : Addr} {u : HO} {o : PL.Obj} (hp : H p = none) (h : ObjR g (ι ++ [p]) (upd H p u) o p) : Sim g (ι ++ [p]) (μ ++ [o]) (upd H p u) := by
  have e := ext_new S hp u
  refine ⟨?_, by simp [S.len], fun l x a h1 h2 => ?_⟩
  · rw [List.nodup_append]
    refine ⟨S.nd, by simp, fun a ha b hb => ?_⟩
    rw [List.mem_singleton.mp hb]
    exact fun z => S.notin hp (z ▸ ha)
  · by_cases hl : l < μ.length
    · rw [List.getElem?_append_left hl] at h1
      rw [List.getElem?_append_left (by rw [S.len]; exact hl)] at h2
      exact (S.ob l x a h1 h2).mono e.toExt0 (upd_ne fun z => S.notin hp (z ▸ List.mem_of_getElem? h2))
    · rw [List.getElem?_append_right (by omega)] at h1
      rw [List.getElem?_append_right (by rw [S.len]; omega)] at h2
      have hz : l - μ.length = 0 := by
        have := (List.getElem?_eq_some_iff.mp h1).1
        simp at this; omega
      rw [S.len] at h2
      rw [hz] at h1 h2
      simp at h1 h2
      rw [← h1, ← h2]; exact h
/-- an object is changed -/
theorem ext_set (S : Sim g ι μ H) {l : Nat} {a : Addr} (ha : ι[l]? = some a) (nf : NFz H a) (u : HO) : Ext ι H ι (upd H a u) := by
  have hm := List.mem_of_getElem? ha
  obtain ⟨w, hw, nt⟩ := S.there hm
  refine ⟨⟨List.prefix_refl _, fun b o h n => ?_, fun _ h n => absurd h n, fun b vs h => ?_, fun b h => ?_⟩, fun b o x h => ?_⟩
  · rw [upd_ne fun (e : b = a) => n (by rw [e]; exact hm)]; exact h
  · rw [upd_ne fun e => ?_]
    · exact h
    · rw [e, hw] at h
      exact nt vs (Option.some.inj h)
  · unfold upd; split
    · simp
    · exact h
  · rw [upd_ne fun e => nf o x (by rw [← e]; exact h)]
    exact h
theorem Sim.set (S : Sim g ι μ H) {l : Nat} {a : Addr} {u : HO} {o : PL.Obj} (ha : ι[l]? = some a) (nf : NFz H a) (h : ObjR g ι (upd H a u) o a) : Sim g ι (μ.set l o) (upd H a u) := by
  have e := ext_set S ha nf u
  refine ⟨S.nd, by simp [S.len], fun k x b h1 h2 => ?_⟩
  by_cases hk : l = k
  · subst hk
    rw [ha] at h2; cases h2
    have hl : l < μ.length := by rw [← S.len]; exact (List.getElem?_eq_some_iff.mp ha).1
    rw [List.getElem?_set_self hl] at h1; cases h1
    exact h
  · rw [List.getElem?_set_ne hk] at h1
    refine (S.ob k x b h1 h2).mono e.toExt0 (upd_ne fun z => hk ?_)
    rw [z] at h2
    obtain ⟨i1, e1⟩ := List.getElem?_eq_some_iff.mp ha
    obtain ⟨i2, e2⟩ := List.getElem?_eq_some_iff.mp h2
    exact (List.getElem_inj S.nd).mp (e1.trans e2.symm)

/-- a locked dict is let go -/
theorem ext_unlock {ι ι' : List Addr} {H H' : Hp} {a : Addr} {o : PySem.Obj} {u : HO} (hm : a ∈ ι) (hu : H a = some u) (nt : ∀ vs, u ≠ .tup vs) (nf : ∀ o w, u ≠ .frz o w) (e : Ext ι (upd H a (.frz o u)) ι' H') : Ext ι H ι' (upd H' a u) := by
  refine ⟨⟨e.pre, fun b x h n => ?_, fun b m n => ?_, fun b vs h => ?_, fun b h => ?_⟩, fun b x w h => ?_⟩
  · have hb : b ≠ a := fun z => n (z ▸ hm)
    rw [upd_ne hb]
    exact e.keep b x (by rw [upd_ne hb]; exact h) n
  · have hb : b ≠ a := fun z => n (z ▸ hm)
    have := e.fresh b m n
    rw [upd_ne hb] at this
    exact this
  · have hb : b ≠ a := fun z => by rw [z, hu] at h; exact nt vs (Option.some.inj h)
    rw [upd_ne hb]
    exact e.tup b vs (by rw [upd_ne hb]; exact h)
  · by_cases hb : b = a
    · rw [hb, upd_same]; simp
    · rw [upd_ne hb]
      exact e.nn b (by rw [upd_ne hb]; exact h)
  · have hb : b ≠ a := fun z => by rw [z, hu] at h; exact nf x w (Option.some.inj h)
    rw [upd_ne hb]
    exact e.fz b x w (by rw [upd_ne hb]; exact h)
theorem ext0_unlock {ι : List Addr} {H : Hp} {a : Addr} {o : PySem.Obj} {u : HO} (hm : a ∈ ι) (h : H a = some (.frz o u)) : Ext0 ι H ι (upd H a u) := by
  refine ⟨List.prefix_refl _, fun b x k n => ?_, fun _ m n => absurd m n, fun b vs k => ?_, fun b k => ?_⟩
  · rw [upd_ne fun z : b = a => n (z ▸ hm)]; exact k
  · rw [upd_ne fun z => by rw [z, h] at k; cases k]; exact k
  · by_cases hb : b = a
    · rw [hb, upd_same]; simp
    · rw [upd_ne hb]; exact k
theorem Sim.unlock {l : Nat} {a : Addr} {o : PySem.Obj} {u : HO} (S : Sim g ι μ H) (ha : ι[l]? = some a) (h : H a = some (.frz o u)) : Sim g ι (μ.modify l (setLk false)) (upd H a u) := by
  have e := ext0_unlock (List.mem_of_getElem? ha) h
  refine ⟨S.nd, by simp [S.len], fun k x b h1 h2 => ?_⟩
  rw [List.getElem?_modify] at h1
  by_cases hk : l = k
  · subst hk
    rw [ha] at h2; cases h2
    cases em : μ[l]? with
    | none => rw [em] at h1; simp at h1
    | some y =>
      rw [em] at h1
      simp at h1
      subst h1
      have := S.ob l y a em ha
      cases y with
      | lst xs => obtain ⟨vs, q, _⟩ := this; rw [h] at q; cases q
      | dK b kvs =>
        cases b with
        | false => obtain ⟨vs, q, _⟩ := this; rw [h] at q; cases q
        | true =>
          obtain ⟨o', vs, q, r⟩ := this
          rw [h] at q; cases q
          exact ⟨vs, upd_same, e.repKV _ _ r⟩
      | dT b kvs =>
        cases b with
        | false => obtain ⟨vs, q, _⟩ := this; rw [h] at q; cases q
        | true =>
          obtain ⟨o', vs, q, r⟩ := this
          rw [h] at q; cases q
          exact ⟨vs, upd_same, e.repKV _ _ r⟩
  · simp [hk] at h1
    refine (S.ob k x b h1 h2).mono e (upd_ne fun z => hk ?_)
    rw [z] at h2
    obtain ⟨i1, e1⟩ := List.getElem?_eq_some_iff.mp ha
    obtain ⟨i2, e2⟩ := List.getElem?_eq_some_iff.mp h2
    exact (List.getElem_inj S.nd).mp (e1.trans e2.symm)
/-- a dict is locked -/
theorem Sim.lock {l : Nat} {a : Addr} {o : PySem.Obj} {u : HO} (S : Sim g ι μ H) (ha : ι[l]? = some a) (hl : (∃ kvs, μ[l]? = some (.dK false kvs)) ∨ ∃ kvs, μ[l]? = some (.dT false kvs)) (h : H a = some u) : Sim g ι (μ.modify l (setLk true)) (upd H a (.frz o u)) ∧ Ext ι H ι (upd H a (.frz o u)) := by
  have nf : NFz H a := by
    rcases hl with ⟨kvs, e⟩ | ⟨kvs, e⟩
    · obtain ⟨vs, q, _⟩ := S.ob l _ a e ha; exact .dK q
    · obtain ⟨vs, q, _⟩ := S.ob l _ a e ha; exact .dT q
  have e := ext_set S ha nf (.frz o u)
  refine ⟨?_, e⟩
  have hm : ∀ y, μ[l]? = some y → μ.modify l (setLk true) = μ.set l (setLk true y) := fun y ey => by
    apply List.ext_getElem?
    intro k
    rw [List.getElem?_modify]
    by_cases hk : l = k
    · subst hk
      rw [List.getElem?_set_self (List.getElem?_eq_some_iff.mp ey).1, ey]; simp
    · rw [List.getElem?_set_ne hk]; simp [hk]
  rcases hl with ⟨kvs, ek⟩ | ⟨kvs, ek⟩
  · rw [hm _ ek]
    obtain ⟨vs, q, r⟩ := S.ob l _ a ek ha
    rw [h] at q; cases q
    exact S.set ha nf ⟨o, vs, upd_same, e.repKV _ _ r⟩
  · rw [hm _ ek]
    obtain ⟨vs, q, r⟩ := S.ob l _ a ek ha
    rw [h] at q; cases q
    exact S.set ha nf ⟨o, vs, upd_same, e.repKV _ _ r⟩

/-! ### rows of values -/
theorem RepL.length : ∀ {ds : List D} {vs : List V}, RepL g ι H ds vs → vs.length = ds.length
  | [], _, h => by rw [show _ = [] from h]; rfl
  | d :: ds, _, h => by
    obtain ⟨v, r, rfl, h1, h2⟩ := h
    simp [RepL.length h2]
theorem RepL.get : ∀ {ds : List D} {vs : List V} {i : Nat} {d : D}, RepL g ι H ds vs → ds[i]? = some d → ∃ v, vs[i]? = some v ∧ Rep g ι H d v
  | [], _, i, d, _, h => by simp at h
  | x :: ds, _, 0, d, h, e => by
    obtain ⟨v, r, rfl, h1, h2⟩ := h
    simp at e; subst e
    exact ⟨v, rfl, h1⟩
  | x :: ds, _, i + 1, d, h, e => by
    obtain ⟨v, r, rfl, h1, h2⟩ := h
    simpa using RepL.get h2 (by simpa using e)
theorem RepL.gets : ∀ {ds : List D} {vs : List V} {i : Nat} {v : V}, RepL g ι H ds vs → vs[i]? = some v → ∃ d, ds[i]? = some d ∧ Rep g ι H d v
  | [], _, i, d, h, e => by rw [show _ = [] from h] at e; simp at e
  | x :: ds, _, 0, d, h, e => by
    obtain ⟨v, r, rfl, h1, h2⟩ := h
    simp at e; subst e
    exact ⟨x, rfl, h1⟩
  | x :: ds, _, i + 1, d, h, e => by
    obtain ⟨v, r, rfl, h1, h2⟩ := h
    simpa using RepL.gets h2 (by simpa using e)
theorem RepL.append : ∀ {ds es : List D} {vs ws : List V}, RepL g ι H ds vs → RepL g ι H es ws → RepL g ι H (ds ++ es) (vs ++ ws)
  | [], _, _, _, h, k => by rw [show _ = [] from h]; exact k
  | x :: ds, _, _, _, h, k => by
    obtain ⟨v, r, rfl, h1, h2⟩ := h
    exact ⟨v, r ++ _, rfl, h1, RepL.append h2 k⟩
theorem RepL.take : ∀ {ds : List D} {vs : List V} (n : Nat), RepL g ι H ds vs → RepL g ι H (ds.take n) (vs.take n)
  | [], _, _, h => by rw [show _ = [] from h]; simp [RepL]
  | x :: ds, _, 0, h => by simp [RepL]
  | x :: ds, _, n + 1, h => by
    obtain ⟨v, r, rfl, h1, h2⟩ := h
    exact ⟨v, r.take n, rfl, h1, RepL.take n h2⟩
theorem RepL.drop : ∀ {ds : List D} {vs : List V} (n : Nat), RepL g ι H ds vs → RepL g ι H (ds.drop n) (vs.drop n)
  | [], _, _, h => by rw [show _ = [] from h]; simp [RepL]
  | x :: ds, _, 0, h => by simpa using h
  | x :: ds, _, n + 1, h => by
    obtain ⟨v, r, rfl, h1, h2⟩ := h
    simpa using RepL.drop n h2
theorem RepL.set : ∀ {ds : List D} {vs : List V} {d : D} {v : V} (n : Nat), RepL g ι H ds vs → Rep g ι H d v → RepL g ι H (ds.set n d) (vs.set n v)
  | [], _, _, _, _, h, _ => by rw [show _ = [] from h]; simp [RepL]
  | x :: ds, _, _, _, 0, h, k => by
    obtain ⟨v, r, rfl, h1, h2⟩ := h
    exact ⟨_, r, rfl, k, h2⟩
  | x :: ds, _, _, _, n + 1, h, k => by
    obtain ⟨v, r, rfl, h1, h2⟩ := h
    exact ⟨v, _, rfl, h1, RepL.set n h2 k⟩
theorem RepL.erase : ∀ {ds : List D} {vs : List V} (n : Nat), RepL g ι H ds vs → RepL g ι H (ds.eraseIdx n) (vs.eraseIdx n)
  | [], _, _, h => by rw [show _ = [] from h]; simp [RepL]
  | x :: ds, _, 0, h => by
    obtain ⟨v, r, rfl, h1, h2⟩ := h
    exact h2
  | x :: ds, _, n + 1, h => by
    obtain ⟨v, r, rfl, h1, h2⟩ := h
    exact ⟨v, _, rfl, h1, RepL.erase n h2⟩
theorem RepL.dropLast {ds : List D} {vs : List V} (h : RepL g ι H ds vs) : RepL g ι H ds.dropLast vs.dropLast := by
  rw [List.dropLast_eq_take, List.dropLast_eq_take, h.length]
  exact h.take _
theorem RepL.cons {d : D} {v : V} {ds : List D} {vs : List V} (h : Rep g ι H d v) (k : RepL g ι H ds vs) : RepL g ι H (d :: ds) (v :: vs) := ⟨v, vs, rfl, h, k⟩
theorem RepL.nil : RepL g ι H [] [] := rfl
theorem RepL.one {d : D} {v : V} (h : Rep g ι H d v) : RepL g ι H [d] [v] := ⟨v, [], rfl, h, rfl⟩
theorem RepL.rep {ds : List D} {vs : List V} (h : RepL g ι H ds vs) : ∀ k : Nat, RepL g ι H (List.replicate k ds).flatten (List.replicate k vs).flatten
  | 0 => rfl
  | k + 1 => by
    rw [List.replicate_succ, List.replicate_succ, List.flatten_cons, List.flatten_cons]
    exact h.append (RepL.rep h k)
theorem RepL.all {P : D → Prop} {ds : List D} {vs : List V} (h : RepL g ι H ds vs) : vs.length = ds.length := h.length

/-! ### entries of dicts -/
section
variable {κ κ' : Type} [DecidableEq κ] [DecidableEq κ'] {f : κ → κ'}
theorem RepKV.length : ∀ {kvs : List (κ × D)} {vs : List (κ' × V)}, RepKV g f ι H kvs vs → vs.length = kvs.length
  | [], _, h => by rw [show _ = [] from h]; rfl
  | p :: t, _, h => by
    obtain ⟨v, r, rfl, h1, h2⟩ := h
    simp [RepKV.length h2]
theorem look_cons {p : κ × D} {t : List (κ × D)} {k : κ} : look (p :: t) k = if p.1 = k then some p.2 else look t k := by
  unfold look
  by_cases e : p.1 = k <;> simp [List.find?_cons, e]
theorem RepKV.look (inj : ∀ a b, f a = f b ↔ a = b) (k : κ) : ∀ {kvs : List (κ × D)} {vs : List (κ' × V)}, RepKV g f ι H kvs vs →
    (look kvs k = none ∧ valV vs (f k) = none) ∨ ∃ d v, PL.look kvs k = some d ∧ valV vs (f k) = some v ∧ Rep g ι H d v
  | [], _, h => by rw [show _ = [] from h]; exact .inl ⟨rfl, rfl⟩
  | p :: t, _, h => by
    obtain ⟨v, r, rfl, h1, h2⟩ := h
    rw [look_cons]
    by_cases e : p.1 = k
    · rw [if_pos e, valV_pos (by rw [e])]
      exact .inr ⟨_, _, rfl, rfl, h1⟩
    · rw [if_neg e, valV_neg (fun z => e ((inj _ _).mp z))]
      exact RepKV.look inj k h2
theorem RepKV.any (inj : ∀ a b, f a = f b ↔ a = b) (k : κ) : ∀ {kvs : List (κ × D)} {vs : List (κ' × V)}, RepKV g f ι H kvs vs →
    (vs.any fun kv => decide (kv.1 = f k)) = kvs.any fun p => decide (p.1 = k)
  | [], _, h => by rw [show _ = [] from h]; rfl
  | p :: t, _, h => by
    obtain ⟨v, r, rfl, h1, h2⟩ := h
    rw [List.any_cons, List.any_cons, RepKV.any inj k h2]
    congr 1
    exact decide_eq_decide.mpr (inj _ _)
theorem RepKV.app : ∀ {kvs : List (κ × D)} {vs : List (κ' × V)} {k : κ} {d : D} {v : V}, RepKV g f ι H kvs vs → Rep g ι H d v → RepKV g f ι H (kvs ++ [(k, d)]) (vs ++ [(f k, v)])
  | [], _, _, _, _, h, r => by rw [show _ = [] from h]; exact ⟨_, _, rfl, r, rfl⟩
  | p :: t, _, _, _, _, h, r => by
    obtain ⟨v, r', rfl, h1, h2⟩ := h
    exact ⟨v, _, rfl, h1, RepKV.app h2 r⟩
theorem RepKV.mapd (inj : ∀ a b, f a = f b ↔ a = b) : ∀ {kvs : List (κ × D)} {vs : List (κ' × V)} {k : κ} {d : D} {v : V}, RepKV g f ι H kvs vs → Rep g ι H d v →
    RepKV g f ι H (kvs.map fun p => if p.1 = k then (p.1, d) else p) (vs.map fun kv => if kv.1 = f k then (kv.1, v) else kv)
  | [], _, _, _, _, h, r => by rw [show _ = [] from h]; rfl
  | p :: t, _, k, d, w, h, r => by
    obtain ⟨v, r', rfl, h1, h2⟩ := h
    rw [List.map_cons, List.map_cons]
    by_cases e : p.1 = k
    · rw [if_pos e, if_pos (show f p.1 = f k by rw [e])]
      exact ⟨w, _, rfl, r, RepKV.mapd inj h2 r⟩
    · rw [if_neg e, if_neg (show ¬ f p.1 = f k from fun z => e ((inj _ _).mp z))]
      exact ⟨v, _, rfl, h1, RepKV.mapd inj h2 r⟩
theorem RepKV.put (inj : ∀ a b, f a = f b ↔ a = b) {kvs : List (κ × D)} {vs : List (κ' × V)} {k : κ} {d : D} {v : V} (h : RepKV g f ι H kvs vs) (r : Rep g ι H d v) :
    RepKV g f ι H (put kvs k d) (putK vs (f k) v) := by
  unfold PL.put putK
  rw [RepKV.any inj k h]
  split
  · exact RepKV.mapd inj h r
  · exact RepKV.app h r
end
end
end PL
end
section
set_option Elab.async false
set_option linter.all false
set_option autoImplicit false
set_option maxRecDepth 100000
set_option maxHeartbeats 4000000
/-! Sound2: what an evaluation's end promises; the operators. -/
namespace PL
open PySem PySem.Spec PyProof.Rows L2

def wpR {α : Type} (r : Res α) (Q : α → Store → Prop) (E : Exc → Store → Prop) : Prop := match r with
  | .ok a μ => Q a μ
  | .exc x μ => E x μ
  | .stuck => False
theorem wpR_bind {α β : Type} (r : Res α) (f : α → Store → Res β) (Q : β → Store → Prop) (E : Exc → Store → Prop) :
    wpR (r.bind f) Q E = wpR r (fun a μ => wpR (f a μ) Q E) E := by
  cases r <;> rfl
theorem wpR_mono {α : Type} {r : Res α} {Q Q' : α → Store → Prop} {E E' : Exc → Store → Prop} (h : wpR r Q E) (hq : ∀ a μ, Q a μ → Q' a μ) (he : ∀ x μ, E x μ → E' x μ) : wpR r Q' E' := by
  cases r with
  | ok a μ => exact hq a μ h
  | exc x μ => exact he x μ h
  | stuck => exact h

theorem wpR_ok {α : Type} (a : α) (μ : Store) (Q : α → Store → Prop) (E : Exc → Store → Prop) : wpR (.ok a μ) Q E = Q a μ := rfl
theorem wpR_stuck {α : Type} (Q : α → Store → Prop) (E : Exc → Store → Prop) : wpR .stuck Q E = False := rfl
section
variable (g : Gb)
def OkV (ι : List Addr) (H : Hp) (Q : VK) : D → Store → Prop := fun d μ => ∀ ι' H' v, Ext ι H ι' H' → Sim g ι' μ H' → Rep g ι' H' d v → Q v H'
def OkB (ι : List Addr) (H : Hp) (Q : Bool → Hp → Prop) : Bool → Store → Prop := fun b μ => ∀ ι' H', Ext ι H ι' H' → Sim g ι' μ H' → Q b H'
def OkL (ι : List Addr) (H : Hp) (Q : List V → Hp → Prop) : List D → Store → Prop := fun ds μ => ∀ ι' H' vs, Ext ι H ι' H' → Sim g ι' μ H' → RepL g ι' H' ds vs → Q vs H'
def OkU (ι : List Addr) (H : Hp) (Q : Hp → Prop) : Unit → Store → Prop := fun _ μ => ∀ ι' H', Ext ι H ι' H' → Sim g ι' μ H' → Q H'
/-- an error that flies -/
def ExcR (ι : List Addr) (H : Hp) (x : Exc) (cls : Value) (dd : Option Addr) : Prop :=
  cls = .ref (g.clsA (x.ms.headD 0)) ∧ x.ms ∈ g.mros ∧ ∃ d fs, dd = some d ∧ H d = some (.xd fs) ∧ d ∉ ι ∧ ∀ (i k : Nat) dv, x.ks[i]? = some k → (x.ks.findIdx? fun y => y == k) = some i → x.fs[i]? = some dv → ∃ v, fs.lookup (g.fld k) = some v ∧ Rep g ι H dv v
def ExW (ι : List Addr) (H : Hp) (W : Value → Option Addr → Hp → Prop) : Exc → Store → Prop := fun x μ => ∀ ι' H' c d, Ext ι H ι' H' → Sim g ι' μ H' → ExcR g ι' H' x c d → W c d H'
def anyE : Exc → Store → Prop := fun _ _ => True
end
section
variable {g : Gb} {ι ι1 : List Addr} {H H1 : Hp} {μ : Store}
theorem OkV.mono {Q : VK} {d : D} (e : Ext ι H ι1 H1) (h : OkV g ι H Q d μ) : OkV g ι1 H1 Q d μ := fun ι' H' v e' S R => h ι' H' v (e.trans e') S R
theorem OkB.mono {Q : Bool → Hp → Prop} {b : Bool} (e : Ext ι H ι1 H1) (h : OkB g ι H Q b μ) : OkB g ι1 H1 Q b μ := fun ι' H' e' S => h ι' H' (e.trans e') S
theorem OkL.mono {Q : List V → Hp → Prop} {d : List D} (e : Ext ι H ι1 H1) (h : OkL g ι H Q d μ) : OkL g ι1 H1 Q d μ := fun ι' H' v e' S R => h ι' H' v (e.trans e') S R
theorem OkU.mono {Q : Hp → Prop} (e : Ext ι H ι1 H1) (h : OkU g ι H Q () μ) : OkU g ι1 H1 Q () μ := fun ι' H' e' S => h ι' H' (e.trans e') S
theorem ExW.mono {W : Value → Option Addr → Hp → Prop} {x : Exc} (e : Ext ι H ι1 H1) (h : ExW g ι H W x μ) : ExW g ι1 H1 W x μ := fun ι' H' c d e' S R => h ι' H' c d (e.trans e') S R
theorem OkV.same {Q : VK} {d : D} {v : V} (S : Sim g ι μ H) (h : OkV g ι H Q d μ) (r : Rep g ι H d v) : Q v H := h ι H v (Ext.refl ι H) S r
theorem OkV.tup {Q : VK} {ds : List D} {vs : List V} {p : Addr} (S : Sim g ι μ H) (h : OkV g ι H Q (.tup ds) μ) (r : RepL g ι H ds vs) (hp : H p = none) : Q (.ref p) (upd H p (.tup vs)) :=
  have e := ext_tup S hp (.tup vs)
  h ι _ _ e (S.tup hp _) ⟨p, vs, rfl, upd_same, e.repL _ _ r⟩
theorem OkV.lst {Q : VK} {ds : List D} {vs : List V} {p : Addr} (S : Sim g ι μ H) (h : OkV g ι H Q (.loc μ.length) (μ ++ [.lst ds])) (r : RepL g ι H ds vs) (hp : H p = none) : Q (.ref p) (upd H p (.lst vs)) :=
  have e := ext_new S hp (.lst vs)
  h _ _ _ e (S.new hp ⟨vs, upd_same, e.repL _ _ r⟩) ⟨p, rfl, by rw [← S.len]; simp⟩
theorem RepL.sqL {l : Nat} {ds : List D} {v : V} (S : Sim g ι μ H) (r : Rep g ι H (.loc l) v) (h : μ[l]? = some (.lst ds)) : ∃ a vs, v = .ref a ∧ ι[l]? = some a ∧ H a = some (.lst vs) ∧ RepL g ι H ds vs := by
  obtain ⟨a, rfl, ha⟩ := r
  obtain ⟨vs, h1, h2⟩ := S.ob l _ a h ha
  exact ⟨a, vs, rfl, ha, h1, h2⟩
/-- what stands in a row, as the layer reads it -/
theorem rowF_at {d : D} {v : V} {xs : List D} (S : Sim g ι μ H) (r : Rep g ι H d v) (h : rowF d μ = some xs) :
    ∃ a vs, v = .ref a ∧ (SqL g.K H a vs ∨ SqT g.K H a vs) ∧ RepL g ι H xs vs ∧ (∀ ds, d = .tup ds → SqT g.K H a vs) ∧ ((∀ ds, d ≠ .tup ds) → (∀ ds, d ≠ .ktp ds) → SqL g.K H a vs) := by
  cases d with
  | tup ds =>
    cases h
    obtain ⟨a, vs, rfl, h1, h2⟩ := r
    exact ⟨a, vs, rfl, .inr (SqT.of h1), h2, fun _ _ => SqT.of h1, fun z => absurd rfl (z _)⟩
  | ktp ds =>
    cases h
    obtain ⟨a, vs, rfl, h1, h2⟩ := r
    exact ⟨a, vs, rfl, .inr (h1.sq H), h2, fun _ z => (by cases z), fun _ z => absurd rfl (z _)⟩
  | rol ds =>
    cases h
    obtain ⟨a, vs, rfl, h1, h2⟩ := r
    have q : SqL g.K H a vs := by
      rcases h1 with ⟨o, h1, _⟩ | h1
      · exact .inl (.inr ⟨o, h1⟩)
      · exact .inr h1
    exact ⟨a, vs, rfl, .inl q, h2, fun _ z => (by cases z), fun _ _ => q⟩
  | loc l =>
    unfold rowF at h
    cases e : μ[l]? with
    | none => simp [e] at h
    | some o =>
      cases o with
      | lst ys =>
        simp [e] at h
        subst h
        obtain ⟨a, vs, rfl, _, h1, h2⟩ := RepL.sqL S r e
        exact ⟨a, vs, rfl, .inl (SqL.of h1), h2, fun _ z => (by cases z), fun _ _ => SqL.of h1⟩
      | dK _ _ => simp [e] at h
      | dT _ _ => simp [e] at h
  | _ => cases h
end
/-- an operation of two values, of one -/
def rF (g : Gb) (f : D → D → Store → Res D) : R2 := fun x y H Q => ∃ ι μ d1 d2, Sim g ι μ H ∧ Rep g ι H d1 x ∧ Rep g ι H d2 y ∧ wpR (f d1 d2 μ) (OkV g ι H Q) anyE
def rB (g : Gb) (f : D → D → Store → Res Bool) : R2 := fun x y H Q => ∃ ι μ d1 d2, Sim g ι μ H ∧ Rep g ι H d1 x ∧ Rep g ι H d2 y ∧ wpR (f d1 d2 μ) (OkB g ι H fun b H' => Q (.bl b) H') anyE

section
open Builtin Builtin.Str Builtin.Int
theorem tuple_mul1 (l : Addr) (items : Array Value) (n : Nat) (dd : Option Addr) (sl : Array (Option Value)) (u : Tok) :
    Meets (Builtin.«tuple.__mul__» ⟨[.ref l, .int 1 u], []⟩) (fun _ R s => s.heap.get? l = some { cls := .type "tuple", dict := dd, data := .seq items n, slots := sl } ∧
      R (.ok (.ret (Value.ref l))) s) :=
  .of_wp fun prog w A R s h => by
    obtain ⟨hp, g, d, tk, os⟩ := s
    obtain ⟨hl, h⟩ := h
    have f1 := AutoSeq1.idx_int
    wp_walk using wpAny_loadPart' hl
    repeat (first
      | (refine wpAny_ite_false (by decide) ?_; wp_walk using wpAny_loadPart' hl)
      | (refine wpAny_ite_true (by simp) ?_; wp_walk using wpAny_loadPart' hl))
    exact ⟨_, rfl, h⟩
section
variable {X : Cx}
def rRepT1 (K : PySem.W.Frag) : R2 := fun x y H Q => ∃ l xs, x = .ref l ∧ y = .int 1 ∧ SqT K H l xs ∧ Q (.ref l) H
theorem op_repT1 : OpR X (binaryOp .Mult) (rRepT1 X.K) := by
  intro pins s σ H x y v u Q I rx ry h
  obtain ⟨l, xs, rfl, rfl, hT, q⟩ := h
  cases rx
  obtain ⟨t, rfl⟩ := ry
  obtain ⟨its, r, ⟨⟨cls, dd, data, sl⟩, ho, hc, n, hd⟩, hs⟩ := I.tuple hT
  simp only at hc hd
  subst hc hd
  refine wpAny_binaryOp_repeat_ref (T := "tuple") (U := "int") (by decide) ⟨_, ho, rfl⟩ (fun s' => typeIs_int s' 1 t) noFill_tuple_mul F.fills_int_mul F.slot_int_rmul repeat_tuple F.slot_int_index.lookup
    (call_meets F.slot_int_rmul (typeIs_int s 1 t) F.entry_int_rmul (F.args_int_rmul_2 _ _) (int_rmul_tuple 1 t l its.toArray n dd sl)
      ⟨ho, rfl, ⟨_, ho, rfl⟩, call_meets F.slot_tuple_mul ⟨_, ho, rfl⟩ F.entry_tuple_mul (F.args_tuple_mul_2 _ _) (tuple_mul1 l its.toArray n dd sl t) ⟨ho, ?_⟩⟩)
  exact ⟨.ref l, H, I, rfl, q⟩
end
theorem foldA_rep (its : Txt) (n : Nat) : (List.replicate n its.toArray).foldl (fun x1 x2 => x1 ++ x2) #[] = (List.replicate n its).flatten.toArray := by
  have key : ∀ (m : Nat) (acc : Txt), (List.replicate m its.toArray).foldl (fun x1 x2 => x1 ++ x2) acc.toArray = (acc ++ (List.replicate m its).flatten).toArray := by
    intro m
    induction m with
    | zero => intro acc; simp
    | succ m ih => intro acc; rw [List.replicate_succ, List.foldl_cons, List.append_toArray, ih]; simp [List.replicate_succ]
  have := key n []
  simpa using this
section
variable {X : Cx}
def rRepS : R2 := fun x y H Q => ∃ a k, x = .str (S2 a) ∧ y = .int k ∧ a ≠ [] ∧ 2 ≤ k ∧ k ≤ 1000 ∧ a.length ≤ 1000 ∧ Q (.str (S2 (List.replicate k.toNat a).flatten)) H
theorem op_repS : OpR X (binaryOp .Mult) rRepS := by
  intro pins s σ H x y v u Q I rx ry h
  obtain ⟨a, k, rfl, rfl, hne, h1, h2, hz, q⟩ := h
  obtain ⟨t, rfl⟩ := rx
  obtain ⟨t', rfl⟩ := ry
  have hl : (S2 a).length = a.length := S2_len a
  have hflen : (List.replicate k.toNat a).flatten.length ≤ 1000000 := by
    rw [PyProof.Rows.lm_len_rep_flat]
    have a1 : k.toNat * a.length ≤ 1000 * 1000 := Nat.mul_le_mul (by omega) hz
    omega
  have hpos : 0 < a.length := List.length_pos_iff.mpr hne
  refine P.mul_str (n := k) ?_ ?_ ?_ ?_
  · rw [decide_eq_false (by omega), decide_eq_false (by omega)] <;> rfl
  · intro _ _
    rw [hl]
    have : (1000 : Int) ≤ (2 ^ 63 - 1) / k := by
      refine (Int.le_ediv_iff_mul_le (by omega)).mpr ?_
      omega
    omega
  · intro _ _
    rw [hl]
    unfold tooLong
    rw [sizeLine_eq]
    have a1 : a.length * k.toNat ≤ 1000 * 1000 := Nat.mul_le_mul hz (by omega)
    exact decide_eq_false (by omega)
  · rw [if_neg (by omega), if_neg (by
      rw [hl]
      simp
      exact ⟨by omega, hne⟩)]
    have e : (⟨(List.replicate k.toNat (S2 a).cps).foldl (fun x1 x2 => x1 ++ x2) #[]⟩ : Str) = S2 (List.replicate k.toNat a).flatten := by
      unfold S2
      exact congrArg Str.mk (foldA_rep a k.toNat)
    refine ⟨?_, ?_⟩
    · rw [e, S2_len, sizeLine_eq]
      omega
    · rw [e]
      exact ⟨.str (S2 (List.replicate k.toNat a).flatten), H, I.tok _, ⟨_, rfl⟩, q⟩
def rRepS1 : R2 := fun x y H Q => ∃ a, x = .str a ∧ y = .int 1 ∧ Q (.str a) H
theorem op_repS1 : OpR X (binaryOp .Mult) rRepS1 := by
  intro pins s σ H x y v u Q I rx ry h
  obtain ⟨a, rfl, rfl, q⟩ := h
  obtain ⟨t, rfl⟩ := rx
  obtain ⟨t', rfl⟩ := ry
  refine P.mul_str (n := 1) (by decide) (fun _ h => by simp at h) (fun _ h => by simp at h) ?_
  rw [if_neg (by omega), if_pos (by simp)]
  exact ⟨.str a, H, I, ⟨_, rfl⟩, q⟩
end
end
section
variable {X : Cx} {g : Gb}
theorem op_addF (hK : X.K = g.K) : OpR X (binaryOp .Add) (rF g (binF .add)) := by
  intro pins s σ H x y v u Q I rx ry h
  obtain ⟨ι, μ, d1, d2, S, h1, h2, hw⟩ := h
  cases d1 <;> cases d2 <;> simp only [binF, wpR_stuck] at hw <;> try exact False.elim hw
  · obtain rfl := h1; obtain rfl := h2
    exact op_add pins s σ H _ _ v u Q I rx ry ⟨_, _, rfl, rfl, OkV.same S hw rfl⟩
  · obtain rfl := h1; obtain rfl := h2
    split at hw
    · rename_i hl
      refine op_add_str pins s σ H _ _ v u Q I rx ry ⟨_, _, rfl, rfl, ?_, ?_⟩
      · rw [S2_len, S2_len]; exact Nat.le_trans hl line_most
      · rw [S2_app]; exact OkV.same S hw rfl
    · exact False.elim hw
  · obtain ⟨a, vs, rfl, ha, r1⟩ := h1
    obtain ⟨b, ws, rfl, hb, r2⟩ := h2
    split at hw
    · rename_i hl
      refine op_catA pins s σ H _ _ v u Q I rx ry ⟨a, b, vs, ws, rfl, rfl, SqT.of ha, SqT.of hb, ?_, fun e => ?_, fun _ e => ?_, fun _ _ p hp => ?_⟩
      · rw [r1.length, r2.length]; exact Nat.le_trans hl line_most
      · subst e
        have e0 : _ = [] := List.length_eq_zero_iff.mp (r1.length.symm.trans rfl)
        rw [e0] at hw
        exact OkV.same S hw ⟨b, ws, rfl, hb, r2⟩
      · subst e
        have e0 := List.length_eq_zero_iff.mp (r2.length.symm.trans rfl)
        rw [e0, List.append_nil] at hw
        exact OkV.same S hw ⟨a, vs, rfl, ha, r1⟩
      · exact OkV.tup S hw (r1.append r2) hp
    · exact False.elim hw
  · rename_i l k
    split at hw
    · rename_i xs ys e1 e2
      split at hw
      · rename_i hl
        obtain ⟨a, vs, rfl, _, ha, r1⟩ := RepL.sqL S h1 e1
        obtain ⟨b, ws, rfl, _, hb, r2⟩ := RepL.sqL S h2 e2
        refine op_cat pins s σ H _ _ v u Q I rx ry ⟨a, b, vs, ws, rfl, rfl, ha, hb, ?_, fun p hp => OkV.lst S hw (r1.append r2) hp⟩
        rw [r1.length, r2.length]; exact Nat.le_trans hl line_most
      · exact False.elim hw
    · exact False.elim hw
theorem op_subF : OpR X (binaryOp .Sub) (rF g (binF .sub)) := by
  intro pins s σ H x y v u Q I rx ry h
  obtain ⟨ι, μ, d1, d2, S, h1, h2, hw⟩ := h
  cases d1 <;> cases d2 <;> simp only [binF, wpR_stuck] at hw <;> try exact False.elim hw
  obtain rfl := h1; obtain rfl := h2
  exact op_sub pins s σ H _ _ v u Q I rx ry ⟨_, _, rfl, rfl, OkV.same S hw rfl⟩
theorem op_mulF (hK : X.K = g.K) : OpR X (binaryOp .Mult) (rF g (binF .mul)) := by
  intro pins s σ H x y v u Q I rx ry h
  obtain ⟨ι, μ, d1, d2, S, h1, h2, hw⟩ := h
  cases d1 <;> cases d2 <;> simp only [binF, wpR_stuck] at hw <;> try exact False.elim hw
  · obtain rfl := h1; obtain rfl := h2
    unfold mulF at hw
    split at hw
    · rename_i hs
      refine op_mul pins s σ H _ _ v u Q I rx ry ⟨_, _, rfl, rfl, ?_, OkV.same S hw rfl⟩
      simp only [small, Bool.or_eq_true, decide_eq_true_eq] at hs
      exact hs
    · exact False.elim hw
  · obtain rfl := h1; obtain rfl := h2
    split at hw
    · rename_i hl
      obtain ⟨l1, l2, l3, l4⟩ := hl
      exact op_repS pins s σ H _ _ v u Q I rx ry ⟨_, _, rfl, rfl, l3, l1, l2, l4, OkV.same S hw rfl⟩
    · split at hw
      · rename_i hk
        subst hk
        exact op_repS1 pins s σ H _ _ v u Q I rx ry ⟨_, rfl, rfl, OkV.same S hw rfl⟩
      · exact False.elim hw
  · obtain ⟨a, vs, rfl, ha, r1⟩ := h1
    obtain rfl := h2
    split at hw
    · rename_i hl
      obtain ⟨l1, l2, l3, l4⟩ := hl
      refine op_repT pins s σ H _ _ v u Q I rx ry ⟨a, _, vs, rfl, rfl, SqT.of ha, ?_, l1, l2, by rw [r1.length]; exact l4, fun p hp => OkV.tup S hw (r1.rep _) hp⟩
      intro e
      subst e
      exact l3 (List.length_eq_zero_iff.mp (r1.length.symm.trans rfl))
    · split at hw
      · rename_i hk
        subst hk
        exact op_repT1 pins s σ H _ _ v u Q I rx ry ⟨a, vs, rfl, rfl, SqT.of ha, OkV.same S hw ⟨a, vs, rfl, ha, r1⟩⟩
      · exact False.elim hw
theorem op_fdivF : OpR X (binaryOp .FloorDiv) (rF g (binF .fdiv)) := by
  intro pins s σ H x y v u Q I rx ry h
  obtain ⟨ι, μ, d1, d2, S, h1, h2, hw⟩ := h
  cases d1 <;> cases d2 <;> simp only [binF, wpR_stuck] at hw <;> try exact False.elim hw
  obtain rfl := h1; obtain rfl := h2
  split at hw
  · rename_i hl
    exact op_fdiv pins s σ H _ _ v u Q I rx ry ⟨_, _, rfl, rfl, hl, OkV.same S hw rfl⟩
  · exact False.elim hw
theorem op_modF : OpR X (binaryOp .Mod) (rF g (binF .mod)) := by
  intro pins s σ H x y v u Q I rx ry h
  obtain ⟨ι, μ, d1, d2, S, h1, h2, hw⟩ := h
  cases d1 <;> cases d2 <;> simp only [binF, wpR_stuck] at hw <;> try exact False.elim hw
  obtain rfl := h1; obtain rfl := h2
  split at hw
  · rename_i hl
    exact op_mod pins s σ H _ _ v u Q I rx ry ⟨_, _, rfl, rfl, hl, OkV.same S hw rfl⟩
  · exact False.elim hw
theorem op_powF : OpR X (binaryOp .Pow) (rF g (binF .pow)) := by
  intro pins s σ H x y v u Q I rx ry h
  obtain ⟨ι, μ, d1, d2, S, h1, h2, hw⟩ := h
  cases d1 <;> cases d2 <;> simp only [binF, wpR_stuck] at hw <;> try exact False.elim hw
  obtain rfl := h1; obtain rfl := h2
  split at hw
  · rename_i i j hl
    obtain ⟨l1, l2, l3, l4⟩ := hl
    obtain ⟨t, rfl⟩ := rx
    obtain ⟨t', rfl⟩ := ry
    refine pow_int l1 ?_ ⟨.int _, H, I.tok _, ⟨_, rfl⟩, OkV.same S hw rfl⟩
    have hb : Builtin.Int.intBits i ≤ 256 := intBits_le (by omega)
    have : (Builtin.Int.intBits i : Int) * j ≤ 256 * 1000 := Int.mul_le_mul (by omega) l2 l1 (by decide)
    omega
  · exact False.elim hw
end
end PL
end
section
set_option Elab.async false
set_option linter.all false
set_option autoImplicit false
set_option maxRecDepth 100000
set_option maxHeartbeats 400000
/-! Sound3: comparisons. -/
namespace PL
open PySem PySem.Spec PyProof.Rows L2

mutual
def toPy : D → PyData
  | .bl b => .bool b
  | .int i => .int i
  | .str s => .str (S2 s)
  | .tup ds => .tuple (toPyL ds)
  | _ => .none
def toPyL : List D → List PyData
  | [] => []
  | d :: ds => toPy d :: toPyL ds
end
section
variable {g : Gb} {ι : List Addr} {H : Hp} {K : PySem.W.Frag}
mutual
theorem dp_of (hK : K = g.K) : ∀ (d : D) (v : V), D.plain d = true → Rep g ι H d v → Dp K H v (toPy d)
  | .non, _, _, h => by obtain rfl := h; exact .non
  | .bl _, _, _, h => by obtain rfl := h; exact .bl _
  | .int _, _, _, h => by obtain rfl := h; exact .int _
  | .str _, _, _, h => by obtain rfl := h; exact .str _
  | .tup ds, _, p, h => by
    obtain ⟨a, vs, rfl, ha, hr⟩ := h
    rw [toPy]
    exact .tup (SqT.of ha) (dpL_of hK ds vs (by rw [D.plain] at p; exact p) hr)
  | .rol _, _, p, _ => by simp [D.plain] at p
  | .ktp _, _, p, _ => by simp [D.plain] at p
  | .loc _, _, p, _ => by simp [D.plain] at p
  | .cst _, _, p, _ => by simp [D.plain] at p
theorem dpL_of (hK : K = g.K) : ∀ (ds : List D) (vs : List V), D.plainL ds = true → RepL g ι H ds vs → DpAll K H vs (toPyL ds)
  | [], _, _, h => by rw [show _ = [] from h]; exact .nil
  | d :: ds, _, p, h => by
    obtain ⟨v, r, rfl, h1, h2⟩ := h
    rw [D.plainL, Bool.and_eq_true] at p
    exact .cons (dp_of hK d v p.1 h1) (dpL_of hK ds r p.2 h2)
end
end
mutual
theorem deq_py : ∀ x y : D, D.plain x = true → D.plain y = true → deq x y = PyData.eqv (toPy x) (toPy y)
  | .non, y, _, q => by cases y <;> simp [D.plain] at q <;> simp [deq, toPy, PyData.eqv]
  | .bl _, y, _, q => by cases y <;> simp [D.plain] at q <;> simp [deq, toPy, PyData.eqv]
  | .int _, y, _, q => by cases y <;> simp [D.plain] at q <;> simp [deq, toPy, PyData.eqv]
  | .str s, y, _, q => by
    cases y <;> simp [D.plain] at q <;> simp [deq, toPy, PyData.eqv]
    rw [Bool.eq_iff_iff]
    simp [S2_inj]
  | .tup xs, y, p, q => by
    cases y with
    | tup ys =>
      rw [deq, toPy, toPy, PyData.eqv]
      exact deqL_py xs ys (by rw [D.plain] at p; exact p) (by rw [D.plain] at q; exact q)
    | _ => simp [D.plain] at q <;> simp [deq, toPy, PyData.eqv]
  | .rol _, _, p, _ => by simp [D.plain] at p
  | .ktp _, _, p, _ => by simp [D.plain] at p
  | .loc _, _, p, _ => by simp [D.plain] at p
  | .cst _, _, p, _ => by simp [D.plain] at p
theorem deqL_py : ∀ xs ys : List D, D.plainL xs = true → D.plainL ys = true → deqL xs ys = PyData.eqvAll (toPyL xs) (toPyL ys)
  | [], ys, _, _ => by cases ys <;> simp [deqL, toPyL, PyData.eqvAll]
  | x :: xs, ys, p, q => by
    cases ys with
    | nil => simp [deqL, toPyL, PyData.eqvAll]
    | cons y ys =>
      rw [D.plainL, Bool.and_eq_true] at p q
      rw [deqL, toPyL, toPyL, PyData.eqvAll, deq_py x y p.1 q.1, deqL_py xs ys p.2 q.2]
end
mutual
theorem py_lay : ∀ x : D, D.plain x = true → (toPy x).canLay0 = true ∧ (toPy x).depth = D.depth x
  | .non, _ => by simp [toPy, PyData.canLay0, PyData.depth, D.depth]
  | .bl _, _ => by simp [toPy, PyData.canLay0, PyData.depth, D.depth]
  | .int _, _ => by simp [toPy, PyData.canLay0, PyData.depth, D.depth]
  | .str s, p => by
    refine ⟨?_, by simp [toPy, PyData.depth, D.depth]⟩
    rw [D.plain] at p
    simp only [toPy, PyData.canLay0, PyData.strOk, S2]
    simpa using p
  | .tup xs, p => by
    rw [D.plain] at p
    obtain ⟨h1, h2⟩ := py_layL xs p
    rw [toPy, PyData.canLay0, PyData.depth, D.depth, h2]
    exact ⟨h1, rfl⟩
  | .rol _, p => by simp [D.plain] at p
  | .ktp _, p => by simp [D.plain] at p
  | .loc _, p => by simp [D.plain] at p
  | .cst _, p => by simp [D.plain] at p
theorem py_layL : ∀ xs : List D, D.plainL xs = true → PyData.canLayAll0 (toPyL xs) = true ∧ PyData.depthAll (toPyL xs) = D.depthL xs
  | [], _ => by simp [toPyL, PyData.canLayAll0, PyData.depthAll, D.depthL]
  | x :: xs, p => by
    rw [D.plainL, Bool.and_eq_true] at p
    obtain ⟨h1, h2⟩ := py_lay x p.1
    obtain ⟨h3, h4⟩ := py_layL xs p.2
    rw [toPyL, PyData.canLayAll0, PyData.depthAll, D.depthL, h1, h2, h3, h4]
    exact ⟨rfl, rfl⟩
end
theorem eqOk_plain {d : D} (h : D.eqOk d = true) : D.plain d = true ∧ D.depth d ≤ 60 := by
  rw [D.eqOk, Bool.and_eq_true, decide_eq_true_eq] at h
  exact h
theorem eqOk_shaped {d : D} (h : D.eqOk d = true) : SeqAt.shaped (toPy d) = true := by
  obtain ⟨h1, h2⟩ := eqOk_plain h
  obtain ⟨h3, h4⟩ := py_lay d h1
  rw [SeqAt.shaped, Bool.and_eq_true, decide_eq_true_eq, h4]
  exact ⟨h3, by omega⟩
mutual
theorem alk_py : ∀ x y : D, alk x y = true → PySem.W.alike (toPy x) (toPy y) = true
  | .int _, y, h => by cases y <;> simp [alk] at h <;> simp [toPy, PySem.W.alike]
  | .str _, y, h => by cases y <;> simp [alk] at h <;> simp [toPy, PySem.W.alike]
  | .tup xs, y, h => by
    cases y with
    | tup ys =>
      rw [alk] at h
      rw [toPy, toPy, PySem.W.alike]
      exact alkL_py xs ys h
    | _ => simp [alk] at h
  | .non, y, h => by cases y <;> simp [alk] at h
  | .bl _, y, h => by cases y <;> simp [alk] at h
  | .rol _, y, h => by cases y <;> simp [alk] at h
  | .ktp _, y, h => by cases y <;> simp [alk] at h
  | .loc _, y, h => by cases y <;> simp [alk] at h
  | .cst _, y, h => by cases y <;> simp [alk] at h
theorem alkL_py : ∀ xs ys : List D, alkL xs ys = true → PySem.W.alikeAll (toPyL xs) (toPyL ys) = true
  | [], ys, _ => by cases ys <;> simp [toPyL, PySem.W.alikeAll]
  | x :: xs, ys, h => by
    cases ys with
    | nil => simp [toPyL, PySem.W.alikeAll]
    | cons y ys =>
      rw [alkL, Bool.and_eq_true] at h
      rw [toPyL, toPyL, PySem.W.alikeAll, alk_py x y h.1, alkL_py xs ys h.2]
      rfl
end
mutual
theorem dlt_py : ∀ x y : D, alk x y = true → D.plain x = true → D.plain y = true → dlt x y = PySem.W.dataLt (toPy x) (toPy y)
  | .int _, y, h, _, _ => by
    cases y <;> simp [alk] at h
    rw [toPy, toPy, PySem.W.dataLt_int, dlt]
  | .str _, y, h, _, _ => by
    cases y <;> simp [alk] at h
    rw [toPy, toPy, PySem.W.dataLt_str, dlt, S2_cps, S2_cps]
  | .tup xs, y, h, p, q => by
    cases y with
    | tup ys =>
      rw [alk] at h
      rw [D.plain] at p q
      rw [toPy, toPy, dlt]
      exact dltL_py xs ys h p q
    | _ => simp [alk] at h
  | .non, y, h, _, _ => by cases y <;> simp [alk] at h
  | .bl _, y, h, _, _ => by cases y <;> simp [alk] at h
  | .rol _, y, h, _, _ => by cases y <;> simp [alk] at h
  | .ktp _, y, h, _, _ => by cases y <;> simp [alk] at h
  | .loc _, y, h, _, _ => by cases y <;> simp [alk] at h
  | .cst _, y, h, _, _ => by cases y <;> simp [alk] at h
theorem dltL_py : ∀ xs ys : List D, alkL xs ys = true → D.plainL xs = true → D.plainL ys = true → dltL xs ys = PyProof.Rows.lexLt itemOrd (PySem.W.keyToksAll (toPyL xs)) (PySem.W.keyToksAll (toPyL ys))
  | [], [], _, _, _ => by simp [toPyL, dltL, PySem.W.keyToksAll]; rfl
  | [], y :: ys, _, _, _ => by simp [toPyL, dltL, PySem.W.keyToksAll]; rfl
  | x :: xs, [], _, _, _ => by simp [toPyL, dltL, PySem.W.keyToksAll]; rfl
  | x :: xs, y :: ys, h, p, q => by
    rw [alkL, Bool.and_eq_true] at h
    rw [D.plainL, Bool.and_eq_true] at p q
    rw [toPyL, toPyL, PySem.W.dataLt_cons (alk_py x y h.1), dltL, deq_py x y p.1 q.1, dltL_py xs ys h.2 p.2 q.2, dlt_py x y h.1 p.1 q.1]
end

section
variable {X : Cx} {g : Gb}
theorem scal_eq {ι : List Addr} {H : Hp} {d1 d2 : D} {x y : V} (h1 : Rep g ι H d1 x) (h2 : Rep g ι H d2 y) (he : scalEq d1 d2 = true) : scal x y = true ∧ decide (x = y) = deq d1 d2 := by
  cases d1 with
  | non => cases d2 <;> simp [scalEq] at he; obtain rfl := h1; obtain rfl := h2; exact ⟨rfl, rfl⟩
  | bl a => cases d2 <;> simp [scalEq] at he; obtain rfl := h1; obtain rfl := h2; rename_i b; exact ⟨rfl, by cases a <;> cases b <;> rfl⟩
  | int a =>
    cases d2 with
    | int b =>
      obtain rfl := h1; obtain rfl := h2
      refine ⟨rfl, ?_⟩
      rw [deq, Bool.eq_iff_iff]; simp
    | str b => obtain rfl := h1; obtain rfl := h2; exact ⟨rfl, by simp [deq]⟩
    | _ => simp [scalEq] at he
  | str a =>
    cases d2 with
    | str b =>
      obtain rfl := h1; obtain rfl := h2
      refine ⟨rfl, ?_⟩
      rw [deq, Bool.eq_iff_iff]; simp [S2_inj]
    | int b => obtain rfl := h1; obtain rfl := h2; exact ⟨rfl, by simp [deq]⟩
    | _ => simp [scalEq] at he
  | _ => simp [scalEq] at he
theorem eqOk2_or {d1 d2 : D} (h : eqOk2 d1 d2 = true) : scalEq d1 d2 = true ∨ (D.eqOk d1 = true ∧ D.eqOk d2 = true) := by
  unfold eqOk2 at h
  rcases Bool.or_eq_true_iff.mp h with h | h
  · exact .inl h
  · exact .inr (Bool.and_eq_true_iff.mp h)
theorem op_eqF (hK : X.K = g.K) (hu : X.A.units + 70 < cLine) : OpR X (compareOp .Eq) (rB g (cmpF g.C .eq)) := by
  intro pins s σ H x y v u Q I rx ry h
  obtain ⟨ι, μ, d1, d2, S, h1, h2, hw⟩ := h
  have hw : wpR (if eqOk2 d1 d2 = true then .ok (deq d1 d2) μ else .stuck) (OkB g ι H fun b H' => Q (.bl b) H') anyE := hw
  split at hw
  · rename_i he
    have q : Q (.bl (deq d1 d2)) H := hw ι H (Ext.refl _ _) S
    rcases eqOk2_or he with he | ⟨e1, e2⟩
    · obtain ⟨s1, s2⟩ := scal_eq h1 h2 he
      refine op_eq pins s σ H _ _ v u Q I rx ry ⟨s1, ?_⟩
      rw [s2]; exact q
    · have p1 := eqOk_plain e1
      have p2 := eqOk_plain e2
      refine op_eqD (by omega) pins s σ H _ _ v u Q I rx ry ⟨_, _, dp_of hK _ _ p1.1 h1, dp_of hK _ _ p2.1 h2, eqOk_shaped e1, eqOk_shaped e2, ?_⟩
      rw [← deq_py _ _ p1.1 p2.1]
      exact q
  · exact False.elim hw
theorem op_neF (hK : X.K = g.K) (hu : X.A.units + 70 < cLine) : OpR X (compareOp .NotEq) (rB g (cmpF g.C .ne)) := by
  intro pins s σ H x y v u Q I rx ry h
  obtain ⟨ι, μ, d1, d2, S, h1, h2, hw⟩ := h
  have hw : wpR (if eqOk2 d1 d2 = true then .ok (!deq d1 d2) μ else .stuck) (OkB g ι H fun b H' => Q (.bl b) H') anyE := hw
  split at hw
  · rename_i he
    have q : Q (.bl (!deq d1 d2)) H := hw ι H (Ext.refl _ _) S
    rcases eqOk2_or he with he | ⟨e1, e2⟩
    · obtain ⟨s1, s2⟩ := scal_eq h1 h2 he
      refine op_ne pins s σ H _ _ v u Q I rx ry ⟨s1, ?_⟩
      rw [s2]; exact q
    · have p1 := eqOk_plain e1
      have p2 := eqOk_plain e2
      refine op_neD (by omega) pins s σ H _ _ v u Q I rx ry ⟨_, _, dp_of hK _ _ p1.1 h1, dp_of hK _ _ p2.1 h2, eqOk_shaped e1, eqOk_shaped e2, ?_⟩
      rw [← deq_py _ _ p1.1 p2.1]
      exact q
  · exact False.elim hw
theorem op_ltF (hK : X.K = g.K) (hu : X.A.units + 70 < cLine) : OpR X (compareOp .Lt) (rB g (cmpF g.C .lt)) := by
  intro pins s σ H x y v u Q I rx ry h
  obtain ⟨ι, μ, d1, d2, S, h1, h2, hw⟩ := h
  have hw : wpR (if (alk d1 d2 && D.eqOk d1 && D.eqOk d2) = true then .ok (dlt d1 d2) μ else .stuck) (OkB g ι H fun b H' => Q (.bl b) H') anyE := hw
  split at hw
  · rename_i he
    have q : Q (.bl (dlt d1 d2)) H := hw ι H (Ext.refl _ _) S
    rw [Bool.and_eq_true, Bool.and_eq_true] at he
    obtain ⟨⟨e0, e1⟩, e2⟩ := he
    have p1 := eqOk_plain e1
    have p2 := eqOk_plain e2
    obtain ⟨as, r1⟩ := Dp.reads I _ _ _ (dp_of hK _ _ p1.1 h1) rx
    obtain ⟨bs, r2⟩ := Dp.reads I _ _ _ (dp_of hK _ _ p2.1 h2) ry
    have l1 := (py_lay d1 p1.1).2
    refine PySem.W.rcLt_alike (toPy d1) (toPy d2) X.A s v u as bs r1 r2 (alk_py _ _ e0) ?_ (by omega) X.prog X.w _ _ ⟨.bl _, H, I, rfl, ?_⟩
    · intro e
      cases d1 with
      | int _ => simp [toPy] at e
      | str _ => simp [toPy] at e
      | tup _ => simp [toPy] at e
      | _ => simp [alk] at e0
    · rw [← dlt_py _ _ e0 p1.1 p2.1]
      exact q
  · exact False.elim hw
theorem op_gtF : OpR X (compareOp .Gt) (rB g (cmpF g.C .gt)) := by
  intro pins s σ H x y v u Q I rx ry h
  obtain ⟨ι, μ, d1, d2, S, h1, h2, hw⟩ := h
  cases d1 <;> first | exact False.elim hw | skip
  all_goals cases d2 <;> first | exact False.elim hw | skip
  · obtain rfl := h1; obtain rfl := h2
    exact op_gt pins s σ H _ _ v u Q I rx ry ⟨_, _, rfl, rfl, hw ι H (Ext.refl _ _) S⟩
  · obtain rfl := h1; obtain rfl := h2
    refine op_gt_str pins s σ H _ _ v u Q I rx ry ⟨_, _, rfl, rfl, ?_⟩
    rw [S2_cps, S2_cps]
    exact hw ι H (Ext.refl _ _) S
theorem op_leF : OpR X (compareOp .LtE) (rB g (cmpF g.C .le)) := by
  intro pins s σ H x y v u Q I rx ry h
  obtain ⟨ι, μ, d1, d2, S, h1, h2, hw⟩ := h
  cases d1 <;> first | exact False.elim hw | skip
  all_goals cases d2 <;> first | exact False.elim hw | skip
  · obtain rfl := h1; obtain rfl := h2
    exact op_le pins s σ H _ _ v u Q I rx ry ⟨_, _, rfl, rfl, hw ι H (Ext.refl _ _) S⟩
  · obtain rfl := h1; obtain rfl := h2
    refine op_le_str pins s σ H _ _ v u Q I rx ry ⟨_, _, rfl, rfl, ?_⟩
    rw [S2_cps, S2_cps]
    exact hw ι H (Ext.refl _ _) S
theorem op_geF : OpR X (compareOp .GtE) (rB g (cmpF g.C .ge)) := by
  intro pins s σ H x y v u Q I rx ry h
  obtain ⟨ι, μ, d1, d2, S, h1, h2, hw⟩ := h
  cases d1 <;> first | exact False.elim hw | skip
  all_goals cases d2 <;> first | exact False.elim hw | skip
  · obtain rfl := h1; obtain rfl := h2
    exact op_ge pins s σ H _ _ v u Q I rx ry ⟨_, _, rfl, rfl, hw ι H (Ext.refl _ _) S⟩
  · obtain rfl := h1; obtain rfl := h2
    refine op_ge_str pins s σ H _ _ v u Q I rx ry ⟨_, _, rfl, rfl, ?_⟩
    rw [S2_cps, S2_cps]
    exact hw ι H (Ext.refl _ _) S
theorem rep_non {ι : List Addr} {H : Hp} {d : D} {v : V} (h : Rep g ι H d v) : decide (v = .non) = d.isNon := by
  cases d with
  | tup _ => obtain ⟨a, vs, rfl, _⟩ := h; rfl
  | ktp _ => obtain ⟨a, vs, rfl, _⟩ := h; rfl
  | rol _ => obtain ⟨a, vs, rfl, _⟩ := h; rfl
  | loc _ => obtain ⟨a, rfl, _⟩ := h; rfl
  | cst _ => obtain ⟨rfl, _⟩ := h; rfl
  | err _ _ _ => exact h.elim
  | ftup _ => obtain ⟨a, vs, o, rfl, _⟩ := h; rfl
  | _ => obtain rfl := h; rfl
theorem op_isF : OpR X (compareOp .Is) (rB g (cmpF g.C .is)) := by
  intro pins s σ H x y v u Q I rx ry h
  obtain ⟨ι, μ, d1, d2, S, h1, h2, hw⟩ := h
  cases d2 <;> first | exact False.elim hw | skip
  refine op_isN pins s σ H _ _ v u Q I rx ry ⟨h2, ?_⟩
  rw [rep_non h1]
  exact hw ι H (Ext.refl _ _) S
theorem op_isnF : OpR X (compareOp .IsNot) (rB g (cmpF g.C .isn)) := by
  intro pins s σ H x y v u Q I rx ry h
  obtain ⟨ι, μ, d1, d2, S, h1, h2, hw⟩ := h
  cases d2 <;> first | exact False.elim hw | skip
  refine op_notN pins s σ H _ _ v u Q I rx ry ⟨h2, ?_⟩
  rw [rep_non h1]
  exact hw ι H (Ext.refl _ _) S
/-- a key stands as the layer's key -/
theorem key_rep {ι : List Addr} {H : Hp} {d : D} {v : V} {k : PL.Key} (h : Rep g ι H d v) (e : D.key d = some k) : v = kV (K2 k) := by
  cases d <;> simp [D.key] at e <;> subst e <;> exact h
theorem keys_rep {ι : List Addr} {H : Hp} : ∀ {ds : List D} {vs : List V} {ks : List PL.Key}, RepL g ι H ds vs → D.keys ds = some ks → vs = (Ks2 ks).map kV
  | [], _, _, h, e => by cases e; rw [show _ = [] from h]; rfl
  | d :: ds, _, _, h, e => by
    obtain ⟨v, r, rfl, h1, h2⟩ := h
    rw [D.keys] at e
    cases e1 : D.key d with
    | none => simp [e1] at e
    | some k =>
      cases e2 : D.keys ds with
      | none => simp [e1, e2] at e
      | some ks =>
        simp [e1, e2] at e
        subst e
        rw [key_rep h1 e1, keys_rep h2 e2]
        rfl
/-- what a look into a dict of the store tells -/
theorem find_loc {ι : List Addr} {H : Hp} {μ : Store} {l : Nat} {k : D} {x y : V} {o : Option D} (S : Sim g ι μ H) (h1 : Rep g ι H (.loc l) x) (h2 : Rep g ι H k y) (e : findF g.C (.loc l) k μ = some o) :
    ∃ a ov, x = .ref a ∧ DGet H a y ov ∧ IsD H a ∧ ((o = none ∧ ov = none) ∨ ∃ d v, o = some d ∧ ov = some v ∧ Rep g ι H d v) := by
  obtain ⟨a, rfl, ha⟩ := h1
  unfold findF at e
  cases e1 : μ[l]? with
  | none => simp [e1] at e
  | some ob =>
    have ho := S.ob l ob a e1 ha
    cases ob with
    | lst _ => simp [e1] at e
    | dK b kvs =>
      simp only [e1] at e
      obtain ⟨vs, rd, rk⟩ : ∃ vs, Rd H a (.dK vs) ∧ RepKV g K2 ι H kvs vs := by
        cases b with
        | false => obtain ⟨vs, q1, q2⟩ := ho; exact ⟨vs, .inl q1, q2⟩
        | true => obtain ⟨o, vs, q1, q2⟩ := ho; exact ⟨vs, .inr ⟨o, q1⟩, q2⟩
      cases e2 : D.key k with
      | none => simp [e2] at e
      | some q =>
        simp [e2] at e
        subst e
        rw [key_rep h2 e2]
        refine ⟨a, valV vs (K2 q), rfl, .inl ⟨vs, K2 q, rd, rfl, rfl⟩, .inl ⟨vs, rd⟩, ?_⟩
        exact RepKV.look (fun _ _ => K2_inj) q rk
    | dT b kvs =>
      simp only [e1] at e
      obtain ⟨vs, rd, rk⟩ : ∃ vs, Rd H a (.dT vs) ∧ RepKV g Ks2 ι H kvs vs := by
        cases b with
        | false => obtain ⟨vs, q1, q2⟩ := ho; exact ⟨vs, .inl q1, q2⟩
        | true => obtain ⟨o, vs, q1, q2⟩ := ho; exact ⟨vs, .inr ⟨o, q1⟩, q2⟩
      cases k with
      | tup ks =>
        cases e2 : D.keys ks with
        | none => simp [e2] at e
        | some q =>
          simp [e2] at e
          subst e
          obtain ⟨b', ws, rfl, hb, rw'⟩ := h2
          rw [keys_rep rw' e2] at hb
          refine ⟨a, valV vs (Ks2 q), rfl, .inr ⟨vs, Ks2 q, b', rd, rfl, hb, rfl⟩, .inr ⟨vs, rd⟩, ?_⟩
          exact RepKV.look (fun _ _ => Ks2_inj) q rk
      | _ => simp at e
theorem any_py {d : D} (p : D.plain d = true) : ∀ {ys : List D}, D.plainL ys = true → (toPyL ys).any (fun z => PyData.eqv z (toPy d)) = ys.any fun z => deq z d
  | [], _ => rfl
  | z :: zs, h => by
    rw [D.plainL, Bool.and_eq_true] at h
    rw [toPyL, List.any_cons, List.any_cons, any_py p h.2, deq_py z d h.1 p]
theorem dp_ftup {X K : PySem.W.Frag} {g : Gb} {ι : List Addr} {H : Hp} (hK : K = g.K) {ds : List D} {v : V} (h : Rep g ι H (.ftup ds) v) (hp : D.plainL ds = true) : Dp K H v (.tuple (toPyL ds)) := by
  obtain ⟨a, vs, o, rfl, ha, _, hr⟩ := h
  exact .tup (.inl (.inr ⟨o, ha⟩)) (dpL_of hK ds vs hp hr)
theorem op_inF (hK : X.K = g.K) (hw' : X.w = g.w) (hu : X.A.units + 70 < cLine) : OpR X (compareOp .In) (rB g (inF g.C)) := by
  intro pins s σ H x y v u Q I rx ry h
  obtain ⟨ι, μ, d1, d2, S, h1, h2, hw⟩ := h
  cases d2 with
  | str b =>
    cases d1 with
    | str a =>
      match a, hw with
      | [], hw => exact False.elim hw
      | [c], hw =>
        obtain rfl := h1; obtain rfl := h2
        refine op_in_sign pins s σ H _ _ v u Q I rx ry ⟨c, S2 b, rfl, rfl, ?_⟩
        rw [S2_cps]
        exact hw ι H (Ext.refl _ _) S
      | _ :: _ :: _, hw => exact False.elim hw
    | _ => exact False.elim hw
  | tup ys =>
    unfold inF at hw
    simp only at hw
    split at hw
    · rename_i he
      rw [Bool.and_eq_true] at he
      obtain ⟨e1, e2⟩ := he
      have p1 := eqOk_plain e1
      have p2 := eqOk_plain e2
      have q : Q (.bl (ys.any fun z => deq z d1)) H := hw ι H (Ext.refl _ _) S
      obtain ⟨as, r1⟩ := Dp.reads I _ _ _ (dp_of hK _ _ p1.1 h1) rx
      obtain ⟨bs, r2⟩ := Dp.reads I _ _ _ (dp_of hK _ _ p2.1 h2) ry
      rw [toPy] at r2
      have l2 := eqOk_shaped e2
      rw [toPy] at l2
      refine SeqAt.in_tuple_reads r2 r1 (SeqAt.canLay_of_shaped l2) (SeqAt.canLay_of_shaped (eqOk_shaped e1)) (room_in_shaped (eqOk_shaped e1) (by omega)) ⟨.bl _, H, I, rfl, ?_⟩
      rw [any_py p1.1 (by have := p2.1; rw [D.plain] at this; exact this)]
      exact q
    · exact False.elim hw
  | ftup ys =>
    unfold inF at hw
    simp only at hw
    split at hw
    · rename_i he
      rw [Bool.and_eq_true] at he
      obtain ⟨e1, e2⟩ := he
      have p1 := eqOk_plain e1
      have p2 := eqOk_plain e2
      have q : Q (.bl (ys.any fun z => deq z d1)) H := hw ι H (Ext.refl _ _) S
      obtain ⟨as, r1⟩ := Dp.reads I _ _ _ (dp_of hK _ _ p1.1 h1) rx
      obtain ⟨bs, r2⟩ := Dp.reads I _ _ _ (dp_ftup (X := X.K) hK h2 (by have := p2.1; rw [D.plain] at this; exact this)) ry
      have l2 := eqOk_shaped e2
      rw [toPy] at l2
      refine SeqAt.in_tuple_reads r2 r1 (SeqAt.canLay_of_shaped l2) (SeqAt.canLay_of_shaped (eqOk_shaped e1)) (room_in_shaped (eqOk_shaped e1) (by omega)) ⟨.bl _, H, I, rfl, ?_⟩
      rw [any_py p1.1 (by have := p2.1; rw [D.plain] at this; exact this)]
      exact q
    · exact False.elim hw
  | cst c =>
    unfold inF at hw
    obtain ⟨rfl, cs⟩ := h2
    obtain ⟨es, n, kd⟩ := cs.kd
    cases d1 with
    | str a =>
      obtain rfl := h1
      simp only [findF] at hw
      have q : Q (.bl (look (g.C c) (.inr a)).isSome) H := hw ι H (Ext.refl _ _) S
      have kd' : KDict X.K X.w (g.cA c) es n := by rw [hK, hw']; exact kd
      rcases cs.get a with ⟨e1, e2⟩ | ⟨d, u', v', e1, e2, _, _⟩
      · refine op_in_kd kd' pins s σ H _ _ v u Q I rx ry ⟨_, _, rfl, rfl, by rw [hK]; exact e2, ?_⟩
        rw [e1] at q; exact q
      · refine op_in_kd kd' pins s σ H _ _ v u Q I rx ry ⟨_, _, rfl, rfl, by rw [hK]; exact e2, ?_⟩
        rw [e1] at q; exact q
    | _ => exact False.elim hw
  | loc l =>
    unfold inF at hw
    simp only at hw
    split at hw
    · rename_i ys e0
      split at hw
      · rename_i he
        rw [Bool.and_eq_true] at he
        obtain ⟨e1, e2⟩ := he
        have p1 := eqOk_plain e1
        have p2 := eqOk_plain e2
        have q : Q (.bl (ys.any fun z => deq z d1)) H := hw ι H (Ext.refl _ _) S
        obtain ⟨a, vs, rfl, _, ha, r2⟩ := RepL.sqL S h2 e0
        have p2' : D.plainL ys = true := by have := p2.1; rw [D.plain] at this; exact this
        refine op_inD (by omega) pins s σ H _ _ v u Q I rx ry ⟨_, _, dp_of hK _ _ p1.1 h1, .lst (SqL.of ha) (dpL_of hK _ _ p2' r2), eqOk_shaped e1, ?_, ?_⟩
        · have := eqOk_shaped e2
          rw [toPy, SeqAt.shaped, PyData.canLay0, PyData.depth] at this
          rw [SeqAt.shaped, PyData.canLay0, PyData.depth]
          exact this
        · rw [any_py p1.1 p2']
          exact q
      · exact False.elim hw
    · split at hw
      · rename_i o eo
        obtain ⟨a, ov, rfl, dg, _, hh⟩ := find_loc S h2 h1 eo
        have q : Q (.bl o.isSome) H := hw ι H (Ext.refl _ _) S
        obtain rfl : u = Value.ref a := ry
        refine d_in (by omega) I dg rx fun s' I' => ⟨.bl ov.isSome, H, I', rfl, ?_⟩
        rcases hh with ⟨e1, e2⟩ | ⟨d, v', e1, e2, _⟩
        · rw [e1] at q; rw [e2]; exact q
        · rw [e1] at q; rw [e2]; exact q
      · exact False.elim hw
  | _ => exact False.elim hw
theorem op_ninF (hK : X.K = g.K) (hw' : X.w = g.w) (hu : X.A.units + 70 < cLine) : OpR X (compareOp .NotIn) (rB g (cmpF g.C .nin)) := by
  intro pins s σ H x y v u Q I rx ry h
  obtain ⟨ι, μ, d1, d2, S, h1, h2, hw⟩ := h
  have hw : wpR (inF g.C d1 d2 μ) (OkB g ι H fun b H' => Q (.bl (!b)) H') anyE := by
    have hw : wpR ((inF g.C d1 d2 μ).bind fun b μ => .ok (!b) μ) (OkB g ι H fun b H' => Q (.bl b) H') anyE := hw
    rw [wpR_bind] at hw
    exact wpR_mono hw (fun _ _ z => z) (fun _ _ z => z)
  cases d2 with
  | str b =>
    cases d1 with
    | str a =>
      match a, hw with
      | [], hw => exact False.elim hw
      | [c], hw =>
        obtain rfl := h1; obtain rfl := h2
        refine op_notIn_sign pins s σ H _ _ v u Q I rx ry ⟨c, S2 b, rfl, rfl, ?_⟩
        rw [S2_cps]
        exact hw ι H (Ext.refl _ _) S
      | _ :: _ :: _, hw => exact False.elim hw
    | _ => exact False.elim hw
  | tup ys =>
    unfold inF at hw
    simp only at hw
    split at hw
    · rename_i he
      rw [Bool.and_eq_true] at he
      obtain ⟨e1, e2⟩ := he
      have p1 := eqOk_plain e1
      have p2 := eqOk_plain e2
      have q : Q (.bl (!(ys.any fun z => deq z d1))) H := hw ι H (Ext.refl _ _) S
      obtain ⟨as, r1⟩ := Dp.reads I _ _ _ (dp_of hK _ _ p1.1 h1) rx
      obtain ⟨bs, r2⟩ := Dp.reads I _ _ _ (dp_of hK _ _ p2.1 h2) ry
      rw [toPy] at r2
      have l2 := eqOk_shaped e2
      rw [toPy] at l2
      refine SeqAt.notIn_tuple_reads r2 r1 (SeqAt.canLay_of_shaped l2) (SeqAt.canLay_of_shaped (eqOk_shaped e1)) (room_in_shaped (eqOk_shaped e1) (by omega)) ⟨.bl _, H, I, rfl, ?_⟩
      rw [any_py p1.1 (by have := p2.1; rw [D.plain] at this; exact this)]
      exact q
    · exact False.elim hw
  | ftup ys =>
    unfold inF at hw
    simp only at hw
    split at hw
    · rename_i he
      rw [Bool.and_eq_true] at he
      obtain ⟨e1, e2⟩ := he
      have p1 := eqOk_plain e1
      have p2 := eqOk_plain e2
      have q : Q (.bl (!(ys.any fun z => deq z d1))) H := hw ι H (Ext.refl _ _) S
      obtain ⟨as, r1⟩ := Dp.reads I _ _ _ (dp_of hK _ _ p1.1 h1) rx
      obtain ⟨bs, r2⟩ := Dp.reads I _ _ _ (dp_ftup (X := X.K) hK h2 (by have := p2.1; rw [D.plain] at this; exact this)) ry
      have l2 := eqOk_shaped e2
      rw [toPy] at l2
      refine SeqAt.notIn_tuple_reads r2 r1 (SeqAt.canLay_of_shaped l2) (SeqAt.canLay_of_shaped (eqOk_shaped e1)) (room_in_shaped (eqOk_shaped e1) (by omega)) ⟨.bl _, H, I, rfl, ?_⟩
      rw [any_py p1.1 (by have := p2.1; rw [D.plain] at this; exact this)]
      exact q
    · exact False.elim hw
  | cst c =>
    unfold inF at hw
    obtain ⟨rfl, cs⟩ := h2
    obtain ⟨es, n, kd⟩ := cs.kd
    cases d1 with
    | str a =>
      obtain rfl := h1
      simp only [findF] at hw
      have q : Q (.bl (!(look (g.C c) (.inr a)).isSome)) H := hw ι H (Ext.refl _ _) S
      have kd' : KDict X.K X.w (g.cA c) es n := by rw [hK, hw']; exact kd
      rcases cs.get a with ⟨e1, e2⟩ | ⟨d, u', v', e1, e2, _, _⟩
      · refine op_notIn_kd kd' pins s σ H _ _ v u Q I rx ry ⟨_, _, rfl, rfl, by rw [hK]; exact e2, ?_⟩
        rw [e1] at q; exact q
      · refine op_notIn_kd kd' pins s σ H _ _ v u Q I rx ry ⟨_, _, rfl, rfl, by rw [hK]; exact e2, ?_⟩
        rw [e1] at q; exact q
    | _ => exact False.elim hw
  | loc l =>
    unfold inF at hw
    simp only at hw
    split at hw
    · rename_i ys e0
      split at hw
      · rename_i he
        rw [Bool.and_eq_true] at he
        obtain ⟨e1, e2⟩ := he
        have p1 := eqOk_plain e1
        have p2 := eqOk_plain e2
        have q : Q (.bl (!(ys.any fun z => deq z d1))) H := hw ι H (Ext.refl _ _) S
        obtain ⟨a, vs, rfl, _, ha, r2⟩ := RepL.sqL S h2 e0
        have p2' : D.plainL ys = true := by have := p2.1; rw [D.plain] at this; exact this
        refine op_notInD (by omega) pins s σ H _ _ v u Q I rx ry ⟨_, _, dp_of hK _ _ p1.1 h1, .lst (SqL.of ha) (dpL_of hK _ _ p2' r2), eqOk_shaped e1, ?_, ?_⟩
        · have := eqOk_shaped e2
          rw [toPy, SeqAt.shaped, PyData.canLay0, PyData.depth] at this
          rw [SeqAt.shaped, PyData.canLay0, PyData.depth]
          exact this
        · rw [any_py p1.1 p2']
          exact q
      · exact False.elim hw
    · split at hw
      · rename_i o eo
        obtain ⟨a, ov, rfl, dg, _, hh⟩ := find_loc S h2 h1 eo
        have q : Q (.bl (!o.isSome)) H := hw ι H (Ext.refl _ _) S
        obtain rfl : u = Value.ref a := ry
        refine d_notIn (by omega) I dg rx fun s' I' => ⟨.bl (!ov.isSome), H, I', rfl, ?_⟩
        rcases hh with ⟨e1, e2⟩ | ⟨d, v', e1, e2, _⟩
        · rw [e1] at q; rw [e2]; exact q
        · rw [e1] at q; rw [e2]; exact q
      · exact False.elim hw
  | _ => exact False.elim hw
end
end PL
end
section
set_option Elab.async false
set_option linter.all false
set_option autoImplicit false
set_option maxRecDepth 100000
set_option maxHeartbeats 400000
/-! SoundS: sorted of what is walked by keys. -/
namespace PL
open PySem PySem.Spec PyProof.Rows L2
section
variable {X : Cx} {g : Gb}
theorem each_rep' {ι : List Addr} {H : Hp} : ∀ {us : List Value} {ds : List D}, us.length = ds.length → (∀ (j : Nat) u d, us[j]? = some u → ds[j]? = some d → ∃ x, RelV x u ∧ Rep g ι H d x) → PySem.W.EachIs (fun u d => ∃ x, RelV x u ∧ Rep g ι H d x) us ds
  | [], [], _, _ => .nil
  | [], _ :: _, h, _ => by cases h
  | _ :: _, [], h, _ => by cases h
  | u :: us, d :: ds, hl, h => .cons (h 0 u d rfl rfl) (each_rep' (by simpa using hl) fun j u' d' e1 e2 => h (j + 1) u' d' e1 e2)
theorem rep_each' {ι : List Addr} {H : Hp} : ∀ {us : List Value} {ds : List D}, PySem.W.EachIs (fun u d => ∃ x, RelV x u ∧ Rep g ι H d x) us ds → ∃ vs, Vals vs us ∧ RepL g ι H ds vs
  | _, _, .nil => ⟨[], .nil, rfl⟩
  | _, _, .cons ⟨x, r, p⟩ t => by
    obtain ⟨vs, h1, h2⟩ := rep_each' t
    exact ⟨x :: vs, .cons r h1, x, vs, rfl, p, h2⟩
theorem each_reads' {ι : List Addr} {H : Hp} {pins : List (Addr × PySem.Obj)} {σ : L2.St} {s : Shared} (hK : X.K = g.K) (I : L2.Inv X pins σ H s) : ∀ {us : List Value} {ds : List D}, (∀ d ∈ ds, D.plain d = true) →
    PySem.W.EachIs (fun u d => ∃ x, RelV x u ∧ Rep g ι H d x) us ds → PySem.W.EachIs (fun u d => ∃ as, Reads s.heap u (toPy d) as) us ds
  | _, _, _, .nil => .nil
  | _, _, hp, .cons ⟨x, r, p⟩ t => .cons (Dp.reads I _ _ _ (dp_of hK _ _ (hp _ List.mem_cons_self) p) r) (each_reads' hK I (fun d hd => hp d (List.mem_cons_of_mem _ hd)) t)
/-- data that can be sorted -/
structure Srt (ds : List D) : Prop where
  pl : ∀ d ∈ ds, D.plain d = true
  dp : ∀ d ∈ ds, D.depth d ≤ 60
  al : ∀ a ∈ ds, ∀ b ∈ ds, alk a b = true
  sh : (∀ d ∈ ds, ∃ x r, d = .tup (x :: r)) ∨ ∀ d ∈ ds, ∀ ys, d ≠ .tup ys
theorem Srt.alike {ds : List D} (h : Srt ds) : PySem.W.AllAlike (ds.map toPy) := by
  intro d hd d' hd'
  obtain ⟨b, hb, rfl⟩ := List.mem_map.mp hd
  obtain ⟨b', hb', rfl⟩ := List.mem_map.mp hd'
  exact alk_py _ _ (h.al b hb b' hb')
theorem Srt.sortable {ds : List D} (h : Srt ds) : PySem.W.Sortable (ds.map toPy) := by
  rcases h.sh with p3 | p3
  · refine .inl fun d hd => ?_
    obtain ⟨b, hb, rfl⟩ := List.mem_map.mp hd
    obtain ⟨x, r, rfl⟩ := p3 b hb
    exact ⟨toPy x, toPyL r, by rw [toPy, toPyL]⟩
  · refine .inr fun d hd => ?_
    obtain ⟨b, hb, rfl⟩ := List.mem_map.mp hd
    have hne := p3 b hb
    have ha := h.al b hb b hb
    cases b with
    | int _ => exact ⟨by simp [toPy], by simp [toPy]⟩
    | str _ => exact ⟨by simp [toPy], by simp [toPy]⟩
    | tup zs => exact absurd rfl (hne zs)
    | _ => simp [alk] at ha
theorem Srt.merge {ds : List D} (h : Srt ds) : ds.mergeSort (PySem.W.dataLe false toPy) = sortD ds := by
  unfold sortD
  refine PySem.W.sort_congr fun a ha b hb => ?_
  rw [PySem.W.dataLe_eq]
  show (!PySem.W.dataLt (toPy b) (toPy a)) = _
  rw [dlt_py b a (h.al b hb a ha) (h.pl b hb) (h.pl a ha)]
theorem Srt.unit {ds : List D} (h : Srt ds) {n : Nat} (hu : n + 70 < cLine) : ∀ d, d ∈ ds.map toPy → n + d.depth < cLine := by
  intro d hd
  obtain ⟨b, hb, rfl⟩ := List.mem_map.mp hd
  have h1 := (py_lay b (h.pl b hb)).2
  have h2 := h.dp b hb
  omega
theorem sorted_src (hc : X.calm = true) (hK : X.K = g.K) (hu : X.A.units + 80 < cLine) {pins : List (Addr × PySem.Obj)} {σ : L2.St} {s : Shared} {H : Hp} {ι : List Addr} {μ : Store} {a : Addr} {n : Nat} {T : String} {P : Nat → Value → Prop} {OK : Heap → Prop} {ds : List D} {Q : VK}
    (I : L2.Inv X pins σ H s) (S : Sim g ι μ H) (src : PySem.W.KdlSrc X.prog X.w T a a n P OK) (hok : OK s.heap) (hn : n ≤ sizeLine) (hs : Srt ds)
    (hr : ∀ acc : List Value, acc.length = n → (∀ (j : Nat) v, acc[j]? = some v → P j v) → PySem.W.EachIs (fun u d => ∃ x, RelV x u ∧ Rep g ι H d x) acc ds) (hw : OkV g ι H Q (.loc μ.length) (μ ++ [.lst (sortD ds)])) :
    wpAny (model X.prog X.w) X.A (call (.builtin "sorted") [.ref a]) (EP X pins σ Q) X.xe s := by
  refine Calls.call_function_entry PyProof.Rows.kind_sorted PyProof.Rows.plain_sorted PyProof.Rows.entry_sorted (PyProof.Rows.args_sorted1 _) ?_
  unfold Builtin.«sorted»
  refine wpAny_bind (m := checkCount "sorted" 1 1 _) (wpAny_pure ?_)
  refine wpAny_bind (PySem.W.kdu_collect (A := X.A.in1) src (I.ok.hd hc) hok hn fun h' tk acc hk hacc => ?_)
  have I1 : L2.Inv X pins σ H { s with heap := h', toks := tk } := I.kept hk
  have hal : acc.toList.length = n := by rw [Array.length_toList, hacc.1]
  have e1 := hr acc.toList hal fun j v e => hacc.2 j v (by rw [← Array.getElem?_toList]; exact e)
  have e2 := each_reads' hK I1 hs.pl e1
  refine wpAny_bind (wpAny_newList ?_ (by rw [hal]; exact hn))
  have hoL : (h'.push (seqObj "list" acc.toList.toArray 0)).get? h'.objs.size = some (seqObj "list" acc.toList.toArray 0) := Heap.get?_push_size _ rfl
  show wpAny _ _ _ _ _ { s with heap := h'.push (seqObj "list" acc.toList.toArray 0), toks := tk }
  have lt : ∀ {b : Addr} {o : PySem.Obj}, h'.get? b = some o → b ≠ h'.objs.size := fun e => Nat.ne_of_lt (Heap.lt_size e)
  have kp : ∀ b o, h'.get? b = some o → (PySem.W.sortingHeap (h'.push (seqObj "list" acc.toList.toArray 0)) h'.objs.size acc.toList).get? b = some o := fun b o e => PySem.W.sortingHeap_old (lt e) (Heap.get?_push_of_some _ e)
  have e3 : PySem.W.EachIs (fun v b => ∃ as, Reads (PySem.W.sortingHeap (h'.push (seqObj "list" acc.toList.toArray 0)) h'.objs.size acc.toList) v (toPy b) as) acc.toList ds := e2.mono fun _ _ ⟨as, r⟩ => ⟨as, Reads.keeps kp r⟩
  have e4 := PySem.W.each_map (R := fun v d => ∃ as, Reads (PySem.W.sortingHeap (h'.push (seqObj "list" acc.toList.toArray 0)) h'.objs.size acc.toList) v d as) toPy e3
  refine wpAny_bind (wpAny_holding (wpAny_call_entry PyProof.Rows.slot_list_sort ⟨_, hoL, rfl⟩ PyProof.Rows.entry_list_sort
    (PySem.W.list_sort_vals (s := { s with heap := h'.push (seqObj "list" acc.toList.toArray 0), toks := tk }) hoL (PySem.W.SortsAt.data (s := { s with heap := PySem.W.sortingHeap (h'.push (seqObj "list" acc.toList.toArray 0)) h'.objs.size acc.toList, toks := tk }) e4 hs.alike hs.sortable (hs.unit (by show X.A.units + 1 + 1 + 70 < cLine; omega))) (by rw [hal]; exact hn) ⟨_, rfl, ?_⟩)
    (PyProof.Rows.args_list_sort _)))
  have eo := PySem.W.sortVals_data (enc := toPy) false e1 e3 hs.alike
  rw [hs.merge] at eo
  obtain ⟨ws, rw1, rw2⟩ := rep_each' eo
  obtain ⟨ep, he'⟩ := PyProof.Rows.sortedHeap_at (vs := acc.toList) (out := (PySem.W.sortVals _ false acc.toList acc.toList).toArray) hoL
  have hlen : ws.length ≤ sizeLine := by
    rw [rw1.length, PySem.W.sortVals_length false rfl, hal]; exact hn
  refine wpAny_pure ⟨_, rfl, .ref h'.objs.size, upd H h'.objs.size (.lst ws), I1.laid (t' := tk) (fun b u e => ?_) (Nat.le_refl _) ⟨hlen, _, ep, rw1, he'⟩, rfl, OkV.lst S hw rw2 (I1.hok.fresh (Nat.le_refl _))⟩
  have hb : b < h'.objs.size := Heap.lt_size e
  rw [PyProof.Rows.sortedHeap_old (Nat.ne_of_lt hb) (by rw [size_push']; exact Nat.lt_succ_of_lt hb)]
  exact Heap.get?_push_of_some _ e
theorem paired_get {α β : Type} {F : α → β → Prop} {l : List α} {m : List β} (h : Paired F l m) : ∀ {j : Nat} {a : α} {b : β}, l[j]? = some a → m[j]? = some b → F a b := by
  induction h with
  | nil => intro j a b h _; cases h
  | cons h _ ih =>
    intro j a b e1 e2
    cases j with
    | zero => cases e1; cases e2; exact h
    | succ j => exact ih e1 e2
/-- the keys of a dict -/
theorem sorted_dT (hc : X.calm = true) (hK : X.K = g.K) (hu : X.A.units + 80 < cLine) {pins : List (Addr × PySem.Obj)} {σ : L2.St} {s : Shared} {H : Hp} {ι : List Addr} {μ : Store} {l : Nat} {v : V} {kvs : List (List PL.Key × D)} {Q : VK}
    (I : L2.Inv X pins σ H s) (S : Sim g ι μ H) (r : Rep g ι H (.loc l) v) (e : μ[l]? = some (.dT false kvs)) (hs : Srt (kvs.map fun p => D.tup (p.1.map Key.d))) (hw : OkV g ι H Q (.loc μ.length) (μ ++ [.lst (sortD (kvs.map fun p => D.tup (p.1.map Key.d)))])) :
    ∃ a, v = .ref a ∧ wpAny (model X.prog X.w) X.A (call (.builtin "sorted") [.ref a]) (EP X pins σ Q) X.xe s := by
  obtain ⟨a, rfl, ha⟩ := r
  obtain ⟨vs, q1, q2⟩ := S.ob l _ a e ha
  refine ⟨a, rfl, ?_⟩
  obtain ⟨z, hs', ks, pr, o, es, ep, ho, hx, hdt, he, hn⟩ := (show ObjOk X.prog X.w H s.heap a (.dT vs) from I.hok _ _ q1)
  have l1 : es.size = ks.length := size_of_entries he
  have l2 : vs.length = ks.length := Paired.length pr
  have l3 := q2.length
  refine sorted_src hc hK hu I S (kdl_raw hs' hx hdt) ho (by omega) hs (fun acc hl hp => each_rep' (by rw [List.length_map]; omega) fun j u d e1 e2 => ?_) hw
  obtain ⟨en, hen, rfl⟩ := hp j u e1
  have qe := entry_at he j
  rw [hen] at qe
  rw [List.getElem?_map] at e2
  cases hb : ks[j]? with
  | none => rw [hb] at qe; cases qe
  | some b =>
    rw [hb] at qe
    have e3 : en = entryOfKey (tupleKind (mixKind X.prog X.w)) b := Option.some.inj qe
    cases hv : vs[j]? with
    | none =>
      have := List.getElem?_eq_none_iff.mp hv
      have := (List.getElem?_eq_some_iff.mp hb).1
      omega
    | some y =>
      obtain ⟨p1, p2, p3⟩ := paired_get pr hv hb
      have q3 : ∃ q', kvs[j]? = some q' ∧ y.1 = Ks2 q'.1 := by
        have : ∀ {kvs : List (List PL.Key × D)} {vs : List (List L2.Key × V)} {i : Nat} {p : List L2.Key × V}, RepKV g Ks2 ι H kvs vs → vs[i]? = some p → ∃ q, kvs[i]? = some q ∧ p.1 = Ks2 q.1 := by
          intro kvs
          induction kvs with
          | nil => intro vs i p h e; rw [show _ = [] from h] at e; cases e
          | cons q kvs ih =>
            intro vs i p h e
            obtain ⟨v, r, rfl, h1, h2⟩ := h
            cases i with
            | zero => cases e; exact ⟨q, rfl, rfl⟩
            | succ i => exact ih h2 e
        exact this q2 hv
      obtain ⟨q', e4, e5⟩ := q3
      rw [e4] at e2
      cases e2
      rw [e5] at p2
      have kd : ∀ ks : List PL.Key, RepL g ι H (ks.map Key.d) ((Ks2 ks).map kV) := by
        intro ks
        induction ks with
        | nil => rfl
        | cons k ks ih => exact ⟨_, _, rfl, by cases k <;> rfl, ih⟩
      exact ⟨.ref b.2.1, by rw [e3]; rfl, b.2.1, _, rfl, p2, kd _⟩
end
end PL
end
section
set_option Elab.async false
set_option linter.all false
set_option autoImplicit false
set_option maxRecDepth 100000
set_option maxHeartbeats 400000
/-! Sound4: places, slices, calls of built-ins, methods, stores. -/
namespace PL
open PySem PySem.Spec PyProof.Rows L2
section
variable {X : Cx} {g : Gb}
theorem okI_ok {α : Type} {a : Option α} {μ : Store} {Q : α → Store → Prop} {E : Exc → Store → Prop} (h : wpR (okI a μ) Q E) : ∃ b, a = some b ∧ Q b μ := by
  cases a with
  | none => exact False.elim h
  | some b => exact ⟨b, rfl, h⟩
theorem atIx_get {α : Type} {xs : List α} {i : Int} {v : α} (h : atIx xs i = some v) : ∃ j, pyIx xs.length i = some j ∧ xs[j]? = some v := by
  unfold atIx at h
  cases e : pyIx xs.length i with
  | none => rw [e] at h; cases h
  | some j => rw [e] at h; exact ⟨j, rfl, h⟩
theorem atI_rep {ι : List Addr} {H : Hp} {xs : List D} {vs : List V} {i : Int} {d : D} (r : RepL g ι H xs vs) (h : atIx xs i = some d) : ∃ v, atI vs i = some v ∧ Rep g ι H d v := by
  obtain ⟨j, e1, e2⟩ := atIx_get h
  obtain ⟨v, e3, e4⟩ := r.get e2
  refine ⟨v, ?_, e4⟩
  show ((pyIx vs.length i).bind fun j => vs[j]?) = _
  rw [r.length, e1]
  exact e3
/-- a place of a row, of a text -/
def isRow (μ : Store) : D → Bool
  | .tup _ => true
  | .rol _ => true
  | .ktp _ => true
  | .ftup _ => true
  | .str _ => true
  | .loc l => match μ[l]? with
    | some (.lst _) => true
    | _ => false
  | _ => false
theorem ix_row (hK : X.K = g.K) : IxR X (fun x y H Q => ∃ ι μ d1 d2, Sim g ι μ H ∧ Rep g ι H d1 x ∧ Rep g ι H d2 y ∧ isRow μ d1 = true ∧ wpR (ixF g.C d1 d2 μ) (OkV g ι H Q) anyE) := by
  intro value slice pins s σ H x y v u Q I rx ry h
  obtain ⟨ι, μ, d1, d2, S, h1, h2, hr, hw⟩ := h
  cases d1 with
  | tup xs =>
    cases d2 with
    | int i =>
      obtain ⟨d, e, q⟩ := okI_ok hw
      obtain ⟨a, vs, rfl, ha, r⟩ := h1
      obtain rfl := h2
      obtain ⟨w, e2, rw'⟩ := atI_rep r e
      exact ix_tup value slice pins s σ H _ _ v u Q I rx ry ⟨a, vs, i, w, rfl, rfl, SqT.of ha, e2, q.same S rw'⟩
    | _ => exact False.elim hw
  | rol xs =>
    cases d2 with
    | int i =>
      obtain ⟨d, e, q⟩ := okI_ok hw
      obtain ⟨a, vs, rfl, sq, r, _, hq⟩ := rowF_at S h1 (xs := xs) rfl
      obtain rfl := h2
      obtain ⟨w, e2, rw'⟩ := atI_rep r e
      exact ix_list value slice pins s σ H _ _ v u Q I rx ry ⟨a, vs, i, w, rfl, rfl, by rw [hK]; exact hq (fun _ z => by cases z) (fun _ z => by cases z), e2, q.same S rw'⟩
    | _ => exact False.elim hw
  | ftup xs =>
    cases d2 with
    | int i =>
      obtain ⟨d, e, q⟩ := okI_ok hw
      obtain ⟨a, vs, o, rfl, ha, _, r⟩ := h1
      obtain rfl := h2
      obtain ⟨w, e2, rw'⟩ := atI_rep r e
      exact ix_tup value slice pins s σ H _ _ v u Q I rx ry ⟨a, vs, i, w, rfl, rfl, .inl (.inr ⟨o, ha⟩), e2, q.same S rw'⟩
    | _ => exact False.elim hw
  | ktp xs =>
    cases d2 with
    | int i =>
      obtain ⟨d, e, q⟩ := okI_ok hw
      obtain ⟨a, vs, rfl, ha, r⟩ := h1
      obtain rfl := h2
      obtain ⟨w, e2, rw'⟩ := atI_rep r e
      exact ix_tup value slice pins s σ H _ _ v u Q I rx ry ⟨a, vs, i, w, rfl, rfl, by rw [hK]; exact ha.sq H, e2, q.same S rw'⟩
    | _ => exact False.elim hw
  | str z =>
    cases d2 with
    | int i =>
      obtain rfl := h1
      obtain rfl := h2
      have hw : wpR (if z.length ≤ mostLen then okI ((atIx z i).map fun c => D.str [c]) μ else .stuck) (OkV g ι H Q) anyE := hw
      split at hw
      · rename_i hl
        obtain ⟨d, e, q⟩ := okI_ok hw
        obtain ⟨c, e1, rfl⟩ := Option.map_eq_some_iff.mp e
        refine ix_str value slice pins s σ H _ _ v u Q I rx ry ⟨S2 z, i, c, rfl, rfl, ?_, ?_, OkV.same S q rfl⟩
        · rw [S2_len]; exact Nat.le_trans hl line_most
        · rw [S2_cps]; exact e1
      · exact False.elim hw
    | _ => exact False.elim hw
  | loc l =>
    obtain ⟨xs, e0⟩ : ∃ xs, μ[l]? = some (.lst xs) := by
      cases e : μ[l]? with
      | none => simp [isRow, e] at hr
      | some o =>
        cases o with
        | lst xs => exact ⟨xs, rfl⟩
        | _ => simp [isRow, e] at hr
    · unfold ixF at hw
      simp only [e0] at hw
      cases d2 with
      | int i =>
        obtain ⟨d, e, q⟩ := okI_ok hw
        obtain ⟨a, vs, rfl, _, ha, r⟩ := RepL.sqL S h1 e0
        obtain rfl := h2
        obtain ⟨w, e2, rw'⟩ := atI_rep r e
        exact ix_list value slice pins s σ H _ _ v u Q I rx ry ⟨a, vs, i, w, rfl, rfl, SqL.of ha, e2, q.same S rw'⟩
      | _ => exact False.elim hw
  | _ => cases hr
/-- a slice, by values -/
theorem sl_rowF (hK : X.K = g.K) : SlR X (fun x lo hi H Q => ∃ ι μ d, Sim g ι μ H ∧ Rep g ι H d x ∧ wpR (slF d lo hi μ) (OkV g ι H Q) anyE) := by
  intro pins s σ H x v vl vu lo hi sl Q I rx hs pl pu h
  obtain ⟨ι, μ, d, S, h1, hw⟩ := h
  cases d with
  | tup xs =>
    obtain ⟨a, vs, rfl, ha, r⟩ := h1
    have q : OkV g ι H Q (.tup (cut xs lo hi)) μ := hw
    refine sl_tupA pins s σ H _ v vl vu lo hi sl Q I rx hs pl pu ⟨a, vs, rfl, SqT.of ha, fun ⟨e1, e2⟩ => ?_, fun _ p hp => ?_⟩
    · have e : cut xs lo hi = xs := by
        have z1 : clip xs.length 0 lo = 0 := by rw [← r.length]; exact e1
        have z2 : clip xs.length xs.length hi = xs.length := by rw [← r.length]; exact e2
        unfold cut
        rw [z1, z2]; simp
      rw [e] at q
      exact q.same S ⟨a, vs, rfl, ha, r⟩
    · have r' : RepL g ι H (cut xs lo hi) (cutV vs lo hi) := by
        have := (r.drop (clip xs.length 0 lo)).take (clip xs.length xs.length hi - clip xs.length 0 lo)
        unfold cutV
        rw [r.length]
        exact this
      exact OkV.tup S q r' hp
  | rol xs =>
    obtain ⟨a, vs, rfl, sq, r, _, hq⟩ := rowF_at S h1 (xs := xs) rfl
    refine sl_list pins s σ H _ v vl vu lo hi sl Q I rx hs pl pu ⟨a, vs, rfl, by rw [hK]; exact hq (fun _ z => by cases z) (fun _ z => by cases z), fun p hp => ?_⟩
    have r' : RepL g ι H (cut xs lo hi) (cutV vs lo hi) := by
      have := (r.drop (clip xs.length 0 lo)).take (clip xs.length xs.length hi - clip xs.length 0 lo)
      unfold cutV
      rw [r.length]
      exact this
    exact OkV.lst S hw r' hp
  | str z =>
    obtain rfl := h1
    have hw : wpR (if z.length ≤ mostLen then .ok (.str (cut z lo hi)) μ else .stuck) (OkV g ι H Q) anyE := hw
    split at hw
    · rename_i hl
      refine sl_str pins s σ H _ v vl vu lo hi sl Q I rx hs pl pu ⟨S2 z, rfl, ?_, ?_⟩
      · rw [S2_len]; exact Nat.le_trans hl line_most
      · have e : cutS (S2 z) lo hi = S2 (cut z lo hi) := by
          unfold cutS cut S2
          simp only [Str.length, List.size_toArray]
          rfl
        rw [e]
        exact OkV.same S hw rfl
    · exact False.elim hw
  | loc l =>
    have hw : wpR (match μ[l]? with
      | some (.lst xs) => PL.new (.lst (cut xs lo hi)) μ
      | _ => .stuck) (OkV g ι H Q) anyE := hw
    split at hw
    · rename_i xs e0
      obtain ⟨a, vs, rfl, _, ha, r⟩ := RepL.sqL S h1 e0
      refine sl_list pins s σ H _ v vl vu lo hi sl Q I rx hs pl pu ⟨a, vs, rfl, SqL.of ha, fun p hp => ?_⟩
      have r' : RepL g ι H (cut xs lo hi) (cutV vs lo hi) := by
        have := (r.drop (clip xs.length 0 lo)).take (clip xs.length xs.length hi - clip xs.length 0 lo)
        unfold cutV
        rw [r.length]
        exact this
      exact OkV.lst S hw r' hp
    · exact False.elim hw
  | _ => exact False.elim hw

/-! ### built-in functions -/
def rBf (g : Gb) (b : Bf) : List V → Hp → VK → Prop := fun xs H Q => ∃ ι μ d x, xs = [x] ∧ Sim g ι μ H ∧ Rep g ι H d x ∧ wpR (bfF b d μ) (OkV g ι H Q) anyE
theorem call_lenF (hK : X.K = g.K) : CallR X (.builtin "len") (rBf g .len) := by
  intro pins s σ H xs us Q I r h
  obtain ⟨ι, μ, d, x, rfl, S, h1, hw⟩ := h
  cases d with
  | tup ys =>
    obtain ⟨a, vs, rfl, ha, r'⟩ := h1
    have q : OkV g ι H Q (.int ys.length) μ := hw
    refine call_len pins s σ H _ us Q I r ⟨_, _, rfl, .inr ⟨vs, SqT.of ha, rfl⟩, ?_⟩
    rw [r'.length]
    exact q.same S rfl
  | ftup ys =>
    obtain ⟨a, vs, o, rfl, ha, _, r'⟩ := h1
    have q : OkV g ι H Q (.int ys.length) μ := hw
    refine call_len pins s σ H _ us Q I r ⟨_, _, rfl, .inr ⟨vs, .inl (.inr ⟨o, ha⟩), rfl⟩, ?_⟩
    rw [r'.length]
    exact q.same S rfl
  | rol ys =>
    have q : OkV g ι H Q (.int ys.length) μ := hw
    obtain ⟨a, vs, rfl, _, r', _, hq⟩ := rowF_at S h1 (xs := ys) rfl
    refine call_len pins s σ H _ us Q I r ⟨_, _, rfl, .inl ⟨vs, by rw [hK]; exact hq (fun _ z => by cases z) (fun _ z => by cases z), rfl⟩, ?_⟩
    rw [r'.length]
    exact q.same S rfl
  | str z =>
    obtain rfl := h1
    have hw : wpR (if z.length ≤ mostLen then .ok (.int z.length) μ else .stuck) (OkV g ι H Q) anyE := hw
    split at hw
    · rename_i hl
      refine call_len pins s σ H _ us Q I r ⟨_, _, rfl, ⟨?_, rfl⟩, ?_⟩
      · rw [S2_len]; exact Nat.le_trans hl line_most
      · rw [S2_len]; exact OkV.same S hw rfl
    · exact False.elim hw
  | loc l =>
    have hw : wpR (match μ[l]? with
      | some (.lst xs) => .ok (.int xs.length) μ
      | some (.dK _ kvs) => .ok (.int kvs.length) μ
      | _ => .stuck) (OkV g ι H Q) anyE := hw
    split at hw
    · rename_i ys e0
      obtain ⟨a, vs, rfl, _, ha, r'⟩ := RepL.sqL S h1 e0
      refine call_len pins s σ H _ us Q I r ⟨_, _, rfl, .inl ⟨vs, SqL.of ha, rfl⟩, ?_⟩
      rw [r'.length]
      exact OkV.same S hw rfl
    · rename_i b kvs e0
      obtain ⟨a, rfl, ha⟩ := h1
      have ho := S.ob l _ a e0 ha
      obtain ⟨vs, rd, rk⟩ : ∃ vs, Rd H a (.dK vs) ∧ RepKV g K2 ι H kvs vs := by
        cases b with
        | false => obtain ⟨vs, q1, q2⟩ := ho; exact ⟨vs, .inl q1, q2⟩
        | true => obtain ⟨o, vs, q1, q2⟩ := ho; exact ⟨vs, .inr ⟨o, q1⟩, q2⟩
      obtain ⟨u, rfl, ru⟩ := vals1 r
      obtain rfl : u = Value.ref a := ru
      refine d_len I rd fun t s' I' => ⟨.int vs.length, H, I', ⟨t, rfl⟩, ?_⟩
      rw [rk.length]
      exact OkV.same S hw rfl
    · exact False.elim hw
  | _ => exact False.elim hw
theorem call_absF : CallR X (.builtin "abs") (rBf g .abs) := by
  intro pins s σ H xs us Q I r h
  obtain ⟨ι, μ, d, x, rfl, S, h1, hw⟩ := h
  cases d with
  | int i =>
    obtain rfl := h1
    exact call_abs pins s σ H _ us Q I r ⟨i, rfl, OkV.same S hw rfl⟩
  | _ => exact False.elim hw
theorem call_intF : CallR X (.type "int") (rBf g .int) := by
  intro pins s σ H xs us Q I r h
  obtain ⟨ι, μ, d, x, rfl, S, h1, hw⟩ := h
  cases d with
  | int i =>
    obtain rfl := h1
    exact call_int1 pins s σ H _ us Q I r (.inl ⟨i, rfl, OkV.same S hw rfl⟩)
  | bl b =>
    obtain rfl := h1
    exact call_int1 pins s σ H _ us Q I r (.inr ⟨b, rfl, OkV.same S hw rfl⟩)
  | _ => exact False.elim hw
theorem call_boolF : CallR X (.type "bool") (rBf g .bool) := by
  intro pins s σ H xs us Q I r h
  obtain ⟨ι, μ, d, x, rfl, S, h1, hw⟩ := h
  cases d with
  | int i =>
    obtain rfl := h1
    exact call_bool1 pins s σ H _ us Q I r (.inl ⟨i, rfl, OkV.same S hw rfl⟩)
  | bl b =>
    obtain rfl := h1
    exact call_bool1 pins s σ H _ us Q I r (.inr ⟨b, rfl, OkV.same S hw rfl⟩)
  | _ => exact False.elim hw
theorem call_strF : CallR X (.type "str") (rBf g .str) := by
  intro pins s σ H xs us Q I r h
  obtain ⟨ι, μ, d, x, rfl, S, h1, hw⟩ := h
  cases d with
  | int i =>
    obtain rfl := h1
    have hw : wpR (if i.natAbs < 2 ^ 1000 then .ok (.str (intT i)) μ else .stuck) (OkV g ι H Q) anyE := hw
    split at hw
    · rename_i hl
      refine call_str_int pins s σ H _ us Q I r ⟨i, rfl, ?_, ?_⟩
      · rcases Nat.eq_zero_or_pos i.natAbs with e | e
        · rw [e]; decide
        · exact Nat.lt_trans ((Nat.log2_lt (by omega)).mpr hl) (by decide)
      · have e : (Str.ofString (toString i)) = S2 (intT i) := by
          rw [Str.ofString_eq_toList]
          rfl
        show Q (.str (Str.ofString (toString i))) H
        rw [e]
        exact OkV.same S hw rfl
    · exact False.elim hw
  | _ => exact False.elim hw
theorem tup_row {d : D} {μ : Store} {Q : D → Store → Prop} {E : Exc → Store → Prop} (h : wpR (bfF .tuple d μ) Q E) : (∀ ds, d ≠ .ktp ds) ∧ ∃ xs, rowF d μ = some xs ∧ Q (.tup xs) μ := by
  cases d with
  | ktp _ => exact False.elim h
  | _ =>
    refine ⟨fun _ z => (by cases z), ?_⟩
    unfold bfF at h
    simp only at h
    split at h
    · rename_i xs e
      exact ⟨xs, e, h⟩
    · exact False.elim h
theorem call_tupleF (hK : X.K = g.K) : CallR X (.type "tuple") (rBf g .tuple) := by
  intro pins s σ H xs us Q I r h
  obtain ⟨ι, μ, d, x, rfl, S, h1, hw⟩ := h
  obtain ⟨nk, ys, e0, q⟩ := tup_row hw
  have q : OkV g ι H Q (.tup ys) μ := q
  obtain ⟨a, vs, rfl, sq, r', _, hq⟩ := rowF_at S h1 e0
  by_cases hd : ∃ ds, d = .tup ds
  · obtain ⟨ds, rfl⟩ := hd
    cases e0
    obtain ⟨a', vs', e', ha', r2⟩ := h1
    cases e'
    exact call_tuple_of pins s σ H _ us Q I r ⟨a, vs', rfl, .inr ⟨SqT.of ha', q.same S ⟨a, vs', rfl, ha', r2⟩⟩⟩
  · have hl := hq (fun ds z => hd ⟨ds, z⟩) nk
    exact call_tuple_of pins s σ H _ us Q I r ⟨a, vs, rfl, .inl ⟨by rw [hK]; exact hl, fun p hp => OkV.tup S q r' hp⟩⟩
theorem call_listF (hK : X.K = g.K) : CallR X (.type "list") (rBf g .list) := by
  intro pins s σ H xs us Q I r h
  obtain ⟨ι, μ, d, x, rfl, S, h1, hw⟩ := h
  have hw : wpR (match rowF d μ with
    | some xs => PL.new (.lst xs) μ
    | none => .stuck) (OkV g ι H Q) anyE := hw
  split at hw
  · rename_i ys e0
    obtain ⟨a, vs, rfl, sq, r', _, _⟩ := rowF_at S h1 e0
    exact call_list_of pins s σ H _ us Q I r ⟨a, vs, rfl, by rw [hK]; exact sq, fun p hp => OkV.lst S hw r' hp⟩
  · exact False.elim hw
theorem listF_at {ι : List Addr} {H : Hp} {μ : Store} {d : D} {v : V} {xs : List D} (S : Sim g ι μ H) (r : Rep g ι H d v) (h : listF d μ = some xs) : ∃ a vs, v = .ref a ∧ SqL g.K H a vs ∧ RepL g ι H xs vs := by
  cases d with
  | rol ys =>
    cases h
    obtain ⟨a, vs, rfl, _, r', _, hq⟩ := rowF_at S r (xs := _) rfl
    exact ⟨a, vs, rfl, hq (fun _ z => by cases z) (fun _ z => by cases z), r'⟩
  | loc l =>
    unfold listF at h
    simp only at h
    split at h
    · rename_i ys e0
      cases h
      obtain ⟨a, vs, rfl, _, ha, r'⟩ := RepL.sqL S r e0
      exact ⟨a, vs, rfl, SqL.of ha, r'⟩
    · cases h
  | _ => cases h
/-- what stands in a row reads as data -/
theorem each_rep {ι : List Addr} {H : Hp} : ∀ {ds : List D} {vs : List V} {us : List Value}, Vals vs us → RepL g ι H ds vs → PySem.W.EachIs (fun u d => ∃ x, RelV x u ∧ Rep g ι H d x) us ds
  | [], _, _, r, h => by
    rw [show _ = [] from h] at r
    cases r
    exact .nil
  | d :: ds, _, _, r, h => by
    obtain ⟨v, r', rfl, h1, h2⟩ := h
    cases r with
    | cons r1 r2 => exact .cons ⟨v, r1, h1⟩ (each_rep r2 h2)
theorem rep_each {ι : List Addr} {H : Hp} : ∀ {us : List Value} {ds : List D}, PySem.W.EachIs (fun u d => ∃ x, RelV x u ∧ Rep g ι H d x) us ds → ∃ vs, Vals vs us ∧ RepL g ι H ds vs
  | _, _, .nil => ⟨[], .nil, rfl⟩
  | _, _, .cons ⟨x, r, p⟩ t => by
    obtain ⟨vs, h1, h2⟩ := rep_each t
    exact ⟨x :: vs, .cons r h1, ⟨x, vs, rfl, p, h2⟩⟩
theorem each_reads {ι : List Addr} {H : Hp} {pins : List (Addr × PySem.Obj)} {σ : L2.St} {s : Shared} (hK : X.K = g.K) (I : L2.Inv X pins σ H s) : ∀ {us : List Value} {ds : List D}, (∀ d ∈ ds, D.plain d = true) →
    PySem.W.EachIs (fun u d => ∃ x, RelV x u ∧ Rep g ι H d x) us ds → PySem.W.EachIs (fun u d => ∃ as, Reads s.heap u (toPy d) as) us ds
  | _, _, _, .nil => .nil
  | _, _, hp, .cons ⟨x, r, p⟩ t => .cons (Dp.reads I _ _ _ (dp_of hK _ _ (hp _ List.mem_cons_self) p) r) (each_reads hK I (fun d hd => hp d (List.mem_cons_of_mem _ hd)) t)
theorem sortOk_parts {xs : List D} (h : sortOk xs = true) : (∀ d ∈ xs, D.eqOk d = true) ∧ (∀ a ∈ xs, ∀ b ∈ xs, alk a b = true) ∧
    ((∀ d ∈ xs, ∃ x r, d = .tup (x :: r)) ∨ ∀ d ∈ xs, ∀ ys, d ≠ .tup ys) := by
  unfold sortOk allAlk at h
  rw [Bool.and_eq_true, Bool.and_eq_true, Bool.or_eq_true] at h
  obtain ⟨⟨h1, h2⟩, h3⟩ := h
  rw [List.all_eq_true] at h1 h2
  refine ⟨h1, fun a ha b hb => List.all_eq_true.mp (h2 a ha) b hb, ?_⟩
  rcases h3 with h3 | h3
  · refine .inl fun d hd => ?_
    have := List.all_eq_true.mp h3 d hd
    split at this
    · exact ⟨_, _, rfl⟩
    · cases this
  · refine .inr fun d hd ys e => ?_
    have := List.all_eq_true.mp h3 d hd
    rw [e] at this
    simp at this
theorem call_sortedF (hc : X.calm = true) (hK : X.K = g.K) (hu : X.A.units + 80 < cLine) : CallR X (.builtin "sorted") (rBf g .sorted) := by
  intro pins s σ H xs us Q I r h
  obtain ⟨ι, μ, d, x, rfl, S, h1, hw⟩ := h
  have hw : wpR (match listF d μ with
    | some xs => if (sortOk xs && decide (xs.length ≤ mostLen)) = true then PL.new (.lst (sortD xs)) μ else .stuck
    | none => match keysT d μ with
      | some xs => if (sortOk xs && decide (xs.length ≤ mostLen)) = true then PL.new (.lst (sortD xs)) μ else .stuck
      | none => .stuck) (OkV g ι H Q) anyE := hw
  split at hw
  · rename_i ys e0
    split at hw
    · rename_i he
      rw [Bool.and_eq_true, decide_eq_true_eq] at he
      obtain ⟨p1, p2, p3⟩ := sortOk_parts he.1
      obtain ⟨a, vs, rfl, sq, r'⟩ := listF_at S h1 e0
      have hpl : ∀ d ∈ ys, D.plain d = true := fun d hd => (eqOk_plain (p1 d hd)).1
      obtain ⟨u, rfl, ru⟩ := vals1 r
      obtain rfl : u = Value.ref a := ru
      have sq' : SqL X.K H a vs := by rw [hK]; exact sq
      · obtain ⟨its, rv, hl, hz⟩ := I.list sq'
        have e1 := each_rep rv r'
        refine PySem.W.sorted_data (enc := toPy) hl.isList e1 (each_reads hK I hpl e1) ?_ ?_ (by rw [← r'.length]; exact hz) (fun b hb => ?_) fun out ho eo => ?_
        · intro d hd d' hd'
          obtain ⟨b, hb, rfl⟩ := List.mem_map.mp hd
          obtain ⟨b', hb', rfl⟩ := List.mem_map.mp hd'
          exact alk_py _ _ (p2 b hb b' hb')
        · rcases p3 with p3 | p3
          · refine .inl fun d hd => ?_
            obtain ⟨b, hb, rfl⟩ := List.mem_map.mp hd
            obtain ⟨x, r, rfl⟩ := p3 b hb
            exact ⟨toPy x, toPyL r, by rw [toPy, toPyL]⟩
          · refine .inr fun d hd => ?_
            obtain ⟨b, hb, rfl⟩ := List.mem_map.mp hd
            have hne := p3 b hb
            have ha := p2 b hb b hb
            cases b with
            | int _ => exact ⟨by simp [toPy], by simp [toPy]⟩
            | str _ => exact ⟨by simp [toPy], by simp [toPy]⟩
            | tup zs => exact absurd rfl (hne zs)
            | _ => simp [alk] at ha
        · have := (py_lay b (hpl b hb)).2
          have := (eqOk_plain (p1 b hb)).2
          omega
        · have e2 : ys.mergeSort (PySem.W.dataLe false toPy) = sortD ys := by
            unfold sortD
            refine PySem.W.sort_congr fun a ha b hb => ?_
            rw [PySem.W.dataLe_eq]
            show (!PySem.W.dataLt (toPy b) (toPy a)) = _
            rw [dlt_py b a (p2 b hb a ha) (hpl b hb) (hpl a ha)]
          rw [e2] at eo
          obtain ⟨ws, rw1, rw2⟩ := rep_each eo
          obtain ⟨ep, he'⟩ := PyProof.Rows.sortedAll_at s.heap its out.toArray
          have hlen : ws.length ≤ sizeLine := by
            rw [rw1.length, ho, ← r'.length]; exact hz
          exact ⟨.ref _, upd H (s.heap.objs.size + 1) (.lst ws), I.laid (t' := s.toks) (fun _ _ => PyProof.Rows.sortedAll_old) (Nat.le_succ _) ⟨hlen, out, ep, rw1, he'⟩, rfl, OkV.lst S hw rw2 (I.hok.fresh (Nat.le_succ _))⟩
    · exact False.elim hw
  · split at hw
    · rename_i ys e0
      split at hw
      · rename_i he
        rw [Bool.and_eq_true, decide_eq_true_eq] at he
        obtain ⟨p1, p2, p3⟩ := sortOk_parts he.1
        unfold keysT at e0
        split at e0
        · rename_i l
          split at e0
          · rename_i kvs e1
            cases e0
            obtain ⟨u, rfl, ru⟩ := vals1 r
            obtain ⟨a, rfl, w⟩ := sorted_dT hc hK hu I S h1 e1 ⟨fun d hd => (eqOk_plain (p1 d hd)).1, fun d hd => (eqOk_plain (p1 d hd)).2, p2, p3⟩ hw
            obtain rfl : u = Value.ref a := ru
            exact w
          · cases e0
        · cases e0
      · exact False.elim hw
    · exact False.elim hw

/-! ### methods -/
def rMf (g : Gb) (m : Mf) : V → List V → Hp → VK → Prop := fun x xs H Q => ∃ ι μ d ds, Sim g ι μ H ∧ Rep g ι H d x ∧ RepL g ι H ds xs ∧ wpR (methF g.C m d ds μ) (OkV g ι H Q) anyE
/-- a changed list -/
theorem OkV.setl {ι : List Addr} {H : Hp} {μ : Store} {Q : VK} {d : D} {v : V} {l : Nat} {a : Addr} {ds : List D} {vs : List V} (S : Sim g ι μ H) (ha : ι[l]? = some a) (nf : NFz H a) (h : OkV g ι H Q d (μ.set l (.lst ds))) (r : RepL g ι H ds vs) (rd : Rep g ι H d v) : Q v (upd H a (.lst vs)) :=
  have e := ext_set S ha nf (.lst vs)
  h ι _ _ e (S.set ha nf ⟨vs, upd_same, e.repL _ _ r⟩) (e.rep _ _ rd)
theorem mt_appendF : MtM X "list.append" (rMf g .append) := by
  intro pins s σ H x xs v us Q I rx rs h
  obtain ⟨ι, μ, d, ds, S, h1, h2, hw⟩ := h
  cases d with
  | loc l =>
    match ds, h2, hw with
    | [], _, hw => exact False.elim hw
    | _ :: _ :: _, _, hw => exact False.elim hw
    | [e], h2, hw =>
      obtain ⟨y, r, rfl, hy, hr⟩ := h2
      obtain rfl : r = [] := hr
      have hw : wpR (match μ[l]? with
        | some (.lst xs) => if xs.length < mostLen then .ok .non (μ.set l (.lst (xs ++ [e]))) else .stuck
        | _ => .stuck) (OkV g ι H Q) anyE := hw
      split at hw
      · rename_i zs e0
        split at hw
        · rename_i hl
          obtain ⟨a, vs, rfl, hi, ha, r'⟩ := RepL.sqL S h1 e0
          refine mt_append pins s σ H _ _ v us Q I rx rs ⟨a, vs, y, rfl, rfl, ha, ?_, OkV.setl S hi (.lst ha) hw (r'.append (.one hy)) rfl⟩
          rw [r'.length]; exact Nat.lt_of_lt_of_le hl line_most
        · exact False.elim hw
      · exact False.elim hw
  | _ => exact False.elim hw
theorem mt_popF : MtM X "list.pop" (fun x xs H Q => rMf g .pop x xs H Q) := by
  intro pins s σ H x xs v us Q I rx rs h
  obtain ⟨ι, μ, d, ds, S, h1, h2, hw⟩ := h
  cases d with
  | loc l =>
    match ds, h2, hw with
    | _ :: _, _, hw => exact False.elim hw
    | [], h2, hw =>
      obtain rfl : xs = [] := h2
      have hw : wpR (match μ[l]? with
        | some (.lst xs) => match xs[xs.length - 1]? with
          | some y => .ok y (μ.set l (.lst xs.dropLast))
          | none => .stuck
        | _ => .stuck) (OkV g ι H Q) anyE := hw
      split at hw
      · rename_i zs e0
        split at hw
        · rename_i y e1
          obtain ⟨a, vs, rfl, hi, ha, r'⟩ := RepL.sqL S h1 e0
          obtain ⟨w, e2, rw'⟩ := r'.get e1
          exact mt_pop pins s σ H _ _ v us Q I rx rs ⟨a, vs, w, rfl, rfl, ha, by rw [r'.length]; exact e2, OkV.setl S hi (.lst ha) hw r'.dropLast rw'⟩
        · exact False.elim hw
      · exact False.elim hw
  | _ => exact False.elim hw
theorem mt_popAtF : MtM X "list.pop" (fun x xs H Q => rMf g .popAt x xs H Q) := by
  intro pins s σ H x xs v us Q I rx rs h
  obtain ⟨ι, μ, d, ds, S, h1, h2, hw⟩ := h
  cases d with
  | loc l =>
    match ds, h2, hw with
    | [], _, hw => exact False.elim hw
    | e :: _ :: _, _, hw => cases e <;> exact False.elim hw
    | [e], h2, hw =>
      obtain ⟨y, r, rfl, hy, hr⟩ := h2
      obtain rfl : r = [] := hr
      cases e with
      | int i =>
        obtain rfl := hy
        have hw : wpR (match μ[l]? with
          | some (.lst xs) => match pyIx xs.length i with
            | some k => match xs[k]? with
              | some y => if -(2 ^ 62) ≤ i ∧ i < 2 ^ 62 then .ok y (μ.set l (.lst (xs.eraseIdx k))) else .stuck
              | none => .stuck
            | none => .stuck
          | _ => .stuck) (OkV g ι H Q) anyE := hw
        split at hw
        · rename_i zs e0
          split at hw
          · rename_i k e1
            split at hw
            · rename_i y e2
              split at hw
              · rename_i hb
                obtain ⟨a, vs, rfl, hi, ha, r'⟩ := RepL.sqL S h1 e0
                obtain ⟨w, e3, rw'⟩ := r'.get e2
                refine mt_popAt pins s σ H _ _ v us Q I rx rs ⟨a, vs, i, k, w, rfl, rfl, ha, by omega, by omega, ?_, e3, OkV.setl S hi (.lst ha) hw (r'.erase k) rw'⟩
                rw [r'.length]
                exact (ixN_seq (show ixN zs.length i = some k from e1)).1
              · exact False.elim hw
            · exact False.elim hw
          · exact False.elim hw
        · exact False.elim hw
      | _ => exact False.elim hw
  | _ => exact False.elim hw
theorem mt_extendF : MtM X "list.extend" (rMf g .extend) := by
  intro pins s σ H x xs v us Q I rx rs h
  obtain ⟨ι, μ, d, ds, S, h1, h2, hw⟩ := h
  cases d with
  | loc l =>
    match ds, h2, hw with
    | [], _, hw => exact False.elim hw
    | e :: _ :: _, _, hw => cases e <;> exact False.elim hw
    | [e], h2, hw =>
      obtain ⟨y, r, rfl, hy, hr⟩ := h2
      obtain rfl : r = [] := hr
      cases e with
      | loc k =>
        have hw : wpR (match μ[l]?, μ[k]? with
          | some (.lst xs), some (.lst ys) => if xs.length + ys.length ≤ mostLen ∧ l ≠ k then .ok .non (μ.set l (.lst (xs ++ ys))) else .stuck
          | _, _ => .stuck) (OkV g ι H Q) anyE := hw
        split at hw
        · rename_i zs ws e0 e1
          split at hw
          · rename_i hl
            obtain ⟨a, vs, rfl, hi, ha, r1⟩ := RepL.sqL S h1 e0
            obtain ⟨b, vs2, rfl, _, hb, r2⟩ := RepL.sqL S hy e1
            refine mt_extend pins s σ H _ _ v us Q I rx rs ⟨a, b, vs, vs2, rfl, rfl, ha, hb, ?_, OkV.setl S hi (.lst ha) hw (r1.append r2) rfl⟩
            rw [r1.length, r2.length]; exact Nat.le_trans hl.1 line_most
          · exact False.elim hw
        · exact False.elim hw
      | _ => exact False.elim hw
  | _ => exact False.elim hw
theorem strsOf_rep {ι : List Addr} {H : Hp} : ∀ {ds : List D} {vs : List V} {ts : List Txt}, RepL g ι H ds vs → strsOf ds = some ts → vs = (ts.map S2).map V.str
  | [], _, _, h, e => by cases e; rw [show _ = [] from h]; rfl
  | d :: ds, _, _, h, e => by
    obtain ⟨v, r, rfl, h1, h2⟩ := h
    cases d with
    | str s =>
      rw [strsOf] at e
      obtain ⟨ts, e1, rfl⟩ := Option.map_eq_some_iff.mp e
      obtain rfl := h1
      rw [strsOf_rep h2 e1]
      rfl
    | _ => cases e
theorem join_eqS (sep : Txt) : ∀ ts : List Txt, PySem.Str.join (S2 sep) (ts.map S2) = S2 (joinT sep ts)
  | [] => rfl
  | [a] => rfl
  | a :: b :: r => by
    have ih := join_eqS sep (b :: r)
    show S2 a ++ S2 sep ++ PySem.Str.join (S2 sep) ((b :: r).map S2) = _
    rw [ih, S2_app, S2_app, List.append_assoc]
    rfl
theorem sumLen_le (sep : Txt) : ∀ ts : List Txt, (((ts.map S2).map (·.length)).sum + ((ts.map S2)).length * (S2 sep).length) = sumLen sep ts
  | [] => by simp [sumLen]
  | a :: r => by
    have ih := sumLen_le sep r
    simp only [List.map_cons, List.sum_cons, List.length_cons, S2_len, sumLen, List.foldr_cons] at ih ⊢
    rw [← ih, Nat.add_mul]
    omega
theorem mt_joinF (hK : X.K = g.K) : MtR X "str.join" (rMf g .join) := by
  intro pins s σ H x xs v us Q I rx rs h
  obtain ⟨ι, μ, d, ds, S, h1, h2, hw⟩ := h
  cases d with
  | str sep =>
    match ds, h2, hw with
    | [], _, hw => exact False.elim hw
    | _ :: _ :: _, _, hw => exact False.elim hw
    | [e], h2, hw =>
      obtain ⟨y, r, rfl, hy, hr⟩ := h2
      obtain rfl : r = [] := hr
      obtain rfl := h1
      have hw : wpR (match rowF e μ with
        | some xs => match strsOf xs with
          | some ts => if sumLen sep ts ≤ mostLen then .ok (.str (joinT sep ts)) μ else .stuck
          | none => .stuck
        | none => .stuck) (OkV g ι H Q) anyE := hw
      split at hw
      · rename_i zs e0
        split at hw
        · rename_i ts e1
          split at hw
          · rename_i hl
            obtain ⟨a, vs, rfl, sq, r', _, _⟩ := rowF_at S hy e0
            rw [strsOf_rep r' e1] at sq
            refine mt_join pins s σ H _ _ v us Q I rx rs ⟨S2 sep, a, ts.map S2, rfl, rfl, by rw [hK]; exact sq, ?_, ?_⟩
            · rw [sumLen_le]; exact Nat.le_trans hl (by decide)
            · rw [TL.join_eq, join_eqS]; exact OkV.same S hw rfl
          · exact False.elim hw
        · exact False.elim hw
      · exact False.elim hw
  | _ => exact False.elim hw

theorem signAt_some {c : Nat} {s : Txt} {i : Nat} (h : signAt c s = some i) : s[i]? = some c ∧ ∀ j, j < i → s[j]? ≠ some c := by
  unfold signAt at h
  obtain ⟨h1, h2, h3⟩ := List.findIdx?_eq_some_iff_getElem.mp h
  refine ⟨?_, fun j hj e => ?_⟩
  · rw [List.getElem?_eq_getElem h1]
    simpa using h2
  · have := h3 j hj
    obtain ⟨hl, e'⟩ := List.getElem?_eq_some_iff.mp e
    simp [e'] at this
theorem index0_sign {c : Nat} {s : Txt} {i : Nat} (h : signAt c s = some i) : Txt.index0 (S2 s) (S2 [c]) = some i := by
  obtain ⟨h1, h2⟩ := signAt_some h
  have at_ : ∀ k, StrLaws.At (S2 s) (S2 [c]) (S2 s).length k ↔ s[k]? = some c := fun k => by
    have := StrLaws.subAt_one (S2 s) c k
    rw [S2_cps] at this
    exact this
  unfold Txt.index0
  rcases StrLaws.occ_head (S2 s) (S2 [c]) 1 (Nat.le_refl _) with ⟨e, hn⟩ | ⟨j, r, e, ha, hn⟩
  · exact absurd ((at_ i).mpr h1) (hn i)
  · rw [e]
    show some j = some i
    congr 1
    rcases Nat.lt_trichotomy i j with q | q | q
    · exact absurd ((at_ i).mpr h1) (hn i q)
    · exact q.symm
    · exact absurd ((at_ j).mp ha) (h2 j q)
theorem mt_indexSF : MtR X "str.index" (fun x xs H Q => (∃ s, x = V.str s) ∧ rMf g .index x xs H Q) := by
  intro pins s σ H x xs v us Q I rx rs h
  obtain ⟨⟨z, rfl⟩, ι, μ, d, ds, S, h1, h2, hw⟩ := h
  cases d with
  | str t =>
    match ds, h2, hw with
    | [], _, hw => exact False.elim hw
    | e :: f :: r, _, hw =>
      cases e with
      | str q =>
        rcases q with _ | ⟨c, _ | ⟨c2, q⟩⟩
        · exact False.elim hw
        · exact False.elim hw
        · exact False.elim hw
      | _ => exact False.elim hw
    | [e], h2, hw =>
      obtain ⟨y, r, rfl, hy, hr⟩ := h2
      obtain rfl : r = [] := hr
      cases e with
      | str q =>
        match q, hy, hw with
        | [], _, hw => exact False.elim hw
        | _ :: _ :: _, _, hw => exact False.elim hw
        | [c], hy, hw =>
          obtain rfl := hy
          have hw : wpR (match signAt c t with
            | some i => if t.length ≤ mostLen then .ok (.int i) μ else .stuck
            | none => .stuck) (OkV g ι H Q) anyE := hw
          split at hw
          · rename_i i e1
            split at hw
            · have h0 := index0_sign e1
              unfold Txt.index0 at h0
              cases eo : Builtin.Str.occurrences (S2 t) (S2 [c]) 0 (S2 t).length 1 with
              | nil => rw [eo] at h0; cases h0
              | cons j rr =>
                rw [eo] at h0
                cases h0
                cases h1
                exact mt_sindex pins s σ H _ _ v us Q I rx rs ⟨_, _, i, rr, rfl, rfl, eo, OkV.same S hw rfl⟩
            · exact False.elim hw
          · exact False.elim hw
      | _ => exact False.elim hw
  | tup _ => obtain ⟨a, vs, e, _⟩ := h1; cases e
  | ftup _ => obtain ⟨a, vs, o, e, _⟩ := h1; cases e
  | ktp _ => obtain ⟨a, vs, e, _⟩ := h1; cases e
  | rol _ => obtain ⟨a, vs, e, _⟩ := h1; cases e
  | loc _ => obtain ⟨a, e, _⟩ := h1; cases e
  | cst _ => obtain ⟨e, _⟩ := h1; cases e
  | _ => cases h1

/-! ### stores -/
theorem OkU.set {ι : List Addr} {H : Hp} {μ : Store} {Q : Hp → Prop} {l : Nat} {a : Addr} {u : HO} {o : PL.Obj} (S : Sim g ι μ H) (ha : ι[l]? = some a) (nf : NFz H a) (h : OkU g ι H Q () (μ.set l o)) (ho : ∀ e : Ext ι H ι (upd H a u), ObjR g ι (upd H a u) o a) : Q (upd H a u) :=
  have e := ext_set S ha nf u
  h ι _ e (S.set ha nf (ho e))
def rSet (g : Gb) : TSet := fun o i v H Q => ∃ ι μ d1 d2 d3, Sim g ι μ H ∧ Rep g ι H d1 o ∧ Rep g ι H d2 i ∧ Rep g ι H d3 v ∧ wpR (setF d1 d2 d3 μ) (OkU g ι H Q) anyE
theorem set_F (hu : X.A.units + 70 < cLine) : PSet X (rSet g) := by
  intro pins s σ H o i v ov iv u Q I ro ri rv h
  obtain ⟨ι, μ, d1, d2, d3, S, h1, h2, h3, hw⟩ := h
  cases d1 with
  | loc l =>
    obtain ⟨a, rfl, ha⟩ := h1
    unfold setF at hw
    simp only at hw
    split at hw
    · rename_i xs e0
      obtain ⟨vs, q1, q2⟩ := S.ob l _ a e0 ha
      split at hw
      · rename_i k
        split at hw
        · rename_i j e1
          obtain rfl := h2
          refine set_list pins s σ H _ _ _ ov iv u Q I ro ri rv ⟨a, vs, k, j, rfl, rfl, q1, ?_, OkU.set S ha (.lst q1) hw fun e => ⟨_, upd_same, e.repL _ _ (q2.set j h3)⟩⟩
          rw [q2.length]; exact e1
        · exact False.elim hw
      · exact False.elim hw
    · rename_i kvs e0
      obtain ⟨vs, q1, q2⟩ := S.ob l _ a e0 ha
      split at hw
      · rename_i k e1
        split at hw
        · rename_i hl
          have ek := key_rep h2 e1
          subst ek
          refine L2.set_dict (by omega) pins s σ H _ _ _ ov iv u Q I ro ri rv ⟨a, _, rfl, .inl ⟨vs, K2 k, q1, rfl, ?_, rfl⟩, OkU.set S ha (.dK q1) hw fun e => ⟨_, upd_same, e.repKV _ _ (RepKV.put (fun _ _ => K2_inj) q2 h3)⟩⟩
          rw [q2.length]; exact Nat.lt_of_lt_of_le hl line_most
        · exact False.elim hw
      · exact False.elim hw
    · rename_i kvs e0
      obtain ⟨vs, q1, q2⟩ := S.ob l _ a e0 ha
      split at hw
      · rename_i ks
        split at hw
        · rename_i k e1
          split at hw
          · rename_i hl
            obtain ⟨b, ws, rfl, hb, rw'⟩ := h2
            rw [keys_rep rw' e1] at hb
            refine L2.set_dict (by omega) pins s σ H _ _ _ ov iv u Q I ro ri rv ⟨a, _, rfl, .inr ⟨vs, Ks2 k, b, q1, rfl, hb, ?_, rfl⟩, OkU.set S ha (.dT q1) hw fun e => ⟨_, upd_same, e.repKV _ _ (RepKV.put (fun _ _ => Ks2_inj) q2 h3)⟩⟩
            rw [q2.length]; exact Nat.lt_of_lt_of_le hl line_most
          · exact False.elim hw
        · exact False.elim hw
      · exact False.elim hw
    · exact False.elim hw
  | _ => exact False.elim hw

/-! ### truth, isinstance -/
theorem truth_F {ι : List Addr} {H : Hp} {μ : Store} {d : D} {v : V} {Q : Bool → Hp → Prop} (S : Sim g ι μ H) (r : Rep g ι H d v) (hw : wpR (truthF d μ) (OkB g ι H Q) anyE) : ∃ k, TruV g.K v H k ∧ Q k H := by
  cases d with
  | non => obtain rfl := r; exact ⟨false, rfl, hw ι H (Ext.refl _ _) S⟩
  | bl b => obtain rfl := r; exact ⟨b, rfl, hw ι H (Ext.refl _ _) S⟩
  | int i => obtain rfl := r; exact ⟨_, rfl, hw ι H (Ext.refl _ _) S⟩
  | str s =>
    obtain rfl := r
    have hw : wpR (if s.length ≤ mostLen then .ok (!s.isEmpty) μ else .stuck) (OkB g ι H Q) anyE := hw
    split at hw
    · rename_i hl
      have q : Q (!s.isEmpty) H := hw ι H (Ext.refl _ _) S
      refine ⟨!s.isEmpty, ⟨by rw [S2_len]; exact Nat.le_trans hl line_most, ?_⟩, q⟩
      rw [S2_len]
      cases s with
      | nil => rfl
      | cons a t =>
        symm
        simp only [List.length_cons, List.isEmpty_cons, Bool.not_false]
        rw [bne_iff_ne]; omega
    · exact False.elim hw
  | tup xs =>
    obtain ⟨a, vs, rfl, ha, r'⟩ := r
    have q : Q (!xs.isEmpty) H := hw ι H (Ext.refl _ _) S
    refine ⟨!xs.isEmpty, .inr (.inl ⟨vs, SqT.of ha, ?_⟩), q⟩
    have := r'.length
    cases xs <;> cases vs <;> simp_all
  | loc l =>
    have hw : wpR (match μ[l]? with
      | some (.lst xs) => .ok (!xs.isEmpty) μ
      | _ => .stuck) (OkB g ι H Q) anyE := hw
    split at hw
    · rename_i xs e0
      obtain ⟨a, vs, rfl, _, ha, r'⟩ := RepL.sqL S r e0
      have q : Q (!xs.isEmpty) H := hw ι H (Ext.refl _ _) S
      refine ⟨!xs.isEmpty, .inl ⟨vs, SqL.of ha, ?_⟩, q⟩
      have := r'.length
      cases xs <;> cases vs <;> simp_all
    · exact False.elim hw
  | _ => exact False.elim hw
def tyName : Ty → String
  | .int => "int"
  | .str => "str"
  | .bool => "bool"
  | .tuple => "tuple"
  | .list => "list"
def rIs (g : Gb) (t : Ty) : List V → Hp → VK → Prop := fun xs H Q => ∃ x, xs = [x, .ty (tyName t)] ∧ ∃ ι μ d, Sim g ι μ H ∧ Rep g ι H d x ∧ wpR (isiF d t μ) (OkB g ι H fun b H' => Q (.bl b) H') anyE
theorem call_isiF (hK : X.K = g.K) (t : Ty) : CallR X (.builtin "isinstance") (rIs g t) := by
  intro pins s σ H xs us Q I r h
  obtain ⟨x, rfl, ι, μ, d, S, h1, hw⟩ := h
  have fin : ∀ (tv : String) (b : Bool), TyX X.K H x (.type tv) → kitB tv (tyName t) = some b → Q (.bl b) H → wpAny (model X.prog X.w) X.A (call (.builtin "isinstance") us) (EP X pins σ Q) X.xe s :=
    fun tv b ty kb q => call_isi pins s σ H _ us Q I r ⟨x, _, _, _, b, rfl, .ty _, ty, kit_ty kb, q⟩
  cases d with
  | non => obtain rfl := h1; exact fin "NoneType" false (.base .non) (by cases t <;> decide +kernel) (hw ι H (Ext.refl _ _) S)
  | bl b => obtain rfl := h1; exact fin "bool" _ (.base (.bl b)) (by cases t <;> decide +kernel) (hw ι H (Ext.refl _ _) S)
  | int i => obtain rfl := h1; exact fin "int" _ (.base (.int i)) (by cases t <;> decide +kernel) (hw ι H (Ext.refl _ _) S)
  | str z => obtain rfl := h1; exact fin "str" _ (.base (.str _)) (by cases t <;> decide +kernel) (hw ι H (Ext.refl _ _) S)
  | tup ys =>
    obtain ⟨a, vs, rfl, ha, r'⟩ := h1
    exact fin "tuple" _ (.base (.tup ha)) (by cases t <;> decide +kernel) (hw ι H (Ext.refl _ _) S)
  | ftup ys =>
    obtain ⟨a, vs, o, rfl, ha, _, r'⟩ := h1
    exact fin "tuple" _ (.fTuple ha) (by cases t <;> decide +kernel) (hw ι H (Ext.refl _ _) S)
  | rol ys =>
    obtain ⟨a, vs, rfl, ha, r'⟩ := h1
    rcases ha with ⟨o, ha, _⟩ | ⟨o, its, n, h1, h2, _⟩
    · exact fin "list" _ (.base (.frz ha)) (by cases t <;> decide +kernel) (hw ι H (Ext.refl _ _) S)
    · exact fin "list" _ (.kList (by rw [hK]; exact h1) h2) (by cases t <;> decide +kernel) (hw ι H (Ext.refl _ _) S)
  | loc l =>
    have hw : wpR (match μ[l]? with
      | some (.lst _) => .ok (t == .list) μ
      | _ => .stuck) (OkB g ι H fun b H' => Q (.bl b) H') anyE := hw
    split at hw
    · rename_i ys e0
      obtain ⟨a, vs, rfl, _, ha, r'⟩ := RepL.sqL S h1 e0
      exact fin "list" _ (.base (.lst ha)) (by cases t <;> decide +kernel) (hw ι H (Ext.refl _ _) S)
    · exact False.elim hw
  | _ => exact False.elim hw
end
end PL
end
section
set_option Elab.async false
set_option linter.all false
set_option autoImplicit false
set_option maxRecDepth 100000
set_option maxHeartbeats 400000
/-! SoundF: tuples known to the object, whose methods are called; the first place of an equal one. -/
namespace PL
open PySem PySem.Spec PyProof.Rows L2
section
variable {X : Cx} {g : Gb}
theorem call_tupleFz (hK : X.K = g.K) : CallR X (.type "tuple") (rBf g .tupleF) := by
  intro pins s σ H xs us Q I r h
  obtain ⟨ι, μ, d, x, rfl, S, h1, hw⟩ := h
  have hw : wpR (match listF d μ with
    | some xs => .ok (.ftup xs) μ
    | none => .stuck) (OkV g ι H Q) anyE := hw
  split at hw
  · rename_i ys e0
    obtain ⟨a, vs, rfl, sq, r'⟩ := listF_at S h1 e0
    obtain ⟨u, rfl, ru⟩ := vals1 r
    obtain rfl : u = Value.ref a := ru
    obtain ⟨its, rv, pl, hz⟩ := I.list (show SqL X.K H a vs by rw [hK]; exact sq)
    have hlen := rv.length
    refine call_tuple_list pl.isList (fun h' kp => ?_) (by simp only [List.size_toArray] <;> omega)
    have I1 : L2.Inv X pins σ H { s with heap := h' } := I.kept (t' := s.toks) kp
    let ob : PySem.Obj := { cls := .type "tuple", data := .seq its.toArray }
    have hp : H h'.objs.size = none := I1.hok.fresh (Nat.le_refl _)
    have at_ : (h'.push ob).get? h'.objs.size = some ob := Heap.get?_push_size _ rfl
    have I2 : L2.Inv X pins σ (upd H h'.objs.size (.frz ob (.tup vs))) { s with heap := h'.push ob } :=
      I1.laid (t' := s.toks) (fun b o e => Heap.get?_push_of_some _ e) (Nat.le_refl _) ⟨at_, hz, its, rv, IsTup.new _ _⟩
    have ex := ext_tup S hp (.frz ob (.tup vs))
    exact ⟨.ref h'.objs.size, _, I2, rfl, hw ι _ _ ex (S.tup hp _) ⟨_, vs, ob, rfl, upd_same, ⟨rfl, rfl, S.notin hp⟩, ex.repL _ _ r'⟩⟩
  · exact False.elim hw
theorem idx_py {d : D} (p : D.plain d = true) : ∀ {ys : List D} {i : Nat}, D.plainL ys = true → (ys.findIdx? fun z => deq z d) = some i → ∃ z, (toPyL ys)[i]? = some z ∧ PyData.eqv z (toPy d) = true ∧ ∀ (m : Nat) z', m < i → (toPyL ys)[m]? = some z' → PyData.eqv z' (toPy d) = false := by
  have at_ : ∀ {ys : List D} {m : Nat}, (toPyL ys)[m]? = (ys[m]?).map toPy := by
    intro ys
    induction ys with
    | nil => intro m; rfl
    | cons y ys ih =>
      intro m
      cases m with
      | zero => rfl
      | succ m => rw [toPyL]; exact ih
  have pl : ∀ {ys : List D} {m : Nat} {y : D}, D.plainL ys = true → ys[m]? = some y → D.plain y = true := by
    intro ys
    induction ys with
    | nil => intro m y _ e; cases e
    | cons y ys ih =>
      intro m z h e
      rw [D.plainL, Bool.and_eq_true] at h
      cases m with
      | zero => cases e; exact h.1
      | succ m => exact ih h.2 e
  intro ys i hp h
  obtain ⟨hi, h1, h2⟩ := List.findIdx?_eq_some_iff_getElem.mp h
  refine ⟨toPy ys[i], by rw [at_, List.getElem?_eq_getElem hi]; rfl, ?_, fun m z' hm e => ?_⟩
  · rw [← deq_py _ _ (pl hp (List.getElem?_eq_getElem hi)) p]; exact h1
  · rw [at_] at e
    have hml : m < ys.length := by omega
    rw [List.getElem?_eq_getElem hml] at e
    cases e
    rw [← deq_py _ _ (pl hp (List.getElem?_eq_getElem hml)) p]
    simpa using h2 m hm
theorem mt_indexLF (hK : X.K = g.K) (hu : X.A.units + 70 < cLine) : MtR X "list.index" (rMf g .indexL) := by
  intro pins s σ H x xs v us Q I rx rs h
  obtain ⟨ι, μ, d, ds, S, h1, h2, hw⟩ := h
  match ds, h2, hw with
  | [], _, hw => exact False.elim hw
  | _ :: _ :: _, _, hw => exact False.elim hw
  | [d'], h2, hw =>
    obtain ⟨y, r, rfl, hy, hr⟩ := h2
    obtain rfl : r = [] := hr
    have hw : wpR (match listF d μ with
      | some xs => if (D.eqOk d' && D.eqOk (.tup xs)) = true then (match xs.findIdx? fun z => deq z d' with
        | some i => .ok (.int i) μ
        | none => .stuck) else .stuck
      | none => .stuck) (OkV g ι H Q) anyE := hw
    split at hw
    · rename_i ys e0
      split at hw
      · rename_i he
        rw [Bool.and_eq_true] at he
        split at hw
        · rename_i i ei
          obtain ⟨a, vs, rfl, sq, r'⟩ := listF_at S h1 e0
          have p1 := eqOk_plain he.1
          have p2 := eqOk_plain he.2
          have p3 : D.plainL ys = true := by have := p2.1; rw [D.plain] at this; exact this
          obtain ⟨z, q1, q2, q3⟩ := idx_py p1.1 p3 ei
          have sh : SeqAt.shaped (.list (toPyL ys)) = true := by have := eqOk_shaped he.2; rw [toPy] at this; exact this
          exact mt_indexD (by omega) pins s σ H _ _ v us Q I rx rs ⟨a, y, toPy d', toPyL ys, i, z, rfl, rfl, .lst (by rw [hK]; exact sq) (dpL_of hK _ _ p3 r'), dp_of hK _ _ p1.1 hy, sh, eqOk_shaped he.1, q1, q2, q3, OkV.same S hw rfl⟩
        · exact False.elim hw
      · exact False.elim hw
    · exact False.elim hw
theorem mt_indexTF (hK : X.K = g.K) (hu : X.A.units + 70 < cLine) : MtR X "tuple.index" (rMf g .indexT) := by
  intro pins s σ H x xs v us Q I rx rs h
  obtain ⟨ι, μ, d, ds, S, h1, h2, hw⟩ := h
  cases d with
  | ftup ys =>
    have hw : wpR (match D.ftup ys, ds with
      | .ftup xs, [d'] => if D.eqOk d' && D.eqOk (.tup xs) then (match xs.findIdx? fun z => deq z d' with
        | some i => .ok (.int i) μ
        | none => .stuck) else .stuck
      | _, _ => .stuck) (OkV g ι H Q) anyE := hw
    match ds, h2, hw with
    | [], _, hw => exact False.elim hw
    | _ :: _ :: _, _, hw => exact False.elim hw
    | [d'], h2, hw =>
      obtain ⟨y, r, rfl, hy, hr⟩ := h2
      obtain rfl : r = [] := hr
      have hw : wpR (if (D.eqOk d' && D.eqOk (.tup ys)) = true then (match ys.findIdx? fun z => deq z d' with
        | some i => .ok (.int i) μ
        | none => .stuck) else .stuck) (OkV g ι H Q) anyE := hw
      split at hw
      · rename_i he
        rw [Bool.and_eq_true] at he
        split at hw
        · rename_i i ei
          obtain ⟨a, vs, o, rfl, ha, _, r'⟩ := id h1
          have p1 := eqOk_plain he.1
          have p2 := eqOk_plain he.2
          have p3 : D.plainL ys = true := by have := p2.1; rw [D.plain] at this; exact this
          obtain ⟨z, q1, q2, q3⟩ := idx_py p1.1 p3 ei
          have sh : SeqAt.shaped (.tuple (toPyL ys)) = true := by have := eqOk_shaped he.2; rw [toPy] at this; exact this
          obtain ⟨uy, rfl, ry⟩ := vals1 rs
          cases rx
          obtain ⟨its, rv, ⟨⟨cls, dd, data, sl⟩, ho, hc, n, hd⟩, hz⟩ := I.tuple (show SqT X.K H a vs from .inl (.inr ⟨o, ha⟩))
          simp only at hc hd
          subst hc hd
          obtain ⟨bs, r1⟩ := Dp.reads I _ _ _ (dp_of hK _ _ p1.1 hy) ry
          obtain ⟨as, h4⟩ := Dp.readsAll I (toPyL ys) vs its (dpL_of hK _ _ p3 r') rv
          have hxs : PyData.canLayAll0 (toPyL ys) = true := (py_layL ys p3).1
          have hn : its.length = (toPyL ys).length := SeqAt.ReadsAll.length _ its as h4
          have hmap : its.map (SeqAt.readOf s.heap) = toPyL ys := SeqAt.readsAll_map _ its as hxs h4
          have hj : i < its.toArray.size := by
            obtain ⟨hjd, _⟩ := List.getElem?_eq_some_iff.mp q1
            simp only [List.size_toArray]; omega
          have at_ : ∀ (m : Nat) (hm : m < its.toArray.size) (z' : PyData), (toPyL ys)[m]? = some z' → SeqAt.readOf s.heap its.toArray[m] = z' := by
            intro m hm z' hz'
            have hml : m < its.length := by simpa using hm
            rw [← hmap, List.getElem?_map, List.getElem?_eq_getElem hml] at hz'
            have e1 : SeqAt.readOf s.heap its[m] = z' := Option.some.inj hz'
            simpa using e1
          refine call_meets PySem.F.slot_tuple_index ⟨_, ho, rfl⟩ PySem.F.entry_tuple_index (PySem.F.args_tuple_index_2 _ _) (TI.tuple_indexAt a its.toArray n dd sl uy (fun u => PyData.eqv (SeqAt.readOf s.heap u) (toPy d')) i hj ?_ ?_)
            ⟨ho, SeqAt.items_eqAt (vs := its.toArray) (show ReadsAll s.heap its.toArray.toList (toPyL ys) as from h4) r1 hxs (SeqAt.canLay_of_shaped (eqOk_shaped he.1)) (room_in_shaped (eqOk_shaped he.1) (by omega)), ⟨.int (i : Nat), H, I.tok _, ⟨_, rfl⟩, OkV.same S hw rfl⟩⟩
          · show PyData.eqv (SeqAt.readOf s.heap its.toArray[i]) (toPy d') = true
            rw [at_ i hj z q1]; exact q2
          · intro m hm hmj
            have hmd : m < (toPyL ys).length := by simp only [List.size_toArray] at hm; omega
            show PyData.eqv (SeqAt.readOf s.heap its.toArray[m]) (toPy d') = false
            rw [at_ m hm _ (List.getElem?_eq_getElem hmd)]
            exact q3 m _ hmj (List.getElem?_eq_getElem hmd)
        · exact False.elim hw
      · exact False.elim hw
  | _ =>
    match ds, hw with
    | [], hw => exact False.elim hw
    | [_], hw => exact False.elim hw
    | _ :: _ :: _, hw => exact False.elim hw
/-- t.m(e), t known to its object -/
theorem pe_bmF {o e : Expr} {es : List Expr} {to : TE} {t : TA} {name : PySem.Str} {apos cpos : Pos} {id : String} {r : V → List V → Hp → VK → Prop} (slot : Slot "tuple" name id) (hty : typeOf (.builtin id) = pure (.type "method_descriptor")) (hm : MtR X id r) (ho : PE X o to) (ha : PA X (e :: es) t)
    (hbase : attributeBase o name X.env (eval o X.env) = eval o X.env)
    (hfew : ((backTo cpos (starEach (e :: es) X.env)).all (fun x => !x.1) && (backToKw cpos (keywordEach [] X.env)).all (fun x => x.1.isSome)
      && decide ((e :: es).length + ([] : List Keyword).length + (if ([] : List Keyword).isEmpty then 0 else 1) < 30)) = true)
    (hline : (apos.endLine == cpos.line) = true) (hs : starEach (e :: es) X.env = (false, eval e X.env) :: starEach es X.env) (hplain : (backTo cpos (starEach es X.env)).any (·.1) = false) :
    PE X (.Call (.Attribute o name apos) (e :: es) [] cpos) (fun σ H Q => to σ H fun x H1 => (∃ p ob xs, x = .ref p ∧ H1 p = some (.frz ob (.tup xs)) ∧ ob.cls = .type "tuple" ∧ ob.dict = none) ∧ t σ H1 fun xs H2 => r x xs H2 Q) := by
  refine ⟨fun pins s σ H Q I h => ?_⟩
  refine wpAny_Call_method_late hbase hfew hline rfl (thn (ho.run pins s σ H _ I h) fun v s1 hh => ?_)
  obtain ⟨x, H1, I1, r1, ⟨p, ob, ys, ex, hp, hc, hd⟩, q1⟩ := hh
  subst ex
  obtain rfl : v = Value.ref p := r1
  have at_ : s1.heap.get? p = some ob := (show ObjOk X.prog X.w H1 s1.heap p (.frz ob (.tup ys)) from I1.hok p _ hp).1
  refine ⟨"tuple", id, PySem.F.plainAttrs_tuple, slot, hty, ⟨ob, at_, hc⟩, fun a e => by cases e; exact ⟨ob, at_, hd⟩, ?_⟩
  have hA := ha.run cpos pins s1 σ H1 _ I1 q1
  rw [hs] at hA ⊢
  refine Calls.callWith_builtin (by show (false || (backTo cpos (starEach es X.env)).any (·.1)) = false; rw [hplain]; rfl) (Calls.evalArgs_plain ?_)
  exact thn hA fun us s2 ⟨vs, H2, I2, r2, q2⟩ => hm pins s2 σ H2 (.ref p) vs (.ref p) us Q I2 rfl r2 q2
end
end PL
end
section
set_option Elab.async false
set_option linter.all false
set_option autoImplicit false
set_option maxRecDepth 100000
set_option maxHeartbeats 2000000
/-! TryR: a try with several clauses, some of them with a name. -/
namespace PL
open PySem PySem.Spec PyProof.Rows L2
/-- one clause: its class, its name's slot, its suite -/
structure Cl where
  c : Value
  o : Option Nat
  ts : Addr → Value → Option Addr → TS
def goneD (i : Nat) (D : Ends) : Ends where
  nx := fun σ H => D.nx (σ.set i none) H
  rt := D.rt
  bk := fun σ H => D.bk (σ.set i none) H
  ct := fun σ H => D.ct (σ.set i none) H
def Cl.go (q : Cl) (cls : Value) (d : Option Addr) (D : Ends) (σ : L2.St) (H : Hp) : Prop := ∀ a, H a = none → match q.o with
  | none => q.ts a cls d D σ H
  | some i => q.ts a cls d (goneD i D) (σ.set i (some (.ref a))) H
def wCl (K : PySem.W.Frag) (Wo : WX) (D : Ends) : List Cl → WX
  | [] => Wo
  | q :: r => fun cls d σ H => (PySem.W.exmOne K cls q.c = some true ∧ q.go cls d D σ H) ∨ (PySem.W.exmOne K cls q.c = some false ∧ wCl K Wo D r cls d σ H)
/-- a clause's suite holds -/
def SuiteOk (X : Cx) (l : List Stmt) (ts : Addr → Value → Option Addr → TS) : Prop :=
  ∀ (a : Addr) (oe : PySem.Obj) (cls : Value) (d : Option Addr) (pn : List (Addr × PySem.Obj)), Zc cls d oe → (∃ vs, oe.data = .fields vs) → PSs (X.suite a ((a, oe) :: pn)) l (ts a cls d)
inductive ClOk (X : Cx) : ExceptHandler → Cl → Prop
  | bare {x : PySem.Str} {q : Cl} {b : Stmt} {l : List Stmt} {p p' : Pos} : Names X x q.c → q.o = none → SuiteOk X (b :: l) q.ts → ClOk X (.ExceptHandler (some (.Name x p)) none (b :: l) p') q
  | named {x n : PySem.Str} {i : Nat} {q : Cl} {b : Stmt} {l : List Stmt} {p p' : Pos} : Names X x q.c → q.o = some i → X.N[i]? = some n → X.env.kindOf n = some .local → SuiteOk X (b :: l) q.ts → ClOk X (.ExceptHandler (some (.Name x p)) (some n) (b :: l) p') q
inductive ClsOk (X : Cx) : List ExceptHandler → List Cl → Prop
  | nil : ClsOk X [] []
  | cons {h : ExceptHandler} {q : Cl} {hs : List ExceptHandler} {qs : List Cl} : ClOk X h q → ClsOk X hs qs → ClsOk X (h :: hs) (q :: qs)
/-- what is caught, on its way -/
structure Held (X : Cx) (pins : List (Addr × PySem.Obj)) (a : Addr) (B : Heap) (sI s' : Shared) (σ : L2.St) (H : Hp) (cls : Value) (d : Option Addr) (h3 : Heap) : Prop where
  J : Inv X pins σ H sI
  nb : ∀ b o, sI.heap.get? b = some o → b ∉ frs X.stack → B.get? b = some o
  up : sI.heap.UpToSlots h3
  na : H a = none
  os : s'.os = sI.os
  ag : AllBare s'.gens
  nL : a ≠ X.env.locals
  nF : a ∉ X.fs
  fl : HandSPX.FlyingZ B (X.env :: X.outer) a (Zc cls d) h3
section
variable {X : Cx} {pins : List (Addr × PySem.Obj)} {a : Addr} {B : Heap} {sI s' : Shared} {σ : L2.St} {H : Hp} {cls : Value} {d : Option Addr} {h3 : Heap} {Wo : WX} {D : Ends}
theorem suite_end {a : Addr} {oe : PySem.Obj} {f : PySem.Flow} {s6 : Shared} {pn : List (Addr × PySem.Obj)} (ok : X.Ok) (z : SP (X.suite a ((a, oe) :: (X.pn ++ pins))) [] D f s6) : SP X pins D f s6 := by
  cases f with
  | ret u => exact let ⟨v, σ6, H6, S6, r6, q⟩ := z; ⟨v, σ6, H6, Inv.unsuite S6 ok, r6, q⟩
  | next => exact let ⟨σ6, H6, S6, q⟩ := z; ⟨σ6, H6, Inv.unsuite S6 ok, q⟩
  | brk => exact let ⟨σ6, H6, S6, q⟩ := z; ⟨σ6, H6, Inv.unsuite S6 ok, q⟩
  | cont => exact let ⟨σ6, H6, S6, q⟩ := z; ⟨σ6, H6, Inv.unsuite S6 ok, q⟩
theorem Held.next (L : Held X pins a B sI s' σ H cls d h3) (hf : X.env.frame = some X.env.locals) (hs : X.stack = X.env :: X.outer) (hN : X.N.Nodup) (tk : Takes X Wo) : ∀ {hds : List ExceptHandler} {l : List Cl}, ClsOk X hds l → wCl X.K Wo D l cls d σ H →
    wpAny (model X.prog X.w) X.A (handleBy (.ref a) X.env hds) (SP X pins D) X.xe { s' with heap := h3 } := by
  intro hds l hk
  have J3 : Inv X pins σ H { s' with heap := h3 } := L.J.landed L.nb L.fl.1 L.up L.os L.ag
  obtain ⟨o3, v3, g3, z3, d3⟩ := L.fl.there
  have S3 := J3.suite g3 d3 L.na L.nL L.nF
  have ok := L.J.ok
  have look : PySem.W.Looks (model X.prog X.w) h3 (typeOf (.ref a)) cls := fun A' Q' E' s'' k' q' => wpAny_typeOf_ref (k' _ _ g3) (by rw [z3.1]; exact q')
  have name : ∀ {x : PySem.Str} {p : Pos} {c : Value} {Q : Value → Shared → Prop} {E : Value → Shared → Prop}, Names X x c → Q c { s' with heap := h3 } →
      wpAny (model X.prog X.w) (X.A.mark (some (.ref a))) (eval (.Name x p) X.env) Q E { s' with heap := h3 } := by
    intro x p c Q E hc q
    rcases hc with ⟨hg, hd, hm | ⟨hm, hv, hn⟩⟩
    · exact ld_glob (X := X.suite a ((a, o3) :: (X.pn ++ pins))) S3 hg hm q hd
    · exact ld_blt (X := X.suite a ((a, o3) :: (X.pn ++ pins))) S3 hg hm hv q hn hd
  induction hk with
  | nil =>
    intro w
    refine wpAny_handleBy_nil ?_
    obtain ⟨_, _, _, oe, vs, T, _, _, he, _, hd, h1, _⟩ := id L.fl
    unfold PySem.passOn
    refine wpAny_bind (wpAny_field he hd h1 ?_)
    rw [if_neg (show ¬ ((Value.ref T == Value.none) = true) from by simp)]
    have out : wpAny (model X.prog X.w) X.A (setFlight (.ref a) X.env.frame) (fun _ s4 => wpAny (model X.prog X.w) X.A (throw (.ref a) : Sem PySem.Flow) (SP X pins D) X.xe s4) X.xe { s' with heap := h3 } := by
      rw [hf]
      exact HandSPX.setFlight_upZ L.fl fun h4 fly u4 => wpAny_throw (tk _ _ ⟨a, B, sI, pins, σ, H, cls, d, rfl, L.J, L.nb, L.up.trans u4, .inr (.inr (by rw [hs]; exact fly)), L.na, L.os, L.ag, w⟩)
    first
      | exact wpAny_bind out
      | exact wpAny_bind (wpAny_pure (wpAny_bind out))
  | @cons h q hs' qs hq _ ih =>
    intro w
    cases hq with
    | bare hc ho hsu =>
      refine wpAny_handleBy_cons (codeAny_handlers_test (name hc ?_)) (by intro z; cases z)
      rcases w with ⟨e, w⟩ | ⟨e, w⟩
      · refine (PySem.W.exm_one (M := model X.prog X.w) J3.kIn look e).here ?_
        refine codeAny_handlers_suite (HandSPX.lands_againZ L.fl fun h4 f4 u4 => ?_)
        obtain ⟨o4, v4, g4, z4, d4⟩ := f4.there
        have J4 : Inv X pins σ H { s' with heap := h4 } := L.J.landed L.nb f4.1 (L.up.trans u4) L.os L.ag
        have S4 := J4.suite g4 d4 L.na L.nL L.nF
        have w := w a L.na
        rw [ho] at w
        exact wpAny_mono ((hsu a o4 cls d (X.pn ++ pins) z4 ⟨_, d4⟩).run [] _ σ H D S4 w) (fun f s6 z => suite_end (pn := []) ok z) fun _ _ z => z.elim
      · refine (PySem.W.exm_one (M := model X.prog X.w) J3.kIn look e).here ?_
        exact ih w
    | @named x n i _ b l p p' hc ho hi hl hsu =>
      refine wpAny_handleBy_cons (codeAny_handlers_test (name hc ?_)) (by intro z; cases z)
      rcases w with ⟨e, w⟩ | ⟨e, w⟩
      · refine (PySem.W.exm_one (M := model X.prog X.w) J3.kIn look e).here ?_
        refine codeAny_handlers_suite_as (HandSPX.lands_againZ L.fl fun h4 f4 u4 => ?_)
        obtain ⟨o4, v4, g4, z4, d4⟩ := f4.there
        have J4 : Inv X pins σ H { s' with heap := h4 } := L.J.landed L.nb f4.1 (L.up.trans u4) L.os L.ag
        have S4 := J4.suite g4 d4 L.na L.nL L.nF
        have w := w a L.na
        rw [ho] at w
        refine store_ok (X := X.suite a ((a, o4) :: (X.pn ++ pins))) (v := .ref a) S4 hN hi (.inl hl) rfl (fun s5 S5 => ?_) (.inr hl)
        refine wpAny_mono ((hsu a o4 cls d (X.pn ++ pins) z4 ⟨_, d4⟩).run [] s5 _ H _ S5 w) (fun f s6 z => ?_) fun _ _ z => z.elim
        have z := suite_end (pn := []) ok z
        have bye : ∀ {σ6 : L2.St} {H6 : Hp} {Q : Shared → Prop}, Inv X pins σ6 H6 s6 → (∀ s7, Inv X pins (σ6.set i none) H6 s7 → Q s7) →
          wpAny (model X.prog X.w) X.A (do bindName X.env n .none; unbindBehindTheSuite X.env n p') (fun _ s7 => Q s7) X.xe s6 := fun S6 hq => gone_ok S6 hN hi hl hq
        cases f with
        | ret u => exact let ⟨v6, σ6, H6, S6, r6, q6⟩ := z; bye S6 fun s7 J7 => ⟨_, _, _, J7, r6, q6⟩
        | next => exact let ⟨σ6, H6, S6, q6⟩ := z; bye S6 fun s7 J7 => ⟨_, _, J7, q6⟩
        | brk => exact let ⟨σ6, H6, S6, q6⟩ := z; bye S6 fun s7 J7 => ⟨_, _, J7, q6⟩
        | cont => exact let ⟨σ6, H6, S6, q6⟩ := z; bye S6 fun s7 J7 => ⟨_, _, J7, q6⟩
      · refine (PySem.W.exm_one (M := model X.prog X.w) J3.kIn look e).here ?_
        exact ih w
/-- a try, its clauses -/
theorem ps_tryC {body : List Stmt} {h0 : ExceptHandler} {hds : List ExceptHandler} {l : List Cl} {pos : Pos} {tb : WX → TS} (hs : X.stack = X.env :: X.outer) (hf : X.env.frame = some X.env.locals) (hN : X.N.Nodup) (tk : Takes X Wo)
    (hb : ∀ (W : WX) (pn : List (Addr × PySem.Obj)) (xe : Value → Shared → Prop), Takes (X.tr pn xe) W → PassesOwn (model X.prog X.w) X.A X.env xe → PSs (X.tr pn xe) body (tb W))
    (hh : ClsOk X (h0 :: hds) l) : PS X (.Try body (h0 :: hds) [] [] pos) (fun D σ H => tb (wCl X.K Wo D l) D σ H) := by
  refine ⟨fun pins s σ H D I h => wpAny_Try_except ?_⟩
  have ok := I.ok
  have hfr : X.A.frames = some (X.env :: X.outer) := by rw [ok.frames, hs]
  let catch_ : Value → Shared → Prop := fun e s1 => wpAny (model X.prog X.w) X.A (noteFrame e X.env) (fun _ s2 => wpAny (model X.prog X.w) X.A (setFlight e none) (fun _ s3 => wpAny (model X.prog X.w) X.A (handleBy e X.env (h0 :: hds)) (SP X pins D) X.xe s3) X.xe s2) X.xe s1
  refine wpAny_mono ((hb (wCl X.K Wo D l) (X.pn ++ pins) catch_ (fun u s' xx => ?_) PassesOwn.looking).run [] s σ H D (I.toTry _) h) (fun f s1 z => ?_) fun e s1 z => z
  · obtain ⟨a, B, sI, pins', σ', H', cls, d, rfl, J', nb, up, sky, na, os, ag, w⟩ := xx
    have J : Inv X pins σ' H' sI := J'.ofTry ok
    have sky2 : Sky B (X.env :: X.outer) a (Zc cls d) X.env.locals s'.heap := by
      rw [← hs]
      exact sky
    show wpAny (model X.prog X.w) X.A (noteFrame (.ref a) X.env) _ _ _
    refine Sky.land Zc.steady hfr hf sky2 fun h3 fl3 u3 => ?_
    obtain ⟨o3, v3, g3, z3, d3⟩ := fl3.there
    have far : a ∉ frs (X.env :: X.outer) := fun hm => by
      obtain ⟨_, o', e', hnf⟩ := fl3.2.2.1.mem hm
      rw [g3] at e'
      cases e'
      exact hnf _ d3
    have H3 : Held X pins a B sI s' σ' H' cls d h3 := {
      J := J
      nb := nb
      up := up.trans u3
      na := na
      os := os
      ag := ag
      nL := fun e => far (List.mem_filterMap.mpr ⟨X.env, List.mem_cons_self, by rw [hf, e]⟩)
      nF := fun hm => by
        obtain ⟨e, he, q⟩ := List.mem_filterMap.mp hm
        exact far (List.mem_filterMap.mpr ⟨e, List.mem_cons_of_mem _ he, q⟩)
      fl := fl3 }
    exact H3.next hf hs hN tk hh w
  · cases f with
    | ret u => exact let ⟨v, σ', H', J', r, q⟩ := z; ⟨v, σ', H', J'.ofTry ok, r, q⟩
    | next => exact let ⟨σ', H', J', q⟩ := z; wpAny_execs_nil ⟨σ', H', J'.ofTry ok, q⟩
    | brk => exact let ⟨σ', H', J', q⟩ := z; ⟨σ', H', J'.ofTry ok, q⟩
    | cont => exact let ⟨σ', H', J', q⟩ := z; ⟨σ', H', J'.ofTry ok, q⟩
end
end PL
end
section
set_option Elab.async false
set_option linter.all false
set_option autoImplicit false
set_option maxRecDepth 100000
set_option maxHeartbeats 400000
/-! Sound5: the text checked against Mini; the readings of expressions. -/
namespace PL
open PySem PySem.Spec PyProof.Rows L2

/-- what is known of a text ahead of its walk -/
structure Stat where
  N : List PySem.Str
  fns : List (PySem.Str × Nat)
  gS : List (PySem.Str × Txt)
  gC : List (PySem.Str × Nat)
  bl : List PySem.Str
  /-- classes of errors that are raised: their numbers and their bases', their fields -/
  cls : List (PySem.Str × List Nat × List Nat)
  /-- classes that clauses name -/
  hcl : List (PySem.Str × Nat)
  fld : List (PySem.Str × Nat)
  /-- within an except suite; its error's slot -/
  hot : Bool
  err : Option Nat
def notErr (Γ : Stat) (i : Nat) : Bool := decide (Γ.err ≠ some i)

def visB (sc : Scope) (x : PySem.Str) : Bool := match sc.names.lookup x with
  | some .local => true
  | some .cell => true
  | some .free => true
  | _ => false
def locB (sc : Scope) (x : PySem.Str) : Bool := match sc.names.lookup x with
  | some .local => true
  | some .cell => true
  | _ => false
def glB (sc : Scope) (x : PySem.Str) : Bool := match sc.names.lookup x with
  | some .globalImplicit => true
  | _ => false
def okN (x : PySem.Str) : Bool := !(x == ("__debug__" : PySem.Str)) && !(x == ("__classdict__" : PySem.Str)) && !(x == ("__name__" : PySem.Str))
def opP : Op → Operator
  | .add => .Add
  | .sub => .Sub
  | .mul => .Mult
  | .fdiv => .FloorDiv
  | .mod => .Mod
  | .pow => .Pow
def cmP : Cm → CmpOp
  | .eq => .Eq
  | .ne => .NotEq
  | .lt => .Lt
  | .le => .LtE
  | .gt => .Gt
  | .ge => .GtE
  | .is => .Is
  | .isn => .IsNot
  | .inn => .In
  | .nin => .NotIn
def bfName : Bf → PySem.Str
  | .len => "len"
  | .abs => "abs"
  | .int => "int"
  | .str => "str"
  | .tuple => "tuple"
  | .list => "list"
  | .sorted => "sorted"
  | .bool => "bool"
  | .tupleF => "tuple"
def mfName : Mf → PySem.Str
  | .append => "append"
  | .pop => "pop"
  | .popAt => "pop"
  | .extend => "extend"
  | .join => "join"
  | .index => "index"
  | .get => "get"
  | .get2 => "get"
  | .indexL => "index"
  | .indexT => "index"
def mfCnt : Mf → Nat → Bool
  | .get, n => n == 1
  | .get2, n => n == 2
  | .indexT, n => decide (0 < n) && decide (n < 20)
  | _, n => decide (n < 20)
def tyStr : Ty → PySem.Str
  | .int => "int"
  | .str => "str"
  | .bool => "bool"
  | .tuple => "tuple"
  | .list => "list"
def bltOk (Γ : Stat) (sc : Scope) (x : PySem.Str) : Bool := glB sc x && okN x && decide (x ∈ Γ.bl)
def noSuper : Expr → Bool
  | .Call (.Name _ _) [] [] _ => false
  | _ => true
def keyIsC : PL.Key → Option Expr → Bool
  | .inr s, some (.Constant (.str x) _ _) => decide (x = S2 s)
  | .inl i, some (.Constant (.int j) _ _) => decide (i = j)
  | _, _ => false
def keysAreC : List PL.Key → List (Option Expr) → Bool
  | [], [] => true
  | k :: ks, e :: es => keyIsC k e && keysAreC ks es
  | _, _ => false
def ownOf (N : List PySem.Str) (own : List Nat) : List (PySem.Str × Nat) := own.map fun i => (N.getD i "", i)

def tOwn (t : T) (own : List Nat) : Bool := match t with
  | .nm i => own.contains i
  | .tp is => is.all fun i => own.contains i
  | .sb _ _ => true
section
variable (Γ : Stat)
def namesAre : List Nat → Scope → List Expr → Bool
  | [], _, [] => true
  | i :: is, sc, .Name x _ :: l => decide (Γ.N[i]? = some x) && locB sc x && notErr Γ i && namesAre is sc l
  | _, _, _ => false
mutual
def chkE : E → Scope → Expr → Bool
  | .v i, sc, .Name x _ => decide (Γ.N[i]? = some x) && visB sc x && okN x && notErr Γ i
  | .non, _, .Constant .none _ _ => true
  | .bl b, _, .Constant (.bool c) _ _ => b == c
  | .int i, _, .Constant (.int j) _ _ => decide (i = j)
  | .str s, _, .Constant (.str x) _ _ => decide (x = S2 s)
  | .glS _ s, sc, .Name x _ => glB sc x && okN x && decide ((x, s) ∈ Γ.gS)
  | .glC _ c, sc, .Name x _ => glB sc x && okN x && decide ((x, c) ∈ Γ.gC)
  | .tup es, sc, .Tuple l _ _ => chkEs es sc l
  | .lst es, sc, .List l _ => chkEs es sc l
  | .dnK, _, .Dict [] [] _ => true
  | .dnT, _, .Dict [] [] _ => true
  | .disp ks es, sc, .Dict keys vals _ => keysAreC ks keys && chkEs es sc vals && decide (keys.length = vals.length) && decide (0 < keys.length) && decide (keys.length ≤ 15)
  | .call f es, sc, .Call (.Name x _) l [] _ => !Γ.hot && glB sc x && okN x && decide ((x, f) ∈ Γ.fns) && chkEs es sc l
  | .bf b e, sc, .Call (.Name x _) [a] [] _ => bltOk Γ sc x && decide (x = bfName b) && chkE e sc a && (!(b == .sorted) || !Γ.hot)
  | .isi e t, sc, .Call (.Name x _) [a, .Name y _] [] _ => bltOk Γ sc x && decide (x = ("isinstance" : PySem.Str)) && bltOk Γ sc y && decide (y = tyStr t) && chkE e sc a
  | .meth m o es, sc, .Call (.Attribute a n apos) l [] cpos => decide (n = mfName m) && chkE o sc a && chkEs es sc l && noSuper a && (apos.endLine == cpos.line) && mfCnt m l.length
  | .bin op a b, sc, .BinOp x o y _ => decide (o = opP op) && chkE a sc x && chkE b sc y
  | .neg a, sc, .UnaryOp .USub x _ => chkE a sc x
  | .cmp c a b, sc, .Compare x [o] [y] _ => decide (o = cmP c) && chkE a sc x && chkE b sc y
  | .chain c d a b e, sc, .Compare x [o, p] [y, z] _ => decide (o = cmP c) && decide (p = cmP d) && chkE a sc x && chkE b sc y && chkE e sc z
  | .and a b, sc, .BoolOp .And (x :: y :: r) pos => chkE a sc x && (match r with
    | [] => chkE b sc y
    | _ :: _ => chkE b sc (.BoolOp .And (y :: r) pos))
  | .or a b, sc, .BoolOp .Or (x :: y :: r) pos => chkE a sc x && (match r with
    | [] => chkE b sc y
    | _ :: _ => chkE b sc (.BoolOp .Or (y :: r) pos))
  | .not a, sc, .UnaryOp .Not x _ => chkE a sc x
  | .ite c a b, sc, .IfExp t x y _ => chkE c sc t && chkE a sc x && chkE b sc y
  | .ix a b, sc, .Subscript x y _ => chkE a sc x && chkE b sc y
  | .slL a lo, sc, .Subscript x (.Slice (some l) none none _) _ => chkE a sc x && chkE lo sc l
  | .slU a hi, sc, .Subscript x (.Slice none (some h) none _) _ => chkE a sc x && chkE hi sc h
  | .slB a lo hi, sc, .Subscript x (.Slice (some l) (some h) none _) _ => chkE a sc x && chkE lo sc l && chkE hi sc h
  | .comp t it c e own, sc, .ListComp el [⟨tg, iter, ifs, 0⟩] scope _ =>
    !Γ.hot && chkT t scope tg && chkI it sc iter && chkC c scope ifs && chkE e scope el && blkC Γ.N sc scope (ownOf Γ.N own) && tOwn t own
  | .errF n i, sc, .Attribute (.Name x _) f _ => decide (Γ.err = some n) && decide (Γ.N[n]? = some x) && visB sc x && okN x && decide ((f, i) ∈ Γ.fld)
  | _, _, _ => false
def chkEs : Es → Scope → List Expr → Bool
  | .nil, _, [] => true
  | .cons e es, sc, x :: l => chkE e sc x && chkEs es sc l
  | _, _, _ => false
def chkC : Ec → Scope → List Expr → Bool
  | .yes, _, [] => true
  | .test e, sc, [x] => chkE e sc x
  | _, _, _ => false
def chkI : It → Scope → Expr → Bool
  | .val e, sc, x => chkE e sc x
  | .rng e, sc, .Call (.Name x _) [a] [] _ => bltOk Γ sc x && decide (x = ("range" : PySem.Str)) && chkE e sc a
  | .rng2 a b, sc, .Call (.Name x _) [y, z] [] _ => bltOk Γ sc x && decide (x = ("range" : PySem.Str)) && chkE a sc y && chkE b sc z
  | .rng3 a b c, sc, .Call (.Name x _) [y, z, w] [] _ => bltOk Γ sc x && decide (x = ("range" : PySem.Str)) && chkE a sc y && chkE b sc z && chkE c sc w
  | .keys i, sc, .Name x _ => decide (Γ.N[i]? = some x) && visB sc x && okN x && notErr Γ i
  | _, _, _ => false
def chkT : T → Scope → Expr → Bool
  | .nm i, sc, .Name x _ => decide (Γ.N[i]? = some x) && locB sc x && notErr Γ i
  | .tp is, sc, .Tuple l _ _ => !Γ.hot && namesAre Γ is sc l
  | .sb o i, sc, .Subscript x y _ => chkE o sc x && chkE i sc y
  | _, _, _ => false
end
end

/-- what stands fast through a def, through an except suite: en, its error's slot -/
structure Gd extends Gb where
  en : Option Nat
  er : V → List Nat → List Nat → List D → List Addr → Hp → Prop
  erm : ∀ v ms ks fs ι H ι' H', Ext ι H ι' H' → er v ms ks fs ι H → er v ms ks fs ι' H'
instance : Coe Gd Gb := ⟨Gd.toGb⟩
/-- a def's -/
def Gb.cold (g : Gb) : Gd := { toGb := g, en := none, er := fun _ _ _ _ _ _ => False, erm := fun _ _ _ _ _ _ _ _ _ h => h }
/-- slots and their values -/
structure RepS (g : Gd) (ι : List Addr) (H : Hp) (ρ : Env) (σ : L2.St) : Prop where
  len : ρ.length = σ.length
  at_ : ∀ (i : Nat) d, g.en ≠ some i → ρ[i]? = some (some d) → ∃ v, σ[i]? = some (some v) ∧ Rep g ι H d v
  ea : ∀ (i : Nat) d, g.en = some i → ρ[i]? = some (some d) → ∃ v ms ks fs, d = .err ms ks fs ∧ σ[i]? = some (some v) ∧ g.er v ms ks fs ι H
theorem RepS.mono {g : Gd} {ι ι' : List Addr} {H H' : Hp} {ρ : Env} {σ : L2.St} (e : Ext ι H ι' H') (r : RepS g ι H ρ σ) : RepS g ι' H' ρ σ :=
  ⟨r.len, fun i d n h => let ⟨v, h1, h2⟩ := r.at_ i d n h; ⟨v, h1, e.rep _ _ h2⟩, fun i d n h => let ⟨v, ms, ks, fs, h0, h1, h2⟩ := r.ea i d n h; ⟨v, ms, ks, fs, h0, h1, g.erm _ _ _ _ _ _ _ _ e h2⟩⟩
theorem RepS.set {g : Gd} {ι : List Addr} {H : Hp} {ρ : Env} {σ : L2.St} (r : RepS g ι H ρ σ) {d : D} {v : V} (i : Nat) (hi : g.en ≠ some i) (h : Rep g ι H d v) : RepS g ι H (ρ.set i (some d)) (σ.set i (some v)) := by
  refine ⟨by simp [r.len], fun j e hn he => ?_, fun j e hn he => ?_⟩
  · by_cases hij : i = j
    · subst hij
      by_cases hl : i < ρ.length
      · rw [List.getElem?_set_self hl] at he
        cases he
        exact ⟨v, List.getElem?_set_self (by rw [← r.len]; exact hl), h⟩
      · rw [List.getElem?_eq_none (by simp; omega)] at he
        cases he
    · rw [List.getElem?_set_ne hij] at he
      obtain ⟨w, h1, h2⟩ := r.at_ j e hn he
      exact ⟨w, by rw [List.getElem?_set_ne hij]; exact h1, h2⟩
  · have hij : i ≠ j := fun z => hi (z ▸ hn)
    rw [List.getElem?_set_ne hij] at he
    obtain ⟨w, ms, ks, fs, h0, h1, h2⟩ := r.ea j e hn he
    exact ⟨w, ms, ks, fs, h0, by rw [List.getElem?_set_ne hij]; exact h1, h2⟩
/-- a slot that is emptied -/
theorem RepS.drop {g : Gd} {ι : List Addr} {H : Hp} {ρ : Env} {σ : L2.St} (r : RepS g ι H ρ σ) (i : Nat) : RepS g ι H (ρ.set i none) (σ.set i none) := by
  have key : ∀ (j : Nat) d, (ρ.set i none)[j]? = some (some d) → i ≠ j ∧ ρ[j]? = some (some d) := by
    intro j d h
    by_cases hij : i = j
    · subst hij
      by_cases hl : i < ρ.length
      · rw [List.getElem?_set_self hl] at h; cases h
      · rw [List.getElem?_eq_none (by simp; omega)] at h; cases h
    · rw [List.getElem?_set_ne hij] at h; exact ⟨hij, h⟩
  refine ⟨by simp [r.len], fun j e hn he => ?_, fun j e hn he => ?_⟩
  · obtain ⟨hij, he⟩ := key j e he
    rw [List.getElem?_set_ne hij]
    exact r.at_ j e hn he
  · obtain ⟨hij, he⟩ := key j e he
    rw [List.getElem?_set_ne hij]
    exact r.ea j e hn he
theorem RepS.wipe {g : Gd} {ι : List Addr} {H : Hp} {ρ : Env} {σ : L2.St} (r : RepS g ι H ρ σ) : ∀ own : List Nat, RepS g ι H (wipeE ρ own) (L2.wipe σ own)
  | [] => r
  | i :: own => (RepS.wipe r own).drop i

/-- what a def of the text promises -/
def spF (g : Gb) (cf : CF) (f np : Nat) : Sp := fun vs H Q E => vs.length = np ∧ ∃ ι μ ds, Sim g ι μ H ∧ RepL g ι H ds vs ∧ wpR (cf f ds μ) (OkV g ι H Q) (ExW g ι H E)

/-- what __init__ of an error's class promises: fields fs -/
def spI (C : Addr) (fs : List PySem.Str) : Sp := fun vs H Q _ => ∃ a ws, vs = .ref a :: ws ∧ ws.length = fs.length ∧ H a = some (exo a C none) ∧
  ∀ d H', H d = none → d ≠ a → H' a = some (exo a C (some d)) → (∃ l, H' d = some (exd d l) ∧ ∀ (i : Nat) f w, fs[i]? = some f → ws[i]? = some w → l.lookup f = some w) → (∀ b, b ≠ a → b ≠ d → H' b = H b) → Q .non H'
/-- a class whose errors are raised -/
structure RaiseOk (g : Gb) (X : Cx) (x : PySem.Str) (ms ks : List Nat) : Prop where
  mg : X.mg x = some (.ref (g.clsA (ms.headD 0)))
  mro : ms ∈ g.mros
  T : OexC X.K (g.clsA (ms.headD 0))
  nd : ks.Nodup
  ini : ∃ fI fd ps, PySem.W.findIn X.K (.ref (g.clsA (ms.headD 0))) "__init__" = some (some (.ref fI)) ∧ PySem.W.typeIn X.K (.ref fI) = some (.type "function") ∧ Binds X.K fd ps [] ∧ FnOk X.prog X.w X.K X.mg X.base (L2.CX X.prog X.w) 1 fI fd ps (spI (g.clsA (ms.headD 0)) (ks.map g.fld))
/-- a class that clauses name -/
structure CatchOk (g : Gb) (X : Cx) (x : PySem.Str) (c : Nat) : Prop where
  mg : X.mg x = some (.ref (g.clsA c))
  em : ∀ ms ∈ g.mros, PySem.W.exmOne X.K (.ref (g.clsA (ms.headD 0))) (.ref (g.clsA c)) = some (ms.contains c)
/-- a field that suites read -/
structure FieldOk (g : Gb) (X : Cx) (f : PySem.Str) (k : Nat) : Prop where
  eq : g.fld k = f
  no : ∀ ms ∈ g.mros, PySem.W.findIn X.K (.ref (g.clsA (ms.headD 0))) f = some none
/-- the error of a suite: at a, of the class cls, its dict d -/
def erR (g : Gb) (a : Addr) (cls : Value) (d : Option Addr) : V → List Nat → List Nat → List D → List Addr → Hp → Prop := fun v ms ks fs ι H => v = .ref a ∧ ExcR g ι H ⟨ms, ks, fs⟩ cls d
structure ErrX (g : Gd) (X : Cx) : Prop where
  ex : ∃ (a : Addr) (oe : PySem.Obj) (cls : Value) (d : Option Addr) (pn : List (Addr × PySem.Obj)) (X0 : Cx), X = X0.suite a ((a, oe) :: pn) ∧ Zc cls d oe ∧ (∃ vs, oe.data = .fields vs) ∧ g.er = erR g a cls d
/-- where an expression stands -/
structure XOk (Γ : Stat) (g : Gd) (cf : CF) (W : WX) (k : Nat) (sc : Scope) (X : Cx) : Prop where
  N : X.N = Γ.N
  nd : X.N.Nodup
  P : X.prog = g.P
  w : X.w = g.w
  K : X.K = g.K
  calm : Γ.hot = false → X.calm = true
  room : Γ.hot = false → Room k X.A
  un : X.A.units + 100 < cLine
  k2 : 2 ≤ k
  en : g.en = Γ.err
  hotE : Γ.hot = false → Γ.err = none
  er : ∀ n, Γ.err = some n → ErrX g X
  tk : Takes X W
  po : PassesOwn (model X.prog X.w) X.A X.env X.xe
  loc : ∀ x, sc.names.lookup x = some .local → X.env.scope.names.lookup x = some .local
  cel : ∀ x, sc.names.lookup x = some .cell → X.env.scope.names.lookup x = some .cell ∧ X.fn x = true
  fre : ∀ x, sc.names.lookup x = some .free → X.env.scope.names.lookup x = some .cell ∨ X.env.scope.names.lookup x = some .free
  gl : ∀ x, sc.names.lookup x = some .globalImplicit → Gl X x
  mgS : ∀ x s, (x, s) ∈ Γ.gS → ∃ t, X.mg x = some (.str (S2 s) t)
  mgC : ∀ x c, (x, c) ∈ Γ.gC → X.mg x = some (.ref (g.cA c)) ∧ CstAt g.K g.w (g.cA c) (g.C c)
  mgB : ∀ x, x ∈ Γ.bl → X.mg x = none
  bk : X.env.blockKind = .function
  fnk : ∀ x f, (x, f) ∈ Γ.fns → ∃ a fd ps, X.mg x = some (.ref a) ∧ PySem.W.keepIn X.K (.ref a) = true ∧ Binds X.K fd ps [] ∧ (∀ ds μ, ds.length ≠ ps.length → cf f ds μ = .stuck) ∧ FnOk X.prog X.w X.K X.mg X.base (L2.CX X.prog X.w) k a fd ps (spF g cf f ps.length)
  rse : ∀ x ms ks, (x, ms, ks) ∈ Γ.cls → RaiseOk g X x ms ks
  hcl : ∀ x c, (x, c) ∈ Γ.hcl → CatchOk g X x c
  fld : ∀ f i, (f, i) ∈ Γ.fld → FieldOk g X f i
  xfc : ∀ ms ∈ g.mros, XfC X.K (g.clsA (ms.headD 0))
section
variable {Γ : Stat} {g : Gd} {cf : CF} {W : WX} {k : Nat} {sc : Scope} {X : Cx}
theorem XOk.hu (x : XOk Γ g cf W k sc X) : X.A.units + 100 < cLine := x.un
theorem XOk.ne (x : XOk Γ g cf W k sc X) {i : Nat} (h : notErr Γ i = true) : g.en ≠ some i := by
  rw [x.en]; exact of_decide_eq_true h
theorem notHot {Γ : Stat} (h : (!Γ.hot) = true) : Γ.hot = false := by simpa using h
theorem XOk.vis (x : XOk Γ g cf W k sc X) {y : PySem.Str} (h : visB sc y = true) : Vis X.env.scope y := by
  unfold visB at h
  split at h
  · rename_i e; exact .inl (x.loc _ e)
  · rename_i e; exact .inr (.inl (x.cel _ e).1)
  · rename_i e
    rcases x.fre _ e with q | q
    · exact .inr (.inl q)
    · exact .inr (.inr q)
  · cases h
theorem XOk.lc (x : XOk Γ g cf W k sc X) {y : PySem.Str} (h : locB sc y = true) : Loc X.env.scope y ∧ (X.fn y = true ∨ X.env.scope.names.lookup y = some .local) := by
  unfold locB at h
  split at h
  · rename_i e; exact ⟨.inl (x.loc _ e), .inr (x.loc _ e)⟩
  · rename_i e; exact ⟨.inr (x.cel _ e).1, .inl (x.cel _ e).2⟩
  · cases h
theorem XOk.glo (x : XOk Γ g cf W k sc X) {y : PySem.Str} (h : glB sc y = true) : Gl X y := by
  unfold glB at h
  split at h
  · rename_i e; exact x.gl _ e
  · cases h
theorem okN_parts {y : PySem.Str} (h : okN y = true) : (y == ("__debug__" : PySem.Str)) = false ∧ (y == ("__classdict__" : PySem.Str)) = false ∧ y ≠ "__name__" := by
  unfold okN at h
  simp only [Bool.and_eq_true, Bool.not_eq_true', beq_eq_false_iff_ne] at h
  exact ⟨by simpa using h.1.1, by simpa using h.1.2, h.2⟩
theorem XOk.blt (x : XOk Γ g cf W k sc X) {y : PySem.Str} (h : bltOk Γ sc y = true) : Gl X y ∧ X.mg y = none ∧ (y == ("__debug__" : PySem.Str)) = false ∧ y ≠ "__name__" := by
  unfold bltOk at h
  rw [Bool.and_eq_true, Bool.and_eq_true, decide_eq_true_eq] at h
  obtain ⟨h1, h2, h3⟩ := okN_parts h.1.2
  exact ⟨x.glo h.1.1, x.mgB _ h.2, h1, h3⟩
end

/-! ### readings -/
section
variable (g : Gd) (cf : CF) (W : WX)
def exW (ι : List Addr) (H : Hp) (σ : L2.St) : Exc → Store → Prop := ExW g ι H fun c d H' => W c d σ H'
def semE (m : E) : TE := fun σ H Q => ∃ ι ρ μ, Sim g ι μ H ∧ RepS g ι H ρ σ ∧ wpR (ev g.C cf m ρ μ) (OkV g ι H Q) (exW g W ι H σ)
def semT (m : E) : TT := fun σ H Q => ∃ ι ρ μ, Sim g ι μ H ∧ RepS g ι H ρ σ ∧ wpR (evT g.C cf m ρ μ) (OkB g ι H Q) (exW g W ι H σ)
def semA (m : Es) : TA := fun σ H Q => ∃ ι ρ μ, Sim g ι μ H ∧ RepS g ι H ρ σ ∧ wpR (evs g.C cf m ρ μ) (OkL g ι H Q) (exW g W ι H σ)
def semC (m : Ec) : TT := fun σ H Q => ∃ ι ρ μ, Sim g ι μ H ∧ RepS g ι H ρ σ ∧ wpR (evC g.C cf m ρ μ) (OkB g ι H Q) (exW g W ι H σ)
def semG (t : T) : TG := fun v σ H Q => ∃ ι ρ μ d, Sim g ι μ H ∧ RepS g ι H ρ σ ∧ Rep g ι H d v ∧ wpR (asgT g.C cf t d ρ μ) (fun ρ' μ' => ∀ ι' H' σ', Ext ι H ι' H' → Sim g ι' μ' H' → RepS g ι' H' ρ' σ' → (∀ own, tOwn t own = true → L2.wipe σ' own = L2.wipe σ own) → Q σ' H') (exW g W ι H σ)
end
theorem exW.mono {g : Gd} {W : WX} {ι ι1 : List Addr} {H H1 : Hp} {σ : L2.St} {x : Exc} {μ : Store} (e : Ext ι H ι1 H1) (h : exW g W ι H σ x μ) : exW g W ι1 H1 σ x μ := ExW.mono e h
theorem PE.imp {X : Cx} {e : Expr} {t t' : TE} (h : PE X e t) (i : ∀ σ H Q, t' σ H Q → t σ H Q) : PE X e t' := ⟨fun pins s σ H Q I q => h.run pins s σ H Q I (i σ H Q q)⟩
theorem PT.imp {X : Cx} {e : Expr} {t t' : TT} (h : PT X e t) (i : ∀ σ H Q, t' σ H Q → t σ H Q) : PT X e t' := ⟨fun pins s σ H Q I q => h.run pins s σ H Q I (i σ H Q q)⟩
theorem PA.imp {X : Cx} {e : List Expr} {t t' : TA} (h : PA X e t) (i : ∀ σ H Q, t' σ H Q → t σ H Q) : PA X e t' := ⟨fun pos pins s σ H Q I q => h.run pos pins s σ H Q I (i σ H Q q)⟩
theorem PS.imp {X : Cx} {e : Stmt} {t t' : TS} (h : PS X e t) (i : ∀ D σ H, t' D σ H → t D σ H) : PS X e t' := ⟨fun pins s σ H D I q => h.run pins s σ H D I (i D σ H q)⟩
theorem PG.imp {X : Cx} {e : Expr} {t t' : TG} (h : PG X e t) (i : ∀ v σ H Q, t' v σ H Q → t v σ H Q) : PG X e t' := ⟨fun pins s σ H v u Q I r q => h.run pins s σ H v u Q I r (i v σ H Q q)⟩
theorem PE.or {X : Cx} {e : Expr} {t t' : TE} (h : PE X e t) (h' : PE X e t') : PE X e (fun σ H Q => t σ H Q ∨ t' σ H Q) := ⟨fun pins s σ H Q I q => q.elim (h.run pins s σ H Q I) (h'.run pins s σ H Q I)⟩
theorem PS.or {X : Cx} {e : Stmt} {t t' : TS} (h : PS X e t) (h' : PS X e t') : PS X e (fun D σ H => t D σ H ∨ t' D σ H) := ⟨fun pins s σ H D I q => q.elim (h.run pins s σ H D I) (h'.run pins s σ H D I)⟩

section
variable (Γ : Stat) (g : Gd) (cf : CF)
def SndE (m : E) : Prop := ∀ (sc : Scope) (e : Expr) (W : WX) (k : Nat) (X : Cx), chkE Γ m sc e = true → XOk Γ g cf W k sc X → PE X e (semE g cf W m)
def SndT (m : E) : Prop := ∀ (sc : Scope) (e : Expr) (W : WX) (k : Nat) (X : Cx), chkE Γ m sc e = true → XOk Γ g cf W k sc X → PT X e (semT g cf W m)
def SndA (m : Es) : Prop := ∀ (sc : Scope) (e : List Expr) (W : WX) (k : Nat) (X : Cx), chkEs Γ m sc e = true → XOk Γ g cf W k sc X → PA X e (semA g cf W m)
def SndC (m : Ec) : Prop := ∀ (sc : Scope) (e : List Expr) (W : WX) (k : Nat) (X : Cx), chkC Γ m sc e = true → XOk Γ g cf W k sc X → PTs X e (semC g cf W m)
def SndG (m : T) : Prop := ∀ (sc : Scope) (e : Expr) (W : WX) (k : Nat) (X : Cx), chkT Γ m sc e = true → XOk Γ g cf W k sc X → PG X e (semG g cf W m)
end
section
variable {Γ : Stat} {g : Gd} {cf : CF} {W : WX}
/-- what no text of Mini is -/
def NoStar : Expr → Bool
  | .Starred _ _ => false
  | _ => true
def NoSet : Expr → Bool
  | .Set _ _ _ => false
  | _ => true
def NoSlice : Expr → Bool
  | .Slice _ _ _ _ => false
  | _ => true
theorem chk_plain {m : E} {sc : Scope} {e : Expr} (h : chkE Γ m sc e = true) : NoStar e = true ∧ NoSet e = true ∧ NoSlice e = true := by
  cases e with
  | Starred _ _ => cases m <;> simp [chkE] at h
  | Set _ _ _ => cases m <;> simp [chkE] at h
  | Slice _ _ _ _ => cases m <;> simp [chkE] at h
  | _ => exact ⟨rfl, rfl, rfl⟩
theorem star_of {e : Expr} {l : List Expr} {env : PySem.Env} (h : NoStar e = true) : starEach (e :: l) env = (false, eval e env) :: starEach l env := by
  cases e <;> first | rfl | cases h
theorem star_plain {m : Es} {sc : Scope} : ∀ {l : List Expr} {env : PySem.Env} {pos : Pos}, chkEs Γ m sc l = true → (backTo pos (starEach l env)).any (·.1) = false := by
  intro l
  induction l generalizing m with
  | nil => intro env pos _; rfl
  | cons e l ih =>
    intro env pos h
    cases m with
    | nil => simp [chkEs] at h
    | cons a as =>
      rw [chkEs, Bool.and_eq_true] at h
      rw [star_of (chk_plain h.1).1]
      exact ih h.2
theorem star_few {m : Es} {sc : Scope} : ∀ {l : List Expr} {env : PySem.Env} {pos : Pos}, chkEs Γ m sc l = true → (backTo pos (starEach l env)).all (fun x => !x.1) = true := by
  intro l
  induction l generalizing m with
  | nil => intro env pos _; rfl
  | cons e l ih =>
    intro env pos h
    cases m with
    | nil => simp [chkEs] at h
    | cons a as =>
      rw [chkEs, Bool.and_eq_true] at h
      rw [star_of (chk_plain h.1).1]
      exact ih h.2
theorem behind_of {e : Expr} (op : CmpOp) (h : NoSet e = true) : behindInMarks op e = false := by
  cases e <;> first | rfl | cases h
theorem fold_of {e : Expr} {env : PySem.Env} (h : NoSet e = true) (x : Value) : foldedSetIterable e env x = pure x := by
  cases e <;> first | rfl | cases h
theorem ix_of {e : Expr} (h : NoSlice e = true) : PlainIx e := by
  cases e <;> first | exact fun _ _ => rfl | cases h
theorem base_of {e : Expr} {n : PySem.Str} {env : PySem.Env} (h : noSuper e = true) : attributeBase e n env (eval e env) = eval e env := by
  unfold attributeBase
  split
  · cases h
  · rfl
end
end PL
end
section
set_option Elab.async false
set_option linter.all false
set_option autoImplicit false
set_option maxRecDepth 100000
set_option maxHeartbeats 400000
/-! Sound6: expressions. -/
namespace PL
open PySem PySem.Spec PyProof.Rows L2
section
variable {Γ : Stat} {g : Gd} {cf : CF} {W : WX} {σ : L2.St} {H : Hp} {a b c : E}
theorem sem1 {f : D → Store → Res D} {Q : VK} {r : V → Hp → VK → Prop} (hr : ∀ x H Q, (∃ ι μ d, Sim g ι μ H ∧ Rep g ι H d x ∧ wpR (f d μ) (OkV g ι H Q) anyE) → r x H Q)
    (h : ∃ ι ρ μ, Sim g ι μ H ∧ RepS g ι H ρ σ ∧ wpR ((ev g.C cf a ρ μ).bind f) (OkV g ι H Q) (exW g W ι H σ)) : semE g cf W a σ H fun x H1 => r x H1 Q := by
  obtain ⟨ι, ρ, μ, S, R, hw⟩ := h
  rw [wpR_bind] at hw
  exact ⟨ι, ρ, μ, S, R, wpR_mono hw (fun d1 μ1 h1 ι1 H1 v1 e1 S1 r1 => hr _ _ _ ⟨ι1, μ1, d1, S1, r1, wpR_mono h1 (fun _ _ z => z.mono e1) fun _ _ _ => trivial⟩) fun _ _ z => z⟩
theorem sem2 {f : D → D → Store → Res D} {Q : VK}
    (h : ∃ ι ρ μ, Sim g ι μ H ∧ RepS g ι H ρ σ ∧ wpR ((ev g.C cf a ρ μ).bind fun x μ => (ev g.C cf b ρ μ).bind fun y μ => f x y μ) (OkV g ι H Q) (exW g W ι H σ)) :
    tOp (rF g f) (semE g cf W a) (semE g cf W b) σ H Q := by
  obtain ⟨ι, ρ, μ, S, R, hw⟩ := h
  rw [wpR_bind] at hw
  refine ⟨ι, ρ, μ, S, R, wpR_mono hw (fun d1 μ1 h1 ι1 H1 v1 e1 S1 r1 => ?_) fun _ _ z => z⟩
  rw [wpR_bind] at h1
  exact ⟨ι1, ρ, μ1, S1, R.mono e1, wpR_mono h1 (fun d2 μ2 h2 ι2 H2 v2 e2 S2 r2 => ⟨ι2, μ2, d1, d2, S2, e2.rep _ _ r1, r2, wpR_mono h2 (fun _ _ z => z.mono (e1.trans e2)) fun _ _ _ => trivial⟩) fun _ _ z => z.mono e1⟩
/-- two values, then a yes or no -/
theorem sem2B {f : D → D → Store → Res Bool} {Q : Bool → Hp → Prop}
    (h : ∃ ι ρ μ, Sim g ι μ H ∧ RepS g ι H ρ σ ∧ wpR ((ev g.C cf a ρ μ).bind fun x μ => (ev g.C cf b ρ μ).bind fun y μ => f x y μ) (OkB g ι H Q) (exW g W ι H σ)) :
    tOp (rB g f) (semE g cf W a) (semE g cf W b) σ H fun x H' => ∃ k, x = .bl k ∧ Q k H' := by
  obtain ⟨ι, ρ, μ, S, R, hw⟩ := h
  rw [wpR_bind] at hw
  refine ⟨ι, ρ, μ, S, R, wpR_mono hw (fun d1 μ1 h1 ι1 H1 v1 e1 S1 r1 => ?_) fun _ _ z => z⟩
  rw [wpR_bind] at h1
  refine ⟨ι1, ρ, μ1, S1, R.mono e1, wpR_mono h1 (fun d2 μ2 h2 ι2 H2 v2 e2 S2 r2 => ⟨ι2, μ2, d1, d2, S2, e2.rep _ _ r1, r2, wpR_mono h2 (fun b μ z => ?_) fun _ _ _ => trivial⟩) fun _ _ z => z.mono e1⟩
  exact fun ι' H' e' S' => ⟨b, rfl, z.mono (e1.trans e2) ι' H' e' S'⟩
theorem semB_V {r : Store → Res Bool} {ι : List Addr} {μ : Store} {Q : VK} {E' : Exc → Store → Prop} (h : wpR ((r μ).bind fun k μ => .ok (.bl k) μ) (OkV g ι H Q) E') : wpR (r μ) (OkB g ι H fun b H' => Q (.bl b) H') E' := by
  rw [wpR_bind] at h
  exact wpR_mono h (fun b μ z ι' H' e S => z ι' H' _ e S rfl) fun _ _ z => z

theorem cmp_rule {k : Nat} {sc : Scope} {X : Cx} (x : XOk Γ g cf W k sc X) (cm : Cm) : OpR X (compareOp (cmP cm)) (rB g (cmpF g.C cm)) := by
  have hu := x.hu
  cases cm with
  | eq => exact op_eqF x.K (by omega)
  | ne => exact op_neF x.K (by omega)
  | lt => exact op_ltF x.K (by omega)
  | le => exact op_leF
  | gt => exact op_gtF
  | ge => exact op_geF
  | is => exact op_isF
  | isn => exact op_isnF
  | inn => exact op_inF x.K x.w (by omega)
  | nin => exact op_ninF x.K x.w (by omega)
theorem op_rule {k : Nat} {sc : Scope} {X : Cx} (x : XOk Γ g cf W k sc X) (op : Op) : OpR X (binaryOp (opP op)) (rF g (binF op)) := by
  cases op with
  | add => exact op_addF x.K
  | sub => exact op_subF
  | mul => exact op_mulF x.K
  | fdiv => exact op_fdivF
  | mod => exact op_modF
  | pow => exact op_powF

/-! ### names, constants -/
theorem const_imp {v : V} {d : D} (hd : ∀ ι H, Rep g ι H d v) {σ : L2.St} {H : Hp} {Q : VK} (h : ∃ ι ρ μ, Sim g ι μ H ∧ RepS g ι H ρ σ ∧ wpR (.ok d μ) (OkV g ι H Q) (exW g W ι H σ)) : tC v σ H Q := by
  obtain ⟨ι, ρ, μ, S, R, hw⟩ := h
  exact OkV.same S hw (hd ι H)
theorem c_v (i : Nat) : SndE Γ g cf (.v i) := by
  intro sc e W k X hc x
  cases e with
  | Name y p =>
    simp only [chkE, Bool.and_eq_true, decide_eq_true_eq] at hc
    obtain ⟨n1, n2, _⟩ := okN_parts hc.1.2
    refine PE.imp (pe_var (i := i) (by rw [x.N]; exact hc.1.1.1) (x.vis hc.1.1.2) n1 n2) ?_
    rintro σ H Q ⟨ι, ρ, μ, S, R, hw⟩
    have hw : wpR (match ρ[i]? with
      | some (some d) => .ok d μ
      | _ => .stuck) (OkV g ι H Q) (exW g W ι H σ) := hw
    split at hw
    · rename_i d e0
      obtain ⟨v, e1, r⟩ := R.at_ i d (x.ne hc.2) e0
      exact ⟨v, e1, OkV.same S hw r⟩
    · exact False.elim hw
  | _ => simp [chkE] at hc
theorem c_non : SndE Γ g cf .non := by
  intro sc e W k X hc x
  cases e with
  | Constant c j p =>
    cases c with
    | none => exact PE.imp pe_non fun σ H Q h => const_imp (d := .non) (fun _ _ => rfl) h
    | _ => simp [chkE] at hc
  | _ => simp [chkE] at hc
theorem c_bl (b : Bool) : SndE Γ g cf (.bl b) := by
  intro sc e W k X hc x
  cases e with
  | Constant c j p =>
    cases c with
    | bool b' =>
      simp only [chkE, beq_iff_eq] at hc
      subst hc
      exact PE.imp pe_bl fun σ H Q h => const_imp (d := .bl b) (fun _ _ => rfl) h
    | _ => simp [chkE] at hc
  | _ => simp [chkE] at hc
theorem c_int (i : Int) : SndE Γ g cf (.int i) := by
  intro sc e W k X hc x
  cases e with
  | Constant c j p =>
    cases c with
    | int b' =>
      simp only [chkE, decide_eq_true_eq] at hc
      subst hc
      exact PE.imp pe_int fun σ H Q h => const_imp (d := .int i) (fun _ _ => rfl) h
    | _ => simp [chkE] at hc
  | _ => simp [chkE] at hc
theorem c_str (s : Txt) : SndE Γ g cf (.str s) := by
  intro sc e W k X hc x
  cases e with
  | Constant c j p =>
    cases c with
    | str b' =>
      simp only [chkE, decide_eq_true_eq] at hc
      subst hc
      exact PE.imp pe_str fun σ H Q h => const_imp (d := .str s) (fun _ _ => rfl) h
    | _ => simp [chkE] at hc
  | _ => simp [chkE] at hc
theorem c_glS (n : Nat) (s : Txt) : SndE Γ g cf (.glS n s) := by
  intro sc e W k X hc x
  cases e with
  | Name y p =>
    simp only [chkE, Bool.and_eq_true, decide_eq_true_eq] at hc
    obtain ⟨t, ht⟩ := x.mgS _ _ hc.2
    exact PE.imp (pe_glob (v := .str (S2 s)) (x.glo hc.1.1) ht ⟨t, rfl⟩ (okN_parts hc.1.2).1) fun σ H Q h => const_imp (d := .str s) (fun _ _ => rfl) h
  | _ => simp [chkE] at hc
theorem c_glC (n c : Nat) : SndE Γ g cf (.glC n c) := by
  intro sc e W k X hc x
  cases e with
  | Name y p =>
    simp only [chkE, Bool.and_eq_true, decide_eq_true_eq] at hc
    obtain ⟨h1, h2⟩ := x.mgC _ _ hc.2
    exact PE.imp (pe_glob (v := .ref (g.cA c)) (x.glo hc.1.1) h1 rfl (okN_parts hc.1.2).1) fun σ H Q h => const_imp (d := .cst c) (fun _ _ => ⟨rfl, h2⟩) h
  | _ => simp [chkE] at hc

/-! ### operators -/
theorem c_bin (op : Op) (ha : SndE Γ g cf a) (hb : SndE Γ g cf b) : SndE Γ g cf (.bin op a b) := by
  intro sc e W k X hc x
  cases e with
  | BinOp l o r p =>
    simp only [chkE, Bool.and_eq_true, decide_eq_true_eq] at hc
    obtain ⟨⟨rfl, h1⟩, h2⟩ := hc
    exact PE.imp (pe_op (op_rule x op) (ha sc l W k X h1 x) (hb sc r W k X h2 x)) fun σ H Q h => sem2 h
  | _ => simp [chkE] at hc
theorem c_neg (ha : SndE Γ g cf a) : SndE Γ g cf (.neg a) := by
  intro sc e W k X hc x
  cases e with
  | UnaryOp o l p =>
    cases o with
    | USub =>
      simp only [chkE] at hc
      refine PE.imp (pe_un un_neg (ha sc l W k X hc x)) fun σ H Q h => sem1 (fun x H Q ⟨ι, μ, d, S, r, hw⟩ => ?_) h
      cases d with
      | int i => obtain rfl := r; exact ⟨i, rfl, OkV.same S hw rfl⟩
      | _ => exact False.elim hw
    | _ => simp [chkE] at hc
  | _ => simp [chkE] at hc
theorem c_cmp (cm : Cm) (ha : SndE Γ g cf a) (hb : SndE Γ g cf b) : SndE Γ g cf (.cmp cm a b) := by
  intro sc e W k X hc x
  cases e with
  | Compare l os rs p =>
    match os, rs, hc with
    | [o], [r], hc =>
      simp only [chkE, Bool.and_eq_true, decide_eq_true_eq] at hc
      obtain ⟨⟨rfl, h1⟩, h2⟩ := hc
      refine PE.imp (pe_cmpR (cmp_rule x cm) (ha sc l W k X h1 x) (hb sc r W k X h2 x) (behind_of _ (chk_plain h2).2.1)) ?_
      rintro σ H Q ⟨ι, ρ, μ, S, R, hw⟩
      have hw : wpR ((ev g.C cf a ρ μ).bind fun x μ => (ev g.C cf b ρ μ).bind fun y μ => (cmpF g.C cm x y μ).bind fun k μ => .ok (.bl k) μ) (OkV g ι H Q) (exW g W ι H σ) := hw
      rw [wpR_bind] at hw
      refine ⟨ι, ρ, μ, S, R, wpR_mono hw (fun d1 μ1 h1 ι1 H1 v1 e1 S1 r1 => ?_) fun _ _ z => z⟩
      rw [wpR_bind] at h1
      exact ⟨ι1, ρ, μ1, S1, R.mono e1, wpR_mono h1 (fun d2 μ2 h2 ι2 H2 v2 e2 S2 r2 => ⟨ι2, μ2, d1, d2, S2, e2.rep _ _ r1, r2, wpR_mono (semB_V (wpR_mono h2 (fun _ _ z => OkV.mono (e1.trans e2) z) fun _ _ z => z)) (fun _ _ z => z) fun _ _ _ => trivial⟩) fun _ _ z => z.mono e1⟩
    | [], _, hc => simp [chkE] at hc
    | [_], [], hc => simp [chkE] at hc
    | [_], _ :: _ :: _, hc => simp [chkE] at hc
    | _ :: _ :: _, _, hc => simp [chkE] at hc
  | _ => simp [chkE] at hc
theorem t_cmp (cm : Cm) (ha : SndE Γ g cf a) (hb : SndE Γ g cf b) : SndT Γ g cf (.cmp cm a b) := by
  intro sc e W k X hc x
  cases e with
  | Compare l os rs p =>
    match os, rs, hc with
    | [o], [r], hc =>
      simp only [chkE, Bool.and_eq_true, decide_eq_true_eq] at hc
      obtain ⟨⟨rfl, h1⟩, h2⟩ := hc
      exact PT.imp (pt_cmpR (cmp_rule x cm) (ha sc l W k X h1 x) (hb sc r W k X h2 x) (behind_of _ (chk_plain h2).2.1)) fun σ H Q h => sem2B h
    | [], _, hc => simp [chkE] at hc
    | [_], [], hc => simp [chkE] at hc
    | [_], _ :: _ :: _, hc => simp [chkE] at hc
    | _ :: _ :: _, _, hc => simp [chkE] at hc
  | _ => simp [chkE] at hc
theorem chain_sem {cm dm : Cm} {Q : VK} {Q2 : Bool → Hp → Prop}
    (hq : ∀ b H', Q2 b H' → Q (.bl b) H')
    (h : ∃ ι ρ μ, Sim g ι μ H ∧ RepS g ι H ρ σ ∧ wpR ((ev g.C cf a ρ μ).bind fun x μ => (ev g.C cf b ρ μ).bind fun y μ => (cmpF g.C cm x y μ).bind fun k μ =>
      if k then (ev g.C cf c ρ μ).bind fun z μ => cmpF g.C dm y z μ else .ok false μ) (OkB g ι H Q2) (exW g W ι H σ)) :
    tChain (rB g (cmpF g.C cm)) (rB g (cmpF g.C dm)) (semE g cf W a) (semE g cf W b) (semE g cf W c) σ H Q := by
  obtain ⟨ι, ρ, μ, S, R, hw⟩ := h
  rw [wpR_bind] at hw
  refine ⟨ι, ρ, μ, S, R, wpR_mono hw (fun d1 μ1 h1 ι1 H1 v1 e1 S1 r1 => ?_) fun _ _ z => z⟩
  rw [wpR_bind] at h1
  refine ⟨ι1, ρ, μ1, S1, R.mono e1, wpR_mono h1 (fun d2 μ2 h2 ι2 H2 v2 e2 S2 r2 => ?_) fun _ _ z => z.mono e1⟩
  rw [wpR_bind] at h2
  refine ⟨ι2, μ2, d1, d2, S2, e2.rep _ _ r1, r2, wpR_mono h2 (fun k μ3 h3 ι3 H3 e3 S3 => ⟨k, rfl, ?_⟩) fun _ _ _ => trivial⟩
  have e13 := e1.trans (e2.trans e3)
  cases k with
  | false =>
    rw [if_neg Bool.false_ne_true]
    exact hq false H3 (h3 ι3 H3 e13 S3)
  | true =>
    rw [if_pos rfl]
    have h3 : wpR ((ev g.C cf c ρ μ3).bind fun z μ => cmpF g.C dm d2 z μ) (OkB g ι H Q2) (exW g W ι H σ) := h3
    rw [wpR_bind] at h3
    exact ⟨ι3, ρ, μ3, S3, R.mono e13, wpR_mono h3 (fun d4 μ4 h4 ι4 H4 v4 e4 S4 r4 => ⟨ι4, μ4, d2, d4, S4, (e3.trans e4).rep _ _ r2, r4,
      wpR_mono h4 (fun b μ5 z ι5 H5 e5 S5 => hq b H5 (z ι5 H5 (e13.trans (e4.trans e5)) S5)) fun _ _ _ => trivial⟩) fun _ _ z => z.mono e13⟩
theorem t_chain (cm dm : Cm) (ha : SndE Γ g cf a) (hb : SndE Γ g cf b) (hcc : SndE Γ g cf c) : SndT Γ g cf (.chain cm dm a b c) := by
  intro sc e W k X hc x
  cases e with
  | Compare l os rs p =>
    match os, rs, hc with
    | [o, o'], [r, r'], hc =>
      simp only [chkE, Bool.and_eq_true, decide_eq_true_eq] at hc
      obtain ⟨⟨⟨⟨rfl, rfl⟩, h1⟩, h2⟩, h3⟩ := hc
      exact PT.imp (pt_chain (cmp_rule x cm) (cmp_rule x dm) (ha sc l W k X h1 x) (hb sc r W k X h2 x) (hcc sc r' W k X h3 x) (behind_of _ (chk_plain h3).2.1)) fun σ H Q h => chain_sem (Q2 := Q) (fun b H' q => ⟨b, rfl, q⟩) h
    | [], _, hc => simp [chkE] at hc
    | [_], [], hc => simp [chkE] at hc
    | [_], [_], hc => simp [chkE] at hc
    | [_], _ :: _ :: _, hc => simp [chkE] at hc
    | [_, _], [], hc => simp [chkE] at hc
    | [_, _], [_], hc => simp [chkE] at hc
    | [_, _], _ :: _ :: _ :: _, hc => simp [chkE] at hc
    | _ :: _ :: _ :: _, _, hc => simp [chkE] at hc
  | _ => simp [chkE] at hc
theorem c_chain (cm dm : Cm) (ha : SndE Γ g cf a) (hb : SndE Γ g cf b) (hcc : SndE Γ g cf c) : SndE Γ g cf (.chain cm dm a b c) := by
  intro sc e W k X hc x
  cases e with
  | Compare l os rs p =>
    match os, rs, hc with
    | [o, o'], [r, r'], hc =>
      simp only [chkE, Bool.and_eq_true, decide_eq_true_eq] at hc
      obtain ⟨⟨⟨⟨rfl, rfl⟩, h1⟩, h2⟩, h3⟩ := hc
      refine PE.imp (pe_chain (cmp_rule x cm) (cmp_rule x dm) (ha sc l W k X h1 x) (hb sc r W k X h2 x) (hcc sc r' W k X h3 x) (behind_of _ (chk_plain h3).2.1)) fun σ H Q h => chain_sem (Q2 := fun b H' => Q (.bl b) H') (fun b H' q => q) ?_
      obtain ⟨ι, ρ, μ, S, R, hw⟩ := h
      refine ⟨ι, ρ, μ, S, R, ?_⟩
      have hw : wpR ((ev g.C cf a ρ μ).bind fun x μ => (ev g.C cf b ρ μ).bind fun y μ => (cmpF g.C cm x y μ).bind fun k μ =>
        if k then (ev g.C cf c ρ μ).bind fun z μ => (cmpF g.C dm y z μ).bind fun k μ => .ok (.bl k) μ else .ok (.bl false) μ) (OkV g ι H Q) (exW g W ι H σ) := hw
      rw [wpR_bind] at hw ⊢
      refine wpR_mono hw (fun d1 μ1 h1 => ?_) fun _ _ z => z
      rw [wpR_bind] at h1 ⊢
      refine wpR_mono h1 (fun d2 μ2 h2 => ?_) fun _ _ z => z
      rw [wpR_bind] at h2 ⊢
      refine wpR_mono h2 (fun k μ3 h3 => ?_) fun _ _ z => z
      cases k with
      | false => exact fun ι' H' e S => h3 ι' H' _ e S rfl
      | true =>
        have h3 : wpR ((ev g.C cf c ρ μ3).bind fun z μ => (cmpF g.C dm d2 z μ).bind fun k μ => .ok (.bl k) μ) (OkV g ι H Q) (exW g W ι H σ) := h3
        show wpR ((ev g.C cf c ρ μ3).bind fun z μ => cmpF g.C dm d2 z μ) _ _
        rw [wpR_bind] at h3 ⊢
        exact wpR_mono h3 (fun d4 μ4 h4 => semB_V h4) fun _ _ z => z
    | [], _, hc => simp [chkE] at hc
    | [_], [], hc => simp [chkE] at hc
    | [_], [_], hc => simp [chkE] at hc
    | [_], _ :: _ :: _, hc => simp [chkE] at hc
    | [_, _], [], hc => simp [chkE] at hc
    | [_, _], [_], hc => simp [chkE] at hc
    | [_, _], _ :: _ :: _ :: _, hc => simp [chkE] at hc
    | _ :: _ :: _ :: _, _, hc => simp [chkE] at hc
  | _ => simp [chkE] at hc

/-! ### and, or, not, if -/
theorem t_not (ha : SndT Γ g cf a) : SndT Γ g cf (.not a) := by
  intro sc e W k X hc x
  cases e with
  | UnaryOp o l p =>
    cases o with
    | Not =>
      simp only [chkE] at hc
      refine PT.imp (pt_not (ha sc l W k X hc x)) ?_
      rintro σ H Q ⟨ι, ρ, μ, S, R, hw⟩
      have hw : wpR ((evT g.C cf a ρ μ).bind fun k μ => .ok (!k) μ) (OkB g ι H Q) (exW g W ι H σ) := hw
      rw [wpR_bind] at hw
      exact ⟨ι, ρ, μ, S, R, hw⟩
    | _ => simp [chkE] at hc
  | _ => simp [chkE] at hc
theorem c_not (ha : SndE Γ g cf a) : SndE Γ g cf (.not a) := by
  intro sc e W k X hc x
  cases e with
  | UnaryOp o l p =>
    cases o with
    | Not =>
      simp only [chkE] at hc
      refine PE.imp (pe_not (ha sc l W k X hc x)) fun σ H Q h => sem1 (r := fun x H1 Q => ∃ c, x = .bl c ∧ Q (.bl (!c)) H1) (fun x H Q ⟨ι, μ, d, S, r, hw⟩ => ?_) h
      cases d with
      | bl i => obtain rfl := r; exact ⟨i, rfl, OkV.same S hw rfl⟩
      | _ => exact False.elim hw
    | _ => simp [chkE] at hc
  | _ => simp [chkE] at hc
theorem sem_andT {Q : Bool → Hp → Prop} (h : semT g cf W (.and a b) σ H Q) : tAnd (semT g cf W a) (semT g cf W b) σ H Q := by
  obtain ⟨ι, ρ, μ, S, R, hw⟩ := h
  have hw : wpR ((evT g.C cf a ρ μ).bind fun k μ => if k then evT g.C cf b ρ μ else .ok false μ) (OkB g ι H Q) (exW g W ι H σ) := hw
  rw [wpR_bind] at hw
  refine ⟨ι, ρ, μ, S, R, wpR_mono hw (fun k μ1 h1 ι1 H1 e1 S1 => ?_) fun _ _ z => z⟩
  cases k with
  | false => rw [if_neg Bool.false_ne_true]; exact h1 ι1 H1 e1 S1
  | true => rw [if_pos rfl]; exact ⟨ι1, ρ, μ1, S1, R.mono e1, wpR_mono h1 (fun _ _ z => OkB.mono e1 z) fun _ _ z => z.mono e1⟩
theorem sem_orT {Q : Bool → Hp → Prop} (h : semT g cf W (.or a b) σ H Q) : tOr (semT g cf W a) (semT g cf W b) σ H Q := by
  obtain ⟨ι, ρ, μ, S, R, hw⟩ := h
  have hw : wpR ((evT g.C cf a ρ μ).bind fun k μ => if k then .ok true μ else evT g.C cf b ρ μ) (OkB g ι H Q) (exW g W ι H σ) := hw
  rw [wpR_bind] at hw
  refine ⟨ι, ρ, μ, S, R, wpR_mono hw (fun k μ1 h1 ι1 H1 e1 S1 => ?_) fun _ _ z => z⟩
  cases k with
  | true => rw [if_pos rfl]; exact h1 ι1 H1 e1 S1
  | false => rw [if_neg Bool.false_ne_true]; exact ⟨ι1, ρ, μ1, S1, R.mono e1, wpR_mono h1 (fun _ _ z => OkB.mono e1 z) fun _ _ z => z.mono e1⟩
/-- a test, whatever its whole is -/
def SndW (Γ : Stat) (g : Gd) (cf : CF) (m : E) : Prop := ∀ (sc : Scope) (op : BoolOp) (l : List Expr) (pos : Pos) (W : WX) (k : Nat) (X : Cx), chkE Γ m sc (.BoolOp op l pos) = true → XOk Γ g cf W k sc X → PW X (.BoolOp op l pos) (semT g cf W m)
theorem PW.imp {X : Cx} {e : Expr} {t t' : TT} (h : PW X e t) (i : ∀ σ H Q, t' σ H Q → t σ H Q) : PW X e t' := ⟨fun wh pins s σ H Q I q => h.run wh pins s σ H Q I (i σ H Q q)⟩
theorem w_and (ha : SndT Γ g cf a) (hb : SndT Γ g cf b) (hb' : SndW Γ g cf b) : SndW Γ g cf (.and a b) := by
  intro sc op l pos W k X hc x
  cases op with
  | Or => simp [chkE] at hc
  | And =>
    match l, hc with
    | [], hc => simp [chkE] at hc
    | [_], hc => simp [chkE] at hc
    | [y, z], hc =>
      simp only [chkE, Bool.and_eq_true] at hc
      exact PW.imp (pw_and (ha sc y W k X hc.1 x) (pw_and1 (hb sc z W k X hc.2 x))) fun σ H Q h => sem_andT h
    | y :: z :: v :: r, hc =>
      simp only [chkE, Bool.and_eq_true] at hc
      exact PW.imp (pw_and (ha sc y W k X hc.1 x) (hb' sc .And (z :: v :: r) pos W k X hc.2 x)) fun σ H Q h => sem_andT h
theorem w_or (ha : SndT Γ g cf a) (hb : SndT Γ g cf b) (hb' : SndW Γ g cf b) : SndW Γ g cf (.or a b) := by
  intro sc op l pos W k X hc x
  cases op with
  | And => simp [chkE] at hc
  | Or =>
    match l, hc with
    | [], hc => simp [chkE] at hc
    | [_], hc => simp [chkE] at hc
    | [y, z], hc =>
      simp only [chkE, Bool.and_eq_true] at hc
      exact PW.imp (pw_or (ha sc y W k X hc.1 x) (pw_or1 (hb sc z W k X hc.2 x))) fun σ H Q h => sem_orT h
    | y :: z :: v :: r, hc =>
      simp only [chkE, Bool.and_eq_true] at hc
      exact PW.imp (pw_or (ha sc y W k X hc.1 x) (hb' sc .Or (z :: v :: r) pos W k X hc.2 x)) fun σ H Q h => sem_orT h
theorem w_none {m : E} (h : ∀ sc op l pos, chkE Γ m sc (.BoolOp op l pos) = false) : SndW Γ g cf m := by
  intro sc op l pos W k X hc x
  rw [h] at hc
  cases hc
theorem t_bool {m : E} (h : ∀ sc e, chkE Γ m sc e = true → ∃ op l pos, e = .BoolOp op l pos) (w : SndW Γ g cf m) : SndT Γ g cf m := by
  intro sc e W k X hc x
  obtain ⟨op, l, pos, rfl⟩ := h sc e hc
  exact (w sc op l pos W k X hc x).pt
theorem and_form {sc : Scope} {e : Expr} (hc : chkE Γ (.and a b) sc e = true) : ∃ op l pos, e = .BoolOp op l pos := by
  cases e with
  | BoolOp op l pos => exact ⟨op, l, pos, rfl⟩
  | _ => simp [chkE] at hc
theorem or_form {sc : Scope} {e : Expr} (hc : chkE Γ (.or a b) sc e = true) : ∃ op l pos, e = .BoolOp op l pos := by
  cases e with
  | BoolOp op l pos => exact ⟨op, l, pos, rfl⟩
  | _ => simp [chkE] at hc
theorem sem_andV {Q : VK} (h : semE g cf W (.and a b) σ H Q) : tAndV (semE g cf W a) (semE g cf W b) σ H Q := by
  obtain ⟨ι, ρ, μ, S, R, hw⟩ := h
  have hw : wpR ((ev g.C cf a ρ μ).bind fun x μ => match x with
    | .bl k => if k then ev g.C cf b ρ μ else .ok (.bl false) μ
    | _ => .stuck) (OkV g ι H Q) (exW g W ι H σ) := hw
  rw [wpR_bind] at hw
  refine ⟨ι, ρ, μ, S, R, wpR_mono hw (fun d μ1 h1 ι1 H1 v1 e1 S1 r1 => ?_) fun _ _ z => z⟩
  cases d with
  | bl k =>
    obtain rfl := r1
    refine ⟨k, rfl, ?_⟩
    cases k with
    | false => rw [if_neg Bool.false_ne_true]; exact h1 ι1 H1 _ e1 S1 rfl
    | true => rw [if_pos rfl]; exact ⟨ι1, ρ, μ1, S1, R.mono e1, wpR_mono h1 (fun _ _ z => OkV.mono e1 z) fun _ _ z => z.mono e1⟩
  | _ => exact False.elim h1
theorem sem_orV {Q : VK} (h : semE g cf W (.or a b) σ H Q) : tOrV (semE g cf W a) (semE g cf W b) σ H Q := by
  obtain ⟨ι, ρ, μ, S, R, hw⟩ := h
  have hw : wpR ((ev g.C cf a ρ μ).bind fun x μ => match x with
    | .bl k => if k then .ok (.bl true) μ else ev g.C cf b ρ μ
    | _ => .stuck) (OkV g ι H Q) (exW g W ι H σ) := hw
  rw [wpR_bind] at hw
  refine ⟨ι, ρ, μ, S, R, wpR_mono hw (fun d μ1 h1 ι1 H1 v1 e1 S1 r1 => ?_) fun _ _ z => z⟩
  cases d with
  | bl k =>
    obtain rfl := r1
    refine ⟨k, rfl, ?_⟩
    cases k with
    | true => rw [if_pos rfl]; exact h1 ι1 H1 _ e1 S1 rfl
    | false => rw [if_neg Bool.false_ne_true]; exact ⟨ι1, ρ, μ1, S1, R.mono e1, wpR_mono h1 (fun _ _ z => OkV.mono e1 z) fun _ _ z => z.mono e1⟩
  | _ => exact False.elim h1
theorem c_and (ha : SndE Γ g cf a) (hb : SndE Γ g cf b) : SndE Γ g cf (.and a b) := by
  intro sc e W k X hc x
  cases e with
  | BoolOp op l pos =>
    cases op with
    | Or => simp [chkE] at hc
    | And =>
      match l, hc with
      | [], hc => simp [chkE] at hc
      | [_], hc => simp [chkE] at hc
      | [y, z], hc =>
        simp only [chkE, Bool.and_eq_true] at hc
        exact PE.imp (pe_and (ha sc y W k X hc.1 x) (pe_one (hb sc z W k X hc.2 x))) fun σ H Q h => sem_andV h
      | y :: z :: v :: r, hc =>
        simp only [chkE, Bool.and_eq_true] at hc
        exact PE.imp (pe_and (ha sc y W k X hc.1 x) (hb sc (.BoolOp .And (z :: v :: r) pos) W k X hc.2 x)) fun σ H Q h => sem_andV h
  | _ => simp [chkE] at hc
theorem c_or (ha : SndE Γ g cf a) (hb : SndE Γ g cf b) : SndE Γ g cf (.or a b) := by
  intro sc e W k X hc x
  cases e with
  | BoolOp op l pos =>
    cases op with
    | And => simp [chkE] at hc
    | Or =>
      match l, hc with
      | [], hc => simp [chkE] at hc
      | [_], hc => simp [chkE] at hc
      | [y, z], hc =>
        simp only [chkE, Bool.and_eq_true] at hc
        exact PE.imp (pe_or (ha sc y W k X hc.1 x) (pe_one (hb sc z W k X hc.2 x))) fun σ H Q h => sem_orV h
      | y :: z :: v :: r, hc =>
        simp only [chkE, Bool.and_eq_true] at hc
        exact PE.imp (pe_or (ha sc y W k X hc.1 x) (hb sc (.BoolOp .Or (z :: v :: r) pos) W k X hc.2 x)) fun σ H Q h => sem_orV h
  | _ => simp [chkE] at hc
theorem c_ite (ht : SndT Γ g cf c) (ha : SndE Γ g cf a) (hb : SndE Γ g cf b) : SndE Γ g cf (.ite c a b) := by
  intro sc e W k X hc x
  cases e with
  | IfExp t l r p =>
    simp only [chkE, Bool.and_eq_true] at hc
    obtain ⟨⟨h1, h2⟩, h3⟩ := hc
    refine PE.imp (pe_ifExp (ht sc t W k X h1 x) (ha sc l W k X h2 x) (hb sc r W k X h3 x)) ?_
    rintro σ H Q ⟨ι, ρ, μ, S, R, hw⟩
    have hw : wpR ((evT g.C cf c ρ μ).bind fun k μ => if k then ev g.C cf a ρ μ else ev g.C cf b ρ μ) (OkV g ι H Q) (exW g W ι H σ) := hw
    rw [wpR_bind] at hw
    refine ⟨ι, ρ, μ, S, R, wpR_mono hw (fun k μ1 h1 ι1 H1 e1 S1 => ?_) fun _ _ z => z⟩
    cases k with
    | false => rw [if_neg Bool.false_ne_true]; exact ⟨ι1, ρ, μ1, S1, R.mono e1, wpR_mono h1 (fun _ _ z => OkV.mono e1 z) fun _ _ z => z.mono e1⟩
    | true => rw [if_pos rfl]; exact ⟨ι1, ρ, μ1, S1, R.mono e1, wpR_mono h1 (fun _ _ z => OkV.mono e1 z) fun _ _ z => z.mono e1⟩
  | _ => simp [chkE] at hc
end
end PL
end
section
set_option Elab.async false
set_option linter.all false
set_option autoImplicit false
set_option maxRecDepth 100000
set_option maxHeartbeats 400000
/-! Sound7: displays, calls, places, slices. -/
namespace PL
open PySem PySem.Spec PyProof.Rows L2
section
variable {Γ : Stat} {g : Gd} {cf : CF} {W : WX} {σ : L2.St} {H : Hp} {a b c : E} {es : Es}
theorem a_nil : SndA Γ g cf .nil := by
  intro sc l W k X hc x
  cases l with
  | nil =>
    refine PA.imp pa_nil ?_
    rintro σ H Q ⟨ι, ρ, μ, S, R, hw⟩
    exact hw ι H [] (Ext.refl _ _) S rfl
  | cons _ _ => simp [chkEs] at hc
theorem sem_cons {Q : List V → Hp → Prop} (h : semA g cf W (.cons a es) σ H Q) : tCons (semE g cf W a) (semA g cf W es) σ H Q := by
  obtain ⟨ι, ρ, μ, S, R, hw⟩ := h
  have hw : wpR ((ev g.C cf a ρ μ).bind fun d μ => (evs g.C cf es ρ μ).bind fun ds μ => .ok (d :: ds) μ) (OkL g ι H Q) (exW g W ι H σ) := hw
  rw [wpR_bind] at hw
  refine ⟨ι, ρ, μ, S, R, wpR_mono hw (fun d1 μ1 h1 ι1 H1 v1 e1 S1 r1 => ?_) fun _ _ z => z⟩
  rw [wpR_bind] at h1
  exact ⟨ι1, ρ, μ1, S1, R.mono e1, wpR_mono h1 (fun ds μ2 h2 ι2 H2 vs e2 S2 r2 => h2 ι2 H2 (v1 :: vs) (e1.trans e2) S2 ⟨v1, vs, rfl, e2.rep _ _ r1, r2⟩) fun _ _ z => z.mono e1⟩
theorem a_cons (ha : SndE Γ g cf a) (hs : SndA Γ g cf es) : SndA Γ g cf (.cons a es) := by
  intro sc l W k X hc x
  cases l with
  | nil => simp [chkEs] at hc
  | cons e l =>
    rw [chkEs, Bool.and_eq_true] at hc
    exact PA.imp (pa_cons (ha sc e W k X hc.1 x) (hs sc l W k X hc.2 x) (star_of (chk_plain hc.1).1)) fun σ H Q h => sem_cons h
/-- arguments, then what is made of them -/
theorem semA_then {f : List D → Store → Res D} {Q : VK} {r : List V → Hp → Prop} (hr : ∀ ι1 μ1 H1 ds vs, Ext ι1 H1 ι1 H1 → Sim g ι1 μ1 H1 → RepL g ι1 H1 ds vs → wpR (f ds μ1) (OkV g ι1 H1 Q) (exW g W ι1 H1 σ) → r vs H1)
    (h : ∃ ι ρ μ, Sim g ι μ H ∧ RepS g ι H ρ σ ∧ wpR ((evs g.C cf es ρ μ).bind f) (OkV g ι H Q) (exW g W ι H σ)) : semA g cf W es σ H r := by
  obtain ⟨ι, ρ, μ, S, R, hw⟩ := h
  rw [wpR_bind] at hw
  exact ⟨ι, ρ, μ, S, R, wpR_mono hw (fun ds μ1 h1 ι1 H1 vs e1 S1 r1 => hr ι1 μ1 H1 ds vs (Ext.refl _ _) S1 r1 (wpR_mono h1 (fun _ _ z => z.mono e1) fun _ _ z => z.mono e1)) fun _ _ z => z⟩
theorem c_tup (hs : SndA Γ g cf es) : SndE Γ g cf (.tup es) := by
  intro sc e W k X hc x
  cases e with
  | Tuple l j p =>
    simp only [chkE] at hc
    refine PE.imp (pe_tup (hs sc l W k X hc x)) fun σ H Q h => semA_then (f := fun ds μ => if ds.length ≤ mostLen then .ok (.tup ds) μ else .stuck) (fun ι1 μ1 H1 ds vs _ S r hw => ?_) h
    split at hw
    · rename_i hl
      exact ⟨by rw [r.length]; exact Nat.le_trans hl line_most, fun p hp => OkV.tup S hw r hp⟩
    · exact False.elim hw
  | _ => simp [chkE] at hc
theorem c_lst (hs : SndA Γ g cf es) : SndE Γ g cf (.lst es) := by
  intro sc e W k X hc x
  cases e with
  | List l p =>
    simp only [chkE] at hc
    refine PE.imp (pe_lst (hs sc l W k X hc x)) fun σ H Q h => semA_then (f := fun ds μ => if ds.length ≤ mostLen then PL.new (.lst ds) μ else .stuck) (fun ι1 μ1 H1 ds vs _ S r hw => ?_) h
    split at hw
    · rename_i hl
      exact ⟨by rw [r.length]; exact Nat.le_trans hl line_most, fun p hp => OkV.lst S hw r hp⟩
    · exact False.elim hw
  | _ => simp [chkE] at hc
theorem c_dnK : SndE Γ g cf .dnK := by
  intro sc e W k X hc x
  cases e with
  | Dict ks vs p =>
    match ks, vs, hc with
    | [], [], hc =>
      refine PE.imp pe_dnewK ?_
      rintro σ H Q ⟨ι, ρ, μ, S, R, hw⟩ p hp
      have hw : OkV g ι H Q (.loc μ.length) (μ ++ [.dK false []]) := hw
      exact hw _ _ _ (ext_new S hp _) (S.new hp ⟨[], upd_same, rfl⟩) ⟨p, rfl, by rw [← S.len]; simp⟩
    | _ :: _, _, hc => simp [chkE] at hc
    | [], _ :: _, hc => simp [chkE] at hc
  | _ => simp [chkE] at hc
theorem c_dnT : SndE Γ g cf .dnT := by
  intro sc e W k X hc x
  cases e with
  | Dict ks vs p =>
    match ks, vs, hc with
    | [], [], hc =>
      refine PE.imp pe_dnewT ?_
      rintro σ H Q ⟨ι, ρ, μ, S, R, hw⟩ p hp
      have hw : OkV g ι H Q (.loc μ.length) (μ ++ [.dT false []]) := hw
      exact hw _ _ _ (ext_new S hp _) (S.new hp ⟨[], upd_same, rfl⟩) ⟨p, rfl, by rw [← S.len]; simp⟩
    | _ :: _, _, hc => simp [chkE] at hc
    | [], _ :: _, hc => simp [chkE] at hc
  | _ => simp [chkE] at hc
/-! a display: its keys are constants -/
theorem key_pe {X : Cx} {q : PL.Key} {e : Option Expr} (h : keyIsC q e = true) : ∃ x, e = some x ∧ PE X x (tC (kV (K2 q))) := by
  cases q with
  | inl i =>
    cases e with
    | none => cases h
    | some e =>
      cases e with
      | Constant c j p =>
        cases c with
        | int n =>
          have : i = n := by simpa [keyIsC] using h
          subst this
          exact ⟨_, rfl, pe_int⟩
        | _ => simp [keyIsC] at h
      | _ => simp [keyIsC] at h
  | inr s =>
    cases e with
    | none => cases h
    | some e =>
      cases e with
      | Constant c j p =>
        cases c with
        | str n =>
          have : n = S2 s := by simpa [keyIsC] using h
          subst this
          exact ⟨_, rfl, pe_str⟩
        | _ => simp [keyIsC] at h
      | _ => simp [keyIsC] at h
theorem keysAre_len : ∀ {ks : List PL.Key} {es : List (Option Expr)}, keysAreC ks es = true → ks.length = es.length ∧ es.all (·.isSome) = true
  | [], [], _ => ⟨rfl, rfl⟩
  | [], _ :: _, h => by cases h
  | _ :: _, [], h => by cases h
  | k :: ks, e :: es, h => by
    rw [keysAreC, Bool.and_eq_true] at h
    obtain ⟨h1, h2⟩ := keysAre_len h.2
    have : e.isSome = true := by cases e <;> first | rfl | (cases k <;> cases h.1)
    simp [h1, h2, this]
def dispT (g : Gd) (cf : CF) (W : WX) : List PL.Key → Es → List (TE × TE)
  | k :: ks, .cons e es => (tC (kV (K2 k)), semE g cf W e) :: dispT g cf W ks es
  | _, _ => []
def SndP (Γ : Stat) (g : Gd) (cf : CF) (es : Es) : Prop := ∀ (sc : Scope) (ks : List PL.Key) (keys : List (Option Expr)) (vals : List Expr) (pos : Pos) (W : WX) (k : Nat) (X : Cx), keysAreC ks keys = true → chkEs Γ es sc vals = true →
  keys.length = vals.length → XOk Γ g cf W k sc X → PPs X pos keys vals (dispT g cf W ks es)
theorem p_nil : SndP Γ g cf .nil := by
  intro sc ks keys vals pos W k X hk hc hl x
  cases vals with
  | cons _ _ => simp [chkEs] at hc
  | nil =>
    cases keys with
    | cons _ _ => cases hl
    | nil =>
      cases ks with
      | cons _ _ => cases hk
      | nil => exact pps_nil
theorem p_cons (ha : SndE Γ g cf a) (hs : SndP Γ g cf es) : SndP Γ g cf (.cons a es) := by
  intro sc ks keys vals pos W k X hk hc hl x
  cases vals with
  | nil => simp [chkEs] at hc
  | cons v vals =>
    cases keys with
    | nil => cases hl
    | cons e keys =>
      cases ks with
      | nil => cases hk
      | cons q ks =>
        rw [keysAreC, Bool.and_eq_true] at hk
        rw [chkEs, Bool.and_eq_true] at hc
        obtain ⟨y, rfl, hy⟩ := key_pe (X := X) hk.1
        exact pps_cons hy (ha sc v W k X hc.1 x) (hs sc ks keys vals pos W k X hk.2 hc.2 (by simpa using hl) x)
def Es.len : Es → Nat
  | .nil => 0
  | .cons _ es => es.len + 1
theorem chkEs_len {sc : Scope} : ∀ {es : Es} {l : List Expr}, chkEs Γ es sc l = true → es.len = l.length
  | .nil, [], _ => rfl
  | .nil, _ :: _, h => by simp [chkEs] at h
  | .cons _ _, [], h => by simp [chkEs] at h
  | .cons e es, x :: l, h => by
    rw [chkEs, Bool.and_eq_true] at h
    rw [Es.len, chkEs_len h.2]
    rfl
theorem sem_pairs : ∀ {ks : List PL.Key} {es : Es} {ι : List Addr} {ρ : Env} {μ : Store} {H : Hp} {Q : List (V × V) → Hp → Prop}, es.len = ks.length → Sim g ι μ H → RepS g ι H ρ σ →
    wpR (evs g.C cf es ρ μ) (fun ds μ' => ds.length = ks.length ∧ ∀ ι' H' vs, Ext ι H ι' H' → Sim g ι' μ' H' → RepL g ι' H' ds vs → Q ((ks.map fun k => kV (K2 k)).zip vs) H') (exW g W ι H σ) →
    tPairs (dispT g cf W ks es) σ H Q
  | ks, .nil, ι, ρ, μ, H, Q, hn, S, R, hw => by
    obtain ⟨hl, hw⟩ := hw
    have : ks = [] := List.length_eq_zero_iff.mp hl.symm
    subst this
    exact hw ι H [] (Ext.refl _ _) S rfl
  | [], .cons e es, ι, ρ, μ, H, Q, hn, S, R, hw => by cases hn
  | k :: ks, .cons e es, ι, ρ, μ, H, Q, hn, S, R, hw => by
    have hw : wpR ((ev g.C cf e ρ μ).bind fun d μ => (evs g.C cf es ρ μ).bind fun ds μ => .ok (d :: ds) μ) _ _ := hw
    rw [wpR_bind] at hw
    refine ⟨ι, ρ, μ, S, R, wpR_mono hw (fun d1 μ1 h1 ι1 H1 v1 e1 S1 r1 => ?_) fun _ _ z => z⟩
    rw [wpR_bind] at h1
    refine sem_pairs (by simpa [Es.len] using hn) S1 (R.mono e1) (wpR_mono h1 (fun ds μ2 h2 => ?_) fun _ _ z => z.mono e1)
    obtain ⟨hl, h2⟩ := h2
    exact ⟨by simpa using hl, fun ι2 H2 vs e2 S2 r2 => h2 ι2 H2 (v1 :: vs) (e1.trans e2) S2 ⟨v1, vs, rfl, e2.rep _ _ r1, r2⟩⟩

theorem fold_rep {ι : List Addr} {H : Hp} : ∀ {ks : List PL.Key} {ds : List D} {vs : List V} {acc : List (PL.Key × D)} {acc' : List (L2.Key × V)}, RepKV g K2 ι H acc acc' → RepL g ι H ds vs →
    RepKV g K2 ι H ((ks.zip ds).foldl (fun acc p => put acc p.1 p.2) acc) (((ks.map K2).zip vs).foldl (fun acc kv => putK acc kv.1 kv.2) acc')
  | [], _, _, _, _, h, _ => h
  | _ :: _, [], _, _, _, h, r => by
    rw [show _ = [] from r]
    exact h
  | k :: ks, d :: ds, _, _, _, h, r => by
    obtain ⟨v, r', rfl, h1, h2⟩ := r
    exact fold_rep (ks := ks) (ds := ds) (vs := r') (RepKV.put (f := K2) (k := k) (fun _ _ => K2_inj) h h1) h2
theorem zip_kv : ∀ (ks : List PL.Key) (vs : List V), (ks.map fun k => kV (K2 k)).zip vs = ((ks.map K2).zip vs).map fun kv => (kV kv.1, kv.2)
  | [], _ => rfl
  | _ :: _, [] => rfl
  | k :: ks, v :: vs => by simp only [List.map_cons, List.zip_cons_cons, zip_kv ks vs]
theorem c_disp (ks : List PL.Key) (hs : SndP Γ g cf es) : SndE Γ g cf (.disp ks es) := by
  intro sc e W k X hc x
  cases e with
  | Dict keys vals p =>
    have hc : (keysAreC ks keys && chkEs Γ es sc vals && decide (keys.length = vals.length) && decide (0 < keys.length) && decide (keys.length ≤ 15)) = true := by
      rw [chkE] at hc
      · exact hc
      all_goals simp
    simp only [Bool.and_eq_true, decide_eq_true_eq] at hc
    obtain ⟨⟨⟨⟨h1, h2⟩, h3⟩, h4⟩, h5⟩ := hc
    obtain ⟨l1, l2⟩ := keysAre_len h1
    have l3 := chkEs_len h2
    refine PE.imp (pe_disp (hs sc ks keys vals p W k X h1 h2 h3 x) l2 h3 (by intro z; rw [z] at h4; cases h4) h5) ?_
    rintro σ H Q ⟨ι, ρ, μ, S, R, hw⟩ p hp
    have hw : wpR ((evs g.C cf es ρ (μ ++ [.dK false []])).bind fun ds μ' => match μ'[μ.length]? with
      | some (.dK false []) => if ds.length = ks.length ∧ ks.length ≤ 15 then .ok (.loc μ.length) (μ'.set μ.length (.dK false ((ks.zip ds).foldl (fun acc p => put acc p.1 p.2) []))) else .stuck
      | _ => .stuck) (OkV g ι H Q) (exW g W ι H σ) := hw
    rw [wpR_bind] at hw
    have e0 := ext_new S hp (.dK [])
    have S1 : Sim g (ι ++ [p]) (μ ++ [.dK false []]) (upd H p (.dK [])) := S.new hp ⟨[], upd_same, rfl⟩
    refine sem_pairs (by omega) S1 (R.mono e0) (wpR_mono hw (fun ds μ' h => ?_) fun _ _ z => z.mono e0)
    split at h
    · rename_i ed
      split at h
      · rename_i hl
        refine ⟨hl.1, fun ι2 H2 vs e2 S2 r2 => ?_⟩
        have hi : ι2[μ.length]? = some p := e2.ix (by rw [← S.len]; simp)
        obtain ⟨vs0, q1, q2⟩ := S2.ob _ _ _ ed hi
        rw [show vs0 = [] from q2] at q1
        refine ⟨q1, (ks.map K2).zip vs, ?_, ?_, ?_⟩
        · exact zip_kv ks vs
        · rw [List.length_zip, List.length_map]; omega
        · have e3 := ext_set S2 hi (.dK q1) (.dK (mergeK [] ((ks.map K2).zip vs)))
          refine h _ _ _ (e0.trans (e2.trans e3)) (S2.set hi (.dK q1) ⟨_, upd_same, e3.repKV _ _ (fold_rep (show RepKV g K2 ι2 H2 [] [] from rfl) r2)⟩) ⟨p, rfl, hi⟩
      · exact False.elim h
    · exact False.elim h
  | _ => simp [chkE] at hc

/-! ### calls -/
theorem call_find {k : Nat} {sc : Scope} {X : Cx} (x : XOk Γ g cf W k sc X) {y : PySem.Str} {f : Nat} {l : List Expr} {p pos : Pos} (h0 : Γ.hot = false) (hs : SndA Γ g cf es) (h1 : glB sc y = true) (h2 : okN y = true) (h3 : (y, f) ∈ Γ.fns) (h4 : chkEs Γ es sc l = true) :
    PE X (.Call (.Name y p) l [] pos) (fun σ H Q => ∃ ι ρ μ, Sim g ι μ H ∧ RepS g ι H ρ σ ∧ wpR ((evs g.C cf es ρ μ).bind fun ds μ => cf f ds μ) (OkV g ι H Q) (exW g W ι H σ)) := by
  obtain ⟨a, fd, ps, m1, m2, m3, m5, m4⟩ := x.fnk _ _ h3
  have arg : ∀ {σ : L2.St} {H : Hp} {Q : VK} ι1 μ1 H1 ds vs, Ext ι1 H1 ι1 H1 → Sim g ι1 μ1 H1 → RepL g ι1 H1 ds vs → wpR (cf f ds μ1) (OkV g ι1 H1 Q) (exW g W ι1 H1 σ) → spF g cf f ps.length (vs ++ []) H1 Q (WE W σ) := by
    intro σ H Q ι1 μ1 H1 ds vs _ S r hw
    rw [List.append_nil]
    refine ⟨?_, ι1, μ1, ds, S, r, hw⟩
    rw [r.length]
    by_cases e : ds.length = ps.length
    · exact e
    · rw [m5 ds μ1 e] at hw
      exact False.elim hw
  cases l with
  | nil =>
    refine ⟨fun pins s σ H Q I q => ?_⟩
    have q' : semA g cf W es σ H fun vs H1 => spF g cf f ps.length (vs ++ []) H1 Q (WE W σ) := semA_then (arg (H := H)) q
    cases es with
    | cons _ _ => simp [chkEs] at h4
    | nil =>
      obtain ⟨ι, ρ, μ, S, R, hw⟩ := q'
      have sp : spF g cf f ps.length ([] ++ []) H Q (WE W σ) := hw ι H [] (Ext.refl _ _) S rfl
      refine wpAny_Call_Name_kw (ld_glob I (x.glo h1) m1 ?_ (okN_parts h2).1)
      exact PySem.W.callWith_K0 I.kIn m2 (run_fnSD (E := WE W) (us := []) (vs := []) (dvs := []) (ds := []) m4 (x.room h0) m3 .nil (passAt x.tk σ) I .nil sp)
  | cons e l =>
    have pa := hs sc (e :: l) W k X h4 x
    have pl : ∃ m ms, es = .cons m ms ∧ chkE Γ m sc e = true ∧ chkEs Γ ms sc l = true := by
      cases es with
      | nil => simp [chkEs] at h4
      | cons m ms =>
        rw [chkEs, Bool.and_eq_true] at h4
        exact ⟨m, ms, rfl, h4.1, h4.2⟩
    obtain ⟨m, ms, rfl, q1, q2⟩ := pl
    refine PE.imp (pe_callSD (E := WE W) m4 (x.room h0) (x.glo h1) m1 m2 m3 .nil (fun σ => passAt x.tk σ) pa (okN_parts h2).1 (star_of (chk_plain q1).1) (star_plain q2)) fun σ H Q h => ?_
    exact semA_then (arg (H := H)) h
theorem c_call (f : Nat) (hs : SndA Γ g cf es) : SndE Γ g cf (.call f es) := by
  intro sc e W k X hc x
  cases e with
  | Call fe l kw p =>
    cases fe with
    | Name y py =>
      cases kw with
      | cons _ _ => simp [chkE] at hc
      | nil =>
        simp only [chkE, Bool.and_eq_true, decide_eq_true_eq] at hc
        obtain ⟨⟨⟨⟨h0, h1⟩, h2⟩, h3⟩, h4⟩ := hc
        exact PE.imp (call_find x (notHot h0) hs h1 h2 h3 h4) fun σ H Q h => h
    | _ => simp [chkE] at hc
  | _ => simp [chkE] at hc
theorem sem_b1 {bf : Bf} {Q : VK} (h : semE g cf W (.bf bf a) σ H Q) : tCB (rBf g bf) (tCons (semE g cf W a) tNil) σ H Q :=
  sem1 (f := fun d μ => bfF bf d μ) (r := fun x H Q => rBf g bf [x] H Q) (fun x H Q ⟨ι, μ, d, S, r, hw⟩ => ⟨ι, μ, d, x, rfl, S, r, hw⟩) h
theorem c_bf (bf : Bf) (ha : SndE Γ g cf a) : SndE Γ g cf (.bf bf a) := by
  intro sc e W k X hc x
  cases e with
  | Call fe l kw p =>
    cases fe with
    | Name y py =>
      cases kw with
      | cons _ _ => cases l <;> simp [chkE] at hc
      | nil =>
        match l, hc with
        | [], hc => simp [chkE] at hc
        | _ :: _ :: _, hc => simp [chkE] at hc
        | [e], hc =>
          simp only [chkE, Bool.and_eq_true, decide_eq_true_eq] at hc
          obtain ⟨⟨⟨h1, rfl⟩, h2⟩, h3⟩ := hc
          obtain ⟨b1, b2, b3, b4⟩ := x.blt h1
          have pe := ha sc e W k X h2 x
          have st := star_of (l := []) (env := X.env) (chk_plain h2).1
          have hu := x.hu
          cases bf with
          | len => exact PE.imp (pe_callB (call_lenF x.K) b1 b2 (by decide +kernel) (pa_cons pe pa_nil st) b4 b3 st) fun σ H Q h => sem_b1 h
          | abs => exact PE.imp (pe_callB call_absF b1 b2 (by decide +kernel) (pa_cons pe pa_nil st) b4 b3 st) fun σ H Q h => sem_b1 h
          | sorted => exact PE.imp (pe_callB (call_sortedF (x.calm (notHot (by simpa using h3))) x.K (by omega)) b1 b2 (by decide +kernel) (pa_cons pe pa_nil st) b4 b3 st) fun σ H Q h => sem_b1 h
          | int => exact PE.imp (pe_callTy call_intF b1 b2 (by decide +kernel) (pa_cons pe pa_nil st) b4 b3 st) fun σ H Q h => sem_b1 h
          | bool => exact PE.imp (pe_callTy call_boolF b1 b2 (by decide +kernel) (pa_cons pe pa_nil st) b4 b3 st) fun σ H Q h => sem_b1 h
          | tuple => exact PE.imp (pe_callTy (call_tupleF x.K) b1 b2 (by decide +kernel) (pa_cons pe pa_nil st) b4 b3 st) fun σ H Q h => sem_b1 h
          | tupleF => exact PE.imp (pe_callTy (call_tupleFz x.K) b1 b2 (by decide +kernel) (pa_cons pe pa_nil st) b4 b3 st) fun σ H Q h => sem_b1 h
          | list => exact PE.imp (pe_callTy (call_listF x.K) b1 b2 (by decide +kernel) (pa_cons pe pa_nil st) b4 b3 st) fun σ H Q h => sem_b1 h
          | str => exact PE.imp (pe_callTy call_strF b1 b2 (by decide +kernel) (pa_cons pe pa_nil st) b4 b3 st) fun σ H Q h => sem_b1 h
    | _ => simp [chkE] at hc
  | _ => simp [chkE] at hc

theorem t_truth {m : E} (hm : SndE Γ g cf m) (he : ∀ sc e, chkE Γ m sc e = true → ∀ env whole, isTrue e env whole = (do let v ← whole; standAt e.pos; holding [v] (truthy v)))
    (hT : ∀ ρ μ, evT g.C cf m ρ μ = (ev g.C cf m ρ μ).bind truthF) : SndT Γ g cf m := by
  intro sc e W k X hc x
  refine PT.imp (pt_truth (hm sc e W k X hc x) (he sc e hc X.env)) ?_
  rintro σ H Q ⟨ι, ρ, μ, S, R, hw⟩
  rw [hT, wpR_bind] at hw
  refine ⟨ι, ρ, μ, S, R, wpR_mono hw (fun d μ1 h1 ι1 H1 v1 e1 S1 r1 => ?_) fun _ _ z => z⟩
  rw [x.K]
  exact truth_F S1 r1 (wpR_mono h1 (fun _ _ z => OkB.mono e1 z) fun _ _ _ => trivial)
theorem c_isi (t : Ty) (ha : SndE Γ g cf a) : SndE Γ g cf (.isi a t) := by
  intro sc e W k X hc x
  cases e with
  | Call fe l kw p =>
    cases fe with
    | Name y py =>
      cases kw with
      | cons _ _ => rcases l with _ | ⟨e1, _ | ⟨e2, _ | ⟨e3, l⟩⟩⟩ <;> first | (simp [chkE] at hc; done) | (cases e2 <;> simp [chkE] at hc)
      | nil =>
        rcases l with _ | ⟨e1, _ | ⟨e2, _ | ⟨e3, l⟩⟩⟩
        · simp [chkE] at hc
        · simp [chkE] at hc
        · cases e2 with
          | Name z pz =>
            simp only [chkE, Bool.and_eq_true, decide_eq_true_eq] at hc
            obtain ⟨⟨⟨⟨h1, rfl⟩, h2⟩, rfl⟩, h3⟩ := hc
            obtain ⟨b1, b2, b3, b4⟩ := x.blt h1
            obtain ⟨c1, c2, c3, c4⟩ := x.blt h2
            have pe := ha sc e1 W k X h3 x
            have st := star_of (l := [.Name (tyStr t) pz]) (env := X.env) (chk_plain h3).1
            have pt : PE X (.Name (tyStr t) pz) (tC (.ty (tyName t))) := pe_bltn (u := .type (tyName t)) c1 c2 (by cases t <;> decide +kernel) rfl c4 c3
            refine PE.imp (pe_callB (call_isiF x.K t) b1 b2 (by decide +kernel) (pa_cons pe (pa_cons pt pa_nil rfl) st) b4 b3 st rfl) ?_
            rintro σ H Q ⟨ι, ρ, μ, S, R, hw⟩
            have hw : wpR ((ev g.C cf a ρ μ).bind fun d μ => (isiF d t μ).bind fun b μ => .ok (.bl b) μ) (OkV g ι H Q) (exW g W ι H σ) := hw
            rw [wpR_bind] at hw
            refine ⟨ι, ρ, μ, S, R, wpR_mono hw (fun d1 μ1 h1 ι1 H1 v1 e1 S1 r1 => ?_) fun _ _ z => z⟩
            exact ⟨v1, rfl, ι1, μ1, d1, S1, r1, wpR_mono (semB_V (wpR_mono h1 (fun _ _ z => OkV.mono e1 z) fun _ _ z => z)) (fun _ _ z => z) fun _ _ _ => trivial⟩
          | _ => simp [chkE] at hc
        · simp [chkE] at hc
    | _ => simp [chkE] at hc
  | _ => simp [chkE] at hc
theorem t_isi (t : Ty) (ha : SndE Γ g cf a) : SndT Γ g cf (.isi a t) := by
  intro sc e W k X hc x
  have he : ∀ whole, isTrue e X.env whole = (do let v ← whole; standAt e.pos; holding [v] (truthy v)) := by
    intro whole
    cases e with
    | Call fe l kw p => rfl
    | _ => simp [chkE] at hc
  refine PT.imp (pt_val (c_isi t ha sc e W k X hc x) he) ?_
  rintro σ H Q ⟨ι, ρ, μ, S, R, hw⟩
  have hw : wpR ((ev g.C cf a ρ μ).bind fun d μ => isiF d t μ) (OkB g ι H Q) (exW g W ι H σ) := hw
  refine ⟨ι, ρ, μ, S, R, ?_⟩
  show wpR ((ev g.C cf a ρ μ).bind fun d μ => (isiF d t μ).bind fun b μ => .ok (D.bl b) μ) _ _
  rw [wpR_bind] at hw ⊢
  refine wpR_mono hw (fun d μ1 h1 => ?_) fun _ _ z => z
  rw [wpR_bind]
  exact wpR_mono h1 (fun b μ2 z ι' H' v e S r => ⟨b, r, z ι' H' e S⟩) fun _ _ z => z
end
end PL
end
section
set_option Elab.async false
set_option linter.all false
set_option autoImplicit false
set_option maxRecDepth 100000
set_option maxHeartbeats 400000
/-! Sound8: methods, places, slices. -/
namespace PL
open PySem PySem.Spec PyProof.Rows L2
section
variable {Γ : Stat} {g : Gd} {cf : CF} {W : WX} {σ : L2.St} {H : Hp} {a b c : E} {es : Es}
/-! ### places -/
theorem ix_cases {d i : D} {μ : Store} {Q : D → Store → Prop} {E : Exc → Store → Prop} (h : wpR (ixF g.C d i μ) Q E) : isRow μ d = true ∨ (∃ c, d = .cst c) ∨ ∃ l, d = .loc l ∧ ∃ v, findF g.C d i μ = some (some v) ∧ Q v μ := by
  cases d with
  | tup _ => exact .inl rfl
  | rol _ => exact .inl rfl
  | ktp _ => exact .inl rfl
  | ftup _ => exact .inl rfl
  | str _ => exact .inl rfl
  | cst c => exact .inr (.inl ⟨c, rfl⟩)
  | loc l =>
    cases e : μ[l]? with
    | none => simp [ixF, e, wpR_stuck] at h
    | some o =>
      cases o with
      | lst xs => exact .inl (by simp [isRow, e])
      | dK b kvs =>
        refine .inr (.inr ⟨l, rfl, ?_⟩)
        simp only [ixF, e] at h
        split at h
        · rename_i v ev; exact ⟨v, ev, h⟩
        · exact False.elim h
      | dT b kvs =>
        refine .inr (.inr ⟨l, rfl, ?_⟩)
        simp only [ixF, e] at h
        split at h
        · rename_i v ev; exact ⟨v, ev, h⟩
        · exact False.elim h
  | _ => exact False.elim h
/-- t[k] of a table of the written part -/
def tCst (g : Gd) (td ty : TE) : TE := fun σ H Q => td σ H fun x H1 => ty σ H1 fun y H2 => ∃ c s d u v, x = .ref (g.cA c) ∧ CstAt g.K g.w (g.cA c) (g.C c) ∧ y = .str (S2 s) ∧ PySem.W.nsIn g.K (g.cA c) (S2 s) = some (some u) ∧ RelV v u ∧ RepK g.K d v ∧ Q v H2
theorem pe_cst {X : Cx} {o i : Expr} {td ty : TE} {pos : Pos} (hK : X.K = g.K) (hw : X.w = g.w) (ho : PE X o td) (hi : PE X i ty) (hs : NoSl i) : PE X (.Subscript o i pos) (tCst g td ty) := by
  refine ⟨fun pins s σ H Q I h => ?_⟩
  refine subD_of PySem.F.slot_dict_getitem.lookup hs (thn (ho.run pins s σ H _ I h) fun u s1 ⟨x, H1, I1, rx, q1⟩ => thn (hi.run pins s1 σ H1 _ I1 q1) fun iv s2 ⟨y, H2, I2, ry, q⟩ => ?_)
  obtain ⟨c, z, d, u', v', ex, cs, ey, e2, rv, rk, q2⟩ := q
  subst ex ey
  obtain rfl : u = Value.ref (g.cA c) := rx
  obtain ⟨es, n, kd⟩ := cs.kd
  have kd' : KDict X.K X.w (g.cA c) es n := by rw [hK, hw]; exact kd
  exact ⟨kd_type kd' I2, op_item_kd kd' pins s2 σ H2 (.ref (g.cA c)) (.str (S2 z)) (.ref (g.cA c)) iv _ I2 rfl ry ⟨S2 z, u', v', rfl, rfl, by rw [hK]; exact e2, rv, q2⟩⟩
theorem c_ix (ha : SndE Γ g cf a) (hb : SndE Γ g cf b) : SndE Γ g cf (.ix a b) := by
  intro sc e W k X hc x
  cases e with
  | Subscript l r p =>
    have hc' : chkE Γ a sc l = true ∧ chkE Γ b sc r = true := by
      rw [chkE] at hc
      · exact Bool.and_eq_true_iff.mp hc
      all_goals simp
    obtain ⟨h1, h2⟩ := hc'
    have pa := ha sc l W k X h1 x
    have pb := hb sc r W k X h2 x
    have ns := ix_of (chk_plain h2).2.2
    have hu := x.hu
    refine PE.imp (PE.or (PE.or (pe_ix (ix_row x.K) pa pb ns) (pe_dget (by omega) pa pb ns)) (pe_cst x.K x.w pa pb ns)) ?_
    rintro σ H Q ⟨ι, ρ, μ, S, R, hw⟩
    have hw : wpR ((ev g.C cf a ρ μ).bind fun x μ => (ev g.C cf b ρ μ).bind fun y μ => ixF g.C x y μ) (OkV g ι H Q) (exW g W ι H σ) := hw
    rw [wpR_bind] at hw
    -- which road: by the end of both
    cases ea : ev g.C cf a ρ μ with
    | stuck => rw [ea] at hw; exact False.elim hw
    | exc y μ1 => rw [ea] at hw; exact .inl (.inl ⟨ι, ρ, μ, S, R, by rw [ea]; exact hw⟩)
    | ok d1 μ1 =>
      rw [ea] at hw
      have hw : wpR ((ev g.C cf b ρ μ1).bind fun y μ => ixF g.C d1 y μ) (OkV g ι H Q) (exW g W ι H σ) := hw
      rw [wpR_bind] at hw
      cases eb : ev g.C cf b ρ μ1 with
      | stuck => rw [eb] at hw; exact False.elim hw
      | exc y μ2 =>
        rw [eb] at hw
        refine .inl (.inl ⟨ι, ρ, μ, S, R, ?_⟩)
        rw [ea]
        intro ι1 H1 v1 e1 S1 r1
        refine ⟨ι1, ρ, μ1, S1, R.mono e1, ?_⟩
        rw [eb]
        exact exW.mono e1 hw
      | ok d2 μ2 =>
        rw [eb] at hw
        have hw : wpR (ixF g.C d1 d2 μ2) (OkV g ι H Q) (exW g W ι H σ) := hw
        rcases ix_cases hw with hr | ⟨c, rfl⟩ | ⟨l', rfl, v, hf, hq⟩
        · refine .inl (.inl ⟨ι, ρ, μ, S, R, ?_⟩)
          rw [ea]
          intro ι1 H1 v1 e1 S1 r1
          refine ⟨ι1, ρ, μ1, S1, R.mono e1, ?_⟩
          rw [eb]
          intro ι2 H2 v2 e2 S2 r2
          exact ⟨ι2, μ2, d1, d2, S2, e2.rep _ _ r1, r2, hr, wpR_mono hw (fun _ _ z => z.mono (e1.trans e2)) fun _ _ _ => trivial⟩
        · refine .inr ⟨ι, ρ, μ, S, R, ?_⟩
          rw [ea]
          intro ι1 H1 v1 e1 S1 r1
          refine ⟨ι1, ρ, μ1, S1, R.mono e1, ?_⟩
          rw [eb]
          intro ι2 H2 v2 e2 S2 r2
          obtain ⟨rfl, cs⟩ := r1
          cases d2 with
          | str z =>
            obtain rfl := r2
            have hw : wpR (match findF g.C (.cst c) (.str z) μ2 with
              | some (some v) => .ok v μ2
              | _ => .stuck) (OkV g ι H Q) (exW g W ι H σ) := hw
            simp only [findF] at hw
            rcases cs.get z with ⟨q1, q2⟩ | ⟨d, u, v, q1, q2, q3, q4⟩
            · rw [q1] at hw; exact False.elim hw
            · rw [q1] at hw
              exact ⟨c, z, d, u, v, rfl, cs, rfl, q2, q3, q4, hw ι2 H2 v (e1.trans e2) S2 (RepK.rep d v q4)⟩
          | _ => exact False.elim hw
        · refine .inl (.inr ⟨ι, ρ, μ, S, R, ?_⟩)
          rw [ea]
          intro ι1 H1 v1 e1 S1 r1
          refine ⟨ι1, ρ, μ1, S1, R.mono e1, ?_⟩
          rw [eb]
          intro ι2 H2 v2 e2 S2 r2
          obtain ⟨a', ov, rfl, dg, _, hh⟩ := find_loc S2 (e2.rep _ _ r1) r2 hf
          rcases hh with ⟨z, _⟩ | ⟨d, v', z1, z2, z3⟩
          · cases z
          · cases z1
            subst z2
            exact ⟨a', v', rfl, dg, hq ι2 H2 v' (e1.trans e2) S2 z3⟩
  | _ => simp [chkE] at hc

/-! ### slices -/
theorem chk_ix_no {sc : Scope} {l r : Expr} {p : Pos} {lo hi st : Option Expr} {p2 : Pos} (h : chkE Γ (.ix a b) sc (.Subscript l (.Slice lo hi st p2) p) = true) : False := by
  rw [chkE] at h
  · rw [Bool.and_eq_true] at h
    exact absurd (chk_plain h.2).2.2 (by simp [NoSlice])
  all_goals simp
theorem c_slL (ha : SndE Γ g cf a) (hb : SndE Γ g cf b) : SndE Γ g cf (.slL a b) := by
  intro sc e W k X hc x
  cases e with
  | Subscript l r p =>
    cases r with
    | Slice lo hi st p2 =>
      match lo, hi, st, hc with
      | some lo, none, none, hc =>
        simp only [chkE, Bool.and_eq_true] at hc
        refine PE.imp (pe_slice (sl_rowF x.K) (ha sc l W k X hc.1 x) (po_some (hb sc lo W k X hc.2 x)) po_none) ?_
        rintro σ H Q ⟨ι, ρ, μ, S, R, hw⟩
        have hw : wpR ((ev g.C cf a ρ μ).bind fun x μ => (ev g.C cf b ρ μ).bind fun y μ => match y with
          | .int i => slF x (some i) none μ
          | _ => .stuck) (OkV g ι H Q) (exW g W ι H σ) := hw
        rw [wpR_bind] at hw
        refine ⟨ι, ρ, μ, S, R, wpR_mono hw (fun d1 μ1 h1 ι1 H1 v1 e1 S1 r1 => ?_) fun _ _ z => z⟩
        rw [wpR_bind] at h1
        refine ⟨ι1, ρ, μ1, S1, R.mono e1, wpR_mono h1 (fun d2 μ2 h2 ι2 H2 v2 e2 S2 r2 => ?_) fun _ _ z => z.mono e1⟩
        cases d2 with
        | int i =>
          obtain rfl := r2
          exact ⟨i, rfl, ι2, μ2, d1, S2, e2.rep _ _ r1, wpR_mono h2 (fun _ _ z => OkV.mono (e1.trans e2) z) fun _ _ _ => trivial⟩
        | _ => exact False.elim h2
      | none, _, _, hc => simp [chkE] at hc
      | some _, some _, _, hc => simp [chkE] at hc
      | some _, none, some _, hc => simp [chkE] at hc
    | _ => simp [chkE] at hc
  | _ => simp [chkE] at hc
theorem c_slU (ha : SndE Γ g cf a) (hb : SndE Γ g cf b) : SndE Γ g cf (.slU a b) := by
  intro sc e W k X hc x
  cases e with
  | Subscript l r p =>
    cases r with
    | Slice lo hi st p2 =>
      match lo, hi, st, hc with
      | none, some lo, none, hc =>
        simp only [chkE, Bool.and_eq_true] at hc
        refine PE.imp (pe_slice (sl_rowF x.K) (ha sc l W k X hc.1 x) po_none (po_some (hb sc lo W k X hc.2 x))) ?_
        rintro σ H Q ⟨ι, ρ, μ, S, R, hw⟩
        have hw : wpR ((ev g.C cf a ρ μ).bind fun x μ => (ev g.C cf b ρ μ).bind fun y μ => match y with
          | .int i => slF x none (some i) μ
          | _ => .stuck) (OkV g ι H Q) (exW g W ι H σ) := hw
        rw [wpR_bind] at hw
        refine ⟨ι, ρ, μ, S, R, wpR_mono hw (fun d1 μ1 h1 ι1 H1 v1 e1 S1 r1 => ?_) fun _ _ z => z⟩
        rw [wpR_bind] at h1
        refine ⟨ι1, ρ, μ1, S1, R.mono e1, wpR_mono h1 (fun d2 μ2 h2 ι2 H2 v2 e2 S2 r2 => ?_) fun _ _ z => z.mono e1⟩
        cases d2 with
        | int i =>
          obtain rfl := r2
          exact ⟨i, rfl, ι2, μ2, d1, S2, e2.rep _ _ r1, wpR_mono h2 (fun _ _ z => OkV.mono (e1.trans e2) z) fun _ _ _ => trivial⟩
        | _ => exact False.elim h2
      | some _, _, _, hc => simp [chkE] at hc
      | none, none, _, hc => simp [chkE] at hc
      | none, some _, some _, hc => simp [chkE] at hc
    | _ => simp [chkE] at hc
  | _ => simp [chkE] at hc
theorem c_slB (ha : SndE Γ g cf a) (hb : SndE Γ g cf b) (hh : SndE Γ g cf c) : SndE Γ g cf (.slB a b c) := by
  intro sc e W k X hc x
  cases e with
  | Subscript l r p =>
    cases r with
    | Slice lo hi st p2 =>
      match lo, hi, st, hc with
      | some lo, some hi, none, hc =>
        simp only [chkE, Bool.and_eq_true] at hc
        refine PE.imp (pe_slice (sl_rowF x.K) (ha sc l W k X hc.1.1 x) (po_some (hb sc lo W k X hc.1.2 x)) (po_some (hh sc hi W k X hc.2 x))) ?_
        rintro σ H Q ⟨ι, ρ, μ, S, R, hw⟩
        have hw : wpR ((ev g.C cf a ρ μ).bind fun x μ => (ev g.C cf b ρ μ).bind fun y μ => match y with
          | .int i => (ev g.C cf c ρ μ).bind fun z μ => match z with
            | .int j => slF x (some i) (some j) μ
            | _ => .stuck
          | _ => .stuck) (OkV g ι H Q) (exW g W ι H σ) := hw
        rw [wpR_bind] at hw
        refine ⟨ι, ρ, μ, S, R, wpR_mono hw (fun d1 μ1 h1 ι1 H1 v1 e1 S1 r1 => ?_) fun _ _ z => z⟩
        rw [wpR_bind] at h1
        refine ⟨ι1, ρ, μ1, S1, R.mono e1, wpR_mono h1 (fun d2 μ2 h2 ι2 H2 v2 e2 S2 r2 => ?_) fun _ _ z => z.mono e1⟩
        cases d2 with
        | int i =>
          obtain rfl := r2
          have h2 : wpR ((ev g.C cf c ρ μ2).bind fun z μ => match z with
            | .int j => slF d1 (some i) (some j) μ
            | _ => .stuck) (OkV g ι H Q) (exW g W ι H σ) := h2
          rw [wpR_bind] at h2
          refine ⟨i, rfl, ι2, ρ, μ2, S2, R.mono (e1.trans e2), wpR_mono h2 (fun d3 μ3 h3 ι3 H3 v3 e3 S3 r3 => ?_) fun _ _ z => z.mono (e1.trans e2)⟩
          cases d3 with
          | int j =>
            obtain rfl := r3
            exact ⟨j, rfl, ι3, μ3, d1, S3, (e2.trans e3).rep _ _ r1, wpR_mono h3 (fun _ _ z => OkV.mono (e1.trans (e2.trans e3)) z) fun _ _ _ => trivial⟩
          | _ => exact False.elim h3
        | _ => exact False.elim h2
      | none, _, _, hc => simp [chkE] at hc
      | some _, none, _, hc => simp [chkE] at hc
      | some _, some _, some _, hc => simp [chkE] at hc
    | _ => simp [chkE] at hc
  | _ => simp [chkE] at hc

/-! ### methods -/
theorem ty_lst {d : D} {x : V} {ι : List Addr} {μ : Store} {H : Hp} (S : Sim g ι μ H) (r : Rep g ι H d x) (h : isLstD d μ = true) : tyV g.K "list" x H := by
  cases d with
  | rol xs =>
    obtain ⟨a, vs, rfl, _, r', _, hq⟩ := rowF_at S r (xs := xs) rfl
    exact .inl ⟨rfl, vs, hq (fun _ z => by cases z) (fun _ z => by cases z)⟩
  | loc l =>
    obtain ⟨xs, e⟩ : ∃ xs, μ[l]? = some (.lst xs) := by
      cases e : μ[l]? with
      | none => simp [isLstD, e] at h
      | some o =>
        cases o with
        | lst xs => exact ⟨xs, rfl⟩
        | _ => simp [isLstD, e] at h
    obtain ⟨a, vs, rfl, _, ha, _⟩ := RepL.sqL S r e
    exact .inl ⟨rfl, vs, SqL.of ha⟩
  | _ => cases h
theorem ty_str {d : D} {x : V} {ι : List Addr} {H : Hp} (r : Rep g ι H d x) (h : isStrD d = true) : tyV g.K "str" x H := by
  cases d with
  | str s => obtain rfl := r; rfl
  | _ => cases h
theorem ty_dct {d : D} {x : V} {ι : List Addr} {μ : Store} {H : Hp} (S : Sim g ι μ H) (r : Rep g ι H d x) (h : isDctD d μ = true) : ∃ a, x = .ref a ∧ IsD H a ∧ ∃ l, d = .loc l := by
  cases d with
  | loc l =>
    obtain ⟨a, rfl, ha⟩ := r
    refine ⟨a, rfl, ?_, l, rfl⟩
    cases e : μ[l]? with
    | none => simp [isDctD, e] at h
    | some o =>
      have ho := S.ob l o a e ha
      cases o with
      | lst xs => simp [isDctD, e] at h
      | dK b kvs =>
        cases b with
        | false => obtain ⟨vs, q1, _⟩ := ho; exact .inl ⟨vs, .inl q1⟩
        | true => obtain ⟨o, vs, q1, _⟩ := ho; exact .inl ⟨vs, .inr ⟨o, q1⟩⟩
      | dT b kvs =>
        cases b with
        | false => obtain ⟨vs, q1, _⟩ := ho; exact .inr ⟨vs, .inl q1⟩
        | true => obtain ⟨o, vs, q1, _⟩ := ho; exact .inr ⟨vs, .inr ⟨o, q1⟩⟩
  | _ => cases h
/-- what the evaluation of a method call is -/
def mSem (g : Gd) (cf : CF) (W : WX) (m : Mf) (a : E) (es : Es) : TE := fun σ H Q => ∃ ι ρ μ, Sim g ι μ H ∧ RepS g ι H ρ σ ∧ wpR ((ev g.C cf a ρ μ).bind fun d μ => if mfOk m d μ then (evs g.C cf es ρ μ).bind fun ds μ => methF g.C m d ds μ else .stuck) (OkV g ι H Q) (exW g W ι H σ)
theorem sem_meth {m : Mf} {T : String} {r : V → List V → Hp → VK → Prop} (hr : ∀ x xs H Q, rMf g m x xs H Q → r x xs H Q) {Q : VK}
    (hT : ∀ d x ι μ H, Sim g ι μ H → Rep g ι H d x → mfOk m d μ = true → tyV g.K T x H)
    (h : mSem g cf W m a es σ H Q) : tBM g.K T r (semE g cf W a) (semA g cf W es) σ H Q := by
  obtain ⟨ι, ρ, μ, S, R, hw⟩ := h
  rw [wpR_bind] at hw
  refine ⟨ι, ρ, μ, S, R, wpR_mono hw (fun d1 μ1 h1 ι1 H1 v1 e1 S1 r1 => ?_) fun _ _ z => z⟩
  split at h1
  · rename_i ok
    refine ⟨hT d1 v1 ι1 μ1 H1 S1 r1 ok, ?_⟩
    rw [wpR_bind] at h1
    exact ⟨ι1, ρ, μ1, S1, R.mono e1, wpR_mono h1 (fun ds μ2 h2 ι2 H2 vs e2 S2 r2 => hr _ _ _ _ ⟨ι2, μ2, d1, ds, S2, e2.rep _ _ r1, r2, wpR_mono h2 (fun _ _ z => OkV.mono (e1.trans e2) z) fun _ _ _ => trivial⟩) fun _ _ z => z.mono e1⟩
  · exact False.elim h1
theorem sem_meth0 {m : Mf} {T : String} {r : V → List V → Hp → VK → Prop} (hr : ∀ x xs H Q, rMf g m x xs H Q → r x xs H Q) {Q : VK}
    (hT : ∀ d x ι μ H, Sim g ι μ H → Rep g ι H d x → mfOk m d μ = true → tyV g.K T x H)
    (h : mSem g cf W m a .nil σ H Q) : tBM0 g.K T r (semE g cf W a) σ H Q := by
  obtain ⟨ι, ρ, μ, S, R, hw⟩ := h
  rw [wpR_bind] at hw
  refine ⟨ι, ρ, μ, S, R, wpR_mono hw (fun d1 μ1 h1 ι1 H1 v1 e1 S1 r1 => ?_) fun _ _ z => z⟩
  split at h1
  · rename_i ok
    refine ⟨hT d1 v1 ι1 μ1 H1 S1 r1 ok, hr _ _ _ _ ⟨ι1, μ1, d1, [], S1, r1, rfl, ?_⟩⟩
    exact wpR_mono (show wpR (methF g.C m d1 [] μ1) (OkV g ι H Q) (exW g W ι H σ) from h1) (fun _ _ z => OkV.mono e1 z) fun _ _ _ => trivial
  · exact False.elim h1
theorem chkEs_nil {sc : Scope} {l : List Expr} (h : chkEs Γ .nil sc l = true) : l = [] := by
  cases l with
  | nil => rfl
  | cons _ _ => simp [chkEs] at h
theorem few_of {sc : Scope} {l : List Expr} {env : PySem.Env} {cpos : Pos} (h : chkEs Γ es sc l = true) (hl : l.length < 20) :
    ((backTo cpos (starEach l env)).all (fun x => !x.1) && (backToKw cpos (keywordEach [] env)).all (fun x => x.1.isSome) && decide (l.length + ([] : List Keyword).length + (if ([] : List Keyword).isEmpty then 0 else 1) < 30)) = true := by
  rw [star_few h]
  simp [keywordEach, backToKw]
  omega
theorem star1 {e : Expr} {env : PySem.Env} (h : NoStar e = true) : starEach [e] env = [(false, eval e env)] := star_of h
theorem m_get {d : D} {ds : List D} {μ : Store} {Q : D → Store → Prop} {E' : Exc → Store → Prop} (h : wpR (methF g.C .get d ds μ) Q E') : ∃ q o, ds = [q] ∧ findF g.C d q μ = some o ∧ Q (o.getD .non) μ := by
  match ds, h with
  | [], h => exact False.elim h
  | _ :: _ :: _, h => exact False.elim h
  | [q], h =>
    have h : wpR (match findF g.C d q μ with
      | some r => .ok (r.getD .non) μ
      | none => .stuck) Q E' := h
    split at h
    · rename_i r e; exact ⟨q, r, rfl, e, h⟩
    · exact False.elim h
theorem m_get2 {d : D} {ds : List D} {μ : Store} {Q : D → Store → Prop} {E' : Exc → Store → Prop} (h : wpR (methF g.C .get2 d ds μ) Q E') : ∃ q z o, ds = [q, z] ∧ findF g.C d q μ = some o ∧ Q (o.getD z) μ := by
  match ds, h with
  | [], h => exact False.elim h
  | [_], h => exact False.elim h
  | _ :: _ :: _ :: _, h => exact False.elim h
  | [q, z], h =>
    have h : wpR (match findF g.C d q μ with
      | some r => .ok (r.getD z) μ
      | none => .stuck) Q E' := h
    split at h
    · rename_i r e; exact ⟨q, z, r, rfl, e, h⟩
    · exact False.elim h
theorem meth_gen {m : Mf} {sc : Scope} {o : Expr} {l : List Expr} {k : Nat} {X : Cx} {T id : String} {n : PySem.Str} {r : V → List V → Hp → VK → Prop} {apos cpos : Pos} (ha : SndE Γ g cf a) (hs : SndA Γ g cf es)
    (pl : PlainAttrs T) (sl : Slot T n id) (ty : typeOf (Value.builtin id) = pure (Value.type "method_descriptor")) (mt : MtR X id r)
    (hr : ∀ x xs H Q, (∃ H0, tyV g.K T x H0) → rMf g m x xs H Q → r x xs H Q)
    (hT : ∀ d x ι μ H, Sim g ι μ H → Rep g ι H d x → mfOk m d μ = true → tyV g.K T x H)
    (h1 : chkE Γ a sc o = true) (h2 : chkEs Γ es sc l = true) (h3 : noSuper o = true) (h4 : (apos.endLine == cpos.line) = true) (h5 : l.length < 20) (x : XOk Γ g cf W k sc X) :
    PE X (.Call (.Attribute o n apos) l [] cpos) (mSem g cf W m a es) := by
  cases l with
  | nil =>
    cases es with
    | cons _ _ => simp [chkEs] at h2
    | nil =>
      refine PE.imp (pe_bm0 pl sl ty mt (ha sc o W k X h1 x) (base_of h3) h4) ?_
      rintro σ H Q ⟨ι, ρ, μ, S, R, hw⟩
      rw [wpR_bind] at hw
      refine ⟨ι, ρ, μ, S, R, wpR_mono hw (fun d1 μ1 q1 ι1 H1 v1 e1 S1 r1 => ?_) fun _ _ z => z⟩
      split at q1
      · rename_i ok
        have tt : tyV X.K T v1 H1 := by rw [x.K]; exact hT d1 v1 ι1 μ1 H1 S1 r1 ok
        exact ⟨tt, hr _ _ _ _ ⟨H1, by rw [← x.K]; exact tt⟩ ⟨ι1, μ1, d1, [], S1, r1, rfl, wpR_mono (show wpR (methF g.C m d1 [] μ1) (OkV g ι H Q) (exW g W ι H σ) from q1) (fun _ _ z => OkV.mono e1 z) fun _ _ _ => trivial⟩⟩
      · exact False.elim q1
  | cons e l =>
    have pl2 : ∃ m ms, es = .cons m ms ∧ chkE Γ m sc e = true ∧ chkEs Γ ms sc l = true := by
      cases es with
      | nil => simp [chkEs] at h2
      | cons m ms =>
        rw [chkEs, Bool.and_eq_true] at h2
        exact ⟨m, ms, rfl, h2.1, h2.2⟩
    obtain ⟨m', ms, rfl, q1, q2⟩ := pl2
    refine PE.imp (pe_bm pl sl ty mt (ha sc o W k X h1 x) (hs sc (e :: l) W k X h2 x) (base_of h3) (few_of h2 h5) h4 (star_of (chk_plain q1).1) (star_plain q2)) ?_
    rintro σ H Q ⟨ι, ρ, μ, S, R, hw⟩
    rw [wpR_bind] at hw
    refine ⟨ι, ρ, μ, S, R, wpR_mono hw (fun d1 μ1 q1 ι1 H1 v1 e1 S1 r1 => ?_) fun _ _ z => z⟩
    split at q1
    · rename_i ok
      have tt : tyV X.K T v1 H1 := by rw [x.K]; exact hT d1 v1 ι1 μ1 H1 S1 r1 ok
      refine ⟨tt, ?_⟩
      rw [wpR_bind] at q1
      refine ⟨ι1, ρ, μ1, S1, R.mono e1, wpR_mono q1 (fun ds μ2 q2 ι2 H2 vs e2 S2 r2 => ?_) fun _ _ z => z.mono e1⟩
      exact hr _ _ _ _ ⟨H1, by rw [← x.K]; exact tt⟩ ⟨ι2, μ2, d1, ds, S2, e2.rep _ _ r1, r2, wpR_mono q2 (fun _ _ z => OkV.mono (e1.trans e2) z) fun _ _ _ => trivial⟩
    · exact False.elim q1
theorem methT_gen {m : Mf} {sc : Scope} {o e : Expr} {l : List Expr} {k : Nat} {X : Cx} {id : String} {n : PySem.Str} {apos cpos : Pos} (ha : SndE Γ g cf a) (hs : SndA Γ g cf es)
    (sl : Slot "tuple" n id) (ty : typeOf (Value.builtin id) = pure (Value.type "method_descriptor")) (mt : MtR X id (rMf g m)) (hT : ∀ d μ, mfOk m d μ = true → ∃ xs, d = .ftup xs)
    (h1 : chkE Γ a sc o = true) (h2 : chkEs Γ es sc (e :: l) = true) (h3 : noSuper o = true) (h4 : (apos.endLine == cpos.line) = true) (h5 : (e :: l).length < 20) (x : XOk Γ g cf W k sc X) :
    PE X (.Call (.Attribute o n apos) (e :: l) [] cpos) (mSem g cf W m a es) := by
  have pl2 : ∃ m ms, es = .cons m ms ∧ chkE Γ m sc e = true ∧ chkEs Γ ms sc l = true := by
    cases es with
    | nil => simp [chkEs] at h2
    | cons m ms =>
      rw [chkEs, Bool.and_eq_true] at h2
      exact ⟨m, ms, rfl, h2.1, h2.2⟩
  obtain ⟨m', ms, rfl, q1, q2⟩ := pl2
  refine PE.imp (pe_bmF sl ty mt (ha sc o W k X h1 x) (hs sc (e :: l) W k X h2 x) (base_of h3) (few_of h2 h5) h4 (star_of (chk_plain q1).1) (star_plain q2)) ?_
  rintro σ H Q ⟨ι, ρ, μ, S, R, hw⟩
  rw [wpR_bind] at hw
  refine ⟨ι, ρ, μ, S, R, wpR_mono hw (fun d1 μ1 q1 ι1 H1 v1 e1 S1 r1 => ?_) fun _ _ z => z⟩
  split at q1
  · rename_i ok
    obtain ⟨xs, rfl⟩ := hT d1 μ1 ok
    have r1' := r1
    obtain ⟨p, vs, ob, rfl, hp, ⟨hc, hd, _⟩, _⟩ := r1'
    refine ⟨⟨p, ob, vs, rfl, hp, hc, hd⟩, ?_⟩
    rw [wpR_bind] at q1
    refine ⟨ι1, ρ, μ1, S1, R.mono e1, wpR_mono q1 (fun ds μ2 q2 ι2 H2 vs e2 S2 r2 => ?_) fun _ _ z => z.mono e1⟩
    exact ⟨ι2, μ2, _, ds, S2, e2.rep _ _ r1, r2, wpR_mono q2 (fun _ _ z => OkV.mono (e1.trans e2) z) fun _ _ _ => trivial⟩
  · exact False.elim q1
theorem tyV_str {K : PySem.W.Frag} {x : V} {H : Hp} (h : tyV K "str" x H) : ∃ s, x = .str s := by
  cases x with
  | str s => exact ⟨s, rfl⟩
  | int i => exact absurd (show "str" = "int" from h) (by decide)
  | ref p =>
    have h : ("str" = "list" ∧ _) ∨ ("str" = "tuple" ∧ _) ∨ "str" = "dict" ∧ _ ∨ "str" = "set" ∧ _ := h
    rcases h with ⟨z, _⟩ | ⟨z, _⟩ | ⟨z, _⟩ | ⟨z, _⟩ <;> exact absurd z (by decide)
  | _ => exact False.elim h
theorem get_gen {sc : Scope} {o e : Expr} {k : Nat} {X : Cx} {apos cpos : Pos} {m1 : E} (ha : SndE Γ g cf a) (hb : SndE Γ g cf m1)
    (h1 : chkE Γ a sc o = true) (h2 : chkE Γ m1 sc e = true) (h3 : noSuper o = true) (h4 : (apos.endLine == cpos.line) = true) (x : XOk Γ g cf W k sc X) :
    PE X (.Call (.Attribute o "get" apos) [e] [] cpos) (mSem g cf W .get a (.cons m1 .nil)) := by
  have hu := x.hu
  have hc : chkEs Γ (.cons m1 .nil) sc [e] = true := by rw [chkEs, h2]; rfl
  refine PE.imp (pe_dget1 (by omega) (ha sc o W k X h1 x) (hb sc e W k X h2 x) ⟨base_of h3, few_of hc (by simp), h4, by rw [star1 (chk_plain h2).1]; rfl⟩) ?_
  rintro σ H Q ⟨ι, ρ, μ, S, R, hw⟩
  rw [wpR_bind] at hw
  refine ⟨ι, ρ, μ, S, R, wpR_mono hw (fun d1 μ1 q1 ι1 H1 v1 e1 S1 r1 => ?_) fun _ _ z => z⟩
  split at q1
  · rename_i ok
    obtain ⟨p, rfl, dd, l, rfl⟩ := ty_dct S1 r1 ok
    refine ⟨p, rfl, dd, ?_⟩
    have q1 : wpR (((ev g.C cf m1 ρ μ1).bind fun d μ => (Res.ok [] μ).bind fun ds μ => .ok (d :: ds) μ).bind fun ds μ => methF g.C .get (.loc l) ds μ) (OkV g ι H Q) (exW g W ι H σ) := q1
    rw [wpR_bind, wpR_bind] at q1
    refine ⟨ι1, ρ, μ1, S1, R.mono e1, wpR_mono q1 (fun d2 μ2 q2 ι2 H2 v2 e2 S2 r2 => ?_) fun _ _ z => z.mono e1⟩
    have q2 : wpR (methF g.C .get (.loc l) [d2] μ2) (OkV g ι H Q) (exW g W ι H σ) := q2
    obtain ⟨q, ov, eq, ef, hq⟩ := m_get q2
    cases eq
    obtain ⟨a', ov', ez, dg, _, hh⟩ := find_loc S2 (e2.rep _ _ r1) r2 ef
    cases ez
    refine ⟨ov', dg, ?_⟩
    rcases hh with ⟨rfl, rfl⟩ | ⟨d, v', rfl, rfl, z3⟩
    · exact hq ι2 H2 .non (e1.trans e2) S2 rfl
    · exact hq ι2 H2 v' (e1.trans e2) S2 z3
  · exact False.elim q1
theorem get2_gen {sc : Scope} {o e f : Expr} {k : Nat} {X : Cx} {apos cpos : Pos} {m1 m2 : E} (ha : SndE Γ g cf a) (hb : SndE Γ g cf m1) (hd : SndE Γ g cf m2)
    (h1 : chkE Γ a sc o = true) (h2 : chkE Γ m1 sc e = true) (h5 : chkE Γ m2 sc f = true) (h3 : noSuper o = true) (h4 : (apos.endLine == cpos.line) = true) (x : XOk Γ g cf W k sc X) :
    PE X (.Call (.Attribute o "get" apos) [e, f] [] cpos) (mSem g cf W .get2 a (.cons m1 (.cons m2 .nil))) := by
  have hu := x.hu
  have hc : chkEs Γ (.cons m1 (.cons m2 .nil)) sc [e, f] = true := by rw [chkEs, h2, chkEs, h5]; rfl
  refine PE.imp (pe_dget2 (by omega) (ha sc o W k X h1 x) (hb sc e W k X h2 x) (hd sc f W k X h5 x) ⟨base_of h3, few_of hc (by simp), h4, by rw [star_of (chk_plain h2).1, star1 (chk_plain h5).1]; rfl⟩) ?_
  rintro σ H Q ⟨ι, ρ, μ, S, R, hw⟩
  rw [wpR_bind] at hw
  refine ⟨ι, ρ, μ, S, R, wpR_mono hw (fun d1 μ1 q1 ι1 H1 v1 e1 S1 r1 => ?_) fun _ _ z => z⟩
  split at q1
  · rename_i ok
    obtain ⟨p, rfl, dd, l, rfl⟩ := ty_dct S1 r1 ok
    refine ⟨p, rfl, dd, ?_⟩
    have q1 : wpR (((ev g.C cf m1 ρ μ1).bind fun d μ => ((ev g.C cf m2 ρ μ).bind fun d μ => (Res.ok [] μ).bind fun ds μ => .ok (d :: ds) μ).bind fun ds μ => .ok (d :: ds) μ).bind fun ds μ => methF g.C .get2 (.loc l) ds μ) (OkV g ι H Q) (exW g W ι H σ) := q1
    rw [wpR_bind, wpR_bind] at q1
    refine ⟨ι1, ρ, μ1, S1, R.mono e1, wpR_mono q1 (fun d2 μ2 q2 ι2 H2 v2 e2 S2 r2 => ?_) fun _ _ z => z.mono e1⟩
    rw [wpR_bind, wpR_bind] at q2
    refine ⟨ι2, ρ, μ2, S2, R.mono (e1.trans e2), wpR_mono q2 (fun d3 μ3 q3 ι3 H3 v3 e3 S3 r3 => ?_) fun _ _ z => z.mono (e1.trans e2)⟩
    have q3 : wpR (methF g.C .get2 (.loc l) [d2, d3] μ3) (OkV g ι H Q) (exW g W ι H σ) := q3
    obtain ⟨q, z, ov, eq, ef, hq⟩ := m_get2 q3
    cases eq
    obtain ⟨a', ov', ez, dg, _, hh⟩ := find_loc S3 ((e2.trans e3).rep _ _ r1) (e3.rep _ _ r2) ef
    cases ez
    refine ⟨ov', dg, ?_⟩
    rcases hh with ⟨rfl, rfl⟩ | ⟨d, v', rfl, rfl, z3⟩
    · exact hq ι3 H3 v3 (e1.trans (e2.trans e3)) S3 r3
    · exact hq ι3 H3 v' (e1.trans (e2.trans e3)) S3 z3
  · exact False.elim q1
/-- the first two of the arguments, each -/
def Es2 (Γ : Stat) (g : Gd) (cf : CF) : Es → Prop
  | .cons a (.cons b _) => SndE Γ g cf a ∧ SndE Γ g cf b
  | .cons a .nil => SndE Γ g cf a
  | .nil => True
theorem c_meth (m : Mf) (ha : SndE Γ g cf a) (hs : SndA Γ g cf es) (h2 : Es2 Γ g cf es) : SndE Γ g cf (.meth m a es) := by
  intro sc e W k X hc x
  cases e with
  | Call fe l kw cpos =>
    cases fe with
    | Attribute o n apos =>
      cases kw with
      | cons _ _ => simp [chkE] at hc
      | nil =>
        simp only [chkE, Bool.and_eq_true, decide_eq_true_eq] at hc
        obtain ⟨⟨⟨⟨⟨rfl, c1⟩, c2⟩, c3⟩, c4⟩, c5⟩ := hc
        cases m with
        | append => exact PE.imp (meth_gen ha hs PySem.F.plainAttrs_list PySem.F.slot_list_append rfl mt_appendF (fun _ _ _ _ _ z => z) (fun _ _ _ _ _ S r z => ty_lst S r z) c1 c2 c3 c4 (by simpa [mfCnt] using c5) x) fun σ H Q h => h
        | pop => exact PE.imp (meth_gen ha hs PySem.F.plainAttrs_list PySem.F.slot_list_pop rfl mt_popF (fun _ _ _ _ _ z => z) (fun _ _ _ _ _ S r z => ty_lst S r z) c1 c2 c3 c4 (by simpa [mfCnt] using c5) x) fun σ H Q h => h
        | popAt => exact PE.imp (meth_gen ha hs PySem.F.plainAttrs_list PySem.F.slot_list_pop rfl mt_popAtF (fun _ _ _ _ _ z => z) (fun _ _ _ _ _ S r z => ty_lst S r z) c1 c2 c3 c4 (by simpa [mfCnt] using c5) x) fun σ H Q h => h
        | extend => exact PE.imp (meth_gen ha hs PySem.F.plainAttrs_list PySem.F.slot_list_extend rfl mt_extendF (fun _ _ _ _ _ z => z) (fun _ _ _ _ _ S r z => ty_lst S r z) c1 c2 c3 c4 (by simpa [mfCnt] using c5) x) fun σ H Q h => h
        | join => exact PE.imp (meth_gen ha hs PySem.F.plainAttrs_str PySem.F.slot_str_join rfl (mt_joinF x.K) (fun _ _ _ _ _ z => z) (fun _ _ _ _ _ S r z => ty_str r z) c1 c2 c3 c4 (by simpa [mfCnt] using c5) x) fun σ H Q h => h
        | index => exact PE.imp (meth_gen ha hs PySem.F.plainAttrs_str PySem.F.slot_str_index rfl mt_indexSF (m := .index) (T := "str") (fun _ _ _ _ z y => ⟨tyV_str z.choose_spec, y⟩) (fun _ _ _ _ _ S r z => ty_str r z) c1 c2 c3 c4 (by simpa [mfCnt] using c5) x) fun σ H Q h => h
        | indexL => exact PE.imp (meth_gen ha hs PySem.F.plainAttrs_list PySem.F.slot_list_index rfl (mt_indexLF x.K (by have := x.hu; omega)) (fun _ _ _ _ _ z => z) (fun _ _ _ _ _ S r z => ty_lst S r z) c1 c2 c3 c4 (by simpa [mfCnt] using c5) x) fun σ H Q h => h
        | indexT =>
          cases l with
          | nil =>
            cases es with
            | cons _ _ => simp [chkEs] at c2
            | nil =>
              refine ⟨fun pins s σ H Q I q => ?_⟩
              simp [mfCnt] at c5
          | cons e1 l => exact PE.imp (methT_gen ha hs PySem.F.slot_tuple_index PySem.F.type_tuple_index (mt_indexTF x.K (by have := x.hu; omega)) (fun d μ h => by cases d <;> first | exact ⟨_, rfl⟩ | cases h) c1 c2 c3 c4 (by simpa [mfCnt] using c5) x) fun σ H Q h => h
        | get =>
          rcases l with _ | ⟨e1, _ | ⟨e2, l⟩⟩ <;> try (simp [mfCnt] at c5; done)
          cases es with
          | nil => simp [chkEs] at c2
          | cons m1 es =>
            cases es with
            | cons _ _ => simp [chkEs] at c2
            | nil =>
              rw [chkEs, Bool.and_eq_true] at c2
              exact PE.imp (get_gen ha h2 c1 c2.1 c3 c4 x) fun σ H Q h => h
        | get2 =>
          rcases l with _ | ⟨e1, _ | ⟨e2, _ | ⟨e3, l⟩⟩⟩ <;> try (simp [mfCnt] at c5; done)
          cases es with
          | nil => simp [chkEs] at c2
          | cons m1 es =>
            cases es with
            | nil => simp [chkEs] at c2
            | cons m2 es =>
              cases es with
              | cons _ _ => simp [chkEs] at c2
              | nil =>
                simp only [chkEs, Bool.and_eq_true] at c2
                exact PE.imp (get2_gen ha h2.1 h2.2 c1 c2.1 c2.2.1 c3 c4 x) fun σ H Q h => h
    | _ => simp [chkE] at hc
  | _ => simp [chkE] at hc
end
end PL
end
section
set_option Elab.async false
set_option linter.all false
set_option autoImplicit false
set_option maxRecDepth 100000
set_option maxHeartbeats 400000
/-! Sound9: truth of values, targets, walks. -/
namespace PL
open PySem PySem.Spec PyProof.Rows L2
section
variable {Γ : Stat} {g : Gd} {cf : CF} {W : WX} {σ : L2.St} {H : Hp} {a b c : E} {es : Es}
/-! ### truth -/
theorem t_v (i : Nat) : SndT Γ g cf (.v i) := t_truth (c_v i) (fun sc e h env whole => by
  cases e with
  | Name _ _ => rfl
  | _ => simp [chkE] at h) (fun ρ μ => by
  show (match ρ[i]? with
    | some (some d) => truthF d μ
    | _ => .stuck) = (match ρ[i]? with
    | some (some d) => .ok d μ
    | _ => .stuck : Res D).bind truthF
  cases ρ[i]? with
  | none => rfl
  | some o => cases o <;> rfl)
theorem t_bf (bf : Bf) (ha : SndE Γ g cf a) : SndT Γ g cf (.bf bf a) := t_truth (c_bf bf ha) (fun sc e h env whole => by
  cases e with
  | Call _ _ _ _ => rfl
  | _ => simp [chkE] at h) (fun ρ μ => rfl)
theorem t_call (f : Nat) (hs : SndA Γ g cf es) : SndT Γ g cf (.call f es) := t_truth (c_call f hs) (fun sc e h env whole => by
  cases e with
  | Call _ _ _ _ => rfl
  | _ => simp [chkE] at h) (fun ρ μ => rfl)
theorem t_meth (m : Mf) (ha : SndE Γ g cf a) (hs : SndA Γ g cf es) (h2 : Es2 Γ g cf es) : SndT Γ g cf (.meth m a es) := t_truth (c_meth m ha hs h2) (fun sc e h env whole => by
  cases e with
  | Call _ _ _ _ => rfl
  | _ => simp [chkE] at h) (fun ρ μ => rfl)
theorem t_ix (ha : SndE Γ g cf a) (hb : SndE Γ g cf b) : SndT Γ g cf (.ix a b) := t_truth (c_ix ha hb) (fun sc e h env whole => by
  cases e with
  | Subscript _ _ _ => rfl
  | _ => simp [chkE] at h) (fun ρ μ => rfl)
theorem t_bl (k : Bool) : SndT Γ g cf (.bl k) := t_truth (c_bl k) (fun sc e h env whole => by
  cases e with
  | Constant _ _ _ => rfl
  | _ => simp [chkE] at h) (fun ρ μ => rfl)
theorem t_none {m : E} (h : ∀ ρ μ, evT g.C cf m ρ μ = .stuck) : SndT Γ g cf m := by
  intro sc e W k X hc x
  refine ⟨fun pins s σ H Q I q => ?_⟩
  obtain ⟨ι, ρ, μ, S, R, hw⟩ := q
  rw [h] at hw
  exact False.elim hw
theorem k_yes : SndC Γ g cf .yes := by
  intro sc l W k X hc x
  cases l with
  | cons _ _ => simp [chkC] at hc
  | nil =>
    refine ⟨fun pins s σ H Q I q => pts_nil.run pins s σ H Q I ?_⟩
    obtain ⟨ι, ρ, μ, S, R, hw⟩ := q
    exact hw ι H (Ext.refl _ _) S
theorem k_test (ht : SndT Γ g cf a) : SndC Γ g cf (.test a) := by
  intro sc l W k X hc x
  rcases l with _ | ⟨e, _ | ⟨e2, l⟩⟩
  · simp [chkC] at hc
  · exact pts_one (PT.imp (ht sc e W k X hc x) fun σ H Q q => q)
  · simp [chkC] at hc
/-! ### targets -/
theorem PG.or {X : Cx} {e : Expr} {t t' : TG} (h : PG X e t) (h' : PG X e t') : PG X e (fun v σ H Q => t v σ H Q ∨ t' v σ H Q) := ⟨fun pins s σ H v u Q I r q => q.elim (h.run pins s σ H v u Q I r) (h'.run pins s σ H v u Q I r)⟩
theorem wipe_set {σ : L2.St} {v : Option V} {i : Nat} : ∀ {own : List Nat}, i ∈ own → L2.wipe (σ.set i v) own = L2.wipe σ own
  | [], h => by cases h
  | j :: own, h => by
    show (L2.wipe (σ.set i v) own).set j none = (L2.wipe σ own).set j none
    by_cases hj : i ∈ own
    · rw [wipe_set hj]
    · rcases List.mem_cons.mp h with rfl | h
      · have : ∀ own : List Nat, i ∉ own → L2.wipe (σ.set i v) own = (L2.wipe σ own).set i v := by
          intro own
          induction own with
          | nil => intro _; rfl
          | cons k own ih =>
            intro hn
            rw [List.mem_cons, not_or] at hn
            show (L2.wipe (σ.set i v) own).set k none = ((L2.wipe σ own).set k none).set i v
            rw [ih hn.2, List.set_comm _ _ hn.1]
        rw [this own hj, List.set_set]
      · exact absurd h hj
theorem g_nm (i : Nat) : SndG Γ g cf (.nm i) := by
  intro sc e W k X hc x
  cases e with
  | Name y p =>
    rw [chkT, Bool.and_eq_true, Bool.and_eq_true, decide_eq_true_eq] at hc
    obtain ⟨l1, l2⟩ := x.lc hc.1.2
    refine PG.imp (pg_name x.nd (by rw [x.N]; exact hc.1.1) l1 l2) ?_
    rintro v σ H Q ⟨ι, ρ, μ, d, S, R, rd, hw⟩
    exact hw ι H _ (Ext.refl _ _) S (R.set i (x.ne hc.2) rd) fun own ho => wipe_set (by simpa [tOwn] using ho)
  | _ => simp [chkT] at hc
def gNms : List Nat → TGs
  | [] => gNil
  | i :: is => gCons (gName i) (gNms is)
def setAllS : List Nat → List V → L2.St → L2.St
  | i :: is, v :: vs, σ => setAllS is vs (σ.set i (some v))
  | _, _, σ => σ
theorem gNms_of : ∀ {is : List Nat} {vs : List V} {σ : L2.St} {H : Hp} {Q : L2.St → Hp → Prop}, vs.length = is.length → Q (setAllS is vs σ) H → gNms is vs σ H Q
  | [], [], σ, H, Q, _, h => ⟨rfl, h⟩
  | [], _ :: _, _, _, _, h, _ => by cases h
  | _ :: _, [], _, _, _, h, _ => by cases h
  | i :: is, v :: vs, σ, H, Q, hl, h => ⟨v, vs, rfl, gNms_of (by simpa using hl) h⟩
theorem setAll_rep (he : g.en = none) : ∀ {is : List Nat} {ds : List D} {vs : List V} {ι : List Addr} {H : Hp} {ρ : Env} {σ : L2.St}, RepL g ι H ds vs → RepS g ι H ρ σ → RepS g ι H (setAll is ds ρ) (setAllS is vs σ)
  | [], ds, vs, _, _, _, _, _, R => by
    cases ds <;> cases vs <;> exact R
  | i :: is, [], vs, _, _, _, _, r, R => by
    rw [show vs = [] from r]; exact R
  | i :: is, d :: ds, vs, _, _, _, _, r, R => by
    obtain ⟨v, r', rfl, h1, h2⟩ := r
    exact setAll_rep he (is := is) h2 (R.set i (by rw [he]; simp) h1)
theorem setAll_wipe {own : List Nat} : ∀ {is : List Nat} {vs : List V} {σ : L2.St}, (is.all fun i => own.contains i) = true → L2.wipe (setAllS is vs σ) own = L2.wipe σ own
  | [], vs, σ, _ => by cases vs <;> rfl
  | i :: is, [], σ, _ => rfl
  | i :: is, v :: vs, σ, h => by
    rw [List.all_cons, Bool.and_eq_true] at h
    show L2.wipe (setAllS is vs (σ.set i (some v))) own = _
    rw [setAll_wipe h.2, wipe_set (by simpa using h.1)]
theorem names_pgs {k : Nat} {sc : Scope} {X : Cx} (x : XOk Γ g cf W k sc X) : ∀ {is : List Nat} {l : List Expr}, namesAre Γ is sc l = true → PGs X l (gNms is) ∧ (assignEach l X.env).length = is.length ∧ List.findIdx? (fun x => x.fst) (assignEach l X.env) = none
  | [], [], _ => ⟨pgs_nil, rfl, rfl⟩
  | [], _ :: _, h => by simp [namesAre] at h
  | _ :: _, [], h => by simp [namesAre] at h
  | i :: is, e :: l, h => by
    cases e with
    | Name y p =>
      simp only [namesAre, Bool.and_eq_true, decide_eq_true_eq] at h
      obtain ⟨l1, l2⟩ := x.lc h.1.1.2
      obtain ⟨h1, h2, h3⟩ := names_pgs x h.2
      refine ⟨pgs_cons (pg_name x.nd (by rw [x.N]; exact h.1.1.1) l1 l2) h1 rfl, ?_, ?_⟩
      · show (assignEach l X.env).length + 1 = is.length + 1
        rw [h2]
      · show List.findIdx? (fun x => x.fst) ((false, _) :: assignEach l X.env) = none
        rw [List.findIdx?_cons]
        simp [h3]
    | _ => simp [namesAre] at h
theorem g_tp (is : List Nat) : SndG Γ g cf (.tp is) := by
  intro sc e W k X hc x
  cases e with
  | Tuple l j p =>
    rw [chkT, Bool.and_eq_true] at hc
    have cold := notHot hc.1
    obtain ⟨h1, h2, h3⟩ := names_pgs x hc.2
    refine PG.imp (PG.or (pg_tup (x.calm cold) h1 h2 h3) (pg_unl (x.calm cold) h1 h2 h3)) ?_
    rintro v σ H Q ⟨ι, ρ, μ, d, S, R, rd, hw⟩
    have hw : wpR (match rowF d μ with
      | some xs => if xs.length = is.length then .ok (setAll is xs ρ) μ else .stuck
      | none => .stuck) _ _ := hw
    split at hw
    · rename_i xs ex
      split at hw
      · rename_i hl
        obtain ⟨p, vs, rfl, sq, r', _, _⟩ := rowF_at S rd ex
        have hq := hw ι H (setAllS is vs σ) (Ext.refl _ _) S (setAll_rep (by rw [x.en, x.hotE cold]) r' R) fun own ho => setAll_wipe ho
        have lv : vs.length = is.length := by rw [r'.length]; exact hl
        rw [← x.K] at sq
        rcases sq with sq | sq
        · exact .inr ⟨p, vs, rfl, sq, lv, gNms_of lv hq⟩
        · exact .inl ⟨p, vs, rfl, sq, lv, gNms_of lv hq⟩
      · exact False.elim hw
    · exact False.elim hw
  | _ => simp [chkT] at hc
theorem g_sb (ha : SndE Γ g cf a) (hb : SndE Γ g cf b) : SndG Γ g cf (.sb a b) := by
  intro sc e W k X hc x
  cases e with
  | Subscript o i p =>
    rw [chkT, Bool.and_eq_true] at hc
    have hu := x.hu
    have sl : ∀ v : Value, assign (.Subscript o i p) X.env v = (do
        let ov ← holding [v] (eval o X.env)
        let iv ← holding [v, ov] (eval i X.env)
        standAt p
        holding [v, ov, iv] (setItem ov iv v)
        release [v, ov, iv] []) := by
      have := (chk_plain hc.2).2.2
      intro v
      cases i <;> first | rfl | cases this
    refine PG.imp (pg_sub (ha sc o W k X hc.1 x) (hb sc i W k X hc.2 x) (set_F (g := g) (by omega)) sl) ?_
    rintro v σ H Q ⟨ι, ρ, μ, d, S, R, rd, hw⟩
    have hw : wpR ((ev g.C cf a ρ μ).bind fun x μ => (ev g.C cf b ρ μ).bind fun y μ => (setF x y d μ).bind fun _ μ => .ok ρ μ) _ _ := hw
    rw [wpR_bind] at hw
    refine ⟨ι, ρ, μ, S, R, wpR_mono hw (fun d1 μ1 h1 ι1 H1 v1 e1 S1 r1 => ?_) fun _ _ z => z⟩
    rw [wpR_bind] at h1
    refine ⟨ι1, ρ, μ1, S1, R.mono e1, wpR_mono h1 (fun d2 μ2 h2 ι2 H2 v2 e2 S2 r2 => ?_) fun _ _ z => z.mono e1⟩
    rw [wpR_bind] at h2
    refine ⟨ι2, μ2, d1, d2, d, S2, e2.rep _ _ r1, r2, (e1.trans e2).rep _ _ rd, wpR_mono h2 (fun _ μ3 h3 ι3 H3 e3 S3 => ?_) fun _ _ _ => trivial⟩
    exact h3 ι3 H3 σ (e1.trans (e2.trans e3)) S3 (R.mono (e1.trans (e2.trans e3))) fun _ _ => rfl
  | _ => simp [chkT] at hc
/-! ### walks -/
/-- J walks w's items, from ι0, H0 on -/
def WkI (g : Gd) (w : Wk) (J : L2.It) (ι0 : List Addr) (H0 : Hp) : Prop := ∀ i ι μ H, Ext ι0 H0 ι H → Sim g ι μ H → w.stands μ →
  (i < w.items.length → J.go i H) ∧ (w.items.length ≤ i → J.stop i H) ∧ ∀ x H', J.yld i H x H' → i < w.items.length → H' = H ∧ ∃ d, w.items[i]? = some d ∧ Rep g ι H d x
def semI (g : Gd) (cf : CF) (W : WX) (it : PL.It) : TI := fun σ H R => ∃ ι ρ μ, Sim g ι μ H ∧ RepS g ι H ρ σ ∧ wpR (evI g.C cf it ρ μ) (fun w μ' => ∀ ι' H' J, Ext ι H ι' H' → Sim g ι' μ' H' → WkI g w J ι' H' → R J H') (exW g W ι H σ)
def SndI (Γ : Stat) (g : Gd) (cf : CF) (it : PL.It) : Prop := ∀ (sc : Scope) (tg e : Expr) (W : WX) (k : Nat) (X : Cx), chkI Γ it sc e = true → XOk Γ g cf W k sc X → PI X tg e (semI g cf W it)
theorem PI.imp {X : Cx} {tg e : Expr} {t t' : TI} (h : PI X tg e t) (i : ∀ σ H Q, t' σ H Q → t σ H Q) : PI X tg e t' := ⟨fun pins s σ H Q I q => h.run pins s σ H Q I (i σ H Q q)⟩
theorem PI.or {X : Cx} {tg e : Expr} {t t' : TI} (h : PI X tg e t) (h' : PI X tg e t') : PI X tg e (fun σ H Q => t σ H Q ∨ t' σ H Q) := ⟨fun pins s σ H Q I q => q.elim (h.run pins s σ H Q I) (h'.run pins s σ H Q I)⟩
theorem sq_uniqL {K : PySem.W.Frag} {a : Addr} {xs : List V} {H : Hp} (hs : SqL K H a xs) {n : Nat} (hn : xs.length = n) : (∀ i, i < n → (Itl K a).go i H) ∧ (∀ i, n ≤ i → (Itl K a).stop i H) ∧ ∀ i x H', (Itl K a).yld i H x H' → i < n → H' = H ∧ xs[i]? = some x :=
  ⟨fun i hi => ⟨xs, xs[i]'(by omega), hs, List.getElem?_eq_getElem _⟩, fun i hi => ⟨xs, hs, by omega⟩, fun i x H' h hi => ⟨h.1, h.2 xs hs⟩⟩
theorem sq_uniqT {K : PySem.W.Frag} {a : Addr} {xs : List V} {H : Hp} (hs : SqT K H a xs) {n : Nat} (hn : xs.length = n) : (∀ i, i < n → (Itt K a).go i H) ∧ (∀ i, n ≤ i → (Itt K a).stop i H) ∧ ∀ i x H', (Itt K a).yld i H x H' → i < n → H' = H ∧ xs[i]? = some x :=
  ⟨fun i hi => ⟨xs, xs[i]'(by omega), hs, List.getElem?_eq_getElem _⟩, fun i hi => ⟨xs, hs, by omega⟩, fun i x H' h hi => ⟨h.1, h.2 xs hs⟩⟩
/-- a walk over a row's items -/
theorem wkL {w : Wk} {a : Addr} {ι0 : List Addr} {H0 : Hp} (h : ∀ ι μ H, Ext ι0 H0 ι H → Sim g ι μ H → w.stands μ → ∃ vs, SqL g.K H a vs ∧ RepL g ι H w.items vs) : WkI g w (Itl g.K a) ι0 H0 := by
  intro i ι μ H e S st
  obtain ⟨vs, h1, h2⟩ := h ι μ H e S st
  obtain ⟨q1, q2, q3⟩ := sq_uniqL h1 h2.length
  refine ⟨q1 i, q2 i, fun x H' hy hi => ?_⟩
  obtain ⟨rfl, z⟩ := q3 i x H' hy hi
  exact ⟨rfl, h2.gets z⟩
theorem wkT {w : Wk} {a : Addr} {ι0 : List Addr} {H0 : Hp} (h : ∀ ι μ H, Ext ι0 H0 ι H → Sim g ι μ H → w.stands μ → ∃ vs, SqT g.K H a vs ∧ RepL g ι H w.items vs) : WkI g w (Itt g.K a) ι0 H0 := by
  intro i ι μ H e S st
  obtain ⟨vs, h1, h2⟩ := h ι μ H e S st
  obtain ⟨q1, q2, q3⟩ := sq_uniqT h1 h2.length
  refine ⟨q1 i, q2 i, fun x H' hy hi => ?_⟩
  obtain ⟨rfl, z⟩ := q3 i x H' hy hi
  exact ⟨rfl, h2.gets z⟩
theorem wkS {s : Txt} {ι0 : List Addr} {H0 : Hp} : WkI g (.row (s.map fun c => .str [c])) (Its (S2 s)) ι0 H0 := by
  intro i ι μ H e S st
  have hn : (S2 s).cps.size = s.length := by simp [S2]
  refine ⟨fun h => ?_, fun h => ?_, fun x H' hy hi => ?_⟩
  · show i < (S2 s).cps.size
    rw [hn]; simpa [Wk.items] using h
  · show (S2 s).cps.size ≤ i
    rw [hn]; simpa [Wk.items] using h
  · obtain ⟨rfl, c, h1, rfl⟩ := hy
    refine ⟨rfl, .str [c], ?_, rfl⟩
    have : s[i]? = some c := by simpa [S2] using h1
    simp [Wk.items, this]
theorem wkR {lo : Int} {n : Nat} {ι0 : List Addr} {H0 : Hp} : WkI g (.row ((List.range n).map fun (k : Nat) => D.int (lo + (k : Int)))) (Itr lo n) ι0 H0 := by
  intro i ι μ H e S st
  refine ⟨fun h => ?_, fun h => ?_, fun x H' hy hi => ?_⟩
  · show i < n
    simpa [Wk.items] using h
  · show n ≤ i
    simpa [Wk.items] using h
  · obtain ⟨rfl, rfl⟩ := hy
    have hi : i < n := by simpa [Wk.items] using hi
    refine ⟨rfl, .int (lo + i), ?_, rfl⟩
    simp [Wk.items, hi]
theorem walk_cases {d : D} {μ : Store} {w : Wk} (h : walkF d μ = some w) : (∃ xs, d = .tup xs ∧ w = .row xs) ∨ (∃ xs, d = .rol xs ∧ w = .row xs) ∨ (∃ xs, d = .ktp xs ∧ w = .row xs) ∨ (∃ s, d = .str s ∧ w = .row (s.map fun c => .str [c])) ∨ ∃ l xs, d = .loc l ∧ μ[l]? = some (.lst xs) ∧ w = .lst l xs := by
  cases d with
  | tup xs => cases h; exact .inl ⟨xs, rfl, rfl⟩
  | rol xs => cases h; exact .inr (.inl ⟨xs, rfl, rfl⟩)
  | ktp xs => cases h; exact .inr (.inr (.inl ⟨xs, rfl, rfl⟩))
  | str s =>
    unfold walkF at h
    simp only at h
    split at h
    · cases h; exact .inr (.inr (.inr (.inl ⟨s, rfl, rfl⟩)))
    · cases h
  | loc l =>
    unfold walkF at h
    simp only at h
    split at h
    · rename_i xs e; cases h; exact .inr (.inr (.inr (.inr ⟨l, xs, rfl, e, rfl⟩)))
    · cases h
  | _ => cases h
theorem i_val (ha : SndE Γ g cf a) : SndI Γ g cf (.val a) := by
  intro sc tg e W k X hc x
  rw [chkI] at hc
  have pe := ha sc e W k X hc x
  refine PI.imp (PI.or (PI.or (pi_list (tg := tg) pe) (pi_tup (tg := tg) pe)) (pi_str (tg := tg) pe)) ?_
  rintro σ H Q ⟨ι, ρ, μ, S, R, hw⟩
  have hw : wpR ((ev g.C cf a ρ μ).bind fun d μ => okI (walkF d μ) μ) _ _ := hw
  rw [wpR_bind] at hw
  rw [x.K]
  cases ea : ev g.C cf a ρ μ with
  | stuck => rw [ea] at hw; exact False.elim hw
  | exc y μ1 => rw [ea] at hw; exact .inl (.inl ⟨ι, ρ, μ, S, R, by rw [ea]; exact hw⟩)
  | ok d μ1 =>
    rw [ea] at hw
    obtain ⟨w, h1, h2⟩ := okI_ok hw
    have row : ∀ {xs : List D}, w = .row xs → rowF d μ1 = some xs → (∀ ds, d ≠ .tup ds) → (∀ ds, d ≠ .ktp ds) → iList g.K (semE g cf W a) σ H Q := by
      rintro xs rfl er n1 n2
      refine ⟨ι, ρ, μ, S, R, ?_⟩
      rw [ea]
      intro ι1 H1 v1 e1 S1 r1
      obtain ⟨p, vs, rfl, _, _, _, sq⟩ := rowF_at S1 r1 er
      refine ⟨p, rfl, ⟨vs, sq n1 n2⟩, h2 ι1 H1 _ e1 S1 (wkL fun ι2 μ2 H2 e2 S2 _ => ?_)⟩
      have er2 : rowF d μ2 = some xs := by
        cases d with
        | tup _ => exact absurd rfl (n1 _)
        | ktp _ => exact absurd rfl (n2 _)
        | rol _ => exact er
        | loc l =>
          have : walkF (.loc l) μ1 = some (.row xs) := h1
          rcases walk_cases this with ⟨_, z, _⟩ | ⟨_, z, _⟩ | ⟨_, z, _⟩ | ⟨_, z, _⟩ | ⟨_, _, _, _, z⟩ <;> cases z
        | _ => cases er
      obtain ⟨p2, vs2, e3, _, r2, _, sq2⟩ := rowF_at S2 (e2.rep _ _ r1) er2
      cases e3
      exact ⟨vs2, sq2 n1 n2, r2⟩
    rcases walk_cases h1 with ⟨xs, rfl, rfl⟩ | ⟨xs, rfl, rfl⟩ | ⟨xs, rfl, rfl⟩ | ⟨s, rfl, rfl⟩ | ⟨l, xs, rfl, e0, rfl⟩
    · refine .inl (.inr ⟨ι, ρ, μ, S, R, ?_⟩)
      rw [ea]
      intro ι1 H1 v1 e1 S1 r1
      obtain ⟨p, vs, rfl, _, _, sq, _⟩ := rowF_at S1 r1 rfl
      refine ⟨p, rfl, ⟨vs, sq _ rfl⟩, h2 ι1 H1 _ e1 S1 (wkT fun ι2 μ2 H2 e2 S2 _ => ?_)⟩
      obtain ⟨p2, vs2, e3, _, r2, sq2, _⟩ := rowF_at S2 (e2.rep _ _ r1) rfl
      cases e3
      exact ⟨vs2, sq2 _ rfl, r2⟩
    · exact .inl (.inl (row rfl rfl (fun _ z => by cases z) (fun _ z => by cases z)))
    · refine .inl (.inr ⟨ι, ρ, μ, S, R, ?_⟩)
      rw [ea]
      intro ι1 H1 v1 e1 S1 r1
      obtain ⟨p, vs, rfl, kt, _⟩ := id r1
      refine ⟨p, rfl, ⟨vs, kt.sq _⟩, h2 ι1 H1 _ e1 S1 (wkT fun ι2 μ2 H2 e2 S2 _ => ?_)⟩
      obtain ⟨p2, vs2, e3, kt2, r2⟩ := e2.rep _ _ r1
      cases e3
      exact ⟨vs2, kt2.sq _, r2⟩
    · refine .inr ⟨ι, ρ, μ, S, R, ?_⟩
      rw [ea]
      intro ι1 H1 v1 e1 S1 r1
      exact ⟨S2 s, r1, h2 ι1 H1 _ e1 S1 wkS⟩
    · refine .inl (.inl ⟨ι, ρ, μ, S, R, ?_⟩)
      rw [ea]
      intro ι1 H1 v1 e1 S1 r1
      obtain ⟨p, vs, rfl, hi, ha, rv⟩ := RepL.sqL S1 r1 e0
      refine ⟨p, rfl, ⟨vs, SqL.of ha⟩, h2 ι1 H1 _ e1 S1 (wkL fun ι2 μ2 H2 e2 S2 st => ?_)⟩
      obtain ⟨p2, vs2, e3, _, ha2, rv2⟩ := RepL.sqL S2 (e2.rep _ _ r1) st
      cases e3
      exact ⟨vs2, SqL.of ha2, rv2⟩
theorem i_rng (ha : SndE Γ g cf a) : SndI Γ g cf (.rng a) := by
  intro sc tg e W k X hc x
  cases e with
  | Call fe l kw p =>
    cases fe with
    | Name y py =>
      rcases l with _ | ⟨e1, _ | ⟨e2, l⟩⟩
      · simp [chkI] at hc
      · cases kw with
        | cons _ _ => simp [chkI] at hc
        | nil =>
          simp only [chkI, Bool.and_eq_true, decide_eq_true_eq] at hc
          obtain ⟨⟨h1, rfl⟩, h2⟩ := hc
          obtain ⟨b1, b2, b3, b4⟩ := x.blt h1
          have st := star_of (l := []) (env := X.env) (chk_plain h2).1
          refine PI.imp (pi_range1 (tg := tg) b1 b2 (pa_cons (ha sc e1 W k X h2 x) pa_nil st) st) ?_
          rintro σ H Q ⟨ι, ρ, μ, S, R, hw⟩
          have hw : wpR ((ev g.C cf a ρ μ).bind fun d μ => match d with
            | .int n => rngF 0 n μ
            | _ => .stuck) _ _ := hw
          rw [wpR_bind] at hw
          refine ⟨ι, ρ, μ, S, R, wpR_mono hw (fun d1 μ1 q1 ι1 H1 v1 e1 S1 r1 => ?_) fun _ _ z => z⟩
          cases d1 with
          | int n =>
            obtain rfl := r1
            have q1 : wpR (rngF 0 n μ1) _ _ := q1
            unfold rngF at q1
            split at q1
            · rename_i hb
              refine ⟨n, rfl, by omega, by omega, ?_⟩
              have := q1 ι1 H1 (Itr 0 (n - 0).toNat) e1 S1 wkR
              rw [Int.sub_zero] at this
              exact this
            · exact False.elim q1
          | _ => exact False.elim q1
      · cases kw <;> simp [chkI] at hc
    | _ => simp [chkI] at hc
  | _ => simp [chkI] at hc
theorem i_rng2 (ha : SndE Γ g cf a) (hb : SndE Γ g cf b) : SndI Γ g cf (.rng2 a b) := by
  intro sc tg e W k X hc x
  cases e with
  | Call fe l kw p =>
    cases fe with
    | Name y py =>
      rcases l with _ | ⟨e1, _ | ⟨e2, _ | ⟨e3, l⟩⟩⟩
      · simp [chkI] at hc
      · cases kw <;> simp [chkI] at hc
      · cases kw with
        | cons _ _ => simp [chkI] at hc
        | nil =>
          simp only [chkI, Bool.and_eq_true, decide_eq_true_eq] at hc
          obtain ⟨⟨⟨h1, rfl⟩, h2⟩, h3⟩ := hc
          obtain ⟨b1, b2, b3, b4⟩ := x.blt h1
          have st := star_of (l := [e2]) (env := X.env) (chk_plain h2).1
          have st2 := star_of (l := []) (env := X.env) (chk_plain h3).1
          refine PI.imp (pi_range2 (tg := tg) b1 b2 (pa_cons (ha sc e1 W k X h2 x) (pa_cons (hb sc e2 W k X h3 x) pa_nil st2) st) (by rw [st, st2]; rfl) st2) ?_
          rintro σ H Q ⟨ι, ρ, μ, S, R, hw⟩
          have hw : wpR ((ev g.C cf a ρ μ).bind fun x μ => (ev g.C cf b ρ μ).bind fun y μ => match x, y with
            | .int i, .int j => rngF i j μ
            | _, _ => .stuck) _ _ := hw
          rw [wpR_bind] at hw
          refine ⟨ι, ρ, μ, S, R, wpR_mono hw (fun d1 μ1 q1 ι1 H1 v1 e1 S1 r1 => ?_) fun _ _ z => z⟩
          rw [wpR_bind] at q1
          refine ⟨ι1, ρ, μ1, S1, R.mono e1, wpR_mono q1 (fun d2 μ2 q2 ι2 H2 v2 e2 S2 r2 => ?_) fun _ _ z => z.mono e1⟩
          split at q2
          · rename_i n m
            obtain rfl := r1
            obtain rfl := r2
            unfold rngF at q2
            split at q2
            · rename_i hb
              exact ⟨n, m, rfl, ⟨by omega, by omega, by omega, by omega⟩, q2 ι2 H2 _ (e1.trans e2) S2 wkR⟩
            · exact False.elim q2
          · exact False.elim q2
      · cases kw <;> simp [chkI] at hc
    | _ => simp [chkI] at hc
  | _ => simp [chkI] at hc
theorem wkR3 {lo c : Int} {n : Nat} {ι0 : List Addr} {H0 : Hp} : WkI g (.row ((List.range n).map fun (k : Nat) => D.int (lo + (k : Int) * c))) (Itc lo c n) ι0 H0 := by
  intro i ι μ H e S st
  refine ⟨fun h => ?_, fun h => ?_, fun x H' hy hi => ?_⟩
  · show i < n
    simpa [Wk.items] using h
  · show n ≤ i
    simpa [Wk.items] using h
  · obtain ⟨rfl, rfl⟩ := hy
    have hi : i < n := by simpa [Wk.items] using hi
    refine ⟨rfl, .int (lo + i * c), ?_, rfl⟩
    simp [Wk.items, hi]
theorem rgC_of {i j c : Int} (hi : -(2 ^ 61) ≤ i) (hi' : i < 2 ^ 61) (hj : -(2 ^ 61) ≤ j) (hj' : j < 2 ^ 61) (hc : c = -1 ∨ 0 < c ∧ c < 1000) : RgC i j c (stepN i j c) := by
  rcases hc with rfl | ⟨c0, c1⟩
  · have := RgC.neg (i := i) (j := j) (by omega) (by omega) (by omega) (by omega)
    unfold stepN
    rw [if_neg (by decide)]
    exact this
  · have hs : Builtin.Range.rangeSize i j c = (stepN i j c : Int) := by
      unfold Builtin.Range.rangeSize stepN
      rw [if_pos c0, if_pos c0]
      split
      · have : 0 ≤ (j - i - 1) / c := Int.ediv_nonneg (by omega) (by omega)
        omega
      · rfl
    have hle : (stepN i j c : Int) ≤ 2 ^ 62 := by
      unfold stepN
      rw [if_pos c0]
      split
      · have h1 : (j - i - 1) / c ≤ j - i - 1 := Int.ediv_le_self _ (by omega)
        omega
      · simp
    refine ⟨by omega, by omega, ?_, hs⟩
    unfold Builtin.Range.small Builtin.Range.rangeFitsLong
    rw [hs, if_pos c0]
    simp only [Bool.and_eq_true, Bool.or_eq_true, decide_eq_true_eq, beq_iff_eq]
    refine ⟨⟨⟨⟨⟨by omega, by omega⟩, ⟨by omega, by omega⟩⟩, ⟨by omega, by omega⟩⟩, ⟨by omega, by omega⟩⟩, .inr ⟨by omega, by omega⟩⟩
theorem i_rng3 (ha : SndE Γ g cf a) (hb : SndE Γ g cf b) (hcc : SndE Γ g cf c) : SndI Γ g cf (.rng3 a b c) := by
  intro sc tg e W k X hc x
  cases e with
  | Call fe l kw p =>
    cases fe with
    | Name y py =>
      rcases l with _ | ⟨e1, _ | ⟨e2, _ | ⟨e3, _ | ⟨e4, l⟩⟩⟩⟩
      · simp [chkI] at hc
      · cases kw <;> simp [chkI] at hc
      · cases kw <;> simp [chkI] at hc
      · cases kw with
        | cons _ _ => simp [chkI] at hc
        | nil =>
          simp only [chkI, Bool.and_eq_true, decide_eq_true_eq] at hc
          obtain ⟨⟨⟨⟨h1, rfl⟩, h2⟩, h3⟩, h4⟩ := hc
          obtain ⟨b1, b2, b3, b4⟩ := x.blt h1
          have st := star_of (l := [e2, e3]) (env := X.env) (chk_plain h2).1
          have st2 := star_of (l := [e3]) (env := X.env) (chk_plain h3).1
          have st3 := star_of (l := []) (env := X.env) (chk_plain h4).1
          refine PI.imp (pi_range3 (tg := tg) b1 b2 (pa_cons (ha sc e1 W k X h2 x) (pa_cons (hb sc e2 W k X h3 x) (pa_cons (hcc sc e3 W k X h4 x) pa_nil st3) st2) st) st (by rw [st2, st3]; rfl)) ?_
          rintro σ H Q ⟨ι, ρ, μ, S, R, hw⟩
          have hw : wpR ((ev g.C cf a ρ μ).bind fun x μ => (ev g.C cf b ρ μ).bind fun y μ => (ev g.C cf c ρ μ).bind fun z μ => match x, y, z with
            | .int i, .int j, .int k => rngF3 i j k μ
            | _, _, _ => .stuck) _ _ := hw
          rw [wpR_bind] at hw
          refine ⟨ι, ρ, μ, S, R, wpR_mono hw (fun d1 μ1 q1 ι1 H1 v1 e1 S1 r1 => ?_) fun _ _ z => z⟩
          rw [wpR_bind] at q1
          refine ⟨ι1, ρ, μ1, S1, R.mono e1, wpR_mono q1 (fun d2 μ2 q2 ι2 H2 v2 e2 S2 r2 => ?_) fun _ _ z => z.mono e1⟩
          rw [wpR_bind] at q2
          refine ⟨ι2, ρ, μ2, S2, R.mono (e1.trans e2), wpR_mono q2 (fun d3 μ3 q3 ι3 H3 v3 e3 S3 r3 => ?_) fun _ _ z => z.mono (e1.trans e2)⟩
          split at q3
          · rename_i n m st
            obtain rfl := r1
            obtain rfl := r2
            obtain rfl := r3
            unfold rngF3 at q3
            split at q3
            · rename_i hb
              obtain ⟨z1, z2, z3, z4, z5⟩ := hb
              exact ⟨n, m, st, _, rfl, rgC_of z1 z2 z3 z4 z5, q3 ι3 H3 _ (e1.trans (e2.trans e3)) S3 wkR3⟩
            · exact False.elim q3
          · exact False.elim q3
      · cases kw <;> simp [chkI] at hc
    | _ => simp [chkI] at hc
  | _ => simp [chkI] at hc
end
end PL
end
section
set_option Elab.async false
set_option linter.all false
set_option autoImplicit false
set_option maxRecDepth 100000
set_option maxHeartbeats 400000
/-! Sound10: comprehensions. -/
namespace PL
open PySem PySem.Spec PyProof.Rows L2
section
variable {Γ : Stat} {g : Gd} {cf : CF} {W : WX} {σ : L2.St} {H : Hp} {a b c : E} {es : Es}
theorem wipe_wipe {σ : L2.St} {own : List Nat} : ∀ {own2 : List Nat}, (∀ i ∈ own2, i ∈ own) → L2.wipe (L2.wipe σ own2) own = L2.wipe σ own
  | [], _ => rfl
  | i :: own2, h => by
    show L2.wipe ((L2.wipe σ own2).set i none) own = _
    rw [wipe_set (h i (List.mem_cons_self ..)), wipe_wipe fun j hj => h j (List.mem_cons_of_mem _ hj)]
def noW : WX := fun _ _ _ _ => False
theorem blk_ok {k : Nat} {sc scope : Scope} {X : Cx} {own : List (PySem.Str × Nat)} (x : XOk Γ g cf W k sc X) (h : blkC Γ.N sc scope own = true) : BlkOk X.N X.env.scope scope own := by
  have b := blkOk_by h
  rw [x.N]
  refine ⟨b.kind, b.uniq, b.ix, fun y hy e => ?_, b.own⟩
  rcases b.free y hy e with q | q
  · exact .inl (x.cel _ q).1
  · exact x.fre _ q
theorem relS_free {sc : Scope} {names : List (PySem.Str × NameKind)} {x : PySem.Str} (h : List.lookup x names = some .free) : List.lookup x (names.map (fun x => match x with
    | (n, k) => if (k == NameKind.free && sc.kind == ScopeKind.function && List.lookup n sc.names == some NameKind.cell) = true then (n, NameKind.cell) else (n, k))) = some .cell ∨ List.lookup x (names.map (fun x => match x with
    | (n, k) => if (k == NameKind.free && sc.kind == ScopeKind.function && List.lookup n sc.names == some NameKind.cell) = true then (n, NameKind.cell) else (n, k))) = some .free := by
  induction names with
  | nil => cases h
  | cons p t ih =>
    obtain ⟨n, kd⟩ := p
    rw [List.lookup_cons] at h
    simp only [List.map_cons]
    by_cases hn : (x == n) = true
    · rw [hn] at h
      simp only at h
      cases h
      by_cases hc : (NameKind.free == NameKind.free && sc.kind == ScopeKind.function && List.lookup n sc.names == some NameKind.cell) = true
      · left
        rw [if_pos hc, List.lookup_cons, hn]
      · right
        rw [if_neg hc, List.lookup_cons, hn]
    · have hn' : (x == n) = false := by simpa using hn
      rw [hn'] at h
      have := ih h
      split
      · rw [List.lookup_cons, hn']; exact this
      · rw [List.lookup_cons, hn']; exact this
theorem XOk.blk {k : Nat} {sc scope : Scope} {X : Cx} (x : XOk Γ g cf W k sc X) (h0 : Γ.hot = false) (hk : scope.kind = ScopeKind.function) (s : Shared) (H : Hp) (C : Addr) (cl : List (PySem.Str × Addr)) (fp : List Addr) :
    XOk Γ g cf noW k scope (X.blk s H scope (compEnvC scope cl C X.env) fp) where
  N := x.N
  nd := x.nd
  P := x.P
  w := x.w
  K := x.K
  calm := x.calm
  room := x.room
  un := x.un
  k2 := x.k2
  en := x.en
  hotE := x.hotE
  er := fun n h => by rw [x.hotE h0] at h; cases h
  rse := fun y ms ks h => let r := x.rse y ms ks h; ⟨r.mg, r.mro, r.T, r.nd, r.ini⟩
  hcl := fun y c h => let r := x.hcl y c h; ⟨r.mg, r.em⟩
  fld := fun f i h => let r := x.fld f i h; ⟨r.eq, r.no⟩
  xfc := x.xfc
  tk := takes_none5
  po := PassesOwn.never
  loc := fun y h => lookup_relS_keep (by decide) h
  cel := fun y h => ⟨lookup_relS_keep (by decide) h, by
    show (List.lookup y scope.names == some NameKind.cell) = true
    rw [h]; rfl⟩
  fre := fun y h => relS_free h
  gl := fun y h => lookup_relS_keep (by decide) h
  mgS := x.mgS
  mgC := x.mgC
  mgB := x.mgB
  fnk := x.fnk
  bk := by
    show (if scope.kind.isAnnotationScope then ScopeKind.function else scope.kind) = ScopeKind.function
    rw [hk]; rfl
/-- one turn's end -/
theorem wpR_turn {r : Res (Option D)} {A : Store → Res Unit} {B : D → Store → Res Unit} {Q : Unit → Store → Prop} {E : Exc → Store → Prop}
    (h : wpR (match r with
      | .ok none μ' => A μ'
      | .ok (some d) μ' => B d μ'
      | _ => .stuck) Q E) : wpR r (fun o μ' => match o with
      | none => wpR (A μ') Q E
      | some d => wpR (B d μ') Q E) fun _ _ => False := by
  cases r with
  | stuck => exact h
  | exc _ _ => exact h
  | ok o μ' => cases o <;> exact h
def turnF (g : Gd) (cf : CF) (t : T) (c : Ec) (e : E) (ρ : Env) : D → Store → Res (Option D) := fun x μ => (asgT g.C cf t x ρ μ).bind fun ρ2 μ => (evC g.C cf c ρ2 μ).bind fun k μ =>
      if k then (ev g.C cf e ρ2 μ).bind fun d μ => .ok (some d) μ else .ok none μ
theorem comp_core {J : L2.It} {w : Wk} {t : T} {c : Ec} {e : E} {own : List Nat} {l : Nat} {Dp : Addr} {ρ : Env} {Q : Hp → Prop} {ι0 : List Addr} {H0 : Hp} {E : Exc → Store → Prop} (hJ : WkI g w J ι0 H0) (ho : tOwn t own = true) (R0 : RepS g ι0 H0 ρ σ)
    {ι1 : List Addr} {μ1 : Store} {H1 : Hp} (e1 : Ext ι0 H0 ι1 H1) (S1 : Sim g ι1 μ1 H1) (hl : ι1[l]? = some Dp)
    (hw : wpR (compL w l (turnF g cf t c e (wipeE ρ own)) w.items μ1) (fun _ μ2 => ∀ ι' H', Ext ι1 H1 ι' H' → Sim g ι' μ2 H' → Q H') E) :
    ∃ V : Nat → Nat → Hp → Prop, (∃ m, V 0 m H1) ∧ ∀ i m H, V i m H → J.stop i H ∧ Q H ∨ J.go i H ∧ ∃ Nx : Hp → Prop, (∀ H', Nx H' → ∃ m', m' < m ∧ V (i + 1) m' H') ∧
      ∀ x H', J.yld i H x H' → semG g cf noW t x (L2.wipe σ own) H' fun σ2 H2 => L2.wipe σ2 own = L2.wipe σ own ∧ semC g cf noW c σ2 H2 fun b H3 =>
        if b = true then semE g cf noW e σ2 H3 fun y H4 => ∃ acc, H4 Dp = some (.lst acc) ∧ acc.length < sizeLine ∧ Nx (upd H4 Dp (.lst (acc ++ [y]))) else Nx H3 := by
  let V : Nat → Nat → Hp → Prop := fun i m H => m = w.items.length - i ∧ i ≤ w.items.length ∧ ∃ ι μ, Ext ι1 H1 ι H ∧ Sim g ι μ H ∧
    wpR (compL w l (turnF g cf t c e (wipeE ρ own)) (w.items.drop i) μ) (fun _ μ2 => ∀ ι' H', Ext ι1 H1 ι' H' → Sim g ι' μ2 H' → Q H') E
  refine ⟨V, ⟨_, rfl, Nat.zero_le _, ι1, μ1, Ext.refl _ _, S1, hw⟩, ?_⟩
  rintro i m H ⟨rfl, hi, ι, μ, ex, S, h⟩
  by_cases hn : i = w.items.length
  · have : w.items.drop i = [] := List.drop_eq_nil_of_le (by omega)
    rw [this] at h
    have h : wpR (if w.stands μ then (.ok () μ : Res Unit) else .stuck) _ _ := h
    split at h
    · rename_i st
      obtain ⟨_, q2, _⟩ := hJ i ι μ H (e1.trans ex) S st
      exact .inl ⟨q2 (by omega), h ι H ex S⟩
    · exact False.elim h
  · have hlt : i < w.items.length := by omega
    rw [List.drop_eq_getElem_cons hlt] at h
    unfold compL at h
    split at h
    · rename_i st
      obtain ⟨q1, _, q3⟩ := hJ i ι μ H (e1.trans ex) S st
      refine .inr ⟨q1 hlt, fun H' => V (i + 1) (w.items.length - (i + 1)) H', fun H' h' => ⟨_, by omega, h'⟩, fun x H' hy => ?_⟩
      obtain ⟨rfl, d, hd, rd⟩ := q3 x H' hy hlt
      have hd' : w.items[i] = d := by
        rw [List.getElem?_eq_getElem hlt] at hd; exact Option.some.inj hd
      rw [hd'] at h
      have h := wpR_turn h
      unfold turnF at h
      rw [wpR_bind] at h
      have Rw : RepS g ι H' (wipeE ρ own) (L2.wipe σ own) := (R0.mono (e1.trans ex)).wipe own
      refine ⟨ι, wipeE ρ own, μ, d, S, Rw, rd, wpR_mono h (fun ρ2 μ2 h2 ι2 H2 σ2 ex2 S2 R2 hwp => ⟨?_, ?_⟩) fun _ _ z => z.elim⟩
      · rw [hwp own ho, wipe_wipe fun _ z => z]
      · rw [wpR_bind] at h2
        refine ⟨ι2, ρ2, μ2, S2, R2, wpR_mono h2 (fun b μ3 h3 ι3 H3 ex3 S3 => ?_) fun _ _ z => z.elim⟩
        cases b with
        | false =>
          have h3 : wpR (compL w l (turnF g cf t c e (wipeE ρ own)) (w.items.drop (i + 1)) μ3) _ _ := h3
          exact ⟨rfl, hlt, ι3, μ3, ex.trans (ex2.trans ex3), S3, h3⟩
        | true =>
          have h3 : wpR ((ev g.C cf e ρ2 μ3).bind fun d μ => .ok (some d) μ) _ _ := h3
          rw [wpR_bind] at h3
          refine ⟨ι3, ρ2, μ3, S3, R2.mono ex3, wpR_mono h3 (fun y μ4 h4 ι4 H4 v4 ex4 S4 r4 => ?_) fun _ _ z => z.elim⟩
          have h4 : wpR (match μ4[l]? with
            | some (.lst acc) => if acc.length < mostLen then compL w l (turnF g cf t c e (wipeE ρ own)) (w.items.drop (i + 1)) (μ4.set l (.lst (acc ++ [y]))) else .stuck
            | _ => .stuck) _ _ := h4
          split at h4
          · rename_i acc ea
            split at h4
            · rename_i hlen
              have hD : ι4[l]? = some Dp := (ex.trans (ex2.trans (ex3.trans ex4))).ix hl
              obtain ⟨vs, v1, v2⟩ := S4.ob l _ Dp ea hD
              have es := ext_set S4 hD (.lst v1) (.lst (vs ++ [v4]))
              refine ⟨vs, v1, by rw [v2.length]; exact Nat.lt_of_lt_of_le hlen line_most, rfl, hlt, ι4, _, ex.trans (ex2.trans (ex3.trans (ex4.trans es))), S4.set (o := .lst (acc ++ [y])) hD (.lst v1) ⟨_, upd_same, es.repL _ _ (v2.append (.one r4))⟩, h4⟩
            · exact False.elim h4
          · exact False.elim h4
    · exact False.elim h
theorem ownOf_snd (N : List PySem.Str) (own : List Nat) : (ownOf N own).map (·.2) = own := by
  unfold ownOf
  rw [List.map_map]
  exact List.map_id _
def isK : PL.It → Bool
  | .keys _ => true
  | _ => false
theorem evI_plain {it : PL.It} (h : isK it = false) {ρ : Env} {μ : Store} {Q : Wk → Store → Prop} {E : Exc → Store → Prop} (hw : wpR (evI g.C cf it ρ μ) Q E) : wpR (evI g.C cf it ρ μ) (fun w μ' => Q w μ' ∧ w.lk = false) E := by
  have rng : ∀ {i j : Int} {μ : Store}, wpR (rngF i j μ) Q E → wpR (rngF i j μ) (fun w μ' => Q w μ' ∧ w.lk = false) E := by
    intro i j μ hw
    unfold rngF at hw ⊢
    split at hw
    · rename_i hc; rw [if_pos hc]; exact ⟨hw, rfl⟩
    · exact False.elim hw
  cases it with
  | keys _ => cases h
  | val e =>
    have hw : wpR ((ev g.C cf e ρ μ).bind fun d μ => okI (walkF d μ) μ) _ _ := hw
    show wpR ((ev g.C cf e ρ μ).bind fun d μ => okI (walkF d μ) μ) _ _
    rw [wpR_bind] at hw ⊢
    refine wpR_mono hw (fun d μ1 h1 => ?_) fun _ _ z => z
    obtain ⟨w, e1, e2⟩ := okI_ok h1
    rw [e1]
    refine ⟨e2, ?_⟩
    rcases walk_cases e1 with ⟨_, _, rfl⟩ | ⟨_, _, rfl⟩ | ⟨_, _, rfl⟩ | ⟨_, _, rfl⟩ | ⟨_, _, _, _, rfl⟩ <;> rfl
  | rng e =>
    have hw : wpR ((ev g.C cf e ρ μ).bind fun d μ => match d with
      | .int n => rngF 0 n μ
      | _ => .stuck) _ _ := hw
    show wpR ((ev g.C cf e ρ μ).bind fun d μ => match d with
      | .int n => rngF 0 n μ
      | _ => .stuck) _ _
    rw [wpR_bind] at hw ⊢
    refine wpR_mono hw (fun d μ1 h1 => ?_) fun _ _ z => z
    split at h1
    · exact rng h1
    · exact False.elim h1
  | rng2 e f =>
    have hw : wpR ((ev g.C cf e ρ μ).bind fun x μ => (ev g.C cf f ρ μ).bind fun y μ => match x, y with
      | .int i, .int j => rngF i j μ
      | _, _ => .stuck) _ _ := hw
    show wpR ((ev g.C cf e ρ μ).bind fun x μ => (ev g.C cf f ρ μ).bind fun y μ => match x, y with
      | .int i, .int j => rngF i j μ
      | _, _ => .stuck) _ _
    rw [wpR_bind] at hw ⊢
    refine wpR_mono hw (fun d μ1 h1 => ?_) fun _ _ z => z
    rw [wpR_bind] at h1 ⊢
    refine wpR_mono h1 (fun d μ1 h1 => ?_) fun _ _ z => z
    split at h1
    · exact rng h1
    · exact False.elim h1
  | rng3 e f f2 =>
    have hw : wpR ((ev g.C cf e ρ μ).bind fun x μ => (ev g.C cf f ρ μ).bind fun y μ => (ev g.C cf f2 ρ μ).bind fun z μ => match x, y, z with
      | .int i, .int j, .int k => rngF3 i j k μ
      | _, _, _ => .stuck) _ _ := hw
    show wpR ((ev g.C cf e ρ μ).bind fun x μ => (ev g.C cf f ρ μ).bind fun y μ => (ev g.C cf f2 ρ μ).bind fun z μ => match x, y, z with
      | .int i, .int j, .int k => rngF3 i j k μ
      | _, _, _ => .stuck) _ _
    rw [wpR_bind] at hw ⊢
    refine wpR_mono hw (fun d μ1 h1 => ?_) fun _ _ z => z
    rw [wpR_bind] at h1 ⊢
    refine wpR_mono h1 (fun d μ1 h1 => ?_) fun _ _ z => z
    rw [wpR_bind] at h1 ⊢
    refine wpR_mono h1 (fun d μ1 h1 => ?_) fun _ _ z => z
    split at h1
    · unfold rngF3 at h1 ⊢
      split at h1
      · rename_i hc; rw [if_pos hc]; exact ⟨h1, rfl⟩
      · exact False.elim h1
    · exact False.elim h1
theorem start_plain {w : Wk} (h : w.lk = false) (μ : Store) : w.start μ = μ ∧ w.stop μ = μ := by
  cases w with
  | dct _ _ => cases h
  | _ => exact ⟨rfl, rfl⟩
/-! ### a dict's keys, under its lock -/
theorem keys_cases {d : D} {μ : Store} {w : Wk} (h : keysF d μ = some w) : (∃ l kvs, d = .loc l ∧ μ[l]? = some (.dK false kvs) ∧ w = .dct l (kvs.map fun p => p.1.d)) ∨ ∃ l kvs, d = .loc l ∧ μ[l]? = some (.dT false kvs) ∧ w = .dct l (kvs.map fun p => .tup (p.1.map Key.d)) := by
  cases d with
  | loc l =>
    unfold keysF at h
    simp only at h
    split at h
    · rename_i kvs e; cases h; exact .inl ⟨l, kvs, rfl, e, rfl⟩
    · rename_i kvs e; cases h; exact .inr ⟨l, kvs, rfl, e, rfl⟩
    · cases h
  | _ => cases h
theorem key_d {ι : List Addr} {H : Hp} (q : PL.Key) : Rep g ι H q.d (kV (K2 q)) := by
  cases q <;> rfl
theorem keys_d {ι : List Addr} {H : Hp} : ∀ ks : List PL.Key, RepL g ι H (ks.map Key.d) ((Ks2 ks).map kV)
  | [] => rfl
  | k :: ks => ⟨_, _, rfl, key_d k, keys_d ks⟩
theorem repKV_at {κ κ' : Type} {f : κ → κ'} {ι : List Addr} {H : Hp} : ∀ {kvs : List (κ × D)} {vs : List (κ' × V)} {i : Nat} {p : κ' × V}, RepKV g f ι H kvs vs → vs[i]? = some p → ∃ q, kvs[i]? = some q ∧ p.1 = f q.1
  | [], _, _, _, h, e => by rw [show _ = [] from h] at e; cases e
  | q :: kvs, _, 0, p, h, e => by
    obtain ⟨v, r, rfl, h1, h2⟩ := h
    cases e
    exact ⟨q, rfl, rfl⟩
  | q :: kvs, _, i + 1, p, h, e => by
    obtain ⟨v, r, rfl, h1, h2⟩ := h
    exact repKV_at (i := i) h2 e
theorem keys_walk {sc : Scope} {X : Cx} {k : Nat} (x : XOk Γ g cf W k sc X) {tg : Expr} {e : Expr} {i : Nat} (hc : chkI Γ (.keys i) sc e = true) : PI X tg e (iKeys (semE g cf W (.v i))) := by
  cases e with
  | Name y p =>
    have : chkE Γ (.v i) sc (.Name y p) = true := by
      rw [chkI] at hc; rw [chkE]; exact hc
    exact pi_keys (c_v i sc _ W k X this x)
  | _ => simp [chkI] at hc
/-- what a locked dict gives -/
structure Lkd (g : Gd) (cf : CF) (W : WX) (ι : List Addr) (μ : Store) (H : Hp) (σ : L2.St) (i : Nat) (w : Wk) (dp : Addr) (u : HO) (l : Nat) : Prop where
  ck : w.lk = true
  lk : w.start μ = μ.modify l (setLk true)
  un : ∀ μ', w.stop μ' = μ'.modify l (setLk false)
  ix : ι[l]? = some dp
  at_ : H dp = some u
  mu : Mut (some u)
  nt : ∀ vs, u ≠ .tup vs
  nf : ∀ o z, u ≠ .frz o z
  go : ∀ od, Sim g ι (w.start μ) (upd H dp (.frz od u)) ∧ Ext ι H ι (upd H dp (.frz od u)) ∧ ∀ RR : L2.It → Hp → Prop, (∀ J ι1 H1, Ext ι (upd H dp (.frz od u)) ι1 H1 → Sim g ι1 (w.start μ) H1 → WkI g w J ι1 H1 → RR J H1) → iKeys (semE g cf W (.v i)) σ (upd H dp (.frz od u)) RR
theorem keys_sem {i : Nat} {ρ : Env} {μ : Store} {ι : List Addr} {Q : Wk → Store → Prop} {E : Exc → Store → Prop} (S : Sim g ι μ H) (R : RepS g ι H ρ σ) (hw : wpR (evI g.C cf (.keys i) ρ μ) Q E) :
    ∃ w dp u l, Q w μ ∧ Lkd g cf W ι μ H σ i w dp u l := by
  have hw : wpR (match ρ[i]? with
    | some (some d) => okI (keysF d μ) μ
    | _ => .stuck) Q E := hw
  split at hw
  · rename_i d ed
    obtain ⟨w, h1, h2⟩ := okI_ok hw
    rcases keys_cases h1 with ⟨l, kvs, rfl, e0, rfl⟩ | ⟨l, kvs, rfl, e0, rfl⟩
    · obtain ⟨dp, hi, vs, q1, q2⟩ := S.at e0
      refine ⟨_, dp, .dK vs, l, h2, rfl, rfl, fun _ => rfl, hi, q1, trivial, (fun _ z => nomatch z), (fun _ _ z => nomatch z), fun od => ?_⟩
      obtain ⟨S', e'⟩ := S.lock (o := od) hi (.inl ⟨kvs, e0⟩) q1
      refine ⟨S', e', fun RR hR => ⟨ι, ρ, _, S', R.mono e', ?_⟩⟩
      show wpR (match ρ[i]? with
        | some (some d) => .ok d _
        | _ => .stuck) _ _
      rw [ed]
      intro ι1 H1 v1 e1 S1 r1
      obtain ⟨dp2, rfl, hi2⟩ := r1
      have : dp2 = dp := by rw [e1.ix hi] at hi2; exact (Option.some.inj hi2).symm
      subst this
      have hz : H1 dp2 = some (.frz od (.dK vs)) := e1.fz _ _ _ upd_same
      refine ⟨dp2, od, rfl, .inl ⟨vs, hz, hR _ ι1 H1 e1 S1 fun j ι2 μ2 H2 e2 S2 _ => ?_⟩⟩
      have hz2 : H2 dp2 = some (.frz od (.dK vs)) := e2.fz _ _ _ hz
      have ln : (Wk.dct l (kvs.map fun p => p.1.d)).items.length = vs.length := by
        show (kvs.map _).length = _
        rw [List.length_map, q2.length]
      refine ⟨fun h => ⟨hz2, by omega⟩, fun h => ⟨hz2, by omega⟩, fun x H' hy _ => ?_⟩
      obtain ⟨rfl, q, v, e3, rfl⟩ := hy
      obtain ⟨q', e4, e5⟩ := repKV_at q2 e3
      refine ⟨rfl, q'.1.d, ?_, ?_⟩
      · show (kvs.map fun p => p.1.d)[j]? = _
        rw [List.getElem?_map, e4]; rfl
      · rw [show q = K2 q'.1 from e5]; exact key_d _
    · obtain ⟨dp, hi, vs, q1, q2⟩ := S.at e0
      refine ⟨_, dp, .dT vs, l, h2, rfl, rfl, fun _ => rfl, hi, q1, trivial, (fun _ z => nomatch z), (fun _ _ z => nomatch z), fun od => ?_⟩
      obtain ⟨S', e'⟩ := S.lock (o := od) hi (.inr ⟨kvs, e0⟩) q1
      refine ⟨S', e', fun RR hR => ⟨ι, ρ, _, S', R.mono e', ?_⟩⟩
      show wpR (match ρ[i]? with
        | some (some d) => .ok d _
        | _ => .stuck) _ _
      rw [ed]
      intro ι1 H1 v1 e1 S1 r1
      obtain ⟨dp2, rfl, hi2⟩ := r1
      have : dp2 = dp := by rw [e1.ix hi] at hi2; exact (Option.some.inj hi2).symm
      subst this
      have hz : H1 dp2 = some (.frz od (.dT vs)) := e1.fz _ _ _ upd_same
      refine ⟨dp2, od, rfl, .inr ⟨vs, hz, hR _ ι1 H1 e1 S1 fun j ι2 μ2 H2 e2 S2 _ => ?_⟩⟩
      have hz2 : H2 dp2 = some (.frz od (.dT vs)) := e2.fz _ _ _ hz
      have ln : (Wk.dct l (kvs.map fun p => D.tup (p.1.map Key.d))).items.length = vs.length := by
        show (kvs.map _).length = _
        rw [List.length_map, q2.length]
      refine ⟨fun h => ⟨hz2, by omega⟩, fun h => ⟨hz2, by omega⟩, fun x H' hy _ => ?_⟩
      obtain ⟨rfl, q, v, b, e3, rfl, hb⟩ := hy
      obtain ⟨q', e4, e5⟩ := repKV_at q2 e3
      refine ⟨rfl, .tup (q'.1.map Key.d), ?_, ?_⟩
      · show (kvs.map fun p => D.tup (p.1.map Key.d))[j]? = _
        rw [List.getElem?_map, e4]; rfl
      · rw [show q = Ks2 q'.1 from e5] at hb
        exact ⟨b, _, rfl, hb, keys_d _⟩
  · exact False.elim hw
/-! ### comprehensions -/
theorem comp_sem {t : T} {it : PL.It} {k : Ec} {e : E} {own : List Nat} {σ : L2.St} {H : Hp} {Q : VK} (hK : isK it = false) (h6 : tOwn t own = true) (h : semE g cf W (.comp t it k e own) σ H Q) : tLc (semI g cf W it) (semG g cf noW t) (semC g cf noW k) (semE g cf noW e) own σ H Q := by
  obtain ⟨ι, ρ, μ, S, R, hw⟩ := h
  have hw : wpR ((evI g.C cf it ρ μ).bind fun w μ1 => (compL w μ1.length (turnF g cf t k e (wipeE ρ own)) w.items (w.start μ1 ++ [.lst []])).bind fun _ μ2 => .ok (.loc μ1.length) (w.stop μ2)) (OkV g ι H Q) (exW g W ι H σ) := hw
  rw [wpR_bind] at hw
  refine ⟨ι, ρ, μ, S, R, wpR_mono (evI_plain hK hw) (fun w μ1 hw1 ι1 H1 J e1 S1 hJ D hD => ?_) fun _ _ z => z⟩
  obtain ⟨hw1, hlk⟩ := hw1
  obtain ⟨z1, z2⟩ := start_plain hlk μ1
  rw [z1, wpR_bind] at hw1
  have en := ext_new S1 hD (.lst [])
  have Sn : Sim g (ι1 ++ [D]) (μ1 ++ [.lst []]) (upd H1 D (.lst [])) := S1.new hD ⟨[], upd_same, rfl⟩
  refine comp_core (Q := fun H => Q (.ref D) H) hJ h6 (R.mono e1) en Sn (l := μ1.length) (by rw [← S1.len]; simp) (wpR_mono hw1 (fun _ μ2 q ι' H' e' S' => ?_) fun _ _ z => z)
  have q : OkV g ι H Q (.loc μ1.length) (w.stop μ2) := q
  rw [(start_plain hlk μ2).2] at q
  exact q ι' H' (.ref D) (e1.trans (en.trans e')) S' ⟨D, rfl, e'.ix (by rw [← S1.len]; simp)⟩
theorem c_comp {t : T} {it : PL.It} {k : Ec} {e : E} {own : List Nat} (ht : SndG Γ g cf t) (hi : isK it = false → SndI Γ g cf it) (hk : SndC Γ g cf k) (he : SndE Γ g cf e) : SndE Γ g cf (.comp t it k e own) := by
  intro sc ex W d X hc x
  cases ex with
  | ListComp el gens scope p =>
    rcases gens with _ | ⟨⟨tg, iter, ifs, as⟩, _ | ⟨g2, gens⟩⟩
    · simp [chkE] at hc
    · by_cases ha0 : as = 0
      · subst ha0
        have hc : (!Γ.hot && chkT Γ t scope tg && chkI Γ it sc iter && chkC Γ k scope ifs && chkE Γ e scope el && blkC Γ.N sc scope (ownOf Γ.N own) && tOwn t own) = true := by
          rw [chkE] at hc
          · exact hc
          all_goals simp
        simp only [Bool.and_eq_true] at hc
        obtain ⟨⟨⟨⟨⟨⟨h0, h1⟩, h2⟩, h3⟩, h4⟩, h5⟩, h6⟩ := hc
        have h0 := notHot h0
        have bo := blk_ok x h5
        have sk : scope.kind = ScopeKind.function := bo.kind
        have nf : ∀ y : Value, foldedSetIterable iter X.env y = pure y := by
          have : NoSet iter = true := by
            cases it with
            | val a => rw [chkI] at h2; exact (chk_plain h2).2.1
            | rng a => cases iter <;> first | rfl | simp [chkI] at h2
            | rng2 a b => cases iter <;> first | rfl | simp [chkI] at h2
            | rng3 a b c => cases iter <;> first | rfl | simp [chkI] at h2
            | keys i => cases iter <;> first | rfl | simp [chkI] at h2
          exact fun y => fold_of this y
        have g1 := fun (s : Shared) (H : Hp) (C : Addr) (cl : List (PySem.Str × Addr)) (fp : List Addr) => ht scope tg noW d _ h1 (x.blk h0 sk s H C cl fp)
        have g2 := fun (s : Shared) (H : Hp) (C : Addr) (cl : List (PySem.Str × Addr)) (fp : List Addr) => hk scope ifs noW d _ h3 (x.blk h0 sk s H C cl fp)
        have g3 := fun (s : Shared) (H : Hp) (C : Addr) (cl : List (PySem.Str × Addr)) (fp : List Addr) => he scope el noW d _ h4 (x.blk h0 sk s H C cl fp)
        by_cases hK : isK it = false
        · refine PE.imp (pe_lc (x.calm h0) x.nd (hi hK sc tg iter W d X h2 x) bo g1 g2 g3 nf) ?_
          rw [ownOf_snd]
          exact fun σ H Q h => comp_sem hK h6 h
        · cases it with
          | keys i =>
            refine PE.imp (pe_lock (pe_lc (x.calm h0) x.nd (keys_walk x h2) bo g1 g2 g3 nf)) ?_
            rw [ownOf_snd]
            rintro σ H Q ⟨ι, ρ, μ, S, R, hw⟩
            have hw : wpR ((evI g.C cf (.keys i) ρ μ).bind fun w μ1 => (compL w μ1.length (turnF g cf t k e (wipeE ρ own)) w.items (w.start μ1 ++ [.lst []])).bind fun _ μ2 => .ok (.loc μ1.length) (w.stop μ2)) (OkV g ι H Q) (exW g W ι H σ) := hw
            rw [wpR_bind] at hw
            obtain ⟨w, dp, u, l, hw1, L⟩ := keys_sem (W := W) S R hw
            refine ⟨dp, u, L.at_, L.mu, fun od => ?_⟩
            obtain ⟨Sl, el, hgo⟩ := L.go od
            refine hgo _ fun J ι1 H1 e1 S1 hJ D hD => ?_
            rw [wpR_bind] at hw1
            have en := ext_new S1 hD (.lst [])
            have Sn : Sim g (ι1 ++ [D]) (w.start μ ++ [.lst []]) (upd H1 D (.lst [])) := S1.new hD ⟨[], upd_same, rfl⟩
            have ll : (w.start μ).length = μ.length := by rw [L.lk]; simp
            have hD1 : (ι1 ++ [D])[μ.length]? = some D := by rw [← ll, ← S1.len]; simp
            refine comp_core (Q := fun H' => H' dp = some (.frz od u) ∧ Q (.ref D) (upd H' dp u)) hJ h6 ((R.mono el).mono e1) en Sn (l := μ.length) hD1 (wpR_mono hw1 (fun _ μ2 q ι' H' e' S' => ?_) fun _ _ z => z)
            have q : OkV g ι H Q (.loc μ.length) (w.stop μ2) := q
            rw [L.un] at q
            have ef := e1.trans (en.trans e')
            have hz : H' dp = some (.frz od u) := ef.fz _ _ _ upd_same
            refine ⟨hz, q ι' _ (.ref D) (ext_unlock (List.mem_of_getElem? L.ix) L.at_ L.nt L.nf ef) (S'.unlock (ef.ix L.ix) hz) ⟨D, rfl, e'.ix hD1⟩⟩
          | _ => exact absurd rfl hK
      · rw [chkE] at hc
        · cases hc
        all_goals (intros; simp_all)
    · simp [chkE] at hc
  | _ => simp [chkE] at hc
end
end PL
end
section
set_option Elab.async false
set_option linter.all false
set_option autoImplicit false
set_option maxRecDepth 100000
set_option maxHeartbeats 400000
/-! Sound11: statements. -/
namespace PL
open PySem PySem.Spec PyProof.Rows L2
def NoLc : Expr → Bool
  | .ListComp _ _ _ _ => false
  | .SetComp _ _ _ _ => false
  | .DictComp _ _ _ _ _ => false
  | _ => true
def celN (sc : Scope) : Expr → Bool
  | .Name x _ => sc.names.lookup x == some .cell
  | _ => false
def notTT (sc : Scope) : Expr → Expr → Bool
  | .Tuple ts _ _, .Tuple vs _ _ => vs.all (foldedForSure 8) || ts.any (celN sc)
  | .List _ _, _ => false
  | .Starred _ _, _ => false
  | _, _ => true
/-- how a comprehension goes to a name: plainly, or by the compiler's swap -/
def lcPlain (sc scope : Scope) (y : PySem.Str) (py p : Pos) : Bool :=
  (scope.names.any fun q => q.1 == y && (q.2 == .local || q.2 == .cell)) || !(py.line == p.line) || (sc.names.lookup y == some .cell)
def locO (sc : Scope) (x : PySem.Str) : Bool := match sc.names.lookup x with
  | some .local => true
  | _ => false
def noKeys : E → Bool
  | .comp _ it _ _ _ => !isK it
  | _ => true
def asgOk (b : Bool) (sc : Scope) (val tg : Expr) : Bool := match val, tg with
  | .ListComp _ _ scope p, .Name y py => lcPlain sc scope y py p || (locO sc y && b)
  | v, _ => NoLc v
def parOk (px py pt : Pos) (x y : PySem.Str) (a b : Expr) : Bool := (px.line == py.line) && !(x == y) && !(foldedForSure 8 a && foldedForSure 8 b) && !(constantsAlone 8 a && constantsAlone 8 b)
def chkRse (Γ : Stat) (ms ks : List Nat) (es : Es) (sc : Scope) : Stmt → Bool
  | .Raise (some (.Call (.Name x _) (a :: l) [] _)) none _ => !Γ.hot && glB sc x && okN x && decide ((x, ms, ks) ∈ Γ.cls) && chkEs Γ es sc (a :: l) && decide ((a :: l).length = ks.length)
  | _ => false
def tryParts : Stmt → Option (List Stmt × List ExceptHandler)
  | .Try body (h :: hds) [] [] _ => some (body, h :: hds)
  | _ => none
def Stat.suite (Γ : Stat) (n : Option Nat) : Stat := { Γ with hot := true, err := n }
mutual
def chkS : Stat → S → Scope → Stmt → Bool
  | Γ, .asg t e, sc, .Assign [tg] val _ => chkT Γ t sc tg && chkE Γ e sc val && notTT sc tg val && asgOk (noKeys e) sc val tg
  | Γ, .par i j a b, sc, .Assign [.Tuple [.Name x px, .Name y py] _ pt] (.Tuple [u, v] _ _) _ => !Γ.hot && decide (Γ.N[i]? = some x) && decide (Γ.N[j]? = some y) && locO sc x && locO sc y && chkE Γ a sc u && chkE Γ b sc v && parOk px py pt x y u v && decide (i ≠ j)
  | Γ, .aug i op e, sc, .AugAssign (.Name x _) o v _ => decide (Γ.N[i]? = some x) && locB sc x && chkE Γ e sc v && decide (o = opP op) && (op == .add || op == .sub) && notErr Γ i
  | Γ, .ex e, sc, .Expr v _ => chkE Γ e sc v && NoLc v
  | Γ, .ret e, sc, .Return (some v) _ => chkE Γ e sc v
  | _, .retN, _, .Return none _ => true
  | Γ, .ite c a b, sc, .If t x y _ => chkE Γ c sc t && chkSs Γ a sc x && chkSs Γ b sc y
  | Γ, .whl c b, sc, .While t x [] _ => chkE Γ c sc t && chkSs Γ b sc x
  | Γ, .fr t it b, sc, .For tg iter x [] _ => !Γ.hot && chkT Γ t sc tg && chkI Γ it sc iter && chkSs Γ b sc x
  | _, .brk, _, .Break _ => true
  | _, .cont, _, .Continue _ => true
  | _, .pass, _, .Pass _ => true
  | _, .pass, _, .Expr (.Constant (.str _) _ _) _ => true
  | Γ, .rse ms ks es, sc, st => chkRse Γ ms ks es sc st
  | Γ, .tr b hs, sc, st => match tryParts st with
    | some (body, hds) => !Γ.hot && chkSs Γ b sc body && chkHs Γ hs sc hds
    | none => false
  | _, _, _, _ => false
def chkSs : Stat → Ss → Scope → List Stmt → Bool
  | _, .nil, _, [] => true
  | Γ, .cons s ss, sc, x :: l => chkS Γ s sc x && chkSs Γ ss sc l
  | _, _, _, _ => false
def chkHs : Stat → Hs → Scope → List ExceptHandler → Bool
  | _, .nil, _, [] => true
  | Γ, .cons c none b hs, sc, .ExceptHandler (some (.Name x _)) none (s :: l) _ :: r => glB sc x && okN x && decide ((x, c) ∈ Γ.hcl) && chkSs (Γ.suite none) b sc (s :: l) && chkHs Γ hs sc r
  | Γ, .cons c (some i) b hs, sc, .ExceptHandler (some (.Name x _)) (some y) (s :: l) _ :: r => glB sc x && okN x && decide ((x, c) ∈ Γ.hcl) && decide (Γ.N[i]? = some y) && locO sc y && chkSs (Γ.suite (some i)) b sc (s :: l) && chkHs Γ hs sc r
  | _, _, _, _ => false
end
/-- where a statement stands -/
structure XOkS (Γ : Stat) (g : Gd) (cf : CF) (W : WX) (k : Nat) (sc : Scope) (X : Cx) : Prop extends XOk Γ g cf W k sc X where
  stk : X.stack = X.env :: X.outer
  frm : X.env.frame = some X.env.locals
instance {Γ : Stat} {g : Gd} {cf : CF} {W : WX} {k : Nat} {sc : Scope} {X : Cx} : Coe (XOkS Γ g cf W k sc X) (XOk Γ g cf W k sc X) := ⟨XOkS.toXOk⟩
section
variable (g : Gd) (cf : CF) (N : Nat) (W : WX)
/-- what follows a statement's end -/
def wpS (D : Ends) (ι : List Addr) (H : Hp) : SRes → Prop
  | .go .nx ρ μ => ∀ ι' H' σ', Ext ι H ι' H' → Sim g ι' μ H' → RepS g ι' H' ρ σ' → D.nx σ' H'
  | .go .bk ρ μ => ∀ ι' H' σ', Ext ι H ι' H' → Sim g ι' μ H' → RepS g ι' H' ρ σ' → D.bk σ' H'
  | .go .ct ρ μ => ∀ ι' H' σ', Ext ι H ι' H' → Sim g ι' μ H' → RepS g ι' H' ρ σ' → D.ct σ' H'
  | .go (.rt d) ρ μ => ∀ ι' H' v, Ext ι H ι' H' → Sim g ι' μ H' → Rep g ι' H' d v → D.rt v H'
  | .exc x ρ μ => ∀ ι' H' σ' c d, Ext ι H ι' H' → Sim g ι' μ H' → RepS g ι' H' ρ σ' → ExcR g ι' H' x c d → W c d σ' H'
  | .stuck => False
def semS (m : S) : TS := fun D σ H => ∃ ι ρ μ, Sim g ι μ H ∧ RepS g ι H ρ σ ∧ wpS g W D ι H (ex g.C cf N m ρ μ)
def semB (m : Ss) : TS := fun D σ H => ∃ ι ρ μ, Sim g ι μ H ∧ RepS g ι H ρ σ ∧ wpS g W D ι H (exs g.C cf N m ρ μ)
end
theorem wpS_mono {g : Gd} {W : WX} {D : Ends} {ι ι1 : List Addr} {H H1 : Hp} {r : SRes} (e : Ext ι H ι1 H1) (h : wpS g W D ι H r) : wpS g W D ι1 H1 r := by
  cases r with
  | stuck => exact h
  | exc x ρ μ => exact fun ι' H' σ' c d e' => h ι' H' σ' c d (e.trans e')
  | go f ρ μ =>
    cases f with
    | nx => exact fun ι' H' σ' e' => h ι' H' σ' (e.trans e')
    | bk => exact fun ι' H' σ' e' => h ι' H' σ' (e.trans e')
    | ct => exact fun ι' H' σ' e' => h ι' H' σ' (e.trans e')
    | rt d => exact fun ι' H' σ' e' => h ι' H' σ' (e.trans e')
theorem wpS_of {α : Type} {g : Gd} {W : WX} {D : Ends} {ι : List Addr} {H : Hp} {ρ : PL.Env} {σ : L2.St} {r : Res α} {f : α → Store → SRes} (R : RepS g ι H ρ σ) (h : wpS g W D ι H (SRes.of ρ r f)) : wpR r (fun a μ => wpS g W D ι H (f a μ)) (exW g W ι H σ) := by
  cases r with
  | stuck => exact h
  | ok a μ => exact h
  | exc x μ => exact fun ι' H' c d e' S E => h ι' H' σ c d e' S (R.mono e') E
section
variable {Γ : Stat} {g : Gd} {cf : CF} {N : Nat} {W : WX} {σ : L2.St} {H : Hp} {a b c : E} {es : Es}
def SndS (Γ : Stat) (g : Gd) (cf : CF) (N : Nat) (m : S) : Prop := ∀ (sc : Scope) (st : Stmt) (W : WX) (k : Nat) (X : Cx), chkS Γ m sc st = true → XOkS Γ g cf W k sc X → PS X st (semS g cf N W m)
def SndB (Γ : Stat) (g : Gd) (cf : CF) (N : Nat) (m : Ss) : Prop := ∀ (sc : Scope) (st : List Stmt) (W : WX) (k : Nat) (X : Cx), chkSs Γ m sc st = true → XOkS Γ g cf W k sc X → PSs X st (semB g cf N W m)
theorem PSs.imp {X : Cx} {e : List Stmt} {t t' : TS} (h : PSs X e t) (i : ∀ D σ H, t' D σ H → t D σ H) : PSs X e t' := ⟨fun pins s σ H D I q => h.run pins s σ H D I (i D σ H q)⟩
theorem b_nil : SndB Γ g cf N .nil := by
  intro sc l W k X hc x
  cases l with
  | cons _ _ => simp [chkSs] at hc
  | nil =>
    refine PSs.imp pss_nil ?_
    rintro D σ H ⟨ι, ρ, μ, S, R, hw⟩
    exact hw ι H σ (Ext.refl _ _) S R
theorem b_cons {s : S} {ss : Ss} (h1 : SndS Γ g cf N s) (h2 : SndB Γ g cf N ss) : SndB Γ g cf N (.cons s ss) := by
  intro sc l W k X hc x
  cases l with
  | nil => simp [chkSs] at hc
  | cons st l =>
    rw [chkSs, Bool.and_eq_true] at hc
    refine PSs.imp (pss_cons (h1 sc st W k X hc.1 x) (h2 sc l W k X hc.2 x)) ?_
    rintro D σ H ⟨ι, ρ, μ, S, R, hw⟩
    have hw : wpS g W D ι H ((ex g.C cf N s ρ μ).next fun ρ μ => exs g.C cf N ss ρ μ) := hw
    refine ⟨ι, ρ, μ, S, R, ?_⟩
    cases e : ex g.C cf N s ρ μ with
    | stuck => rw [e] at hw; exact hw
    | exc x ρ' μ' => rw [e] at hw; exact hw
    | go f ρ' μ' =>
      rw [e] at hw
      cases f with
      | nx => exact fun ι' H' σ' e' S' R' => ⟨ι', ρ', μ', S', R', wpS_mono e' hw⟩
      | bk => exact hw
      | ct => exact hw
      | rt d => exact hw
theorem s_ret (ha : SndE Γ g cf a) : SndS Γ g cf N (.ret a) := by
  intro sc st W k X hc x
  cases st with
  | Return v p =>
    cases v with
    | none => simp [chkS] at hc
    | some v =>
      rw [chkS] at hc
      refine PS.imp (ps_ret (ha sc v W k X hc x)) ?_
      rintro D σ H ⟨ι, ρ, μ, S, R, hw⟩
      exact ⟨ι, ρ, μ, S, R, wpR_mono (wpS_of R (show wpS g W D ι H (SRes.of ρ (ev g.C cf a ρ μ) fun d μ => .go (.rt d) ρ μ) from hw)) (fun d μ' h => h) fun _ _ z => z⟩
  | _ => simp [chkS] at hc
theorem s_retN : SndS Γ g cf N .retN := by
  intro sc st W k X hc x
  cases st with
  | Return v p =>
    cases v with
    | some v => simp [chkS] at hc
    | none =>
      refine PS.imp ps_retN ?_
      rintro D σ H ⟨ι, ρ, μ, S, R, hw⟩
      exact hw ι H .non (Ext.refl _ _) S rfl
  | _ => simp [chkS] at hc
theorem s_brk : SndS Γ g cf N .brk := by
  intro sc st W k X hc x
  cases st with
  | Break p =>
    refine PS.imp ps_break ?_
    rintro D σ H ⟨ι, ρ, μ, S, R, hw⟩
    exact hw ι H σ (Ext.refl _ _) S R
  | _ => simp [chkS] at hc
theorem s_cont : SndS Γ g cf N .cont := by
  intro sc st W k X hc x
  cases st with
  | Continue p =>
    refine PS.imp ps_continue ?_
    rintro D σ H ⟨ι, ρ, μ, S, R, hw⟩
    exact hw ι H σ (Ext.refl _ _) S R
  | _ => simp [chkS] at hc
theorem s_pass : SndS Γ g cf N .pass := by
  intro sc st W k X hc x
  have fin : ∀ {D : Ends} {σ : L2.St} {H : Hp}, semS g cf N W .pass D σ H → tNext D σ H := by
    rintro D σ H ⟨ι, ρ, μ, S, R, hw⟩
    exact hw ι H σ (Ext.refl _ _) S R
  cases st with
  | Pass p => exact PS.imp ps_pass fun D σ H h => fin h
  | Expr e p =>
    cases e with
    | Constant c j q =>
      cases c with
      | str s => exact PS.imp ps_doc fun D σ H h => fin h
      | _ => simp [chkS] at hc
    | _ => simp [chkS] at hc
  | _ => simp [chkS] at hc
theorem s_ex (ha : SndE Γ g cf a) : SndS Γ g cf N (.ex a) := by
  intro sc st W k X hc x
  cases st with
  | Expr v p =>
    rw [chkS, Bool.and_eq_true] at hc
    have sw : swapsWith v none p.line X.env = pure false := by
      have := hc.2
      cases v <;> first | rfl | cases this
    refine PS.imp (ps_expr (ha sc v W k X hc.1 x) sw) ?_
    rintro D σ H ⟨ι, ρ, μ, S, R, hw⟩
    exact ⟨ι, ρ, μ, S, R, wpR_mono (wpS_of R (show wpS g W D ι H (SRes.of ρ (ev g.C cf a ρ μ) fun _ μ => .go .nx ρ μ) from hw)) (fun d μ' h ι' H' v e' S' _ => h ι' H' σ e' S' (R.mono e')) fun _ _ z => z⟩
  | _ => simp [chkS] at hc
theorem s_ite {s t : Ss} (hc' : SndT Γ g cf c) (h1 : SndB Γ g cf N s) (h2 : SndB Γ g cf N t) : SndS Γ g cf N (.ite c s t) := by
  intro sc st W k X hc x
  cases st with
  | If e l r p =>
    rw [chkS, Bool.and_eq_true, Bool.and_eq_true] at hc
    refine PS.imp (ps_if (hc' sc e W k X hc.1.1 x) (h1 sc l W k X hc.1.2 x) (h2 sc r W k X hc.2 x)) ?_
    rintro D σ H ⟨ι, ρ, μ, S, R, hw⟩
    refine ⟨ι, ρ, μ, S, R, wpR_mono (wpS_of R (show wpS g W D ι H (SRes.of ρ (evT g.C cf c ρ μ) fun k μ => if k then exs g.C cf N s ρ μ else exs g.C cf N t ρ μ) from hw)) (fun b μ' h ι' H' e' S' => ?_) fun _ _ z => z⟩
    cases b with
    | true => exact ⟨ι', ρ, μ', S', R.mono e', wpS_mono e' h⟩
    | false => exact ⟨ι', ρ, μ', S', R.mono e', wpS_mono e' h⟩
  | _ => simp [chkS] at hc
/-- behind one turn of a loop -/
theorem loop_end {D : Ends} {Nx : L2.St → Hp → Prop} {ι ι1 : List Addr} {H H1 : Hp} {r : SRes} {F : PL.Env → Store → SRes} (e : Ext ι H ι1 H1)
    (h : wpS g W D ι H (match r with
      | .go .nx ρ2 μ2 => F ρ2 μ2
      | .go .ct ρ2 μ2 => F ρ2 μ2
      | .go .bk ρ2 μ2 => .go .nx ρ2 μ2
      | r => r))
    (hN : ∀ ι' H' σ' ρ' μ', Ext ι1 H1 ι' H' → Sim g ι' μ' H' → RepS g ι' H' ρ' σ' → wpS g W D ι' H' (F ρ' μ') → Nx σ' H') : wpS g W { nx := Nx, rt := D.rt, bk := D.nx, ct := Nx } ι1 H1 r := by
  cases r with
  | stuck => exact h
  | exc x ρ μ => exact fun ι' H' σ' c d e' => h ι' H' σ' c d (e.trans e')
  | go f ρ μ =>
    cases f with
    | nx => exact fun ι' H' σ' e' S' R' => hN ι' H' σ' ρ μ e' S' R' (wpS_mono (e.trans e') h)
    | ct => exact fun ι' H' σ' e' S' R' => hN ι' H' σ' ρ μ e' S' R' (wpS_mono (e.trans e') h)
    | bk => exact fun ι' H' σ' e' S' R' => h ι' H' σ' (e.trans e') S' R'
    | rt d => exact fun ι' H' v e' S' R' => h ι' H' v (e.trans e') S' R'
theorem s_whl {s : Ss} (hc' : SndT Γ g cf c) (h1 : SndB Γ g cf N s) : SndS Γ g cf N (.whl c s) := by
  intro sc st W k X hc x
  cases st with
  | While e l r p =>
    cases r with
    | cons _ _ => simp [chkS] at hc
    | nil =>
      rw [chkS, Bool.and_eq_true] at hc
      refine PS.imp (ps_while x.po (hc' sc e W k X hc.1 x) (h1 sc l W k X hc.2 x)) ?_
      rintro D σ H ⟨ι, ρ, μ, S, R, hw⟩
      refine ⟨fun m σ H => ∃ ι ρ μ, Sim g ι μ H ∧ RepS g ι H ρ σ ∧ wpS g W D ι H (whlL (evT g.C cf c) (exs g.C cf N s) m ρ μ), ⟨N, ι, ρ, μ, S, R, hw⟩, ?_⟩
      rintro m σ H ⟨ι, ρ, μ, S, R, hw⟩
      cases m with
      | zero => exact False.elim hw
      | succ m =>
        have hw := wpS_of R (show wpS g W D ι H (SRes.of ρ (evT g.C cf c ρ μ) fun b μ' => if b then match exs g.C cf N s ρ μ' with
          | .go .nx ρ2 μ2 => whlL (evT g.C cf c) (exs g.C cf N s) m ρ2 μ2
          | .go .ct ρ2 μ2 => whlL (evT g.C cf c) (exs g.C cf N s) m ρ2 μ2
          | .go .bk ρ2 μ2 => .go .nx ρ2 μ2
          | r => r
          else .go .nx ρ μ') from hw)
        refine ⟨ι, ρ, μ, S, R, wpR_mono hw (fun b μ' h ι' H' e' S' => ?_) fun _ _ z => z⟩
        cases b with
        | false => exact h ι' H' σ e' S' (R.mono e')
        | true =>
          refine ⟨fun σ H => ∃ ι ρ μ, Sim g ι μ H ∧ RepS g ι H ρ σ ∧ wpS g W D ι H (whlL (evT g.C cf c) (exs g.C cf N s) m ρ μ), fun σ' H' h' => ⟨m, by omega, h'⟩, ?_⟩
          exact ⟨ι', ρ, μ', S', R.mono e', loop_end e' h fun ι2 H2 σ2 ρ2 μ2 _ S2 R2 h2 => ⟨ι2, ρ2, μ2, S2, R2, h2⟩⟩
  | _ => simp [chkS] at hc
theorem for_core {J : L2.It} {w : Wk} {t : T} {s : Ss} {D : Ends} {ρ : PL.Env} {ι0 : List Addr} {H0 : Hp} {μ1 : Store} (hJ : WkI g w J ι0 H0) (S1 : Sim g ι0 μ1 H0) (R0 : RepS g ι0 H0 ρ σ)
    (hw : wpS g W D ι0 H0 (forL w (asgT g.C cf t) (exs g.C cf N s) w.items ρ μ1)) :
    ∃ V : Nat → Nat → L2.St → Hp → Prop, (∃ m, V 0 m σ H0) ∧ ∀ i m σ H, V i m σ H → J.stop i H ∧ D.nx σ H ∨ J.go i H ∧ ∃ Nx : L2.St → Hp → Prop, (∀ σ' H', Nx σ' H' → ∃ m', m' < m ∧ V (i + 1) m' σ' H') ∧
      ∀ x H', J.yld i H x H' → semG g cf W t x σ H' fun σ2 H2 => semB g cf N W s { nx := Nx, rt := D.rt, bk := D.nx, ct := Nx } σ2 H2 := by
  let V : Nat → Nat → L2.St → Hp → Prop := fun i m σ H => m = w.items.length - i ∧ i ≤ w.items.length ∧ ∃ ι ρ μ, Ext ι0 H0 ι H ∧ Sim g ι μ H ∧ RepS g ι H ρ σ ∧ wpS g W D ι H (forL w (asgT g.C cf t) (exs g.C cf N s) (w.items.drop i) ρ μ)
  refine ⟨V, ⟨_, rfl, Nat.zero_le _, ι0, ρ, μ1, Ext.refl _ _, S1, R0, hw⟩, ?_⟩
  rintro i m σ H ⟨rfl, hi, ι, ρ, μ, ex', S, R, h⟩
  by_cases hn : i = w.items.length
  · have : w.items.drop i = [] := List.drop_eq_nil_of_le (by omega)
    rw [this] at h
    have h : wpS g W D ι H (if w.stands μ then .go .nx ρ μ else .stuck) := h
    split at h
    · rename_i st
      obtain ⟨_, q2, _⟩ := hJ i ι μ H ex' S st
      exact .inl ⟨q2 (by omega), h ι H σ (Ext.refl _ _) S R⟩
    · exact False.elim h
  · have hlt : i < w.items.length := by omega
    rw [List.drop_eq_getElem_cons hlt] at h
    unfold forL at h
    split at h
    · rename_i st
      obtain ⟨q1, _, q3⟩ := hJ i ι μ H ex' S st
      refine .inr ⟨q1 hlt, fun σ' H' => V (i + 1) (w.items.length - (i + 1)) σ' H', fun σ' H' h' => ⟨_, by omega, h'⟩, fun x H' hy => ?_⟩
      obtain ⟨rfl, d, hd, rd⟩ := q3 x H' hy hlt
      have hd' : w.items[i] = d := by
        rw [List.getElem?_eq_getElem hlt] at hd; exact Option.some.inj hd
      rw [hd'] at h
      refine ⟨ι, ρ, μ, d, S, R, rd, wpR_mono (wpS_of R h) (fun ρ2 μ2 h2 ι2 H2 σ2 e2 S2 R2 _ => ?_) fun _ _ z => z⟩
      refine ⟨ι2, ρ2, μ2, S2, R2, loop_end e2 h2 fun ι3 H3 σ3 ρ3 μ3 e3 S3 R3 h3 => ⟨rfl, hlt, ι3, ρ3, μ3, ex'.trans (e2.trans e3), S3, R3, h3⟩⟩
    · exact False.elim h
theorem unlock_plain {w : Wk} (h : w.lk = false) (r : SRes) : unlock w r = r := by
  cases r with
  | go f ρ μ => show SRes.go f ρ (w.stop μ) = _; rw [(start_plain h μ).2]
  | exc x ρ μ => show (if w.lk = true then _ else _) = _; rw [h]; rfl
  | stuck => rfl
/-- the way back from a lock, through a statement -/
theorem wpS_unlock (he : g.en = none) {w : Wk} {D : Ends} {ι ι1 : List Addr} {H H1 : Hp} {dp : Addr} {u : HO} {od : PySem.Obj} {l : Nat} {r : SRes} (hun : ∀ μ', w.stop μ' = μ'.modify l (setLk false)) (hix : ι[l]? = some dp) (hat : H dp = some u) (nt : ∀ vs, u ≠ .tup vs) (nf : ∀ o z, u ≠ .frz o z)
    (e : Ext ι (upd H dp (.frz od u)) ι1 H1) (hx : w.lk = true) (h : wpS g W D ι H (unlock w r)) :
    wpS g W { nx := fun σ' H' => H' dp = some (.frz od u) ∧ D.nx σ' (upd H' dp u), rt := fun v H' => H' dp = some (.frz od u) ∧ D.rt v (upd H' dp u), bk := fun σ' H' => H' dp = some (.frz od u) ∧ D.bk σ' (upd H' dp u), ct := fun σ' H' => H' dp = some (.frz od u) ∧ D.ct σ' (upd H' dp u) } ι1 H1 r := by
  have key : ∀ {ι' : List Addr} {H' : Hp} {μ : Store}, Ext ι1 H1 ι' H' → Sim g ι' μ H' → H' dp = some (.frz od u) ∧ Ext ι H ι' (upd H' dp u) ∧ Sim g ι' (w.stop μ) (upd H' dp u) ∧ Ext0 ι' H' ι' (upd H' dp u) := by
    intro ι' H' μ e' S'
    have ef := e.trans e'
    have hz : H' dp = some (.frz od u) := ef.fz _ _ _ upd_same
    refine ⟨hz, ext_unlock (List.mem_of_getElem? hix) hat nt nf ef, ?_, ext0_unlock (List.mem_of_getElem? (ef.ix hix)) hz⟩
    rw [hun]; exact S'.unlock (ef.ix hix) hz
  cases r with
  | stuck => exact h
  | exc x ρ μ =>
    have h : wpS g W D ι H (if w.lk = true then .stuck else .exc x ρ μ) := h
    rw [if_pos hx] at h
    exact False.elim h
  | go f ρ μ =>
    cases f with
    | nx => exact fun ι' H' σ' e' S' R' => let ⟨q1, q2, q3, q4⟩ := key e' S'; ⟨q1, h ι' _ σ' q2 q3 ⟨R'.len, fun i d hn hd => let ⟨v, y1, y2⟩ := R'.at_ i d hn hd; ⟨v, y1, q4.rep _ _ y2⟩, fun i d hn _ => by rw [he] at hn; cases hn⟩⟩
    | bk => exact fun ι' H' σ' e' S' R' => let ⟨q1, q2, q3, q4⟩ := key e' S'; ⟨q1, h ι' _ σ' q2 q3 ⟨R'.len, fun i d hn hd => let ⟨v, y1, y2⟩ := R'.at_ i d hn hd; ⟨v, y1, q4.rep _ _ y2⟩, fun i d hn _ => by rw [he] at hn; cases hn⟩⟩
    | ct => exact fun ι' H' σ' e' S' R' => let ⟨q1, q2, q3, q4⟩ := key e' S'; ⟨q1, h ι' _ σ' q2 q3 ⟨R'.len, fun i d hn hd => let ⟨v, y1, y2⟩ := R'.at_ i d hn hd; ⟨v, y1, q4.rep _ _ y2⟩, fun i d hn _ => by rw [he] at hn; cases hn⟩⟩
    | rt d => exact fun ι' H' v e' S' r' => let ⟨q1, q2, q3, q4⟩ := key e' S'; ⟨q1, h ι' _ v q2 q3 (q4.rep _ _ r')⟩
end
end PL
end
section
set_option Elab.async false
set_option linter.all false
set_option autoImplicit false
set_option maxRecDepth 100000
set_option maxHeartbeats 400000
/-! SoundT: errors raised, caught, read. -/
namespace PL
open PySem PySem.Spec PyProof.Rows L2
section
variable {Γ : Stat} {g : Gd} {cf : CF} {N : Nat} {W : WX} {σ : L2.St} {H : Hp} {a b c : E} {es : Es}
theorem c_errF (n i : Nat) : SndE Γ g cf (.errF n i) := by
  intro sc e W k X hc x
  cases e with
  | Attribute o f p =>
    cases o with
    | Name y py =>
      simp only [chkE, Bool.and_eq_true, decide_eq_true_eq] at hc
      obtain ⟨⟨⟨⟨q1, q2⟩, q3⟩, q4⟩, q5⟩ := hc
      obtain ⟨n1, n2, _⟩ := okN_parts q4
      refine ⟨fun pins s σ H Q I q => ?_⟩
      obtain ⟨ι, ρ, μ, S, R, hw⟩ := q
      have hw : wpR (match ρ[n]? with
        | some (some (.err _ ks fs)) => okI ((ks.findIdx? fun k => k == i).bind fun j => fs[j]?) μ
        | _ => .stuck) (OkV g ι H Q) (exW g W ι H σ) := hw
      split at hw
      · rename_i ms ks fs e0
        obtain ⟨d, e1, h1⟩ := okI_ok hw
        obtain ⟨v, ms', ks', fs', e2, e3, e4⟩ := R.ea n _ (by rw [x.en]; exact q1) e0
        cases e2
        obtain ⟨a, oe, cls, dd, pn, X0, rfl, hz, hf, her⟩ := (x.er n q1).ex
        rw [her] at e4
        obtain ⟨rfl, ec, em, da, xs, ed, exd_, en, ef⟩ := e4
        obtain ⟨fe, fno⟩ := x.fld f i q5
        have T := x.xfc ms em
        have ec' : cls = .ref (g.clsA (ms.headD 0)) := ec
        obtain ⟨j, hj, hd⟩ : ∃ j, (ks.findIdx? fun k => k == i) = some j ∧ fs[j]? = some d := by
          cases hj : ks.findIdx? fun k => k == i with
          | none => rw [hj] at e1; cases e1
          | some j => rw [hj] at e1; exact ⟨j, rfl, e1⟩
        have hki : ks[j]? = some i := by
          have := List.findIdx?_eq_some_iff_getElem.mp hj
          obtain ⟨h, h2, _⟩ := this
          rw [List.getElem?_eq_getElem h]
          simpa using h2
        obtain ⟨w, l1, r1⟩ := ef j i d hki hj hd
        refine (pe_xf (C := g.clsA (ms.headD 0)) (n := f) T (fno ms em) hz hf (pe_var (i := n) (by rw [x.N]; exact q2) (x.vis q3) n1 n2) (base_of rfl)).run pins s σ H Q I ?_
        exact ⟨.ref a, e3, rfl, ec', da, xs, w, ed, exd_, by rw [← fe]; exact l1, OkV.same S h1 r1⟩
      · exact False.elim hw
    | _ => simp [chkE] at hc
  | _ => simp [chkE] at hc
theorem c_errIs (n : Nat) (cs : List Nat) : SndE Γ g cf (.errIs n cs) := by
  intro sc e W k X hc x
  simp [chkE] at hc
theorem t_errIs (n : Nat) (cs : List Nat) : SndT Γ g cf (.errIs n cs) := by
  intro sc e W k X hc x
  simp [chkE] at hc
theorem xd_heap {H1 H' : Hp} {a d : Addr} {C : Addr} {l : List (PySem.Str × V)} (ha : H1 a = none) (hd : d ≠ a) (hk : ∀ b, b ≠ a → b ≠ d → H' b = upd H1 a (exo a C none) b) : upd (del H' a) d (.xd l) = upd H1 d (.xd l) := by
  funext b
  by_cases h1 : b = d
  · rw [h1, upd_same, upd_same]
  · rw [upd_ne h1, upd_ne h1]
    by_cases h2 : b = a
    · rw [h2, del_same, ha]
    · rw [del_ne h2, hk b h2 h1, upd_ne h2]
theorem s_rse (ms ks : List Nat) (hs : SndA Γ g cf es) : SndS Γ g cf N (.rse ms ks es) := by
  intro sc st W k X hc x
  have key : ∃ y py e l p p2, st = .Raise (some (.Call (.Name y py) (e :: l) [] p)) none p2 ∧ (!Γ.hot && glB sc y && okN y && decide ((y, ms, ks) ∈ Γ.cls) && chkEs Γ es sc (e :: l) && decide ((e :: l).length = ks.length)) = true := by
    rw [chkS] at hc
    unfold chkRse at hc
    split at hc
    · exact ⟨_, _, _, _, _, _, rfl, hc⟩
    · cases hc
  obtain ⟨y, py, e, l, p, p2, rfl, hh⟩ := key
  simp only [Bool.and_eq_true, decide_eq_true_eq] at hh
  obtain ⟨⟨⟨⟨⟨q0, q1⟩, q2⟩, q3⟩, q4⟩, q5⟩ := hh
  have q0 := notHot q0
  obtain ⟨mg, mro, T, nd, fI, fd, ps, iC, tI, bd, F1⟩ := x.rse y ms ks q3
  have pl : ∃ m mm, es = .cons m mm ∧ chkE Γ m sc e = true ∧ chkEs Γ mm sc l = true := by
    cases es with
    | nil => simp [chkEs] at q4
    | cons m mm =>
      rw [chkEs, Bool.and_eq_true] at q4
      exact ⟨m, mm, rfl, q4.1, q4.2⟩
  obtain ⟨m, mm, rfl, z1, z2⟩ := pl
  have pa := hs sc (e :: l) W k X q4 x
  have hr := x.room q0
  have hk2 := x.k2
  have pass : Passes (L2.CX X.prog X.w) X (fun _ _ _ => False) := fun pins σ H s e s' I h => by
    obtain ⟨_, _, _, _, _, _, _, _, _, _, _, _, h⟩ := h
    exact h.elim
  refine PS.imp (ps_raise (x.calm q0) x.tk (pmk_oex (dvs := []) T iC tI F1 (hr.mono (by omega)) bd .nil pass (x.glo q1) mg pa (okN_parts q2).1 (star_of (chk_plain z1).1) (star_plain z2))) ?_
  rintro D σ H ⟨ι, ρ, μ, S, R, hw⟩
  have hw := wpS_of R (show wpS g W D ι H (SRes.of ρ (evs g.C cf (.cons m mm) ρ μ) fun ds μ => if ds.length = ks.length ∧ ks.length ≤ 900 then .exc ⟨ms, ks, ds⟩ ρ μ else .stuck) from hw)
  refine ⟨ι, ρ, μ, S, R, wpR_mono hw (fun ds μ1 h1 ι1 H1 vs e1 S1 r1 => ?_) fun _ _ z => z⟩
  split at h1
  · rename_i hl
    have lv := r1.length
    refine ⟨by omega, fun a ha => ?_⟩
    rw [List.append_nil]
    refine ⟨a, vs, rfl, by rw [List.length_map]; omega, upd_same, fun d H' hd hda h2 ⟨xl, h3, h4⟩ hk => ?_⟩
    have hd1 : H1 d = none := by rw [← hd, upd_ne hda]
    refine ⟨rfl, d, xl, h2, h3, hd1, ?_⟩
    rw [xd_heap ha hda hk]
    have ex := ext_tup S1 hd1 (.xd xl)
    refine h1 ι1 _ σ _ _ (e1.trans ex) (S1.tup hd1 _) ((R.mono e1).mono ex) ⟨rfl, mro, d, xl, rfl, upd_same, S1.notin hd1, fun i kk dv e3 _ e4 => ?_⟩
    obtain ⟨w, e5, e6⟩ := r1.get e4
    exact ⟨w, h4 i _ w (by rw [List.getElem?_map, e3]; rfl) e5, ex.rep _ _ e6⟩
  · exact False.elim h1
/-! ### suites -/
theorem exc_mono {g : Gb} {ι ι' : List Addr} {H H' : Hp} {x : Exc} {c : Value} {d : Option Addr} (e : Ext ι H ι' H') (h : ExcR g ι H x c d) : ExcR g ι' H' x c d := by
  obtain ⟨h0, h1, p, fs, h2, h3, h4, h5⟩ := h
  refine ⟨h0, h1, p, fs, h2, e.keep p _ h3 h4, fun m => ?_, fun i k dv e1 e2 e3 => ?_⟩
  · have := e.fresh p m h4
    rw [h3] at this; cases this
  · obtain ⟨v, e4, e5⟩ := h5 i k dv e1 e2 e3
    exact ⟨v, e4, e.rep _ _ e5⟩
def Gd.suite (g : Gd) (n : Option Nat) (a : Addr) (cls : Value) (d : Option Addr) : Gd where
  toGb := g.toGb
  en := n
  er := erR g.toGb a cls d
  erm := fun _ _ _ _ _ _ _ _ e h => ⟨h.1, exc_mono e h.2⟩
theorem RepS.other {g g' : Gd} {ι : List Addr} {H : Hp} {ρ : PL.Env} {σ : L2.St} (hb : g'.toGb = g.toGb) (h : g.en = none) (h' : g'.en = none) (r : RepS g ι H ρ σ) : RepS g' ι H ρ σ :=
  ⟨r.len, fun i d _ e => by rw [hb]; exact r.at_ i d (by rw [h]; simp) e, fun i d n _ => by rw [h'] at n; cases n⟩
def clOf (g : Gd) (cf : CF) (N : Nat) : Hs → List Cl
  | .nil => []
  | .cons c n b hs => ⟨.ref (g.clsA c), n, fun a cls d => semB (g.suite n a cls d) cf N noW b⟩ :: clOf g cf N hs
theorem wpS_noExc {D : Ends} {ι : List Addr} {r : SRes} {n : Option Nat} {a : Addr} {cls : Value} {d : Option Addr} (he : g.en = none) (h : wpS g W D ι H (noExc r)) : wpS (g.suite none a cls d) noW D ι H r := by
  cases r with
  | stuck => exact h
  | exc x ρ μ => exact False.elim h
  | go f ρ μ =>
    cases f with
    | nx => exact fun ι' H' σ' e S R => h ι' H' σ' e S (RepS.other (g := g.suite none a cls d) (g' := g) rfl rfl he R)
    | bk => exact fun ι' H' σ' e S R => h ι' H' σ' e S (RepS.other (g := g.suite none a cls d) (g' := g) rfl rfl he R)
    | ct => exact fun ι' H' σ' e S R => h ι' H' σ' e S (RepS.other (g := g.suite none a cls d) (g' := g) rfl rfl he R)
    | rt d => exact fun ι' H' v e S r => h ι' H' v e S r
theorem RepS.unset {ι : List Addr} {ρ : PL.Env} {i : Nat} {a : Addr} {cls : Value} {d : Option Addr} (he : g.en = none) (r : RepS (g.suite (some i) a cls d) ι H ρ σ) : RepS g ι H (ρ.set i none) (σ.set i none) := by
  have r2 := r.drop i
  refine ⟨r2.len, fun j e _ h => ?_, fun j e n _ => by rw [he] at n; cases n⟩
  have hij : i ≠ j := by
    intro z
    subst z
    by_cases hl : i < ρ.length
    · rw [List.getElem?_set_self hl] at h; cases h
    · rw [List.getElem?_eq_none (by simp; omega)] at h; cases h
  exact r2.at_ j e (fun z => hij (Option.some.inj z)) h
theorem wpS_unset {D : Ends} {ι : List Addr} {r : SRes} {i : Nat} {a : Addr} {cls : Value} {d : Option Addr} (he : g.en = none) (h : wpS g W D ι H (unset i r)) : wpS (g.suite (some i) a cls d) noW (goneD i D) ι H r := by
  cases r with
  | stuck => exact h
  | exc x ρ μ => exact False.elim h
  | go f ρ μ =>
    cases f with
    | nx => exact fun ι' H' σ' e S R => h ι' H' _ e S (R.unset he)
    | bk => exact fun ι' H' σ' e S R => h ι' H' _ e S (R.unset he)
    | ct => exact fun ι' H' σ' e S R => h ι' H' _ e S (R.unset he)
    | rt d => exact fun ι' H' v e S r => h ι' H' v e S r
def SndHs (cf : CF) (N : Nat) : Hs → Prop
  | .nil => True
  | .cons c n b hs => (∀ Γ g, SndB Γ g cf N b) ∧ SndHs cf N hs
theorem XOkS.suite {k : Nat} {sc : Scope} {X : Cx} (x : XOkS Γ g cf W k sc X) (n : Option Nat) {a : Addr} {oe : PySem.Obj} {cls : Value} {d : Option Addr} {pn : List (Addr × PySem.Obj)} (hz : Zc cls d oe) (hf : ∃ vs, oe.data = .fields vs) :
    XOkS (Γ.suite n) (g.suite n a cls d) cf noW k sc (X.suite a ((a, oe) :: pn)) where
  N := x.N
  nd := x.nd
  P := x.P
  w := x.w
  K := x.K
  calm := fun h => Bool.noConfusion (show true = false from h)
  room := fun h => Bool.noConfusion (show true = false from h)
  un := x.un
  k2 := x.k2
  en := rfl
  hotE := fun h => Bool.noConfusion (show true = false from h)
  er := fun _ _ => ⟨a, oe, cls, d, pn, X, rfl, hz, hf, rfl⟩
  tk := takes_none5
  po := PassesOwn.never
  loc := x.loc
  cel := x.cel
  fre := x.fre
  gl := x.gl
  mgS := x.mgS
  mgC := x.mgC
  mgB := x.mgB
  bk := x.bk
  fnk := x.fnk
  rse := fun y ms ks h => let r := x.rse y ms ks h; ⟨r.mg, r.mro, r.T, r.nd, r.ini⟩
  hcl := fun y c h => let r := x.hcl y c h; ⟨r.mg, r.em⟩
  fld := fun f i h => let r := x.fld f i h; ⟨r.eq, r.no⟩
  xfc := x.xfc
  stk := x.stk
  frm := x.frm
theorem XOkS.tr {k : Nat} {sc : Scope} {X : Cx} (x : XOkS Γ g cf W k sc X) (h0 : Γ.hot = false) {W' : WX} {pn : List (Addr × PySem.Obj)} {xe : Value → Shared → Prop} (tk : Takes (X.tr pn xe) W') (po : PassesOwn (model X.prog X.w) X.A X.env xe) : XOkS Γ g cf W' k sc (X.tr pn xe) where
  N := x.N
  nd := x.nd
  P := x.P
  w := x.w
  K := x.K
  calm := x.calm
  room := x.room
  un := x.un
  k2 := x.k2
  en := x.en
  hotE := x.hotE
  er := fun n h => by rw [x.hotE h0] at h; cases h
  tk := tk
  po := po
  loc := x.loc
  cel := x.cel
  fre := x.fre
  gl := x.gl
  mgS := x.mgS
  mgC := x.mgC
  mgB := x.mgB
  bk := x.bk
  fnk := x.fnk
  rse := fun y ms ks h => let r := x.rse y ms ks h; ⟨r.mg, r.mro, r.T, r.nd, r.ini⟩
  hcl := fun y c h => let r := x.hcl y c h; ⟨r.mg, r.em⟩
  fld := fun f i h => let r := x.fld f i h; ⟨r.eq, r.no⟩
  xfc := x.xfc
  stk := x.stk
  frm := x.frm
theorem cls_ok {k : Nat} {sc : Scope} {X : Cx} (x : XOkS Γ g cf W k sc X) : ∀ {hs : Hs} {hds : List ExceptHandler}, SndHs cf N hs → chkHs Γ hs sc hds = true → ClsOk X hds (clOf g cf N hs)
  | .nil, hds, _, hc => by
    cases hds with
    | nil => exact .nil
    | cons _ _ => simp [chkHs] at hc
  | .cons c n b hs, hds, hS, hc => by
    cases hds with
    | nil => simp [chkHs] at hc
    | cons h hds =>
      obtain ⟨ty, nm, l, p⟩ := h
      have nms : ∀ {y : PySem.Str}, glB sc y = true → okN y = true → (y, c) ∈ Γ.hcl → Names X y (.ref (g.clsA c)) := fun {y} q1 q2 q3 => ⟨x.glo q1, (okN_parts q2).1, .inl (x.hcl y c q3).mg⟩
      cases n with
      | none =>
        rcases ty with _ | ty
        · simp [chkHs] at hc
        cases ty with
        | Name y py =>
          cases nm with
          | some _ => simp [chkHs] at hc
          | none =>
            cases l with
            | nil => simp [chkHs] at hc
            | cons s l =>
              simp only [chkHs, Bool.and_eq_true, decide_eq_true_eq] at hc
              obtain ⟨⟨⟨⟨q1, q2⟩, q3⟩, q4⟩, q5⟩ := hc
              exact .cons (.bare (nms q1 q2 q3) rfl fun a oe cls d pn hz hf => hS.1 _ _ sc (s :: l) noW k _ q4 (x.suite none hz hf)) (cls_ok x hS.2 q5)
        | _ => simp [chkHs] at hc
      | some i =>
        rcases ty with _ | ty
        · simp [chkHs] at hc
        cases ty with
        | Name y py =>
          cases nm with
          | none => simp [chkHs] at hc
          | some z =>
            cases l with
            | nil => simp [chkHs] at hc
            | cons s l =>
              simp only [chkHs, Bool.and_eq_true, decide_eq_true_eq] at hc
              obtain ⟨⟨⟨⟨⟨⟨q1, q2⟩, q3⟩, q6⟩, q7⟩, q4⟩, q5⟩ := hc
              have kz : X.env.kindOf z = some .local := by
                unfold locO at q7
                split at q7
                · exact x.loc _ (by assumption)
                · cases q7
              exact .cons (.named (i := i) (nms q1 q2 q3) rfl (by rw [x.N]; exact q6) kz fun a oe cls d pn hz hf => hS.1 _ _ sc (s :: l) noW k _ q4 (x.suite (some i) hz hf)) (cls_ok x hS.2 q5)
        | _ => simp [chkHs] at hc
theorem exh_wp {K : PySem.W.Frag} {D : Ends} (he : g.en = none) {x : Exc} {cls : Value} {d : Option Addr} {ι : List Addr} {ρ : PL.Env} {μ : Store} (S : Sim g ι μ H) (R : RepS g ι H ρ σ) (hx : ExcR g ι H x cls d) {sc : Scope} (em : ∀ y c, (y, c) ∈ Γ.hcl → PySem.W.exmOne K cls (.ref (g.clsA c)) = some (x.ms.contains c)) :
    ∀ {hs : Hs} {hds : List ExceptHandler}, chkHs Γ hs sc hds = true → wpS g W D ι H (exh g.C cf N hs x ρ μ) → wCl K W D (clOf g cf N hs) cls d σ H
  | .nil, hds, _, h => h ι H σ _ _ (Ext.refl _ _) S R hx
  | .cons c n b hs, hds, hc, h => by
    have hm : ∃ y hds', (y, c) ∈ Γ.hcl ∧ chkHs Γ hs sc hds' = true := by
      cases hds with
      | nil => simp [chkHs] at hc
      | cons h hds =>
        obtain ⟨ty, nm, l, p⟩ := h
        rcases ty with _ | ty
        · cases n <;> simp [chkHs] at hc
        cases ty with
        | Name y py =>
          cases n with
          | none =>
            cases nm with
            | some _ => simp [chkHs] at hc
            | none =>
              cases l with
              | nil => simp [chkHs] at hc
              | cons s l =>
                simp only [chkHs, Bool.and_eq_true, decide_eq_true_eq] at hc
                exact ⟨y, hds, hc.1.1.2, hc.2⟩
          | some i =>
            cases nm with
            | none => simp [chkHs] at hc
            | some z =>
              cases l with
              | nil => simp [chkHs] at hc
              | cons s l =>
                simp only [chkHs, Bool.and_eq_true, decide_eq_true_eq] at hc
                exact ⟨y, hds, hc.1.1.1.1.2, hc.2⟩
        | _ => cases n <;> simp [chkHs] at hc
    obtain ⟨y, hds', m1, m2⟩ := hm
    have e := em y c m1
    have h : wpS g W D ι H (if x.ms.contains c then match (generalizing := false) n with
      | none => noExc (exs g.C cf N b ρ μ)
      | some i => unset i (exs g.C cf N b (ρ.set i (some (.err x.ms x.ks x.fs))) μ)
      else exh g.C cf N hs x ρ μ) := h
    by_cases hq : x.ms.contains c = true
    · rw [if_pos hq] at h
      refine .inl ⟨by rw [← hq]; exact e, fun a ha => ?_⟩
      cases n with
      | none => exact ⟨ι, ρ, μ, S, RepS.other (g := g) (g' := g.suite none a cls d) rfl he rfl R, wpS_noExc (n := none) he h⟩
      | some i =>
        refine ⟨ι, _, μ, S, ?_, wpS_unset he h⟩
        refine ⟨by simp [R.len], fun j dv hn hj => ?_, fun j dv hn hj => ?_⟩
        · have hij : i ≠ j := fun z => hn (by rw [z]; rfl)
          rw [List.getElem?_set_ne hij] at hj
          obtain ⟨v, h1, h2⟩ := R.at_ j dv (by rw [he]; simp) hj
          exact ⟨v, by rw [List.getElem?_set_ne hij]; exact h1, h2⟩
        · have hij : i = j := Option.some.inj hn
          subst hij
          by_cases hl : i < ρ.length
          · rw [List.getElem?_set_self hl] at hj
            cases hj
            exact ⟨.ref a, _, _, _, rfl, List.getElem?_set_self (by rw [← R.len]; exact hl), rfl, hx⟩
          · rw [List.getElem?_eq_none (by simp; omega)] at hj; cases hj
    · have hq : x.ms.contains c = false := by simpa using hq
      rw [hq] at h
      exact .inr ⟨by rw [← hq]; exact e, exh_wp he S R hx em m2 h⟩
theorem s_tr {b : Ss} {hs : Hs} (hb : WX → SndB Γ g cf N b) (hh : SndHs cf N hs) : SndS Γ g cf N (.tr b hs) := by
  intro sc st W k X hc x
  have key : ∃ body h hds p, st = .Try body (h :: hds) [] [] p ∧ (!Γ.hot && chkSs Γ b sc body && chkHs Γ hs sc (h :: hds)) = true := by
    rw [chkS] at hc
    split at hc
    · rename_i body hds e
      unfold tryParts at e
      split at e
      · cases e; exact ⟨_, _, _, _, rfl, hc⟩
      · cases e
    · cases hc
  obtain ⟨body, h, hds, p, rfl, hh2⟩ := key
  simp only [Bool.and_eq_true] at hh2
  obtain ⟨⟨q0, q1⟩, q2⟩ := hh2
  have q0 := notHot q0
  have he : g.en = none := by rw [x.en, x.hotE q0]
  refine PS.imp (ps_tryC (tb := fun W' => semB g cf N W' b) x.stk x.frm x.nd x.tk (fun W' pn xe tk po => hb W' sc body W' k _ q1 (x.tr q0 tk po)) (cls_ok x hh q2)) ?_
  rintro D σ H ⟨ι, ρ, μ, S, R, hw⟩
  have hw : wpS g W D ι H (match exs g.C cf N b ρ μ with
    | .exc x ρ' μ' => exh g.C cf N hs x ρ' μ'
    | r => r) := hw
  refine ⟨ι, ρ, μ, S, R, ?_⟩
  cases e : exs g.C cf N b ρ μ with
  | stuck => rw [e] at hw; exact hw
  | go f ρ' μ' =>
    rw [e] at hw
    cases f <;> exact hw
  | exc y ρ' μ' =>
    rw [e] at hw
    intro ι' H' σ' c d e' S' R' hx
    refine exh_wp (Γ := Γ) he S' R' hx (fun z c' hm => ?_) q2 (wpS_mono e' hw)
    obtain ⟨ec, em, _⟩ := hx
    rw [ec]
    exact (x.hcl z c' hm).em y.ms em
end
end PL
end
section
set_option Elab.async false
set_option linter.all false
set_option autoImplicit false
set_option maxRecDepth 100000
set_option maxHeartbeats 400000
/-! Sound12: loops, assignments; all of Mini. -/
namespace PL
open PySem PySem.Spec PyProof.Rows L2
section
variable {Γ : Stat} {g : Gd} {cf : CF} {N : Nat} {W : WX} {σ : L2.St} {H : Hp} {a b c : E} {es : Es}
theorem chkI_set {it : PL.It} {sc : Scope} {iter : Expr} (h2 : chkI Γ it sc iter = true) : NoSet iter = true := by
  cases it with
  | val a => rw [chkI] at h2; exact (chk_plain h2).2.1
  | rng a => cases iter <;> first | rfl | simp [chkI] at h2
  | rng2 a b => cases iter <;> first | rfl | simp [chkI] at h2
  | rng3 a b c => cases iter <;> first | rfl | simp [chkI] at h2
  | keys i => cases iter <;> first | rfl | simp [chkI] at h2
theorem s_fr {t : T} {it : PL.It} {s : Ss} (ht : SndG Γ g cf t) (hi : isK it = false → SndI Γ g cf it) (h1 : SndB Γ g cf N s) : SndS Γ g cf N (.fr t it s) := by
  intro sc st W k X hc x
  cases st with
  | For tg iter l r p =>
    cases r with
    | cons _ _ => simp [chkS] at hc
    | nil =>
      rw [chkS, Bool.and_eq_true, Bool.and_eq_true, Bool.and_eq_true] at hc
      obtain ⟨⟨⟨h0, hc1⟩, hc2⟩, hc3⟩ := hc
      have h0 := notHot h0
      have hc : (chkT Γ t sc tg = true ∧ chkI Γ it sc iter = true) ∧ chkSs Γ s sc l = true := ⟨⟨hc1, hc2⟩, hc3⟩
      have nf : ∀ y : Value, foldedSetIterable iter X.env y = pure y := fun y => fold_of (chkI_set hc.1.2) y
      have pg := ht sc tg W k X hc.1.1 x
      have pb := h1 sc l W k X hc.2 x
      by_cases hK : isK it = false
      · refine PS.imp (ps_for x.po (x.calm h0) (hi hK sc tg iter W k X hc.1.2 x) pg pb nf) ?_
        rintro D σ H ⟨ι, ρ, μ, S, R, hw⟩
        have hw := wpS_of R (show wpS g W D ι H (SRes.of ρ (evI g.C cf it ρ μ) fun w μ => unlock w (forL w (asgT g.C cf t) (exs g.C cf N s) w.items ρ (w.start μ))) from hw)
        refine ⟨ι, ρ, μ, S, R, wpR_mono (evI_plain hK hw) (fun w μ1 h ι1 H1 J e1 S1 hJ => ?_) fun _ _ z => z⟩
        obtain ⟨h, hlk⟩ := h
        rw [unlock_plain hlk, (start_plain hlk μ1).1] at h
        exact for_core hJ S1 (R.mono e1) (wpS_mono e1 h)
      · cases it with
        | keys i =>
          refine PS.imp (ps_lock (ps_for x.po (x.calm h0) (keys_walk x.toXOk hc.1.2) pg pb nf)) ?_
          rintro D σ H ⟨ι, ρ, μ, S, R, hw⟩
          have hw := wpS_of R (show wpS g W D ι H (SRes.of ρ (evI g.C cf (.keys i) ρ μ) fun w μ => unlock w (forL w (asgT g.C cf t) (exs g.C cf N s) w.items ρ (w.start μ))) from hw)
          obtain ⟨w, dp, u, l', hw1, L⟩ := keys_sem (W := W) S R hw
          refine ⟨dp, u, L.at_, L.mu, fun od => ?_⟩
          obtain ⟨Sl, el, hgo⟩ := L.go od
          refine hgo _ fun J ι1 H1 e1 S1 hJ => ?_
          exact for_core hJ S1 ((R.mono el).mono e1) (wpS_unlock (by rw [x.en, x.hotE h0]) L.un L.ix L.at_ L.nt L.nf e1 L.ck hw1)
        | _ => exact absurd rfl hK
  | _ => simp [chkS] at hc
/-! ### assignments -/
theorem asg_sem {t : T} {D : Ends} (h : semS g cf N W (.asg t a) D σ H) : tAsg (semE g cf W a) (semG g cf W t) D σ H := by
  obtain ⟨ι, ρ, μ, S, R, hw⟩ := h
  have hw := wpS_of R (show wpS g W D ι H (SRes.of ρ (ev g.C cf a ρ μ) fun d μ => SRes.of ρ (asgT g.C cf t d ρ μ) fun ρ μ => .go .nx ρ μ) from hw)
  refine ⟨ι, ρ, μ, S, R, wpR_mono hw (fun d μ1 h1 ι1 H1 v1 e1 S1 r1 => ?_) fun _ _ z => z⟩
  have h1 := wpS_of (R.mono e1) (wpS_mono e1 h1)
  exact ⟨ι1, ρ, μ1, d, S1, R.mono e1, r1, wpR_mono h1 (fun ρ2 μ2 h2 ι2 H2 σ2 e2 S2 R2 _ => h2 ι2 H2 σ2 e2 S2 R2) fun _ _ z => z⟩
/-- with the parts of a comprehension at hand -/
structure Lc (Γ : Stat) (g : Gd) (cf : CF) (e : E) : Prop where
  at_ : ∀ t it k e' own, e = .comp t it k e' own → SndG Γ g cf t ∧ (isK it = false → SndI Γ g cf it) ∧ SndC Γ g cf k ∧ SndE Γ g cf e'
theorem swap_pairs {k : Nat} {sc : Scope} {X : Cx} (x : XOk Γ g cf W k sc X) {tg val : Expr} (h : notTT sc tg val = true) : swappedStores [tg] val X.env = pure none := by
  have other : ∀ {tg val : Expr}, notTT sc tg val = true → (∀ ts a b vs c d, tg = .Tuple ts a b → val = .Tuple vs c d → False) → swappedStores [tg] val X.env = pure none := by
    intro tg val h hn
    unfold swappedStores
    cases tg <;> first | rfl | (cases h; done) | skip
    cases val <;> first | rfl | skip
    exact (hn _ _ _ _ _ _ rfl rfl).elim
  by_cases hh : ∃ ts a b vs c d, tg = .Tuple ts a b ∧ val = .Tuple vs c d
  · obtain ⟨ts, a, b, vs, c, d, rfl, rfl⟩ := hh
    have h : (vs.all (foldedForSure 8) || ts.any (celN sc)) = true := h
    rw [swappedStores.eq_1]
    split
    · rfl
    · split
      · rfl
      · simp only []
        split
        · rfl
        · rename_i h3
          rw [Bool.or_eq_true] at h
          rcases h with h | h
          · rw [if_pos h]
          · exfalso
            apply h3
            obtain ⟨e, he, hc⟩ := List.any_eq_true.mp h
            have hn : ∀ (f : Expr → Option PySem.Str), f e = none → (ts.filterMap f).length ≠ ts.length := by
              intro f hf hl
              have := List.filterMap_length_eq_length.mp hl e he
              rw [hf] at this; cases this
            rw [Bool.or_eq_true]
            left
            have := hn (fun x => match x with
              | .Name id pos => if (X.env.kindOf id == some NameKind.local && pos.line == (Option.map (fun x => x.pos.line) ts.head?).getD 0) = true then some id else none
              | x => none) (by
                cases e with
                | Name y py =>
                  have hy : sc.names.lookup y = some .cell := by
                    have : (sc.names.lookup y == some .cell) = true := hc
                    simpa using this
                  show (if (X.env.kindOf y == some NameKind.local && _) = true then some y else none) = none
                  rw [show X.env.kindOf y = some .cell from (x.cel _ hy).1]
                  rfl
                | _ => rfl)
            rw [bne_iff_ne]
            exact this
  · exact other h fun ts a b vs c d e1 e2 => hh ⟨ts, a, b, vs, c, d, e1, e2⟩
theorem asg_each {tg : Expr} {env : PySem.Env} (h : NoStar tg = true) : List.map (fun x => x.snd) (assignEach [tg] env) = [assign tg env] := by
  cases tg <;> first | rfl | cases h
theorem sw_noLc {tg val : Expr} {line : Nat} {env : PySem.Env} (h : NoLc val = true) : swapsWithSole [tg] val line env = pure false := by
  unfold swapsWithSole swapsWith
  cases val <;> first | rfl | cases h
theorem sw_plain {k : Nat} {sc scope : Scope} {X : Cx} {y : PySem.Str} {py p : Pos} {el : Expr} {gens : List Comprehension} {line : Nat} (x : XOk Γ g cf W k sc X) (h : lcPlain sc scope y py p = true) : swapsWithSole [.Name y py] (.ListComp el gens scope p) line X.env = pure false := by
  show swapsWith (.ListComp el gens scope p) (some (.Name y py)) line X.env = pure false
  show (pure (X.env.blockKind == .function && X.env.kindOf y == some .local && py.line == p.line && !(scope.names.any fun q => q.1 == y && (q.2 == .local || q.2 == .cell))) : Sem Bool) = pure false
  unfold lcPlain at h
  rw [Bool.or_eq_true, Bool.or_eq_true] at h
  rcases h with (h | h) | h
  · rw [h]; simp
  · have h : (py.line == p.line) = false := by simpa using h
    rw [h]; simp
  · have h : sc.names.lookup y = some .cell := by simpa using h
    have h2 : X.env.kindOf y = some .cell := (x.cel _ h).1
    rw [h2]
    have : ((some NameKind.cell : Option NameKind) == some NameKind.local) = false := rfl
    rw [this]; simp
theorem comp_parts {t : T} {it : PL.It} {k : Ec} {e : E} {own : List Nat} {sc scope : Scope} {el : Expr} {gens : List Comprehension} {p : Pos} (hc : chkE Γ (.comp t it k e own) sc (.ListComp el gens scope p) = true) :
    ∃ tg iter ifs, gens = [⟨tg, iter, ifs, 0⟩] ∧ Γ.hot = false ∧ chkT Γ t scope tg = true ∧ chkI Γ it sc iter = true ∧ chkC Γ k scope ifs = true ∧ chkE Γ e scope el = true ∧ blkC Γ.N sc scope (ownOf Γ.N own) = true ∧ tOwn t own = true := by
  rcases gens with _ | ⟨⟨tg, iter, ifs, as⟩, _ | ⟨g2, gens⟩⟩
  · simp [chkE] at hc
  · by_cases ha0 : as = 0
    · subst ha0
      have hc : (!Γ.hot && chkT Γ t scope tg && chkI Γ it sc iter && chkC Γ k scope ifs && chkE Γ e scope el && blkC Γ.N sc scope (ownOf Γ.N own) && tOwn t own) = true := by
        rw [chkE] at hc
        · exact hc
        all_goals simp
      simp only [Bool.and_eq_true] at hc
      obtain ⟨⟨⟨⟨⟨⟨h0, h1⟩, h2⟩, h3⟩, h4⟩, h5⟩, h6⟩ := hc
      exact ⟨tg, iter, ifs, rfl, notHot h0, h1, h2, h3, h4, h5, h6⟩
    · rw [chkE] at hc
      · cases hc
      all_goals (intros; simp_all)
  · simp [chkE] at hc
theorem s_asg {t : T} (ht : SndG Γ g cf t) (ha : SndE Γ g cf a) (hl : Lc Γ g cf a) : SndS Γ g cf N (.asg t a) := by
  intro sc st W k X hc x
  cases st with
  | Assign tgs val p =>
    rcases tgs with _ | ⟨tg, _ | ⟨tg2, tgs⟩⟩
    · simp [chkS] at hc
    · have hc : (chkT Γ t sc tg && chkE Γ a sc val && notTT sc tg val && asgOk (noKeys a) sc val tg) = true := by
        rw [chkS] at hc
        · exact hc
        all_goals simp
      simp only [Bool.and_eq_true] at hc
      obtain ⟨⟨⟨h1, h2⟩, h3⟩, h4⟩ := hc
      have ns : NoStar tg = true := by cases tg <;> first | rfl | (cases val <;> cases h3)
      by_cases hn : NoLc val = true
      · exact PS.imp (ps_asg (ha sc val W k X h2 x) (ht sc tg W k X h1 x) (sw_noLc hn) (swap_pairs x.toXOk h3) (asg_each ns)) fun D σ H h => asg_sem h
      · have hv : ∃ el gens scope q, val = .ListComp el gens scope q := by
          cases val with
          | ListComp el gens scope q => exact ⟨_, _, _, _, rfl⟩
          | _ => first | exact absurd rfl hn | (simp [chkE] at h2; done) | (cases a <;> simp [chkE] at h2)
        obtain ⟨el, gens, scope, q, rfl⟩ := hv
        cases tg with
        | Name y py =>
          have h4 : (lcPlain sc scope y py q || (locO sc y && noKeys a)) = true := h4
          by_cases hp : lcPlain sc scope y py q = true
          · exact PS.imp (ps_asg (ha sc _ W k X h2 x) (ht sc _ W k X h1 x) (sw_plain x.toXOk hp) (swap_pairs x.toXOk h3) (asg_each ns)) fun D σ H h => asg_sem h
          · have hp' : lcPlain sc scope y py q = false := by simpa using hp
            rw [hp', Bool.false_or, Bool.and_eq_true] at h4
            obtain ⟨h4, h5⟩ := h4
            have hloc : sc.names.lookup y = some .local := by
              unfold locO at h4
              split at h4
              · assumption
              · cases h4
            have sw : swapsWith (.ListComp el gens scope q) (some (.Name y py)) p.line X.env = pure true := by
              show (pure (X.env.blockKind == .function && X.env.kindOf y == some .local && py.line == q.line && !(scope.names.any fun q => q.1 == y && (q.2 == .local || q.2 == .cell))) : Sem Bool) = pure true
              unfold lcPlain at hp'
              rw [Bool.or_eq_false_iff, Bool.or_eq_false_iff] at hp'
              have e1 : (py.line == q.line) = true := by simpa using hp'.1.2
              rw [hp'.1.1, e1, x.bk, show X.env.kindOf y = some .local from x.loc _ hloc]
              rfl
            cases a with
            | comp t' it k' e' own =>
              cases t with
              | nm i =>
                rw [chkT, Bool.and_eq_true, Bool.and_eq_true, decide_eq_true_eq] at h1
                have hne := x.ne h1.2
                obtain ⟨y1, y2, y3, y4⟩ := hl.at_ _ _ _ _ _ rfl
                obtain ⟨tg', iter, ifs, rfl, b0, b1, b2, b3, b4, b5, b6⟩ := comp_parts h2
                have hK : isK it = false := by simpa [noKeys] using h5
                have bo := blk_ok x.toXOk b5
                have sk : scope.kind = ScopeKind.function := bo.kind
                have nf : ∀ y : Value, foldedSetIterable iter X.env y = pure y := fun y => fold_of (chkI_set b2) y
                refine PS.imp (ps_setLc (i := i) (x.calm b0) x.nd (by rw [x.N]; exact h1.1.1) (x.loc _ hloc) sw (y2 hK sc tg' iter W k X b2 x) bo
                  (fun s H C cl fp => y1 scope tg' noW k _ b1 (x.blk b0 sk s H C cl fp)) (fun s H C cl fp => y3 scope ifs noW k _ b3 (x.blk b0 sk s H C cl fp)) (fun s H C cl fp => y4 scope el noW k _ b4 (x.blk b0 sk s H C cl fp)) nf) ?_
                rw [ownOf_snd]
                rintro D σ H ⟨ι, ρ, μ, S, R, hw⟩
                have hw := wpS_of R (show wpS g W D ι H (SRes.of ρ (ev g.C cf (.comp t' it k' e' own) ρ μ) fun d μ => .go .nx (ρ.set i (some d)) μ) from hw)
                exact comp_sem hK b6 ⟨ι, ρ, μ, S, R, wpR_mono hw (fun d μ1 h1 ι1 H1 v1 e1 S1 r1 => h1 ι1 H1 _ e1 S1 ((R.mono e1).set i hne r1)) fun _ _ z => z⟩
              | _ => simp [chkT] at h1
            | _ => simp [chkE] at h2
        | _ => exact absurd h4 hn
    · simp [chkS] at hc
  | _ => simp [chkS] at hc
theorem two_names {z y : PySem.Str} (p2 : (z == y) = false) : ([z, y].eraseDups).length = 2 := by
  have p3 : (y == z) = false := by rw [BEq.comm]; exact p2
  rw [List.eraseDups_cons]
  have : List.filter (fun b => !(b == z)) [y] = [y] := by rw [List.filter_cons, p3]; rfl
  rw [this, List.eraseDups_cons]
  rfl
theorem names_two {env : PySem.Env} {z y : PySem.Str} {px py : Pos} (kz : env.kindOf z = some .local) (ky : env.kindOf y = some .local) (e1 : (py.line == px.line) = true) : ([Expr.Name z px, Expr.Name y py].filterMap fun
    | .Name id pos => if env.kindOf id == some .local && pos.line == px.line then some id else none
    | _ => none) = [z, y] := by
  have e0 : ((some NameKind.local : Option NameKind) == some NameKind.local) = true := rfl
  have e2 : (px.line == px.line) = true := BEq.rfl
  simp only [List.filterMap_cons, List.filterMap_nil, kz, ky, e0, e1, e2, Bool.and_self, if_true]
theorem no_stars {u v : Expr} (hu : NoStar u = true) (hv : NoStar v = true) : ([u, v].any fun | .Starred .. => true | _ => false) = false := by
  cases u <;> first | (cases hu; done) | (cases v <;> first | (cases hv; done) | rfl)
theorem swap_par {env : PySem.Env} {z y : PySem.Str} {px py pt pt2 : Pos} {kt k2 : Nat} {u v : Expr} (kz : env.kindOf z = some .local) (ky : env.kindOf y = some .local) (hu : NoStar u = true) (hv : NoStar v = true) (e1 : (py.line == px.line) = true) (p2 : (z == y) = false) (f3 : (foldedForSure 8 u && foldedForSure 8 v) = false) (f4 : (constantsAlone 8 u && constantsAlone 8 v) = false) (hb : env.blockKind = .function) :
    swappedStores [.Tuple [.Name z px, .Name y py] kt pt] (.Tuple [u, v] k2 pt2) env = pure (some [z, y]) := by
  have bk : (env.blockKind != .function) = false := by rw [hb]; rfl
  have f3' : [u, v].all (foldedForSure 8) = false := by rw [List.all_cons, List.all_cons, List.all_nil, Bool.and_true]; exact f3
  have f4' : [u, v].all (constantsAlone 8) = false := by rw [List.all_cons, List.all_cons, List.all_nil, Bool.and_true]; exact f4
  have s1 := no_stars hu hv
  have s2 := names_two kz ky e1
  rw [swappedStores.eq_1, bk]
  refine (if_neg (fun h => Bool.noConfusion (show false = true from h))).trans ?_
  refine (if_neg (fun h => Bool.noConfusion (s1.symm.trans h))).trans ?_
  have hd : (Option.map (fun x : Expr => x.pos.line) ([Expr.Name z px, Expr.Name y py] : List Expr).head?).getD 0 = px.line := rfl
  simp only []
  rw [hd]
  generalize hn : List.filterMap _ [Expr.Name z px, Expr.Name y py] = nm
  have : nm = [z, y] := hn.symm.trans s2
  subst this
  rw [two_names p2, f3', f4']
  rfl
theorem s_par (i j : Nat) (ha : SndE Γ g cf a) (hb : SndE Γ g cf b) : SndS Γ g cf N (.par i j a b) := by
  intro sc st W k X hc x
  have key : ∃ z px y py kt pt u v k2 pt2 p, st = .Assign [.Tuple [.Name z px, .Name y py] kt pt] (.Tuple [u, v] k2 pt2) p ∧ (!Γ.hot && decide (Γ.N[i]? = some z) && decide (Γ.N[j]? = some y) && locO sc z && locO sc y && chkE Γ a sc u && chkE Γ b sc v && parOk px py pt z y u v && decide (i ≠ j)) = true := by
    rw [chkS.eq_def] at hc
    split at hc
    all_goals first | (cases hc; done) | skip
    all_goals first | (rename_i hh; cases hh; done) | skip
    all_goals first | (rename_i hh; obtain ⟨⟩ := hh; exact ⟨_, _, _, _, _, _, _, _, _, _, _, rfl, hc⟩) | skip
    all_goals simp_all
  obtain ⟨z, px, y, py, kt, pt, u, v, k2, pt2, p, rfl, hh⟩ := key
  simp only [Bool.and_eq_true, decide_eq_true_eq] at hh
  obtain ⟨⟨⟨⟨⟨⟨⟨⟨q0, q1⟩, q2⟩, q3⟩, q4⟩, q5⟩, q6⟩, q7⟩, q8⟩ := hh
  have q0 := notHot q0
  have hne : ∀ i, g.en ≠ some i := fun i => by rw [x.en, x.hotE q0]; simp
  have lo : ∀ {z : PySem.Str}, locO sc z = true → X.env.kindOf z = some .local := by
    intro z h
    unfold locO at h
    split at h
    · exact x.loc _ (by assumption)
    · cases h
  unfold parOk at q7
  simp only [Bool.and_eq_true, Bool.not_eq_true'] at q7
  obtain ⟨⟨⟨p1, p2⟩, p3⟩, p4⟩ := q7
  have su := (chk_plain q5).1
  have sv := (chk_plain q6).1
  refine PS.imp (ps_par (i := i) (j := j) (x.calm q0) x.nd (by rw [x.N]; exact q1) (by rw [x.N]; exact q2) q8 (lo q3) (lo q4) (pa_cons (ha sc u W k X q5 x) (pa_cons (hb sc v W k X q6 x) pa_nil (star_of sv)) (star_of su))
    (swap_par (lo q3) (lo q4) su sv (by rw [BEq.comm]; exact p1) p2 p3 p4 x.bk) rfl) ?_
  rintro D σ H ⟨ι, ρ, μ, S, R, hw⟩
  have hw := wpS_of R (show wpS g W D ι H (SRes.of ρ (ev g.C cf a ρ μ) fun x μ => SRes.of ρ (ev g.C cf b ρ μ) fun y μ => .go .nx ((ρ.set i (some x)).set j (some y)) μ) from hw)
  refine ⟨ι, ρ, μ, S, R, wpR_mono hw (fun d1 μ1 h1 ι1 H1 v1 e1 S1 r1 => ?_) fun _ _ z => z⟩
  have h1 := wpS_of (R.mono e1) (wpS_mono e1 h1)
  refine ⟨ι1, ρ, μ1, S1, R.mono e1, wpR_mono h1 (fun d2 μ2 h2 ι2 H2 v2 e2 S2 r2 => ?_) fun _ _ z => z⟩
  refine ⟨v1, v2, rfl, h2 ι2 H2 _ e2 S2 ?_⟩
  exact ((R.mono (e1.trans e2)).set i (hne i) (e2.rep _ _ r1)).set j (hne j) r2
theorem s_aug (i : Nat) (op : Op) (ha : SndE Γ g cf a) : SndS Γ g cf N (.aug i op a) := by
  intro sc st W k X hc x
  cases st with
  | AugAssign tg o v p =>
    cases tg with
    | Name y py =>
      simp only [chkS, Bool.and_eq_true, decide_eq_true_eq] at hc
      obtain ⟨⟨⟨⟨⟨q1, q2⟩, q3⟩, rfl⟩, q5⟩, q6⟩ := hc
      have q6 := x.ne q6
      obtain ⟨l1, l2⟩ := x.lc q2
      have fin : ∀ (f : Int → Int → Int), (∀ m n μ, binF op (.int m) (.int n) μ = .ok (.int (f m n)) μ) → ∀ D σ H, semS g cf N W (.aug i op a) D σ H → tAug i (semE g cf W a) (ipI f) D σ H := by
        rintro f hf D σ H ⟨ι, ρ, μ, S, R, hw⟩
        have hw : wpS g W D ι H (match ρ[i]? with
          | some (some x) => SRes.of ρ (ev g.C cf a ρ μ) fun y μ => match x, y with
            | .int a, .int b => SRes.of ρ (binF op (.int a) (.int b) μ) fun z μ => .go .nx (ρ.set i (some z)) μ
            | _, _ => .stuck
          | _ => .stuck) := hw
        split at hw
        · rename_i d0 e0
          obtain ⟨v0, y1, y2⟩ := R.at_ i d0 q6 e0
          have hw := wpS_of R hw
          refine ⟨v0, y1, ι, ρ, μ, S, R, wpR_mono hw (fun d1 μ1 h1 ι1 H1 v1 e1 S1 r1 => ?_) fun _ _ z => z⟩
          split at h1
          · rename_i m n _
            obtain rfl := y2
            obtain rfl := r1
            rw [hf] at h1
            exact ⟨m, n, rfl, rfl, h1 ι1 H1 _ e1 S1 ((R.mono e1).set i q6 rfl)⟩
          · exact False.elim h1
        · exact False.elim hw
      have pe := ha sc v W k X q3 x
      cases op with
      | add => exact PS.imp (ps_aug x.nd (by rw [x.N]; exact q1) l1 pe ip_add l2) (fin (fun i j => i + j) fun _ _ _ => rfl)
      | sub => exact PS.imp (ps_aug x.nd (by rw [x.N]; exact q1) l1 pe ip_sub l2) (fin (fun i j => i - j) fun _ _ _ => rfl)
      | _ => exact absurd q5 (by decide)
    | _ => simp [chkS] at hc
  | _ => simp [chkS] at hc
/-! ### all of it -/
mutual
theorem sndE (Γ : Stat) (g : Gd) (cf : CF) : ∀ m : E, SndE Γ g cf m ∧ SndT Γ g cf m ∧ SndW Γ g cf m
  | .v i => ⟨c_v i, t_v i, w_none (by intros; simp [chkE])⟩
  | .non => ⟨c_non, t_none (fun _ _ => rfl), w_none (by intros; simp [chkE])⟩
  | .bl k => ⟨c_bl k, t_bl k, w_none (by intros; simp [chkE])⟩
  | .int i => ⟨c_int i, t_none (fun _ _ => rfl), w_none (by intros; simp [chkE])⟩
  | .str s => ⟨c_str s, t_none (fun _ _ => rfl), w_none (by intros; simp [chkE])⟩
  | .glS n s => ⟨c_glS n s, t_none (fun _ _ => rfl), w_none (by intros; simp [chkE])⟩
  | .glC n s => ⟨c_glC n s, t_none (fun _ _ => rfl), w_none (by intros; simp [chkE])⟩
  | .tup es => ⟨c_tup (sndA Γ g cf es).1, t_none (fun _ _ => rfl), w_none (by intros; simp [chkE])⟩
  | .lst es => ⟨c_lst (sndA Γ g cf es).1, t_none (fun _ _ => rfl), w_none (by intros; simp [chkE])⟩
  | .dnK => ⟨c_dnK, t_none (fun _ _ => rfl), w_none (by intros; simp [chkE])⟩
  | .dnT => ⟨c_dnT, t_none (fun _ _ => rfl), w_none (by intros; simp [chkE])⟩
  | .disp ks es => ⟨c_disp ks (sndA Γ g cf es).2.1, t_none (fun _ _ => rfl), w_none (by intros; simp [chkE])⟩
  | .call f es => ⟨c_call f (sndA Γ g cf es).1, t_call f (sndA Γ g cf es).1, w_none (by intros; simp [chkE])⟩
  | .bf b e => ⟨c_bf b (sndE Γ g cf e).1, t_bf b (sndE Γ g cf e).1, w_none (by intros; simp [chkE])⟩
  | .isi e t => ⟨c_isi t (sndE Γ g cf e).1, t_isi t (sndE Γ g cf e).1, w_none (by intros; simp [chkE])⟩
  | .meth m o es => ⟨c_meth m (sndE Γ g cf o).1 (sndA Γ g cf es).1 (sndA Γ g cf es).2.2.1, t_meth m (sndE Γ g cf o).1 (sndA Γ g cf es).1 (sndA Γ g cf es).2.2.1, w_none (by intros; simp [chkE])⟩
  | .bin op a b => ⟨c_bin op (sndE Γ g cf a).1 (sndE Γ g cf b).1, t_none (fun _ _ => rfl), w_none (by intros; simp [chkE])⟩
  | .neg a => ⟨c_neg (sndE Γ g cf a).1, t_none (fun _ _ => rfl), w_none (by intros; simp [chkE])⟩
  | .cmp c a b => ⟨c_cmp c (sndE Γ g cf a).1 (sndE Γ g cf b).1, t_cmp c (sndE Γ g cf a).1 (sndE Γ g cf b).1, w_none (by intros; simp [chkE])⟩
  | .chain c d a b e => ⟨c_chain c d (sndE Γ g cf a).1 (sndE Γ g cf b).1 (sndE Γ g cf e).1, t_chain c d (sndE Γ g cf a).1 (sndE Γ g cf b).1 (sndE Γ g cf e).1, w_none (by intros; simp [chkE])⟩
  | .and a b => ⟨c_and (sndE Γ g cf a).1 (sndE Γ g cf b).1, t_bool (fun _ _ => and_form) (w_and (sndE Γ g cf a).2.1 (sndE Γ g cf b).2.1 (sndE Γ g cf b).2.2), w_and (sndE Γ g cf a).2.1 (sndE Γ g cf b).2.1 (sndE Γ g cf b).2.2⟩
  | .or a b => ⟨c_or (sndE Γ g cf a).1 (sndE Γ g cf b).1, t_bool (fun _ _ => or_form) (w_or (sndE Γ g cf a).2.1 (sndE Γ g cf b).2.1 (sndE Γ g cf b).2.2), w_or (sndE Γ g cf a).2.1 (sndE Γ g cf b).2.1 (sndE Γ g cf b).2.2⟩
  | .not a => ⟨c_not (sndE Γ g cf a).1, t_not (sndE Γ g cf a).2.1, w_none (by intros; simp [chkE])⟩
  | .ite c a b => ⟨c_ite (sndE Γ g cf c).2.1 (sndE Γ g cf a).1 (sndE Γ g cf b).1, t_none (fun _ _ => rfl), w_none (by intros; simp [chkE])⟩
  | .ix a b => ⟨c_ix (sndE Γ g cf a).1 (sndE Γ g cf b).1, t_ix (sndE Γ g cf a).1 (sndE Γ g cf b).1, w_none (by intros; simp [chkE])⟩
  | .slL a b => ⟨c_slL (sndE Γ g cf a).1 (sndE Γ g cf b).1, t_none (fun _ _ => rfl), w_none (by intros; simp [chkE])⟩
  | .slU a b => ⟨c_slU (sndE Γ g cf a).1 (sndE Γ g cf b).1, t_none (fun _ _ => rfl), w_none (by intros; simp [chkE])⟩
  | .slB a b c => ⟨c_slB (sndE Γ g cf a).1 (sndE Γ g cf b).1 (sndE Γ g cf c).1, t_none (fun _ _ => rfl), w_none (by intros; simp [chkE])⟩
  | .errF n i => ⟨c_errF n i, t_none (fun _ _ => rfl), w_none (by intros; simp [chkE])⟩
  | .errIs n cs => ⟨c_errIs n cs, t_errIs n cs, w_none (by intros; simp [chkE])⟩
  | .comp t it c e own => ⟨c_comp (sndG Γ g cf t) (sndI Γ g cf it) (sndC Γ g cf c) (sndE Γ g cf e).1, t_none (fun _ _ => rfl), w_none (by intros; simp [chkE])⟩
theorem sndA (Γ : Stat) (g : Gd) (cf : CF) : ∀ m : Es, SndA Γ g cf m ∧ SndP Γ g cf m ∧ Es2 Γ g cf m ∧ (∀ a es, m = .cons a es → SndE Γ g cf a)
  | .nil => ⟨a_nil, p_nil, trivial, fun _ _ h => nomatch h⟩
  | .cons a es => ⟨a_cons (sndE Γ g cf a).1 (sndA Γ g cf es).1, p_cons (sndE Γ g cf a).1 (sndA Γ g cf es).2.1, (match es, sndA Γ g cf es with
    | .nil, _ => (sndE Γ g cf a).1
    | .cons b _, h => ⟨(sndE Γ g cf a).1, h.2.2.2 _ _ rfl⟩), fun _ _ h => by cases h; exact (sndE Γ g cf a).1⟩
theorem sndC (Γ : Stat) (g : Gd) (cf : CF) : ∀ m : Ec, SndC Γ g cf m
  | .yes => k_yes
  | .test e => k_test (sndE Γ g cf e).2.1
theorem sndI (Γ : Stat) (g : Gd) (cf : CF) : ∀ m : PL.It, isK m = false → SndI Γ g cf m
  | .val e, _ => i_val (sndE Γ g cf e).1
  | .rng e, _ => i_rng (sndE Γ g cf e).1
  | .rng2 a b, _ => i_rng2 (sndE Γ g cf a).1 (sndE Γ g cf b).1
  | .rng3 a b c, _ => i_rng3 (sndE Γ g cf a).1 (sndE Γ g cf b).1 (sndE Γ g cf c).1
  | .keys _, h => nomatch h
theorem sndG (Γ : Stat) (g : Gd) (cf : CF) : ∀ m : T, SndG Γ g cf m
  | .nm i => g_nm i
  | .tp is => g_tp is
  | .sb a b => g_sb (sndE Γ g cf a).1 (sndE Γ g cf b).1
end
theorem lc_of (a : E) : Lc Γ g cf a := ⟨fun t it k e own _ => ⟨sndG Γ g cf t, sndI Γ g cf it, sndC Γ g cf k, (sndE Γ g cf e).1⟩⟩
mutual
theorem sndS (Γ : Stat) (g : Gd) (cf : CF) (N : Nat) : ∀ m : S, SndS Γ g cf N m
  | .asg t e => s_asg (sndG Γ g cf t) (sndE Γ g cf e).1 (lc_of e)
  | .par i j a b => s_par i j (sndE Γ g cf a).1 (sndE Γ g cf b).1
  | .aug i op e => s_aug i op (sndE Γ g cf e).1
  | .ex e => s_ex (sndE Γ g cf e).1
  | .ret e => s_ret (sndE Γ g cf e).1
  | .retN => s_retN
  | .ite c a b => s_ite (sndE Γ g cf c).2.1 (sndB Γ g cf N a) (sndB Γ g cf N b)
  | .whl c b => s_whl (sndE Γ g cf c).2.1 (sndB Γ g cf N b)
  | .fr t it b => s_fr (sndG Γ g cf t) (sndI Γ g cf it) (sndB Γ g cf N b)
  | .brk => s_brk
  | .cont => s_cont
  | .pass => s_pass
  | .rse ms ks es => s_rse ms ks (sndA Γ g cf es).1
  | .tr b hs => s_tr (fun W => sndB Γ g cf N b) (sndHs cf N hs)
theorem sndB (Γ : Stat) (g : Gd) (cf : CF) (N : Nat) : ∀ m : Ss, SndB Γ g cf N m
  | .nil => b_nil
  | .cons s ss => b_cons (sndS Γ g cf N s) (sndB Γ g cf N ss)
theorem sndHs (cf : CF) (N : Nat) : ∀ m : Hs, SndHs cf N m
  | .nil => trivial
  | .cons c n b hs => ⟨fun Γ g => sndB Γ g cf N b, sndHs cf N hs⟩
end
end
end PL
end
section
set_option Elab.async false
set_option linter.all false
set_option autoImplicit false
set_option maxRecDepth 100000
set_option maxHeartbeats 400000
/-! SoundC: the __init__ of a class of errors. -/
namespace PL
open PySem PySem.Spec PyProof.Rows L2
def chkInit : List PySem.Str → List Stmt → Bool
  | [], [] => true
  | f :: fs, .Assign [.Attribute (.Name s _) f' _] (.Name y _) _ :: r => decide (s = ("self" : PySem.Str)) && decide (f' = f) && decide (y = f) && okN f && chkInit fs r
  | _, _ => false
def zipr : List PySem.Str → List V → List (PySem.Str × V) → List (PySem.Str × V)
  | f :: fs, w :: ws, l => zipr fs ws ((f, w) :: l)
  | _, _, l => l
theorem zipr_old : ∀ {fs : List PySem.Str} {ws : List V} {l : List (PySem.Str × V)} {f : PySem.Str}, f ∉ fs → (zipr fs ws l).lookup f = l.lookup f
  | [], _, l, f, _ => by cases ‹List V› <;> rfl
  | x :: fs, [], l, f, _ => rfl
  | x :: fs, w :: ws, l, f, h => by
    rw [List.mem_cons, not_or] at h
    show (zipr fs ws ((x, w) :: l)).lookup f = _
    rw [zipr_old h.2, lookup_put, if_neg h.1]
theorem zipr_at : ∀ {fs : List PySem.Str} {ws : List V} {l : List (PySem.Str × V)} {i : Nat} {f : PySem.Str} {w : V}, fs.Nodup → fs[i]? = some f → ws[i]? = some w → (zipr fs ws l).lookup f = some w
  | [], _, _, _, _, _, _, h, _ => by cases h
  | x :: fs, [], _, _, _, _, _, _, h => by cases h
  | x :: fs, y :: ws, l, 0, f, w, hn, h1, h2 => by
    cases h1; cases h2
    show (zipr fs ws ((x, y) :: l)).lookup x = _
    rw [zipr_old (List.nodup_cons.mp hn).1, lookup_put, if_pos rfl]
  | x :: fs, y :: ws, l, i + 1, f, w, hn, h1, h2 => zipr_at (fs := fs) (ws := ws) (i := i) (List.nodup_cons.mp hn).2 h1 h2
theorem upd_upd {H : Hp} {a : Addr} {o u : HO} : upd (upd H a o) a u = upd H a u := by
  funext b
  by_cases h : b = a
  · rw [h, upd_same, upd_same]
  · rw [upd_ne h, upd_ne h, upd_ne h]
theorem upd_id {H : Hp} {a : Addr} {o : HO} (h : H a = some o) : upd H a o = H := by
  funext b
  by_cases e : b = a
  · rw [e, upd_same, h]
  · rw [upd_ne e]
theorem PSs.all {X : Cx} {st : List Stmt} {α : Type} {t : α → TS} (h : ∀ q, PSs X st (t q)) : PSs X st (fun D σ H => ∃ q, t q D σ H) := ⟨fun pins s σ H D I ⟨q, z⟩ => (h q).run pins s σ H D I z⟩
section
variable {X : Cx} {C : Addr}
theorem init_name {x : PySem.Str} {i : Nat} {p : Pos} (hN : X.N[i]? = some x) (hv : Vis X.env.scope x) (ho : okN x = true) : PE X (.Name x p) (tVar i) :=
  pe_var (i := i) hN hv (okN_parts ho).1 (okN_parts ho).2.1
/-- the fields behind the first one -/
theorem init_rest (T : OexC X.K C) (h0 : X.N[0]? = some ("self" : PySem.Str)) (v0 : Vis X.env.scope "self") {a d : Addr} (hda : d ≠ a) : ∀ {fs : List PySem.Str} {body : List Stmt} (i : Nat), chkInit fs body = true → (∀ j f, fs[j]? = some f → X.N[i + j]? = some f) → (∀ f ∈ fs, Vis X.env.scope f ∧ PySem.W.findIn X.K (.ref C) f = some none) →
    ∃ t, PSs X body t ∧ ∀ (D : Ends) (σ : L2.St) (H : Hp) (ws : List V) (l : List (PySem.Str × V)), σ[0]? = some (some (.ref a)) → ws.length = fs.length → (∀ j w, ws[j]? = some w → σ[i + j]? = some (some w)) → H a = some (exo a C (some d)) → H d = some (exd d l) → l.length + fs.length ≤ 900 → D.nx σ (upd H d (exd d (zipr fs ws l))) → t D σ H
  | [], body, i, hc, _, _ => by
    cases body with
    | cons _ _ => simp [chkInit] at hc
    | nil =>
      refine ⟨_, pss_nil, fun D σ H ws l _ hl _ _ hd _ q => ?_⟩
      have : ws = [] := List.length_eq_zero_iff.mp hl
      subst this
      rw [show zipr [] [] l = l from rfl, upd_id hd] at q
      exact q
  | f :: fs, body, i, hc, hN, hv => by
    have key : ∃ p1 p2 p3 p4 r, body = .Assign [.Attribute (.Name "self" p1) f p2] (.Name f p3) p4 :: r ∧ okN f = true ∧ chkInit fs r = true := by
      rw [chkInit.eq_def] at hc
      split at hc
      · rename_i h2; cases h2
      · rename_i f0 fs0 s p1 f' p2 y p3 p4 r h1
        cases h1
        simp only [Bool.and_eq_true, decide_eq_true_eq] at hc
        obtain ⟨⟨⟨⟨rfl, rfl⟩, rfl⟩, h4⟩, h5⟩ := hc
        exact ⟨_, _, _, _, _, rfl, h4, h5⟩
      · cases hc
    obtain ⟨p1, p2, p3, p4, r, rfl, ho, hr⟩ := key
    obtain ⟨vf, nf⟩ := hv f (List.mem_cons_self ..)
    obtain ⟨t, ht, tr⟩ := init_rest T h0 v0 hda (fs := fs) (body := r) (i + 1) hr (fun j g e => by rw [Nat.add_right_comm]; exact hN (j + 1) g e) (fun g hg => hv g (List.mem_cons_of_mem _ hg))
    refine ⟨_, pss_cons (ps_ost (init_name h0 v0 (by decide)) (init_name (hN 0 f rfl) vf ho)) ht, fun D σ H ws l s0 hl hs ha hd hn q => ?_⟩
    cases ws with
    | nil => cases hl
    | cons w ws =>
      refine ⟨w, hs 0 w rfl, .ref a, s0, a, C, rfl, T, nf, .inr ⟨d, l, ha, hd, by omega, ?_⟩⟩
      refine tr D σ _ ws ((f, w) :: l) s0 (by simpa using hl) (fun j w' e => by rw [Nat.add_right_comm]; exact hs (j + 1) w' e) (by rw [upd_ne (Ne.symm hda)]; exact ha) upd_same (by simp at hn ⊢; omega) ?_
      rw [upd_upd]
      exact q
/-- all fields -/
theorem init_walk (T : OexC X.K C) (h0 : X.N[0]? = some ("self" : PySem.Str)) (v0 : Vis X.env.scope "self") {fs : List PySem.Str} {body : List Stmt} (hpos : 0 < fs.length) (hle : fs.length ≤ 900) (hnd : fs.Nodup) (hc : chkInit fs body = true) (hN : ∀ j f, fs[j]? = some f → X.N[1 + j]? = some f) (hv : ∀ f ∈ fs, Vis X.env.scope f ∧ PySem.W.findIn X.K (.ref C) f = some none) :
    ∃ t, PSs X body t ∧ ∀ (Q : VK) (E : XK) (σ : L2.St) (H : Hp) (vs : List V), σ = vs.map some → spI C fs vs H Q E → t { nx := fun _ H' => Q .non H', rt := Q } σ H := by
  cases fs with
  | nil => cases hpos
  | cons f fs =>
    have key : ∃ p1 p2 p3 p4 r, body = .Assign [.Attribute (.Name "self" p1) f p2] (.Name f p3) p4 :: r ∧ okN f = true ∧ chkInit fs r = true := by
      rw [chkInit.eq_def] at hc
      split at hc
      · rename_i h2; cases h2
      · rename_i f0 fs0 s p1 f' p2 y p3 p4 r h1
        cases h1
        simp only [Bool.and_eq_true, decide_eq_true_eq] at hc
        obtain ⟨⟨⟨⟨rfl, rfl⟩, rfl⟩, h4⟩, h5⟩ := hc
        exact ⟨_, _, _, _, _, rfl, h4, h5⟩
      · cases hc
    obtain ⟨p1, p2, p3, p4, r, rfl, ho, hr⟩ := key
    obtain ⟨vf, nf⟩ := hv f (List.mem_cons_self ..)
    have R := fun (a d : Addr) (hda : d ≠ a) => init_rest T h0 v0 hda (fs := fs) (body := r) 2 hr (fun j g e => by have := hN (j + 1) g e; rw [show 2 + j = 1 + (j + 1) by omega]; exact this) (fun g hg => hv g (List.mem_cons_of_mem _ hg))
    -- one reading for all places
    refine ⟨_, pss_cons (ps_ost (init_name h0 v0 (by decide)) (init_name (hN 0 f rfl) vf ho)) (PSs.all fun (q : { z : Addr × Addr // z.2 ≠ z.1 }) => (R q.1.1 q.1.2 q.2).choose_spec.1), fun Q E σ H vs hσ hsp => ?_⟩
    obtain ⟨a, ws, rfl, hl, ha, hq⟩ := hsp
    cases ws with
    | nil => cases hl
    | cons w ws =>
      subst hσ
      refine ⟨w, rfl, .ref a, rfl, a, C, rfl, T, nf, .inl ⟨ha, fun d hd hda => ⟨⟨(a, d), hda⟩, ?_⟩⟩⟩
      have hs : ∀ j v, ws[j]? = some v → (List.map some (V.ref a :: w :: ws))[2 + j]? = some (some v) := by
        intro j v e
        rw [Nat.add_comm]
        show (List.map some ws)[j]? = _
        rw [List.getElem?_map, e]; rfl
      refine (R a d hda).choose_spec.2 _ _ _ ws [(f, w)] rfl (by simpa using hl) hs upd_same (by rw [upd_ne hda]; exact upd_same) (by simp at hle ⊢; omega) ?_
      refine hq d _ hd hda (by rw [upd_ne (Ne.symm hda)]; exact upd_same) ⟨_, upd_same, fun i g v e1 e2 => ?_⟩ fun b h1 h2 => by rw [upd_ne h2, upd_ne h1, upd_ne h2]
      exact zipr_at (fs := f :: fs) (ws := w :: ws) (l := []) hnd e1 e2
end
end PL
end
section
set_option Elab.async false
set_option linter.all false
set_option autoImplicit false
set_option maxRecDepth 100000
set_option maxHeartbeats 400000
/-! Sound13: defs, calls. -/
namespace PL
open PySem PySem.Spec PyProof.Rows L2
/-! ### stores joined -/
def NoFr (H : Hp) (ι : List Addr) : Prop := ∀ a o vs, H a = some (.frz o (.lst vs)) ∨ H a = some (.frz o (.tup vs)) → a ∉ ι
section
variable {g : Gb} {ι1 ι2 : List Addr} {H : Hp}
mutual
theorem rep_move (hn : NoFr H ι2) : ∀ (d : D) (v : V), D.data d = true → Rep g ι1 H d v → Rep g ι2 H d v
  | .non, _, _, h => h
  | .bl _, _, _, h => h
  | .int _, _, _, h => h
  | .str _, _, _, h => h
  | .cst _, _, _, h => h
  | .err _ _ _, _, _, h => h
  | .ftup ds, _, hd, h => by
    obtain ⟨a, vs, o, rfl, ha, ⟨h1, h2, _⟩, hr⟩ := h
    exact ⟨a, vs, o, rfl, ha, ⟨h1, h2, hn a o vs (.inr ha)⟩, rep_moveL hn ds vs (by rw [D.data] at hd; exact hd) hr⟩
  | .loc _, _, hd, _ => by rw [D.data] at hd; cases hd
  | .tup ds, _, hd, h => by
    obtain ⟨a, vs, rfl, ha, hr⟩ := h
    exact ⟨a, vs, rfl, ha, rep_moveL hn ds vs (by rw [D.data] at hd; exact hd) hr⟩
  | .ktp ds, _, hd, h => by
    obtain ⟨a, vs, rfl, ha, hr⟩ := h
    exact ⟨a, vs, rfl, ha, rep_moveL hn ds vs (by rw [D.data] at hd; exact hd) hr⟩
  | .rol ds, _, hd, h => by
    obtain ⟨a, vs, rfl, ha, hr⟩ := h
    refine ⟨a, vs, rfl, ?_, rep_moveL hn ds vs (by rw [D.data] at hd; exact hd) hr⟩
    rcases ha with ⟨o, h1, _⟩ | h1
    · exact .inl ⟨o, h1, hn a o vs (.inl h1)⟩
    · exact .inr h1
theorem rep_moveL (hn : NoFr H ι2) : ∀ (ds : List D) (vs : List V), D.dataL ds = true → RepL g ι1 H ds vs → RepL g ι2 H ds vs
  | [], _, _, h => h
  | d :: ds, _, hd, h => by
    obtain ⟨v, r, rfl, h1, h2⟩ := h
    rw [D.dataL, Bool.and_eq_true] at hd
    exact ⟨v, r, rfl, rep_move hn d v hd.1 h1, rep_moveL hn ds r hd.2 h2⟩
end
mutual
theorem rep_shift (hn : NoFr H ι1) : ∀ (d : D) (v : V), Rep g ι2 H d v → Rep g (ι1 ++ ι2) H (d.shift ι1.length) v
  | .non, _, h => h
  | .bl _, _, h => h
  | .int _, _, h => h
  | .str _, _, h => h
  | .cst _, _, h => h
  | .err _ _ _, _, h => h
  | .ftup ds, _, h => by
    obtain ⟨a, vs, o, rfl, ha, ⟨h1, h2, h3⟩, hr⟩ := h
    exact ⟨a, vs, o, rfl, ha, ⟨h1, h2, fun m => (List.mem_append.mp m).elim (hn a o vs (.inr ha)) h3⟩, rep_shiftL hn ds vs hr⟩
  | .loc l, _, h => by
    obtain ⟨a, rfl, ha⟩ := h
    refine ⟨a, rfl, ?_⟩
    show (ι1 ++ ι2)[ι1.length + l]? = some a
    rw [List.getElem?_append_right (by omega), Nat.add_sub_cancel_left]
    exact ha
  | .tup ds, _, h => by
    obtain ⟨a, vs, rfl, ha, hr⟩ := h
    exact ⟨a, vs, rfl, ha, rep_shiftL hn ds vs hr⟩
  | .ktp ds, _, h => by
    obtain ⟨a, vs, rfl, ha, hr⟩ := h
    exact ⟨a, vs, rfl, ha, rep_shiftL hn ds vs hr⟩
  | .rol ds, _, h => by
    obtain ⟨a, vs, rfl, ha, hr⟩ := h
    refine ⟨a, vs, rfl, ?_, rep_shiftL hn ds vs hr⟩
    rcases ha with ⟨o, h1, h2⟩ | h1
    · exact .inl ⟨o, h1, fun m => (List.mem_append.mp m).elim (hn a o vs (.inl h1)) h2⟩
    · exact .inr h1
theorem rep_shiftL (hn : NoFr H ι1) : ∀ (ds : List D) (vs : List V), RepL g ι2 H ds vs → RepL g (ι1 ++ ι2) H (D.shiftL ι1.length ds) vs
  | [], _, h => h
  | d :: ds, _, h => by
    obtain ⟨v, r, rfl, h1, h2⟩ := h
    exact ⟨v, r, rfl, rep_shift hn d v h1, rep_shiftL hn ds r h2⟩
end
theorem repKV_shift {κ κ' : Type} {f : κ → κ'} (hn : NoFr H ι1) : ∀ (kvs : List (κ × D)) (vs : List (κ' × V)), RepKV g f ι2 H kvs vs → RepKV g f (ι1 ++ ι2) H (kvs.map fun p => (p.1, p.2.shift ι1.length)) vs
  | [], _, h => h
  | p :: kvs, _, h => by
    obtain ⟨v, r, rfl, h1, h2⟩ := h
    exact ⟨v, r, rfl, rep_shift hn _ v h1, repKV_shift hn kvs r h2⟩
theorem objR_shift (hn : NoFr H ι1) {o : PL.Obj} {a : Addr} (h : ObjR g ι2 H o a) : ObjR g (ι1 ++ ι2) H (o.shift ι1.length) a := by
  cases o with
  | lst ds => obtain ⟨vs, h1, h2⟩ := h; exact ⟨vs, h1, rep_shiftL hn ds vs h2⟩
  | dK b kvs =>
    cases b with
    | false => obtain ⟨vs, h1, h2⟩ := h; exact ⟨vs, h1, repKV_shift hn kvs vs h2⟩
    | true => obtain ⟨o, vs, h1, h2⟩ := h; exact ⟨o, vs, h1, repKV_shift hn kvs vs h2⟩
  | dT b kvs =>
    cases b with
    | false => obtain ⟨vs, h1, h2⟩ := h; exact ⟨vs, h1, repKV_shift hn kvs vs h2⟩
    | true => obtain ⟨o, vs, h1, h2⟩ := h; exact ⟨o, vs, h1, repKV_shift hn kvs vs h2⟩
theorem ObjR.noFrzL {ι : List Addr} {o : PL.Obj} {a : Addr} (h : ObjR g ι H o a) : ∀ y vs, ¬ (H a = some (.frz y (.lst vs)) ∨ H a = some (.frz y (.tup vs))) := by
  intro y ws e
  cases o with
  | lst ds => obtain ⟨vs, h1, h2⟩ := h; rcases e with e | e <;> (rw [e] at h1; cases h1)
  | dK b kvs =>
    cases b with
    | false => obtain ⟨vs, h1, h2⟩ := h; rcases e with e | e <;> (rw [e] at h1; cases h1)
    | true => obtain ⟨o, vs, h1, h2⟩ := h; rcases e with e | e <;> (rw [e] at h1; cases h1)
  | dT b kvs =>
    cases b with
    | false => obtain ⟨vs, h1, h2⟩ := h; rcases e with e | e <;> (rw [e] at h1; cases h1)
    | true => obtain ⟨o, vs, h1, h2⟩ := h; rcases e with e | e <;> (rw [e] at h1; cases h1)
theorem Sim.noFrzL {ι : List Addr} {μ : Store} (S : Sim g ι μ H) : NoFr H ι := by
  intro a o vs e m
  obtain ⟨l, hl, e2⟩ := List.mem_iff_getElem.mp m
  have hx : μ[l]? = some (μ[l]'(by rw [← S.len]; exact hl)) := List.getElem?_eq_getElem _
  exact (S.ob l _ a hx (by rw [List.getElem?_eq_getElem hl, e2])).noFrzL o vs e
end
section
variable {g : Gb} {ι ι' : List Addr} {H H' : Hp} {μ μ' : Store}
/-- a heap that grew from an empty store keeps all -/
theorem ext_nil (S : Sim g ι μ H) (e : Ext [] H ι' H') : Ext ι H ι H' ∧ Sim g ι μ H' ∧ (∀ a, a ∈ ι' → a ∉ ι) := by
  have k : ∀ a o, H a = some o → H' a = some o := fun a o h => e.keep a o h (by simp)
  have ex : Ext ι H ι H' := ⟨⟨List.prefix_refl _, fun a o h _ => k a o h, fun _ m n => absurd m n, e.tup, e.nn⟩, e.fz⟩
  refine ⟨ex, S.of ex.toExt0 fun a m => ?_, fun a m n => ?_⟩
  · obtain ⟨u, hu, _⟩ := S.there m
    rw [hu]; exact k a u hu
  · obtain ⟨u, hu, _⟩ := S.there n
    have := e.fresh a m (by simp)
    rw [hu] at this; cases this
theorem dataL_get : ∀ {ds : List D} {i : Nat} {d : D}, D.dataL ds = true → ds[i]? = some d → D.data d = true
  | [], _, _, _, e => by cases e
  | _ :: _, 0, _, h, e => by
    rw [D.dataL, Bool.and_eq_true] at h
    cases e; exact h.1
  | _ :: _, i + 1, _, h, e => by
    rw [D.dataL, Bool.and_eq_true] at h
    exact dataL_get (i := i) h.2 e
theorem excR_move {ι2 : List Addr} {x : Exc} {c : Value} {d : Option Addr} (S : Sim g ι2 μ' H) (hd : D.dataL x.fs = true) (h : ExcR g ι H x c d) : ExcR g ι2 H x c d := by
  obtain ⟨rfl, hm, p, fs, rfl, h1, h2, h3⟩ := h
  refine ⟨rfl, hm, p, fs, rfl, h1, fun m => ?_, fun i f dv h4 h4' h5 => ?_⟩
  · obtain ⟨l, hl, e2⟩ := List.mem_iff_getElem.mp m
    have hx : μ'[l]? = some (μ'[l]'(by rw [← S.len]; exact hl)) := List.getElem?_eq_getElem _
    have := S.ob l _ p hx (by rw [List.getElem?_eq_getElem hl, e2])
    generalize μ'[l]'(by rw [← S.len]; exact hl) = o at this
    cases o with
    | lst ds => obtain ⟨vs, q, _⟩ := this; rw [h1] at q; cases q
    | dK b kvs =>
      cases b with
      | false => obtain ⟨vs, q, _⟩ := this; rw [h1] at q; cases q
      | true => obtain ⟨o, vs, q, _⟩ := this; rw [h1] at q; cases q
    | dT b kvs =>
      cases b with
      | false => obtain ⟨vs, q, _⟩ := this; rw [h1] at q; cases q
      | true => obtain ⟨o, vs, q, _⟩ := this; rw [h1] at q; cases q
  · obtain ⟨v, h6, h7⟩ := h3 i f dv h4 h4' h5
    exact ⟨v, h6, rep_move S.noFrzL dv v (dataL_get hd h5) h7⟩
theorem sim_join (S : Sim g ι μ H) (e : Ext [] H ι' H') (S' : Sim g ι' μ' H') : Sim g (ι ++ ι') (μ ++ μ'.map (PL.Obj.shift μ.length)) H' ∧ Ext ι H (ι ++ ι') H' := by
  obtain ⟨ex, S2, hd⟩ := ext_nil S e
  have hn := S2.noFrzL
  have ej : Ext ι H (ι ++ ι') H' := ⟨⟨⟨ι', rfl⟩, ex.keep, fun a m n => by
    rcases List.mem_append.mp m with m | m
    · exact absurd m n
    · exact e.fresh a m (by simp), ex.tup, ex.nn⟩, ex.fz⟩
  refine ⟨⟨?_, by simp [S.len, S'.len], fun l o a h1 h2 => ?_⟩, ej⟩
  · rw [List.nodup_append]
    exact ⟨S.nd, S'.nd, fun a h1 b h2 z => hd b h2 (z ▸ h1)⟩
  · by_cases hl : l < μ.length
    · rw [List.getElem?_append_left hl] at h1
      rw [List.getElem?_append_left (by rw [S.len]; exact hl)] at h2
      obtain ⟨u, hu, _⟩ := S.there (List.mem_of_getElem? h2)
      exact (S.ob l o a h1 h2).mono ej.toExt0 (by rw [hu]; exact e.keep a u hu (by simp))
    · rw [List.getElem?_append_right (by omega)] at h1
      rw [List.getElem?_append_right (by rw [S.len]; omega)] at h2
      rw [List.getElem?_map] at h1
      rw [S.len] at h2
      cases e3 : μ'[l - μ.length]? with
      | none => rw [e3] at h1; cases h1
      | some o' =>
        rw [e3] at h1; cases h1
        rw [← S.len]
        exact objR_shift hn (S'.ob _ o' a e3 h2)
/-- what is said of the end of a call of data, said of its own store -/
theorem graft_ok {Q : VK} {E : XK} {r : Res D} (S : Sim g ι μ H) (h : wpR (graft r μ) (OkV g ι H Q) (ExW g ι H E)) : wpR r (OkV g [] H Q) (ExW g [] H E) := by
  cases r with
  | stuck => exact h
  | exc x μ' =>
    have h : wpR (if D.dataL x.fs = true then (.exc x μ : Res D) else .stuck) (OkV g ι H Q) (ExW g ι H E) := h
    split at h
    · rename_i hd
      intro ι' H' c d e S' R
      obtain ⟨ex, S2, _⟩ := ext_nil S e
      exact h ι H' c d ex S2 (excR_move S2 hd R)
    · exact False.elim h
  | ok d μ' =>
    intro ι' H' v e S' R
    obtain ⟨ex, S2, hd⟩ := ext_nil S e
    have hn := S2.noFrzL
    unfold graft at h
    simp only at h
    have gen : wpR (.ok (d.shift μ.length) (μ ++ μ'.map (PL.Obj.shift μ.length)) : Res D) (OkV g ι H Q) (ExW g ι H E) → Q v H' := fun h => by
      obtain ⟨sj, ej⟩ := sim_join S e S'
      refine h (ι ++ ι') H' v ej sj ?_
      rw [← S.len]; exact rep_shift hn d v R
    split at h
    · rename_i hdat
      exact h ι H' v ex S2 (rep_move hn d v hdat R)
    · split at h
      · rename_i l _
        split at h
        · rename_i xs ex0
          split at h
          · rename_i hdat
            obtain ⟨a, rfl, ha⟩ := R
            have hm : a ∈ ι' := List.mem_of_getElem? ha
            obtain ⟨vs, q1, q2⟩ := S'.ob l _ a ex0 ha
            have hna : a ∉ ι := hd a hm
            have hn2 : NoFr H' (ι ++ [a]) := by
              intro b o vs' hb m
              rcases List.mem_append.mp m with m | m
              · exact hn b o vs' hb m
              · rw [List.mem_singleton.mp m, q1] at hb
                rcases hb with hb | hb <;> cases hb
            have ea : Ext ι H (ι ++ [a]) H' := ⟨⟨⟨[a], rfl⟩, ex.keep, fun b m n => by
              rcases List.mem_append.mp m with m | m
              · exact absurd m n
              · rw [List.mem_singleton.mp m]; exact e.fresh a hm (by simp), ex.tup, ex.nn⟩, ex.fz⟩
            refine h (ι ++ [a]) H' _ ea ⟨?_, by simp [S.len], fun k o b h1 h2 => ?_⟩ ⟨a, rfl, by rw [← S.len]; simp⟩
            · rw [List.nodup_append]
              exact ⟨S.nd, by simp, fun x h1 y h2 z => hna (by rw [List.mem_singleton.mp h2] at z; exact z ▸ h1)⟩
            · by_cases hl : k < μ.length
              · rw [List.getElem?_append_left hl] at h1
                rw [List.getElem?_append_left (by rw [S.len]; exact hl)] at h2
                obtain ⟨u, hu, _⟩ := S.there (List.mem_of_getElem? h2)
                exact (S.ob k o b h1 h2).mono ea.toExt0 (by rw [hu]; exact e.keep b u hu (by simp))
              · rw [List.getElem?_append_right (by omega)] at h1
                rw [List.getElem?_append_right (by rw [S.len]; omega)] at h2
                have hz : k - μ.length = 0 := by
                  have := (List.getElem?_eq_some_iff.mp h1).1
                  simp at this; omega
                rw [S.len] at h2
                rw [hz] at h1 h2
                cases h1
                cases h2
                exact ⟨vs, q1, rep_moveL hn2 xs vs hdat q2⟩
          · exact gen h
        · exact gen h
      · exact gen h
end
/-! ### a def -/
theorem repL_nil {g : Gb} {ι : List Addr} {H : Hp} {ds : List D} {vs : List V} (hd : D.dataL ds = true) (h : RepL g ι H ds vs) : RepL g [] H ds vs := rep_moveL (fun _ _ _ _ => by simp) ds vs hd h
theorem start_rep {g : Gb} {ι : List Addr} {H : Hp} {N : List PySem.Str} {np : Nat} {ds : List D} {vs : List V} (r : RepL g ι H ds vs) (hl : ds.length = np) : RepS g.cold ι H (startE np N.length ds) (L2.start N vs) := by
  have l2 := r.length
  refine ⟨by simp [startE, L2.start]; omega, fun i d _ h => ?_, fun i d n _ => by cases n⟩
  unfold startE at h
  unfold L2.start
  by_cases hi : i < ds.length
  · rw [List.getElem?_append_left (by simpa using hi), List.getElem?_map] at h
    rw [List.getElem?_append_left (by rw [List.length_map]; omega), List.getElem?_map]
    cases e : ds[i]? with
    | none => rw [e] at h; cases h
    | some d' =>
      rw [e] at h
      cases h
      obtain ⟨v, e1, e2⟩ := r.get e
      exact ⟨v, by rw [e1]; rfl, e2⟩
  · rw [List.getElem?_append_right (by simpa using hi), List.getElem?_replicate] at h
    split at h <;> cases h
theorem handed_wp {g : Gd} {ι : List Addr} {H : Hp} {Q : VK} {E : XK} {r : SRes} (h : wpR (handed r) (OkV g ι H Q) (ExW g ι H E)) : wpS g (fun c d _ H => E c d H) { nx := fun _ H' => Q .non H', rt := Q } ι H r := by
  cases r with
  | stuck => exact h
  | exc x ρ μ => exact fun ι' H' σ' c d e S _ R => h ι' H' c d e S R
  | go f ρ μ =>
    cases f with
    | nx => exact fun ι' H' σ' e S _ => h ι' H' .non e S rfl
    | rt d => exact fun ι' H' v e S R => h ι' H' v e S R
    | bk => exact False.elim h
    | ct => exact False.elim h
/-- a def of the text: its number, its name, its text, its slots, its parameters -/
structure DefT where
  id : Nat
  name : PySem.Str
  st : Stmt
  N : List PySem.Str
  np : Nat
def DefT.ps (d : DefT) : List PySem.Str := d.N.take d.np
def scopeOk (N ps : List PySem.Str) (sc : Scope) : Bool :=
  (match sc.kind with
    | .function => true
    | _ => false) && !sc.isCoroutine && !sc.isGenerator && decide N.Nodup && decide (N.take ps.length = ps) && (ps.all fun x => match sc.names.lookup x with
    | some .local => true
    | some .cell => true
    | _ => false) && sc.names.all fun y => match y.2 with
      | .free => false
      | _ => true
def chkDef (Γ : Stat) (P : Prog) (d : DefT) : Bool := match P.fns d.id with
  | some fn => decide (fn.np = d.np) && decide (fn.ns = d.N.length) && decide (d.np ≤ d.N.length) && scopeOk d.N d.ps (defScope d.st) && chkSs { Γ with N := d.N } fn.body (defScope d.st) (defBody d.st)
  | none => false
theorem scope_ok {N ps : List PySem.Str} {sc : Scope} (h : scopeOk N ps sc = true) : FnScope N ps sc := by
  unfold scopeOk at h
  simp only [Bool.and_eq_true, Bool.not_eq_true', decide_eq_true_eq, List.all_eq_true] at h
  obtain ⟨⟨⟨⟨⟨⟨h1, h2⟩, h3⟩, h4⟩, h5⟩, h6⟩, h7⟩ := h
  refine ⟨?_, h2, h3, h4, h5, fun x hx => ?_, fun y hy e => ?_⟩
  · generalize sc.kind = k at h1 ⊢
    cases k <;> first | rfl | cases h1
  · have := h6 x hx
    split at this
    · exact .inl (by assumption)
    · exact .inr (by assumption)
    · cases this
  · have := h7 y hy
    rw [e] at this; cases this
/-- a class of errors of the text: its name, its number and its bases', its fields' numbers, its __init__ -/
structure ClsT where
  name : PySem.Str
  qual : PySem.Str
  ms : List Nat
  ks : List Nat
  st : Stmt
  fs : List PySem.Str
def ClsT.ps (c : ClsT) : List PySem.Str := "self" :: c.fs
def chkCls (c : ClsT) : Bool := decide (0 < c.fs.length) && decide (c.fs.length ≤ 900) && decide c.fs.Nodup && decide c.ks.Nodup && scopeOk c.ps c.ps (defScope c.st) && chkInit c.fs (defBody c.st)
/-- what the head says of such a class at C -/
structure ClsH (g : Gb) (mg : PySem.Str → Option Value) (c : ClsT) : Prop where
  mgc : mg c.name = some (.ref (g.clsA (c.ms.headD 0)))
  mro : c.ms ∈ g.mros
  T : OexC g.K (g.clsA (c.ms.headD 0))
  fld : c.ks.map g.fld = c.fs
  no : ∀ f ∈ c.fs, PySem.W.findIn g.K (.ref (g.clsA (c.ms.headD 0))) f = some none
  ini : ∃ fI fd, PySem.W.findIn g.K (.ref (g.clsA (c.ms.headD 0))) "__init__" = some (some (.ref fI)) ∧ PySem.W.typeIn g.K (.ref fI) = some (.type "function") ∧ FunD g.K "__init__" c.qual (defArgs c.st) (defBody c.st) (defScope c.st) [] [] fI fd
  bnd : ∀ (kV doc pm : Value) (an : Option Addr) (cdv ct : Value) (us : List Value), us.length = c.ps.length → bindArgs (PySem.W.fnOf "__init__" c.qual (defArgs c.st) (defBody c.st) (defScope c.st) .none kV doc pm an cdv ct) { pos := us } = pure (c.ps.zip us)
/-- a class that clauses name, at c -/
structure CatchH (g : Gb) (mg : PySem.Str → Option Value) (x : PySem.Str) (c : Nat) : Prop where
  mg : mg x = some (.ref (g.clsA c))
  em : ∀ ms ∈ g.mros, PySem.W.exmOne g.K (.ref (g.clsA (ms.headD 0))) (.ref (g.clsA c)) = some (ms.contains c)
/-- the names of a text, where its head has built them -/
structure Glob (Γ : Stat) (g : Gb) (mg : PySem.Str → Option Value) (ds : List DefT) (cs : List ClsT) : Prop where
  cold : Γ.hot = false ∧ Γ.err = none
  mgS : ∀ x s, (x, s) ∈ Γ.gS → ∃ t, mg x = some (.str (S2 s) t)
  mgC : ∀ x c, (x, c) ∈ Γ.gC → mg x = some (.ref (g.cA c)) ∧ CstAt g.K g.w (g.cA c) (g.C c)
  mgB : ∀ x, x ∈ Γ.bl → mg x = none
  fns : ∀ x f, (x, f) ∈ Γ.fns → ∃ d ∈ ds, d.name = x ∧ d.id = f
  def_ : ∀ d ∈ ds, ∃ a fd, mg d.name = some (.ref a) ∧ FunD g.K d.name d.name (defArgs d.st) (defBody d.st) (defScope d.st) [] [] a fd
  bnd : ∀ d ∈ ds, ∀ (kV doc pm : Value) (an : Option Addr) (cdv ct : Value) (us : List Value), us.length = d.ps.length → bindArgs (PySem.W.fnOf d.name d.name (defArgs d.st) (defBody d.st) (defScope d.st) .none kV doc pm an cdv ct) { pos := us } = pure (d.ps.zip us)
  cls : ∀ x ms ks, (x, ms, ks) ∈ Γ.cls → ∃ c ∈ cs, c.name = x ∧ c.ms = ms ∧ c.ks = ks
  clsH : ∀ c ∈ cs, ClsH g mg c ∧ chkCls c = true
  hcl : ∀ x c, (x, c) ∈ Γ.hcl → CatchH g mg x c
  fld : ∀ f k, (f, k) ∈ Γ.fld → g.fld k = f ∧ ∀ ms ∈ g.mros, PySem.W.findIn g.K (.ref (g.clsA (ms.headD 0))) f = some none
  xfc : ∀ ms ∈ g.mros, XfC g.K (g.clsA (ms.headD 0))
theorem init_fn {g : Gb} {mg : PySem.Str → Option Value} {c : ClsT} (h : ClsH g mg c) (hc : chkCls c = true) (base : Heap) : ∃ fI fd ps, PySem.W.findIn g.K (.ref (g.clsA (c.ms.headD 0))) "__init__" = some (some (.ref fI)) ∧ PySem.W.typeIn g.K (.ref fI) = some (.type "function") ∧ Binds g.K fd ps [] ∧
    FnOk g.P g.w g.K mg base (L2.CX g.P g.w) 1 fI fd ps (spI (g.clsA (c.ms.headD 0)) (c.ks.map g.fld)) := by
  obtain ⟨fI, fd, q1, q2, F⟩ := h.ini
  unfold chkCls at hc
  simp only [Bool.and_eq_true, decide_eq_true_eq] at hc
  obtain ⟨⟨⟨⟨⟨c1, c2⟩, c3⟩, c4⟩, c5⟩, c6⟩ := hc
  have sc := scope_ok c5
  refine ⟨fI, fd, c.ps, q1, q2, F.bindsN h.bnd, ?_⟩
  rw [h.fld]
  refine F.ok sc (fun vs H Q E hs => ?_) fun cdv A outer s H vs Q E hr hs => ?_
  · obtain ⟨a, ws, rfl, hl, _⟩ := hs
    simp [ClsT.ps, hl]
  · let X := cxOf (L2.CX g.P g.w) g.P g.w g.K mg base c.ps c.qual (defScope c.st) fI cdv A outer s H E
    have vis : ∀ x ∈ c.ps, Vis X.env.scope x := fun x hx => by
      rcases sc.par x hx with q | q
      · exact .inl q
      · exact .inr (.inl q)
    obtain ⟨t, h1, h2⟩ := init_walk (X := X) h.T rfl (vis _ (List.mem_cons_self ..)) c1 c2 c3 c6 (fun j f e => by rw [Nat.add_comm]; exact e) fun f hf => ⟨vis f (List.mem_cons_of_mem _ hf), h.no f hf⟩
    refine ⟨t, h1, h2 Q E _ H vs ?_ hs⟩
    obtain ⟨a, ws, rfl, hl, _⟩ := hs
    unfold L2.start
    rw [show c.ps.length - (V.ref a :: ws).length = 0 by simp [ClsT.ps, hl]]
    simp
theorem fn_all {Γ : Stat} {g : Gb} {mg : PySem.Str → Option Value} {ds : List DefT} {cs : List ClsT} {P : Prog} {M : Nat} (G : Glob Γ g mg ds cs) (hC : g.C = P.cst) (hc : ∀ d ∈ ds, chkDef Γ P d = true) : ∀ (k : Nat) (base : Heap) (d : DefT), d ∈ ds → ∀ a fd, mg d.name = some (.ref a) →
    FunD g.K d.name d.name (defArgs d.st) (defBody d.st) (defScope d.st) [] [] a fd → FnOk g.P g.w g.K mg base (L2.CX g.P g.w) (k + 2) a fd d.ps (spF g (callF P M k) d.id d.ps.length)
  | 0, base, d, hd, a, fd, ha, F => ⟨fun vs H Q E h => h.1, fun A outer s H args us vs Q E _ _ _ _ h => by
    obtain ⟨_, ι, μ, es, _, _, hw⟩ := h
    exact False.elim hw⟩
  | k + 1, base, d, hd, a, fd, ha, F => by
    have hcd := hc d hd
    unfold chkDef at hcd
    split at hcd
    · rename_i fn efn
      simp only [Bool.and_eq_true, decide_eq_true_eq] at hcd
      obtain ⟨⟨⟨⟨c1, c2⟩, c3⟩, c4⟩, c5⟩ := hcd
      have sc := scope_ok c4
      have lps : d.ps.length = d.np := by unfold DefT.ps; rw [List.length_take]; omega
      refine F.ok sc (fun vs H Q E h => h.1) fun cdv A outer s H vs Q E hr h => ?_
      obtain ⟨hl, ι, μ, es, S, r, hw⟩ := h
      have hw : wpR (match P.fns d.id with
        | some fn => if es.length = fn.np then (if D.dataL es then graft (callB P M (callF P M k) fn es []) μ else callB P M (callF P M k) fn es μ) else .stuck
        | none => .stuck) (OkV g ι H Q) (ExW g ι H E) := hw
      rw [efn] at hw
      simp only at hw
      let W : WX := fun c d _ H => E c d H
      let X := cxOf (L2.CX g.P g.w) g.P g.w g.K mg base d.N d.name (defScope d.st) a cdv A outer s H E
      have hh := hr.un
      have xok : XOkS { Γ with N := d.N } g.cold (callF P M k) W (k + 2) (defScope d.st) X := {
        N := rfl
        nd := sc.nd
        P := rfl
        w := rfl
        K := rfl
        calm := fun _ => rfl
        room := fun _ => hr
        un := by show (A.deeper _).units + 100 < cLine; omega
        k2 := by omega
        en := G.cold.2.symm
        hotE := fun _ => G.cold.2
        er := fun n h => by rw [show ({ Γ with N := d.N } : Stat).err = none from G.cold.2] at h; cases h
        rse := fun x ms ks h => by
          obtain ⟨c, hc1, rfl, rfl, rfl⟩ := G.cls x ms ks h
          obtain ⟨ch, ck⟩ := G.clsH c hc1
          exact ⟨ch.mgc, ch.mro, ch.T, by unfold chkCls at ck; simp only [Bool.and_eq_true, decide_eq_true_eq] at ck; exact ck.1.1.2, init_fn ch ck base⟩
        hcl := fun x c h => let q := G.hcl x c h; ⟨q.mg, q.em⟩
        fld := fun f i h => let q := G.fld f i h; ⟨q.1, q.2⟩
        xfc := G.xfc
        stk := rfl
        frm := rfl
        tk := takes_of (E := E) rfl rfl rfl rfl
        po := passes_of rfl
        loc := fun x h => h
        cel := fun x h => ⟨h, rfl⟩
        fre := fun x h => by
          exfalso
          obtain ⟨l1, hm, e5, _⟩ := List.lookup_eq_some_iff.mp h
          refine sc.nofree (x, .free) ?_ rfl
          rw [e5]; simp
        gl := fun x h => h
        mgS := G.mgS
        mgC := G.mgC
        mgB := G.mgB
        bk := by
          show (if (defScope d.st).kind.isAnnotationScope then ScopeKind.function else (defScope d.st).kind) = ScopeKind.function
          rw [sc.kind]; rfl
        fnk := fun x f hf => by
          obtain ⟨d', hd', rfl, rfl⟩ := G.fns x f hf
          obtain ⟨a', fd', m1, F'⟩ := G.def_ d' hd'
          refine ⟨a', fd', d'.ps, m1, F'.kp, F'.bindsN (G.bnd d' hd'), fun es' μ' hne => ?_, fn_all G hC hc k base d' hd' a' fd' m1 F'⟩
          cases k with
          | zero => rfl
          | succ k =>
            have hcd' := hc d' hd'
            unfold chkDef at hcd'
            split at hcd'
            · rename_i fn' efn'
              simp only [Bool.and_eq_true, decide_eq_true_eq] at hcd'
              have lps' : d'.ps.length = d'.np := by unfold DefT.ps; rw [List.length_take]; omega
              show (match P.fns d'.id with
                | some fn => if es'.length = fn.np then (if D.dataL es' then graft (callB P M (callF P M k) fn es' []) μ' else callB P M (callF P M k) fn es' μ') else .stuck
                | none => .stuck) = _
              rw [efn']
              simp only
              rw [if_neg]
              rw [hcd'.1.1.1.1, ← lps']
              exact hne
            · cases hcd' }
      refine ⟨semB g.cold (callF P M k) M W fn.body, sndB { Γ with N := d.N } g.cold (callF P M k) M fn.body _ _ W (k + 2) X c5 xok, ?_⟩
      split at hw
      · rename_i hne
        have key : ∀ {ι0 : List Addr} {μ0 : Store}, Sim g ι0 μ0 H → RepL g ι0 H es vs → wpR (callB P M (callF P M k) fn es μ0) (OkV g ι0 H Q) (ExW g ι0 H E) → semB g.cold (callF P M k) M W fn.body { nx := fun _ H' => Q .non H', rt := Q } (L2.start d.N vs) H := by
          intro ι0 μ0 S0 r0 h0
          refine ⟨ι0, startE fn.np fn.ns es, μ0, S0, by rw [c2]; exact start_rep r0 hne, ?_⟩
          unfold callB at h0
          rw [← hC] at h0
          exact handed_wp (g := g.cold) h0
        split at hw
        · rename_i hdat
          have S0 : Sim g [] [] H := ⟨List.nodup_nil, rfl, fun l o a h1 _ => by simp at h1⟩
          exact key S0 (repL_nil hdat r) (graft_ok S hw)
        · exact key S r hw
      · exact False.elim hw
    · cases hcd
end PL
end
section
set_option Elab.async false
set_option linter.all false
set_option autoImplicit false
set_option maxRecDepth 100000
set_option maxHeartbeats 400000
/-! Sound14: tables of the written part; a law's head. -/
namespace PL
open PySem PySem.Spec PyProof.Rows L2
/-! ### constants of the written part -/
section
variable (K : PySem.W.Frag)
mutual
def relD : D → Value → Bool
  | .non, .none => true
  | .bl b, .bool c => b == c
  | .int i, .int j _ => decide (i = j)
  | .str s, .str z _ => decide (z = S2 s)
  | .ktp ds, .ref a => match K.lookup a with
    | some { cls := .type c, data := .seq its _, .. } => decide (c = "tuple") && decide (its.size ≤ sizeLine) && relDL ds its.toList
    | _ => false
  | _, _ => false
def relDL : List D → List Value → Bool
  | [], [] => true
  | d :: ds, u :: us => relD d u && relDL ds us
  | _, _ => false
end
mutual
theorem relD_ok : ∀ (d : D) (u : Value), relD K d u = true → ∃ v, RelV v u ∧ RepK K d v
  | .non, u, h => by
    cases u with
    | none => exact ⟨.non, rfl, rfl⟩
    | _ => simp [relD] at h
  | .bl b, u, h => by
    cases u with
    | bool c =>
      rw [relD] at h
      have : b = c := by simpa using h
      subst this
      exact ⟨.bl b, rfl, rfl⟩
    | _ => simp [relD] at h
  | .int i, u, h => by
    cases u with
    | int j t =>
      rw [relD] at h
      have : i = j := by simpa using h
      subst this
      exact ⟨.int i, ⟨t, rfl⟩, rfl⟩
    | _ => simp [relD] at h
  | .str s, u, h => by
    cases u with
    | str z t =>
      rw [relD] at h
      have : z = S2 s := by simpa using h
      subst this
      exact ⟨.str (S2 s), ⟨t, rfl⟩, rfl⟩
    | _ => simp [relD] at h
  | .ktp ds, u, h => by
    cases u with
    | ref a =>
      rw [relD] at h
      split at h
      · rename_i c dd its n sl e
        simp only [Bool.and_eq_true, decide_eq_true_eq] at h
        obtain ⟨⟨h1, h2⟩, h3⟩ := h
        obtain ⟨vs, q1, q2⟩ := relDL_ok ds its.toList h3
        exact ⟨.ref a, rfl, a, vs, rfl, ⟨_, its, n, e, by rw [h1], rfl, h2, q1⟩, q2⟩
      · cases h
    | _ => simp [relD] at h
  | .tup _, u, h => by cases u <;> simp [relD] at h
  | .rol _, u, h => by cases u <;> simp [relD] at h
  | .loc _, u, h => by cases u <;> simp [relD] at h
  | .cst _, u, h => by cases u <;> simp [relD] at h
  | .err _ _ _, u, h => by cases u <;> simp [relD] at h
  | .ftup _, u, h => by cases u <;> simp [relD] at h
theorem relDL_ok : ∀ (ds : List D) (us : List Value), relDL K ds us = true → ∃ vs, Vals vs us ∧ RepKL K ds vs
  | [], us, h => by
    cases us with
    | nil => exact ⟨[], .nil, rfl⟩
    | cons _ _ => simp [relDL] at h
  | d :: ds, us, h => by
    cases us with
    | nil => simp [relDL] at h
    | cons u us =>
      rw [relDL, Bool.and_eq_true] at h
      obtain ⟨v, q1, q2⟩ := relD_ok d u h.1
      obtain ⟨vs, q3, q4⟩ := relDL_ok ds us h.2
      exact ⟨v :: vs, .cons q1 q3, v, vs, rfl, q2, q4⟩
end
def entB : List DictEntry → List (PL.Key × D) → Bool
  | [], [] => true
  | e :: es, (.inr s, d) :: kvs => (match e.key with
    | .str z _ => decide (z = S2 s)
    | _ => false) && relD K d e.val && entB es kvs
  | _, _ => false
theorem ent_get : ∀ {es : List DictEntry} {kvs : List (PL.Key × D)}, entB K es kvs = true → ∀ s : Txt, (es.any fun x => x.refKey) = false ∧
    ((look kvs (.inr s) = none ∧ es.find? (fun x => x.key.isStr (S2 s)) = none) ∨ ∃ d e, look kvs (.inr s) = some d ∧ es.find? (fun x => x.key.isStr (S2 s)) = some e ∧ relD K d e.val = true)
  | [], [], _, s => ⟨rfl, .inl ⟨rfl, rfl⟩⟩
  | [], _ :: _, h, _ => by simp [entB] at h
  | _ :: _, [], h, _ => by simp [entB] at h
  | e :: es, (.inl _, _) :: kvs, h, _ => by simp [entB] at h
  | e :: es, (.inr z, d) :: kvs, h, s => by
    simp only [entB, Bool.and_eq_true] at h
    obtain ⟨⟨h1, h2⟩, h3⟩ := h
    obtain ⟨q1, q2⟩ := ent_get h3 s
    have hk : ∃ t, e.key = .str (S2 z) t := by
      generalize e.key = y at h1
      cases y with
      | str w t => exact ⟨t, by rw [show w = S2 z by simpa using h1]⟩
      | _ => cases h1
    obtain ⟨t, hk⟩ := hk
    have r0 : e.refKey = false := by unfold DictEntry.refKey; rw [hk]
    refine ⟨by rw [List.any_cons, r0, q1]; rfl, ?_⟩
    have is : e.key.isStr (S2 s) = (S2 z == S2 s) := by rw [hk]; rfl
    rw [look_cons, List.find?_cons, is]
    by_cases hz : z = s
    · subst hz
      refine .inr ⟨d, e, by rw [if_pos rfl], ?_, h2⟩
      rw [BEq.rfl]
    · have n1 : (S2 z == S2 s) = false := by
        rw [beq_eq_false_iff_ne]; exact fun e => hz (S2_inj.mp e)
      rw [n1, if_neg (fun e => hz (by cases e; rfl))]
      exact q2
def cstB (a : Addr) (kvs : List (PL.Key × D)) : Bool := match K.lookup a with
  | some { data := .dict es _, .. } => entB K es.toList kvs
  | _ => false
theorem cst_at {w : World} {a : Addr} {kvs : List (PL.Key × D)} (hk : ∃ es n, KDict K w a es n) (h : cstB K a kvs = true) : CstAt K w a kvs := by
  refine ⟨hk, fun s => ?_⟩
  unfold cstB at h
  split at h
  · rename_i c dd es n sl e
    obtain ⟨q1, q2⟩ := ent_get K h s
    have hn : PySem.W.nsIn K a (S2 s) = match es.toList.find? (fun x => x.key.isStr (S2 s)) with
      | some e => some (some e.val)
      | none => if (es.toList.any fun x => x.refKey) = true then none else some none := by
      unfold PySem.W.nsIn
      rw [e]
      rfl
    rcases q2 with ⟨a1, a2⟩ | ⟨d, ee, a1, a2, a3⟩
    · left
      refine ⟨a1, ?_⟩
      rw [hn, a2, q1]; rfl
    · right
      obtain ⟨v, b1, b2⟩ := relD_ok K d ee.val a3
      exact ⟨d, ee.val, v, a1, by rw [hn, a2], b1, b2⟩
  · cases h
end
/-! ### classes of errors -/
section
variable (K : PySem.W.Frag)
def oexB (C : Addr) : Bool := (match K.lookup C with
  | some ⟨.type c, _, .cls cd, sl⟩ => decide (c = "type") && (match cd.mro, sl.toList with
    | .ref C' :: bm, [_, _, _, _, some (.builtin n), _] => decide (C' = C) && decide (n = "ValueError.__new__") && cd.hasDict && !cd.hasDel && HandSPX.refsVE bm
    | _, _ => false)
  | _ => false) && decide (PySem.W.findIn K (.ref C) "__setattr__" = some (some (.builtin "object.__setattr__"))) && decide (PySem.W.subIn K (.ref C) (.type "BaseException") = some true) && decide (PySem.W.typeIn K (.ref C) = some (.type "type")) && PySem.W.keepIn K (.ref C)
theorem oexB_ok {C : Addr} (h : oexB K C = true) : OexC K C := by
  unfold oexB at h
  simp only [Bool.and_eq_true, decide_eq_true_eq] at h
  obtain ⟨⟨⟨⟨h1, h2⟩, h3⟩, h4⟩, h5⟩ := h
  refine ⟨?_, h2, h3, h4, h5⟩
  split at h1
  · rename_i c dd cd sl e
    obtain ⟨hc, h1⟩ := Bool.and_eq_true_iff.mp h1
    have hc : c = "type" := of_decide_eq_true hc
    subst hc
    obtain ⟨nm, bs, mro, ns, qn, hd, sn, sb, ab, col, del⟩ := cd
    simp only at h1
    split at h1
    · rename_i C' bm k0 k1 k2 k3 n k5 e1 e2
      clear e2
      rename_i q
      have q : (decide (C' = C) && decide (n = "ValueError.__new__") && hd && !del && HandSPX.refsVE bm) = true := by assumption
      simp only [Bool.and_eq_true, decide_eq_true_eq, Bool.not_eq_true'] at q
      obtain ⟨⟨⟨⟨q1, q2⟩, q3⟩, q4⟩, q5⟩ := q
      subst q1 q2 q3 q4
      obtain ⟨sl⟩ := sl
      simp only at e1
      subst e1
      exact ⟨_, _, _, _, _, _, _, _, _, _, _, _, _, _, _, e, q5⟩
    · cases h1
  · cases h1
end
/-! ### a law's table -/
structure LawT where
  P : Prog
  ds : List DefT
  gS : List (PySem.Str × Txt)
  gC : List PySem.Str
  bl : List PySem.Str
  cs : List ClsT
  hcl : List (PySem.Str × Nat)
  fld : List (PySem.Str × Nat)
def nameOf (l : List (PySem.Str × Nat)) (k : Nat) : PySem.Str := match l.find? fun p => p.2 == k with
  | some p => p.1
  | none => ""
def LawT.stat (L : LawT) : Stat := { N := [], fns := L.ds.map fun d => (d.name, d.id), gS := L.gS, gC := L.gC.zipIdx, bl := L.bl, cls := L.cs.map fun c => (c.name, c.ms, c.ks), hcl := L.hcl, fld := L.fld, hot := false, err := none }
def LawT.fa (L : LawT) : List He.Fa := L.ds.map (fun d => .glo d.name) ++ (L.gC.map .glo ++ (L.gS.map (fun p => .str p.1 (S2 p.2)) ++ (L.bl.map .free ++ L.hcl.map fun p => .glo p.1)))
def DefT.dd (d : DefT) : He.DefD := ⟨(d.name, none), d.name, d.name, defArgs d.st, defBody d.st, defScope d.st, [], []⟩
def ClsT.dd (c : ClsT) : He.DefD := ⟨(c.name, some "__init__"), "__init__", c.qual, defArgs c.st, defBody c.st, defScope c.st, [], []⟩
def LawT.fn (L : LawT) : List He.DefD := L.ds.map DefT.dd ++ L.cs.map ClsT.dd
def keyT : PL.Key → PySem.Str
  | .inr s => S2 s
  | .inl _ => ""
def LawT.ts (L : LawT) : List He.Tab := L.gC.zipIdx.map fun p => (fun K => He.ga K p.1, (L.P.cst p.2).map fun q => keyT q.1)
/-- what is asked of the classes in the written part -/
def LawT.chkC (L : LawT) (K : PySem.W.Frag) : Bool := (L.cs.all fun c => let C := He.ga K c.name
    oexB K C && xfB K C && (c.fs.all fun f => decide (PySem.W.findIn K (.ref C) f = some none)) && (L.fld.all fun p => decide (PySem.W.findIn K (.ref C) p.1 = some none)) &&
    decide (PySem.W.findIn K (.ref C) "__init__" = some (some (.ref (He.ma K C "__init__")))) && decide (PySem.W.typeIn K (.ref (He.ma K C "__init__")) = some (.type "function")) &&
    L.hcl.all fun p => decide (PySem.W.exmOne K (.ref C) (.ref (He.ga K p.1)) = some (c.ms.contains p.2)))
def LawT.chk (L : LawT) (K : PySem.W.Frag) : Bool := (L.gC.zipIdx.all fun p => cstB K (He.ga K p.1) (L.P.cst p.2)) && L.chkC K
/-- what is asked of the tables alone -/
def LawT.okT (L : LawT) : Bool := (L.cs.all fun c => decide (nameOf L.hcl (c.ms.headD 0) = c.name) && decide ((c.name, c.ms.headD 0) ∈ L.hcl) && chkCls c && decide (c.ks.map (nameOf L.fld) = c.fs)) && (L.hcl.all fun p => decide (nameOf L.hcl p.2 = p.1)) && L.fld.all fun p => decide (nameOf L.fld p.2 = p.1)
def LawT.obs (L : LawT) (n : Nat) (g : Addr → Option PySem.Obj) : He.AlT × Bool := (He.obsTG n L.fa L.fn L.ts g, L.chk (He.frG g (He.asD g n)))
def LawT.hook (L : LawT) (n : Nat) : PySem.W.Hook where
  α := He.AlT × Bool
  obs := fun s => L.obs n s.heap.get?
  val := fun w => (He.valT L.fn L.ts w, true)
  says := fun w h => ∃ K, K.In h ∧ He.SaysT L.fa L.fn L.ts w K ∧ L.chk K = true
  of := fun w s h => by
    have h : (He.obsTG n L.fa L.fn L.ts s.heap.get?, L.chk (He.frG s.heap.get? (He.asD s.heap.get? n))) = (He.valT L.fn L.ts w, true) := h
    rw [Prod.mk.injEq] at h
    exact ⟨_, He.frG_in, h.1, h.2⟩
  keeps := fun w h h' ⟨K, q1, q2, q3⟩ k => ⟨K, fun a o e => k a o (q1 a o e), q2, q3⟩
def LawT.gd (L : LawT) (P : Program) (w : World) (K : PySem.W.Frag) : Gb := { P := P, w := w, K := K, C := L.P.cst, cA := fun c => He.ga K (L.gC.getD c ""), clsA := fun k => He.ga K (nameOf L.hcl k), mros := L.cs.map (·.ms), fld := nameOf L.fld }
theorem fa_ok {L : LawT} {K : PySem.W.Frag} (c : He.SaysD L.fa L.fn K) {f : He.Fa} (h : f ∈ L.fa) : He.Fa.ok K f = true := by
  obtain ⟨i, hi, e⟩ := List.mem_iff_getElem.mp h
  exact c.fact i (by rw [List.getElem?_eq_getElem hi, e])
theorem glob_of {L : LawT} {P : Program} {w : World} {K : PySem.W.Frag} {h : Heap} {mg : PySem.Str → Option Value} (X : K.In h) (G : h.Ns mainGlobals mg) (c : He.SaysT L.fa L.fn L.ts w K) (hk : L.chk K = true) (hT : L.okT = true)
    (hb : ∀ d ∈ L.ds, ∀ (kV doc pm : Value) (an : Option Addr) (cdv ct : Value) (us : List Value), us.length = d.ps.length → bindArgs (PySem.W.fnOf d.name d.name (defArgs d.st) (defBody d.st) (defScope d.st) .none kV doc pm an cdv ct) { pos := us } = pure (d.ps.zip us))
    (hb2 : ∀ c ∈ L.cs, ∀ (kV doc pm : Value) (an : Option Addr) (cdv ct : Value) (us : List Value), us.length = c.ps.length → bindArgs (PySem.W.fnOf "__init__" c.qual (defArgs c.st) (defBody c.st) (defScope c.st) .none kV doc pm an cdv ct) { pos := us } = pure (c.ps.zip us)) :
    Glob L.stat (L.gd P w K) mg L.ds L.cs := by
  obtain ⟨hk1, hk2⟩ := Bool.and_eq_true_iff.mp hk
  unfold LawT.okT at hT
  rw [Bool.and_eq_true, Bool.and_eq_true] at hT
  obtain ⟨⟨t1, t2⟩, t3⟩ := hT
  have glo : ∀ {x : PySem.Str}, He.Fa.glo x ∈ L.fa → mg x = some (.ref (He.ga K x)) := fun hm => He.glo_ok X G (fa_ok c.d hm)
  have T1 : ∀ q ∈ L.cs, nameOf L.hcl (q.ms.headD 0) = q.name ∧ (q.name, q.ms.headD 0) ∈ L.hcl ∧ chkCls q = true ∧ q.ks.map (nameOf L.fld) = q.fs := fun q hq => by
    have := List.all_eq_true.mp t1 q hq
    simp only [Bool.and_eq_true, decide_eq_true_eq] at this
    exact ⟨this.1.1.1, this.1.1.2, this.1.2, this.2⟩
  have T2 : ∀ p ∈ L.hcl, nameOf L.hcl p.2 = p.1 := fun p hp => of_decide_eq_true (List.all_eq_true.mp t2 p hp)
  have T3 : ∀ p ∈ L.fld, nameOf L.fld p.2 = p.1 := fun p hp => of_decide_eq_true (List.all_eq_true.mp t3 p hp)
  have hgl : ∀ p ∈ L.hcl, mg p.1 = some (.ref (He.ga K p.1)) := fun p hp => glo (by
    refine List.mem_append_right _ (List.mem_append_right _ (List.mem_append_right _ (List.mem_append_right _ ?_)))
    exact List.mem_map.mpr ⟨p, hp, rfl⟩)
  have CK : ∀ q ∈ L.cs, OexC K (He.ga K q.name) ∧ XfC K (He.ga K q.name) ∧ (∀ f ∈ q.fs, PySem.W.findIn K (.ref (He.ga K q.name)) f = some none) ∧ (∀ p ∈ L.fld, PySem.W.findIn K (.ref (He.ga K q.name)) p.1 = some none) ∧
      PySem.W.findIn K (.ref (He.ga K q.name)) "__init__" = some (some (.ref (He.ma K (He.ga K q.name) "__init__"))) ∧ PySem.W.typeIn K (.ref (He.ma K (He.ga K q.name) "__init__")) = some (.type "function") ∧
      ∀ p ∈ L.hcl, PySem.W.exmOne K (.ref (He.ga K q.name)) (.ref (He.ga K p.1)) = some (q.ms.contains p.2) := fun q hq => by
    have := List.all_eq_true.mp hk2 q hq
    simp only [Bool.and_eq_true, decide_eq_true_eq, List.all_eq_true] at this
    obtain ⟨⟨⟨⟨⟨⟨h1, h2⟩, h3⟩, h4⟩, h5⟩, h6⟩, h7⟩ := this
    exact ⟨oexB_ok K h1, xfB_ok h2, h3, h4, h5, h6, h7⟩
  have mr : ∀ ms ∈ (L.gd P w K).mros, ∃ q ∈ L.cs, q.ms = ms ∧ (L.gd P w K).clsA (ms.headD 0) = He.ga K q.name := fun ms hm => by
    obtain ⟨q, hq, rfl⟩ := List.mem_map.mp hm
    exact ⟨q, hq, rfl, by show He.ga K (nameOf L.hcl _) = _; rw [(T1 q hq).1]⟩
  exact {
  cold := ⟨rfl, rfl⟩
  mgS := fun x s hm => He.str_ok X G (fa_ok c.d (by
    refine List.mem_append_right _ (List.mem_append_right _ (List.mem_append_left _ ?_))
    exact List.mem_map.mpr ⟨(x, s), hm, rfl⟩))
  mgC := fun x i hm => by
    have hm : (x, i) ∈ L.gC.zipIdx := hm
    have hx : L.gC.getD i "" = x := by
      have := List.mem_zipIdx_iff_getElem?.mp hm
      rw [List.getD_eq_getElem?_getD, this]; rfl
    have hx' : x ∈ L.gC := List.fst_mem_of_mem_zipIdx hm
    refine ⟨?_, ?_⟩
    · show mg x = some (.ref (He.ga K (L.gC.getD i "")))
      rw [hx]
      exact glo (List.mem_append_right _ (List.mem_append_left _ (List.mem_map.mpr ⟨x, hx', rfl⟩)))
    · show CstAt K w (He.ga K (L.gC.getD i "")) (L.P.cst i)
      rw [hx]
      refine cst_at K ?_ ?_
      · obtain ⟨j, hj, e⟩ := List.mem_iff_getElem.mp hm
        exact c.tab j (t := (fun K => He.ga K x, (L.P.cst i).map fun q => keyT q.1)) (by
          show (L.gC.zipIdx.map _)[j]? = _
          rw [List.getElem?_map, List.getElem?_eq_getElem hj, e]; rfl)
      · exact List.all_eq_true.mp hk1 (x, i) hm
  mgB := fun x hm => He.free_ok X G (fa_ok c.d (List.mem_append_right _ (List.mem_append_right _ (List.mem_append_right _ (List.mem_append_left _ (List.mem_map.mpr ⟨x, hm, rfl⟩))))))
  fns := fun x f hm => by
    obtain ⟨d, hd, e⟩ := List.mem_map.mp hm
    cases e
    exact ⟨d, hd, rfl, rfl⟩
  def_ := fun d hd => by
    obtain ⟨i, hi, e⟩ := List.mem_iff_getElem.mp hd
    obtain ⟨fd, F⟩ := c.d.def_ i (d := d.dd) (by
      show (L.ds.map DefT.dd ++ L.cs.map ClsT.dd)[i]? = _
      rw [List.getElem?_append_left (by rw [List.length_map]; exact hi), List.getElem?_map, List.getElem?_eq_getElem hi, e]; rfl)
    refine ⟨He.ga K d.name, fd, glo (List.mem_append_left _ (List.mem_map.mpr ⟨d, hd, rfl⟩)), F⟩
  bnd := hb
  cls := fun x ms ks hm => by
    obtain ⟨q, hq, e⟩ := List.mem_map.mp hm
    cases e
    exact ⟨q, hq, rfl, rfl, rfl⟩
  clsH := fun q hq => by
    obtain ⟨n1, n2, n3, n4⟩ := T1 q hq
    obtain ⟨k1, k2, k3, k4, k5, k6, k7⟩ := CK q hq
    have eC : (L.gd P w K).clsA (q.ms.headD 0) = He.ga K q.name := by show He.ga K (nameOf L.hcl _) = _; rw [n1]
    refine ⟨⟨?_, List.mem_map.mpr ⟨q, hq, rfl⟩, ?_, n4, ?_, ?_, hb2 q hq⟩, n3⟩
    · rw [eC]; exact hgl _ n2
    · rw [eC]; exact k1
    · rw [eC]; exact k3
    · rw [eC]
      obtain ⟨i, hi, e⟩ := List.mem_iff_getElem.mp hq
      obtain ⟨fd, F⟩ := c.d.def_ (L.ds.length + i) (d := q.dd) (by
        show (L.ds.map DefT.dd ++ L.cs.map ClsT.dd)[L.ds.length + i]? = _
        rw [List.getElem?_append_right (by rw [List.length_map]; omega), List.length_map, Nat.add_sub_cancel_left, List.getElem?_map, List.getElem?_eq_getElem hi, e]; rfl)
      exact ⟨He.ma K (He.ga K q.name) "__init__", fd, k5, k6, F⟩
  hcl := fun x k hm => by
    have e : nameOf L.hcl k = x := T2 (x, k) hm
    refine ⟨by show mg x = some (.ref (He.ga K (nameOf L.hcl k))); rw [e]; exact hgl _ hm, fun ms hms => ?_⟩
    obtain ⟨q, hq, rfl, e2⟩ := mr ms hms
    rw [e2]
    show PySem.W.exmOne K (.ref (He.ga K q.name)) (.ref (He.ga K (nameOf L.hcl k))) = _
    rw [e]
    exact (CK q hq).2.2.2.2.2.2 (x, k) hm
  fld := fun f k hm => by
    refine ⟨T3 (f, k) hm, fun ms hms => ?_⟩
    obtain ⟨q, hq, rfl, e2⟩ := mr ms hms
    rw [e2]
    exact (CK q hq).2.2.2.1 (f, k) hm
  xfc := fun ms hms => by
    obtain ⟨q, hq, rfl, e2⟩ := mr ms hms
    rw [e2]
    exact (CK q hq).2.1 }
/-- a script, as Mini takes it -/
def scriptD (ns : List Int) : D := .rol (ns.map .int)
theorem ints_rep {g : Gb} {ι : List Addr} {H : Hp} : ∀ ns : List Int, RepL g ι H (ns.map .int) (ns.map V.int)
  | [] => rfl
  | n :: ns => ⟨_, _, rfl, rfl, ints_rep ns⟩
theorem dataL_ints : ∀ ns : List Int, D.dataL (ns.map .int) = true
  | [] => rfl
  | n :: ns => by rw [List.map_cons, D.dataL, dataL_ints ns]; rfl
theorem law_sp {g : Gb} {cf : CF} {f n : Nat} (hit : ∀ ns : List Int, ns.length ≤ n → ∃ μ, cf f [scriptD ns] [] = .ok (.bl true) μ) {H : Hp} {a : Addr} {ns : List Int} (hl : ns.length ≤ n) (ho : Only H) (hs : SqL g.K H a (ns.map V.int)) :
    spF g cf f 1 [.ref a] H (fun v _ => v = .bl true) (fun _ _ _ => False) := by
  obtain ⟨μ, e⟩ := hit ns hl
  refine ⟨rfl, [], [], [scriptD ns], ⟨List.nodup_nil, rfl, fun l o a h1 _ => by simp at h1⟩, ⟨_, _, rfl, ⟨a, _, rfl, ?_, ints_rep ns⟩, rfl⟩, ?_⟩
  · rcases hs with h | h
    · rcases ho a with h0 | ⟨o, xs, h0⟩
      · rcases h with h | ⟨o, h⟩ <;> rw [h0] at h <;> cases h
      · rcases h with h | ⟨o', h⟩
        · rw [h0] at h; cases h
        · exact .inl ⟨o', h, by simp⟩
    · exact .inr h
  · rw [e]
    exact fun ι' H' v _ _ r => r
theorem cx_no {P : Program} {w : World} (H : Hp) (s : Shared) (e : Value) (s' : Shared) (h : L2.CX P w [] H s (fun _ _ _ => False) e s') : False := by
  obtain ⟨_, _, _, _, _, _, _, _, _, _, _, _, h⟩ := h
  exact h
/-- the walk of a law whose def is d -/
theorem law_walk {L : LawT} {l : PySem.W.OpenLaw} {n m k M : Nat} {q : Program} {loose : List PySem.Str} {XP : (PySem.Str → Option Value) → Heap → Prop} {rec : DefRec} {x : PySem.Str} (d : DefT)
    (hn : l.most = some n) (hn2 : n ≤ sizeLine) (hdf : rec.params.defaults = []) (hr : Room (k + 2) callerA) (hd : d ∈ L.ds) (hname : rec.name = d.name) (hps : d.ps = [x])
    (hc : ∀ d ∈ L.ds, chkDef L.stat L.P d = true)
    (hb : ∀ d ∈ L.ds, ∀ (kV doc pm : Value) (an : Option Addr) (cdv ct : Value) (us : List Value), us.length = d.ps.length → bindArgs (PySem.W.fnOf d.name d.name (defArgs d.st) (defBody d.st) (defScope d.st) .none kV doc pm an cdv ct) { pos := us } = pure (d.ps.zip us))
    (hb2 : ∀ c ∈ L.cs, ∀ (kV doc pm : Value) (an : Option Addr) (cdv ct : Value) (us : List Value), us.length = c.ps.length → bindArgs (PySem.W.fnOf "__init__" c.qual (defArgs c.st) (defBody c.st) (defScope c.st) .none kV doc pm an cdv ct) { pos := us } = pure (c.ps.zip us)) (hT : L.okT = true)
    (hit : ∀ ns : List Int, ns.length ≤ n → ∃ μ, callF L.P M k d.id [scriptD ns] [] = .ok (.bl true) μ) :
    PySem.W.WalkO q loose XP (L.hook m).says l.row.toRowW rec [] fun f vs => call f vs := by
  intro w s₀ s₁ mg mb Gr Y
  refine (L2.walk_ofE (l := l) (n := n) (k := k + 2) (x := x) (CX := L2.CX l.prog w) (YP := fun w' h => w' = w ∧ (L.hook m).says w' h) (XP := XP) (q := q) (loose := loose) (d := rec) hn hn2 hdf hr ?_ cx_no) w s₀ s₁ mg mb Gr ⟨rfl, Y⟩
  rintro w' mg fa h ⟨rfl, K, KX, c, hk⟩ Y hmg0
  have G := glob_of (P := l.prog) KX Y c hk hT hb hb2
  obtain ⟨a, fd, e, F⟩ := G.def_ d hd
  have ea : fa = a := by
    rw [hname] at hmg0
    have := hmg0.symm.trans e
    cases this; rfl
  subst ea
  refine ⟨K, fd, spF (L.gd l.prog w' K) (callF L.P M k) d.id d.ps.length, KX, fun s u => ?_, fun H a ns hl ho hs => ?_, fun base _ _ => ?_⟩
  · have := FunD.bindsA (ps := d.ps) F (hb d hd) s [u] (by rw [hps]; rfl)
    rw [hps] at this
    exact this
  · rw [hps]
    exact law_sp hit hl ho hs
  · have := fn_all (M := M) G rfl hc k base d hd fa fd e F
    rw [hps] at this ⊢
    exact this
end PL
end
section
set_option autoImplicit false
set_option linter.all false
/-! Ev: rules for evaluating Mini by simp. -/
namespace PL
section
variable (C : Nat → List (Key × D)) (cf : CF) (N : Nat) (ρ : Env) (μ : Store)
def getV (o : Option (Option D)) (μ : Store) : Res D := match o with
  | some (some d) => .ok d μ
  | _ => .stuck
@[simp] theorem getV_some (d : D) : getV (some (some d)) μ = .ok d μ := rfl
@[simp] theorem ev_v (i : Nat) : ev C cf (.v i) ρ μ = getV ρ[i]? μ := rfl
@[simp] theorem bind_ok {α β : Type} (a : α) (μ : Store) (f : α → Store → Res β) : (Res.ok a μ).bind f = f a μ := rfl
@[simp] theorem of_ok {α : Type} (ρ : Env) (a : α) (μ : Store) (f : α → Store → SRes) : SRes.of ρ (.ok a μ) f = f a μ := rfl
@[simp] theorem next_nx (f : Env → Store → SRes) : (SRes.go .nx ρ μ).next f = f ρ μ := rfl
@[simp] theorem next_rt (d : D) (f : Env → Store → SRes) : (SRes.go (.rt d) ρ μ).next f = .go (.rt d) ρ μ := rfl
@[simp] theorem next_bk (f : Env → Store → SRes) : (SRes.go .bk ρ μ).next f = .go .bk ρ μ := rfl
@[simp] theorem next_ct (f : Env → Store → SRes) : (SRes.go .ct ρ μ).next f = .go .ct ρ μ := rfl
@[simp] theorem handed_nx : handed (.go .nx ρ μ) = .ok .non μ := rfl
@[simp] theorem handed_rt (d : D) : handed (.go (.rt d) ρ μ) = .ok d μ := rfl
@[simp] theorem ev_non : ev C cf .non ρ μ = .ok .non μ := rfl
@[simp] theorem ev_bl (b : Bool) : ev C cf (.bl b) ρ μ = .ok (.bl b) μ := rfl
@[simp] theorem ev_int (i : Int) : ev C cf (.int i) ρ μ = .ok (.int i) μ := rfl
@[simp] theorem ev_str (s : Txt) : ev C cf (.str s) ρ μ = .ok (.str s) μ := rfl
@[simp] theorem ev_glS (x : Nat) (s : Txt) : ev C cf (.glS x s) ρ μ = .ok (.str s) μ := rfl
@[simp] theorem ev_glC (x c : Nat) : ev C cf (.glC x c) ρ μ = .ok (.cst c) μ := rfl
@[simp] theorem ev_tup (es : Es) : ev C cf (.tup es) ρ μ = (evs C cf es ρ μ).bind fun ds μ => if ds.length ≤ mostLen then .ok (.tup ds) μ else .stuck := rfl
@[simp] theorem ev_lst (es : Es) : ev C cf (.lst es) ρ μ = (evs C cf es ρ μ).bind fun ds μ => if ds.length ≤ mostLen then new (.lst ds) μ else .stuck := rfl
@[simp] theorem ev_dnK : ev C cf .dnK ρ μ = new (.dK false []) μ := rfl
@[simp] theorem ev_dnT : ev C cf .dnT ρ μ = new (.dT false []) μ := rfl
@[simp] theorem ev_call (f : Nat) (es : Es) : ev C cf (.call f es) ρ μ = (evs C cf es ρ μ).bind fun ds μ => cf f ds μ := rfl
@[simp] theorem ev_bf (b : Bf) (e : E) : ev C cf (.bf b e) ρ μ = (ev C cf e ρ μ).bind fun d μ => bfF b d μ := rfl
@[simp] theorem ev_isi (e : E) (t : Ty) : ev C cf (.isi e t) ρ μ = (ev C cf e ρ μ).bind fun d μ => (isiF d t μ).bind fun b μ => .ok (.bl b) μ := rfl
@[simp] theorem ev_meth (m : Mf) (o : E) (es : Es) : ev C cf (.meth m o es) ρ μ = (ev C cf o ρ μ).bind fun d μ => if mfOk m d μ then (evs C cf es ρ μ).bind fun ds μ => methF C m d ds μ else .stuck := rfl
@[simp] theorem ev_bin (op : Op) (a b : E) : ev C cf (.bin op a b) ρ μ = (ev C cf a ρ μ).bind fun x μ => (ev C cf b ρ μ).bind fun y μ => binF op x y μ := rfl
@[simp] theorem ev_neg (i : Int) : ev C cf (.neg (.int i)) ρ μ = .ok (.int (-i)) μ := rfl
@[simp] theorem ev_cmp (c : Cm) (a b : E) : ev C cf (.cmp c a b) ρ μ = (ev C cf a ρ μ).bind fun x μ => (ev C cf b ρ μ).bind fun y μ => (cmpF C c x y μ).bind fun k μ => .ok (.bl k) μ := rfl
@[simp] theorem ev_chain (c d : Cm) (a b e : E) : ev C cf (.chain c d a b e) ρ μ = (ev C cf a ρ μ).bind fun x μ => (ev C cf b ρ μ).bind fun y μ => (cmpF C c x y μ).bind fun k μ =>
    if k then (ev C cf e ρ μ).bind fun z μ => (cmpF C d y z μ).bind fun k μ => .ok (.bl k) μ else .ok (.bl false) μ := rfl
/-- the second part of and, or: by the first's answer -/
def andF (C : Nat → List (Key × D)) (cf : CF) (b : E) (ρ : Env) (x : D) (μ : Store) : Res D := match x with
  | .bl k => if k then ev C cf b ρ μ else .ok (.bl false) μ
  | _ => .stuck
def orF (C : Nat → List (Key × D)) (cf : CF) (b : E) (ρ : Env) (x : D) (μ : Store) : Res D := match x with
  | .bl k => if k then .ok (.bl true) μ else ev C cf b ρ μ
  | _ => .stuck
def notF (x : D) (μ : Store) : Res D := match x with
  | .bl k => .ok (.bl (!k)) μ
  | _ => .stuck
@[simp] theorem ev_and (a b : E) : ev C cf (.and a b) ρ μ = (ev C cf a ρ μ).bind fun x μ => andF C cf b ρ x μ := rfl
@[simp] theorem ev_or (a b : E) : ev C cf (.or a b) ρ μ = (ev C cf a ρ μ).bind fun x μ => orF C cf b ρ x μ := rfl
@[simp] theorem ev_not (a : E) : ev C cf (.not a) ρ μ = (ev C cf a ρ μ).bind fun x μ => notF x μ := rfl
@[simp] theorem andF_bl (b : E) (k : Bool) : andF C cf b ρ (.bl k) μ = if k then ev C cf b ρ μ else .ok (.bl false) μ := rfl
@[simp] theorem orF_bl (b : E) (k : Bool) : orF C cf b ρ (.bl k) μ = if k then .ok (.bl true) μ else ev C cf b ρ μ := rfl
@[simp] theorem notF_bl (k : Bool) : notF (.bl k) μ = .ok (.bl (!k)) μ := rfl
@[simp] theorem ev_ite (c a b : E) : ev C cf (.ite c a b) ρ μ = (evT C cf c ρ μ).bind fun k μ => if k then ev C cf a ρ μ else ev C cf b ρ μ := rfl
@[simp] theorem ev_ix (a b : E) : ev C cf (.ix a b) ρ μ = (ev C cf a ρ μ).bind fun x μ => (ev C cf b ρ μ).bind fun y μ => ixF C x y μ := rfl
def sl1 (x : D) (y : D) (μ : Store) : Res D := match y with
  | .int i => slF x (some i) none μ
  | _ => .stuck
def sl2 (x : D) (y : D) (μ : Store) : Res D := match y with
  | .int i => slF x none (some i) μ
  | _ => .stuck
@[simp] theorem ev_slL (a lo : E) : ev C cf (.slL a lo) ρ μ = (ev C cf a ρ μ).bind fun x μ => (ev C cf lo ρ μ).bind fun y μ => sl1 x y μ := rfl
@[simp] theorem ev_slU (a hi : E) : ev C cf (.slU a hi) ρ μ = (ev C cf a ρ μ).bind fun x μ => (ev C cf hi ρ μ).bind fun y μ => sl2 x y μ := rfl
@[simp] theorem sl1_int (x : D) (i : Int) : sl1 x (.int i) μ = slF x (some i) none μ := rfl
@[simp] theorem sl2_int (x : D) (i : Int) : sl2 x (.int i) μ = slF x none (some i) μ := rfl
@[simp] theorem ev_comp (t : T) (it : It) (c : Ec) (e : E) (own : List Nat) : ev C cf (.comp t it c e own) ρ μ = (evI C cf it ρ μ).bind fun w μ1 =>
    (compL w μ1.length (fun x μ => (asgT C cf t x (wipeE ρ own) μ).bind fun ρ2 μ => (evC C cf c ρ2 μ).bind fun k μ =>
      if k then (ev C cf e ρ2 μ).bind fun d μ => .ok (some d) μ else .ok none μ) w.items (w.start μ1 ++ [.lst []])).bind fun _ μ2 => .ok (.loc μ1.length) (w.stop μ2) := rfl
@[simp] theorem evs_nil : evs C cf .nil ρ μ = .ok [] μ := rfl
@[simp] theorem evs_cons (e : E) (es : Es) : evs C cf (.cons e es) ρ μ = (ev C cf e ρ μ).bind fun d μ => (evs C cf es ρ μ).bind fun ds μ => .ok (d :: ds) μ := rfl
@[simp] theorem evC_yes : evC C cf .yes ρ μ = .ok true μ := rfl
@[simp] theorem evC_test (e : E) : evC C cf (.test e) ρ μ = evT C cf e ρ μ := rfl
@[simp] theorem evT_and (a b : E) : evT C cf (.and a b) ρ μ = (evT C cf a ρ μ).bind fun k μ => if k then evT C cf b ρ μ else .ok false μ := rfl
@[simp] theorem evT_or (a b : E) : evT C cf (.or a b) ρ μ = (evT C cf a ρ μ).bind fun k μ => if k then .ok true μ else evT C cf b ρ μ := rfl
@[simp] theorem evT_not (a : E) : evT C cf (.not a) ρ μ = (evT C cf a ρ μ).bind fun k μ => .ok (!k) μ := rfl
@[simp] theorem evT_cmp (c : Cm) (a b : E) : evT C cf (.cmp c a b) ρ μ = (ev C cf a ρ μ).bind fun x μ => (ev C cf b ρ μ).bind fun y μ => cmpF C c x y μ := rfl
@[simp] theorem evT_bl (b : Bool) : evT C cf (.bl b) ρ μ = .ok b μ := rfl
@[simp] theorem evT_isi (e : E) (t : Ty) : evT C cf (.isi e t) ρ μ = (ev C cf e ρ μ).bind fun d μ => isiF d t μ := rfl
@[simp] theorem evT_call (f : Nat) (es : Es) : evT C cf (.call f es) ρ μ = ((evs C cf es ρ μ).bind fun ds μ => cf f ds μ).bind truthF := rfl
@[simp] theorem evI_val (e : E) : evI C cf (.val e) ρ μ = (ev C cf e ρ μ).bind fun d μ => okI (walkF d μ) μ := rfl
def rng1 (d : D) (μ : Store) : Res Wk := match d with
  | .int n => rngF 0 n μ
  | _ => .stuck
@[simp] theorem evI_rng (e : E) : evI C cf (.rng e) ρ μ = (ev C cf e ρ μ).bind fun d μ => rng1 d μ := rfl
/-- a walk of a range -/
def rngW (n : Int) : Wk := .row ((List.range n.toNat).map fun (k : Nat) => D.int (k : Int))
theorem rng1_int {n : Int} (h : 0 ≤ n) (h2 : n < 2 ^ 61) : rng1 (.int n) μ = .ok (rngW n) μ := by
  show rngF 0 n μ = _
  unfold rngF rngW
  rw [if_pos (by omega)]
  simp
@[simp] theorem asgT_nm (i : Nat) (d : D) : asgT C cf (.nm i) d ρ μ = .ok (ρ.set i (some d)) μ := rfl
@[simp] theorem asgT_tp (is : List Nat) (d : D) : asgT C cf (.tp is) d ρ μ = unpackF is d ρ μ := rfl
@[simp] theorem asgT_sb (o i : E) (d : D) : asgT C cf (.sb o i) d ρ μ = (ev C cf o ρ μ).bind fun x μ => (ev C cf i ρ μ).bind fun y μ => (setF x y d μ).bind fun _ μ => .ok ρ μ := rfl
@[simp] theorem unpack_2 (i j : Nat) (a b : D) : unpackF [i, j] (.tup [a, b]) ρ μ = .ok ((ρ.set i (some a)).set j (some b)) μ := rfl
@[simp] theorem unpack_3 (i j k : Nat) (a b c : D) : unpackF [i, j, k] (.tup [a, b, c]) ρ μ = .ok (((ρ.set i (some a)).set j (some b)).set k (some c)) μ := rfl
@[simp] theorem unpack_2k (i j : Nat) (a b : D) : unpackF [i, j] (.ktp [a, b]) ρ μ = .ok ((ρ.set i (some a)).set j (some b)) μ := rfl
@[simp] theorem ex_asg (t : T) (e : E) : ex C cf N (.asg t e) ρ μ = SRes.of ρ (ev C cf e ρ μ) fun d μ => SRes.of ρ (asgT C cf t d ρ μ) fun ρ μ => .go .nx ρ μ := rfl
@[simp] theorem ex_ex (e : E) : ex C cf N (.ex e) ρ μ = SRes.of ρ (ev C cf e ρ μ) fun _ μ => .go .nx ρ μ := rfl
@[simp] theorem ex_par (i j : Nat) (a b : E) : ex C cf N (.par i j a b) ρ μ = SRes.of ρ (ev C cf a ρ μ) fun x μ => SRes.of ρ (ev C cf b ρ μ) fun y μ => .go .nx ((ρ.set i (some x)).set j (some y)) μ := rfl
@[simp] theorem ex_ret (e : E) : ex C cf N (.ret e) ρ μ = SRes.of ρ (ev C cf e ρ μ) fun d μ => .go (.rt d) ρ μ := rfl
@[simp] theorem ex_retN : ex C cf N .retN ρ μ = .go (.rt .non) ρ μ := rfl
@[simp] theorem ex_ite (c : E) (a b : Ss) : ex C cf N (.ite c a b) ρ μ = SRes.of ρ (evT C cf c ρ μ) fun k μ => if k then exs C cf N a ρ μ else exs C cf N b ρ μ := rfl
@[simp] theorem ex_whl (c : E) (b : Ss) : ex C cf N (.whl c b) ρ μ = whlL (evT C cf c) (exs C cf N b) N ρ μ := rfl
@[simp] theorem ex_fr (t : T) (it : It) (b : Ss) : ex C cf N (.fr t it b) ρ μ = SRes.of ρ (evI C cf it ρ μ) fun w μ => unlock w (forL w (asgT C cf t) (exs C cf N b) w.items ρ (w.start μ)) := rfl
@[simp] theorem exs_nil : exs C cf N .nil ρ μ = .go .nx ρ μ := rfl
@[simp] theorem exs_cons (s : S) (ss : Ss) : exs C cf N (.cons s ss) ρ μ = (ex C cf N s ρ μ).next fun ρ μ => exs C cf N ss ρ μ := rfl
/-! what operations do, by kinds -/
@[simp] theorem okI_some {α : Type} (a : α) : okI (some a) μ = .ok a μ := rfl
@[simp] theorem add_int (i j : Int) : binF .add (.int i) (.int j) μ = .ok (.int (i + j)) μ := rfl
@[simp] theorem sub_int (i j : Int) : binF .sub (.int i) (.int j) μ = .ok (.int (i - j)) μ := rfl
@[simp] theorem add_str (a b : Txt) : binF .add (.str a) (.str b) μ = if a.length + b.length ≤ mostLen then .ok (.str (a ++ b)) μ else .stuck := rfl
@[simp] theorem add_tup (a b : List D) : binF .add (.tup a) (.tup b) μ = if a.length + b.length ≤ mostLen then .ok (.tup (a ++ b)) μ else .stuck := rfl
@[simp] theorem len_tup (xs : List D) : bfF .len (.tup xs) μ = .ok (.int xs.length) μ := rfl
@[simp] theorem len_str (s : Txt) : bfF .len (.str s) μ = if s.length ≤ mostLen then .ok (.int s.length) μ else .stuck := rfl
@[simp] theorem lt_int (i j : Int) : cmpF C .lt (.int i) (.int j) μ = .ok (decide (i < j)) μ := rfl
@[simp] theorem le_int (i j : Int) : cmpF C .le (.int i) (.int j) μ = .ok (decide (i ≤ j)) μ := rfl
@[simp] theorem gt_int (i j : Int) : cmpF C .gt (.int i) (.int j) μ = .ok (decide (j < i)) μ := rfl
@[simp] theorem ge_int (i j : Int) : cmpF C .ge (.int i) (.int j) μ = .ok (decide (j ≤ i)) μ := rfl
@[simp] theorem eq_int (i j : Int) : cmpF C .eq (.int i) (.int j) μ = .ok (i == j) μ := rfl
@[simp] theorem ne_int (i j : Int) : cmpF C .ne (.int i) (.int j) μ = .ok (!(i == j)) μ := rfl
@[simp] theorem eq_str (i j : Txt) : cmpF C .eq (.str i) (.str j) μ = .ok (i == j) μ := rfl
@[simp] theorem ne_str (i j : Txt) : cmpF C .ne (.str i) (.str j) μ = .ok (!(i == j)) μ := rfl
@[simp] theorem is_non (d : D) : cmpF C .is d .non μ = .ok d.isNon μ := rfl
@[simp] theorem isn_non (d : D) : cmpF C .isn d .non μ = .ok (!d.isNon) μ := rfl
@[simp] theorem isNon_non : D.isNon .non = true := rfl
@[simp] theorem isNon_tup (xs : List D) : D.isNon (.tup xs) = false := rfl
@[simp] theorem ix_tup (xs : List D) (i : Int) : ixF C (.tup xs) (.int i) μ = okI (atIx xs i) μ := rfl
@[simp] theorem ix_str (s : Txt) (i : Int) : ixF C (.str s) (.int i) μ = if s.length ≤ mostLen then okI ((atIx s i).map fun c => D.str [c]) μ else .stuck := rfl
theorem ix_lst {l : Nat} {xs : List D} {i : Int} (h : μ[l]? = some (.lst xs)) : ixF C (.loc l) (.int i) μ = okI (atIx xs i) μ := by
  unfold ixF; simp only [h]
theorem len_lst {l : Nat} {xs : List D} (h : μ[l]? = some (.lst xs)) : bfF .len (.loc l) μ = .ok (.int xs.length) μ := by
  unfold bfF; simp only [h]
@[simp] theorem tuple_tup (xs : List D) : bfF .tuple (.tup xs) μ = .ok (.tup xs) μ := rfl
theorem tuple_lst {l : Nat} {xs : List D} (h : μ[l]? = some (.lst xs)) : bfF .tuple (.loc l) μ = .ok (.tup xs) μ := by
  unfold bfF rowF; simp only [h]
theorem append_lst {l : Nat} {xs : List D} {d : D} (h : μ[l]? = some (.lst xs)) (hl : xs.length < mostLen) : methF C .append (.loc l) [d] μ = .ok .non (μ.set l (.lst (xs ++ [d]))) := by
  unfold methF; simp only [h, if_pos hl]
theorem mfOk_lst {l : Nat} {xs : List D} (h : μ[l]? = some (.lst xs)) : isLstD (.loc l) μ = true := by
  unfold isLstD; simp only [h]
@[simp] theorem mfOk_append (d : D) : mfOk .append d μ = isLstD d μ := rfl
@[simp] theorem mfOk_pop (d : D) : mfOk .pop d μ = isLstD d μ := rfl
@[simp] theorem mfOk_popAt (d : D) : mfOk .popAt d μ = isLstD d μ := rfl
@[simp] theorem mfOk_extend (d : D) : mfOk .extend d μ = isLstD d μ := rfl
@[simp] theorem mfOk_join (s : Txt) : mfOk .join (.str s) μ = true := rfl
@[simp] theorem mfOk_index (s : Txt) : mfOk .index (.str s) μ = true := rfl
@[simp] theorem walk_tup (xs : List D) : walkF (.tup xs) μ = some (.row xs) := rfl
theorem walk_lst {l : Nat} {xs : List D} (h : μ[l]? = some (.lst xs)) : walkF (.loc l) μ = some (.lst l xs) := by
  unfold walkF; simp only [h]
@[simp] theorem items_row (xs : List D) : (Wk.row xs).items = xs := rfl
@[simp] theorem items_lst (l : Nat) (xs : List D) : (Wk.lst l xs).items = xs := rfl
@[simp] theorem start_row (xs : List D) : (Wk.row xs).start μ = μ := rfl
@[simp] theorem start_lst (l : Nat) (xs : List D) : (Wk.lst l xs).start μ = μ := rfl
@[simp] theorem stop_row (xs : List D) : (Wk.row xs).stop μ = μ := rfl
@[simp] theorem stop_lst (l : Nat) (xs : List D) : (Wk.lst l xs).stop μ = μ := rfl
theorem mostLen_eq : mostLen = 1000000 := rfl
end
/-! loops -/
section
variable {w : Wk} {asg : D → Env → Store → Res Env} {body : Env → Store → SRes}
/-- a for that comes to its end: I holds ahead of each turn -/
theorem for_inv {μ0 : Store} {ρ0 : Env} (I : Nat → Env → Store → Prop) (h0 : I 0 ρ0 μ0)
    (st : ∀ i ρ μ, I i ρ μ → w.stands μ)
    (step : ∀ i (x : D) ρ μ, w.items[i]? = some x → I i ρ μ → ∃ ρ1 μ1 ρ2 μ2, asg x ρ μ = .ok ρ1 μ1 ∧ (body ρ1 μ1 = .go .nx ρ2 μ2 ∨ body ρ1 μ1 = .go .ct ρ2 μ2) ∧ I (i + 1) ρ2 μ2) :
    ∃ ρ μ, forL w asg body w.items ρ0 μ0 = .go .nx ρ μ ∧ I w.items.length ρ μ := by
  have key : ∀ n i ρ μ, i + n = w.items.length → I i ρ μ → ∃ ρ' μ', forL w asg body (w.items.drop i) ρ μ = .go .nx ρ' μ' ∧ I w.items.length ρ' μ' := by
    intro n
    induction n with
    | zero =>
      intro i ρ μ hn hI
      have hi : i = w.items.length := by omega
      subst hi
      refine ⟨ρ, μ, ?_, hI⟩
      rw [List.drop_eq_nil_of_le (Nat.le_refl _)]
      show (if w.stands μ then SRes.go .nx ρ μ else .stuck) = _
      rw [if_pos (st _ ρ μ hI)]
    | succ n ih =>
      intro i ρ μ hn hI
      have hi : i < w.items.length := by omega
      obtain ⟨ρ1, μ1, ρ2, μ2, e1, e2, h2⟩ := step i _ ρ μ (List.getElem?_eq_getElem hi) hI
      obtain ⟨ρ', μ', e3, h3⟩ := ih (i + 1) ρ2 μ2 (by omega) h2
      refine ⟨ρ', μ', ?_, h3⟩
      rw [List.drop_eq_getElem_cons hi]
      show (if w.stands μ then SRes.of ρ (asg w.items[i] ρ μ) fun ρ' μ' => match body ρ' μ' with
        | .go .nx ρ2 μ2 => forL w asg body (w.items.drop (i + 1)) ρ2 μ2
        | .go .ct ρ2 μ2 => forL w asg body (w.items.drop (i + 1)) ρ2 μ2
        | .go .bk ρ2 μ2 => .go .nx ρ2 μ2
        | r => r
        else .stuck) = _
      rw [if_pos (st _ ρ μ hI), e1, of_ok]
      rcases e2 with e2 | e2 <;> rw [e2] <;> exact e3
  have := key w.items.length 0 ρ0 μ0 (by omega) h0
  simpa using this
/-- a comprehension that comes to its end -/
theorem comp_inv {l : Nat} {turn : D → Store → Res (Option D)} {μ0 : Store} (I : Nat → Store → Prop) (h0 : I 0 μ0)
    (st : ∀ i μ, I i μ → w.stands μ)
    (step : ∀ i (x : D) μ, w.items[i]? = some x → I i μ → (∃ μ1, turn x μ = .ok none μ1 ∧ I (i + 1) μ1) ∨ ∃ d μ1 acc, turn x μ = .ok (some d) μ1 ∧ μ1[l]? = some (.lst acc) ∧ acc.length < mostLen ∧ I (i + 1) (μ1.set l (.lst (acc ++ [d])))) :
    ∃ μ, compL w l turn w.items μ0 = .ok () μ ∧ I w.items.length μ := by
  have key : ∀ n i μ, i + n = w.items.length → I i μ → ∃ μ', compL w l turn (w.items.drop i) μ = .ok () μ' ∧ I w.items.length μ' := by
    intro n
    induction n with
    | zero =>
      intro i μ hn hI
      have hi : i = w.items.length := by omega
      subst hi
      refine ⟨μ, ?_, hI⟩
      rw [List.drop_eq_nil_of_le (Nat.le_refl _)]
      show (if w.stands μ then Res.ok () μ else .stuck) = _
      rw [if_pos (st _ μ hI)]
    | succ n ih =>
      intro i μ hn hI
      have hi : i < w.items.length := by omega
      rw [List.drop_eq_getElem_cons hi]
      have un : compL w l turn (w.items[i] :: w.items.drop (i + 1)) μ = if w.stands μ then match turn w.items[i] μ with
        | .ok none μ' => compL w l turn (w.items.drop (i + 1)) μ'
        | .ok (some d) μ' => match μ'[l]? with
          | some (.lst acc) => if acc.length < mostLen then compL w l turn (w.items.drop (i + 1)) (μ'.set l (.lst (acc ++ [d]))) else .stuck
          | _ => .stuck
        | _ => .stuck
        else .stuck := rfl
      rw [un, if_pos (st _ μ hI)]
      rcases step i _ μ (List.getElem?_eq_getElem hi) hI with ⟨μ1, e1, h1⟩ | ⟨d, μ1, acc, e1, e2, e3, h1⟩
      · obtain ⟨μ', e4, h4⟩ := ih (i + 1) μ1 (by omega) h1
        exact ⟨μ', by rw [e1]; exact e4, h4⟩
      · obtain ⟨μ', e4, h4⟩ := ih (i + 1) _ (by omega) h1
        refine ⟨μ', ?_, h4⟩
        rw [e1]
        simp only [e2]
        rw [if_pos e3]
        exact e4
  have := key w.items.length 0 μ0 (by omega) h0
  simpa using this
end
end PL
end
section
set_option autoImplicit false
set_option linter.all false
/-! Wp: what holds where an evaluation comes to its end. -/
namespace PL
def okR {α : Type} (r : Res α) (Q : α → Store → Prop) : Prop := match r with
  | .ok a μ => Q a μ
  | _ => False
def okS (r : SRes) (Q : Flow → Env → Store → Prop) : Prop := match r with
  | .go f ρ μ => Q f ρ μ
  | _ => False
theorem okR_mono {α : Type} {r : Res α} {Q Q' : α → Store → Prop} (h : okR r Q) (i : ∀ a μ, Q a μ → Q' a μ) : okR r Q' := by
  cases r with
  | ok a μ => exact i a μ h
  | _ => exact h
theorem okS_mono {r : SRes} {Q Q' : Flow → Env → Store → Prop} (h : okS r Q) (i : ∀ f ρ μ, Q f ρ μ → Q' f ρ μ) : okS r Q' := by
  cases r with
  | go f ρ μ => exact i f ρ μ h
  | _ => exact h
theorem okR_ex {α : Type} {r : Res α} {Q : α → Store → Prop} : okR r Q ↔ ∃ a μ, r = .ok a μ ∧ Q a μ := by
  cases r with
  | ok a μ => exact ⟨fun h => ⟨a, μ, rfl, h⟩, fun ⟨_, _, e, h⟩ => by cases e; exact h⟩
  | exc x μ => exact ⟨fun h => h.elim, fun ⟨_, _, e, _⟩ => by cases e⟩
  | stuck => exact ⟨fun h => h.elim, fun ⟨_, _, e, _⟩ => by cases e⟩
theorem okS_ex {r : SRes} {Q : Flow → Env → Store → Prop} : okS r Q ↔ ∃ f ρ μ, r = .go f ρ μ ∧ Q f ρ μ := by
  cases r with
  | go f ρ μ => exact ⟨fun h => ⟨f, ρ, μ, rfl, h⟩, fun ⟨_, _, _, e, h⟩ => by cases e; exact h⟩
  | exc x ρ μ => exact ⟨fun h => h.elim, fun ⟨_, _, _, e, _⟩ => by cases e⟩
  | stuck => exact ⟨fun h => h.elim, fun ⟨_, _, _, e, _⟩ => by cases e⟩
@[simp] theorem okR_ok {α : Type} (a : α) (μ : Store) (Q : α → Store → Prop) : okR (.ok a μ) Q = Q a μ := rfl
@[simp] theorem okS_go (f : Flow) (ρ : Env) (μ : Store) (Q : Flow → Env → Store → Prop) : okS (.go f ρ μ) Q = Q f ρ μ := rfl
@[simp] theorem okR_bind {α β : Type} (r : Res α) (f : α → Store → Res β) (Q : β → Store → Prop) : okR (r.bind f) Q = okR r fun a μ => okR (f a μ) Q := by
  cases r <;> rfl
@[simp] theorem okS_of {α : Type} (ρ : Env) (r : Res α) (f : α → Store → SRes) (Q : Flow → Env → Store → Prop) : okS (SRes.of ρ r f) Q = okR r fun a μ => okS (f a μ) Q := by
  cases r <;> rfl
/-- what is asked behind a statement that others follow -/
def thenS (f : Env → Store → SRes) (Q : Flow → Env → Store → Prop) : Flow → Env → Store → Prop := fun fl ρ μ => match fl with
  | .nx => okS (f ρ μ) Q
  | fl => Q fl ρ μ
@[simp] theorem okS_next (r : SRes) (f : Env → Store → SRes) (Q : Flow → Env → Store → Prop) : okS (r.next f) Q = okS r (thenS f Q) := by
  cases r with
  | go fl ρ μ => cases fl <;> rfl
  | _ => rfl
@[simp] theorem thenS_nx (f : Env → Store → SRes) (Q : Flow → Env → Store → Prop) (ρ : Env) (μ : Store) : thenS f Q .nx ρ μ = okS (f ρ μ) Q := rfl
@[simp] theorem thenS_rt (f : Env → Store → SRes) (Q : Flow → Env → Store → Prop) (d : D) (ρ : Env) (μ : Store) : thenS f Q (.rt d) ρ μ = Q (.rt d) ρ μ := rfl
@[simp] theorem thenS_bk (f : Env → Store → SRes) (Q : Flow → Env → Store → Prop) (ρ : Env) (μ : Store) : thenS f Q .bk ρ μ = Q .bk ρ μ := rfl
@[simp] theorem thenS_ct (f : Env → Store → SRes) (Q : Flow → Env → Store → Prop) (ρ : Env) (μ : Store) : thenS f Q .ct ρ μ = Q .ct ρ μ := rfl
def handQ (Q : D → Store → Prop) : Flow → Env → Store → Prop := fun fl _ μ => match fl with
  | .nx => Q .non μ
  | .rt d => Q d μ
  | _ => False
@[simp] theorem okR_handed (r : SRes) (Q : D → Store → Prop) : okR (handed r) Q = okS r (handQ Q) := by
  cases r with
  | go fl ρ μ => cases fl <;> rfl
  | _ => rfl
@[simp] theorem handQ_nx (Q : D → Store → Prop) (ρ : Env) (μ : Store) : handQ Q .nx ρ μ = Q .non μ := rfl
@[simp] theorem handQ_rt (Q : D → Store → Prop) (d : D) (ρ : Env) (μ : Store) : handQ Q (.rt d) ρ μ = Q d μ := rfl
def goS (Q : Env → Store → Prop) : Flow → Env → Store → Prop := fun fl ρ μ => match fl with
  | .nx => Q ρ μ
  | .ct => Q ρ μ
  | _ => False
@[simp] theorem goS_nx (Q : Env → Store → Prop) (ρ : Env) (μ : Store) : goS Q .nx ρ μ = Q ρ μ := rfl
@[simp] theorem goS_ct (Q : Env → Store → Prop) (ρ : Env) (μ : Store) : goS Q .ct ρ μ = Q ρ μ := rfl
@[simp] theorem goS_rt (Q : Env → Store → Prop) (d : D) (ρ : Env) (μ : Store) : goS Q (.rt d) ρ μ = False := rfl
@[simp] theorem goS_bk (Q : Env → Store → Prop) (ρ : Env) (μ : Store) : goS Q .bk ρ μ = False := rfl
theorem okS_ite {c : Prop} [Decidable c] {a b : SRes} {Q : Flow → Env → Store → Prop} : okS (if c then a else b) Q ↔ (c → okS a Q) ∧ (¬ c → okS b Q) := by
  split <;> simp [*]
theorem okR_ite {α : Type} {c : Prop} [Decidable c] {a b : Res α} {Q : α → Store → Prop} : okR (if c then a else b) Q ↔ (c → okR a Q) ∧ (¬ c → okR b Q) := by
  split <;> simp [*]
section
variable {w : Wk} {asg : D → Env → Store → Res Env} {body : Env → Store → SRes}
/-- a for, its invariant -/
theorem for_wp {μ0 : Store} {ρ0 : Env} {xs : List D} (I : Nat → Env → Store → Prop) (hx : w.items = xs) (h0 : I 0 ρ0 μ0) (st : ∀ i ρ μ, I i ρ μ → w.stands μ)
    (step : ∀ i (x : D) ρ μ, xs[i]? = some x → I i ρ μ → okR (asg x ρ μ) fun ρ1 μ1 => okS (body ρ1 μ1) (goS (I (i + 1))))
    {Q : Flow → Env → Store → Prop} (hQ : ∀ ρ μ, I xs.length ρ μ → Q .nx ρ μ) : okS (forL w asg body xs ρ0 μ0) Q := by
  subst hx
  obtain ⟨ρ, μ, e, h⟩ := for_inv I h0 st fun i x ρ μ hx hI => by
    obtain ⟨ρ1, μ1, e1, h1⟩ := okR_ex.mp (step i x ρ μ hx hI)
    obtain ⟨f, ρ2, μ2, e2, h2⟩ := okS_ex.mp h1
    cases f with
    | nx => exact ⟨ρ1, μ1, ρ2, μ2, e1, .inl e2, h2⟩
    | ct => exact ⟨ρ1, μ1, ρ2, μ2, e1, .inr e2, h2⟩
    | _ => exact False.elim h2
  rw [e]
  exact hQ ρ μ h
theorem comp_wp {l : Nat} {turn : D → Store → Res (Option D)} {μ0 : Store} {xs : List D} (I : Nat → Store → Prop) (hx : w.items = xs) (h0 : I 0 μ0) (st : ∀ i μ, I i μ → w.stands μ)
    (step : ∀ i (x : D) μ, xs[i]? = some x → I i μ → okR (turn x μ) fun o μ1 => match o with
      | none => I (i + 1) μ1
      | some d => ∃ acc, μ1[l]? = some (.lst acc) ∧ acc.length < mostLen ∧ I (i + 1) (μ1.set l (.lst (acc ++ [d]))))
    {Q : Unit → Store → Prop} (hQ : ∀ μ, I xs.length μ → Q () μ) : okR (compL w l turn xs μ0) Q := by
  subst hx
  obtain ⟨μ, e, h⟩ := comp_inv (l := l) I h0 st fun i x μ hx hI => by
    obtain ⟨o, μ1, e1, h1⟩ := okR_ex.mp (step i x μ hx hI)
    cases o with
    | none => exact .inl ⟨μ1, e1, h1⟩
    | some d =>
      obtain ⟨acc, h2, h3, h4⟩ := h1
      exact .inr ⟨d, μ1, acc, e1, h2, h3, h4⟩
  rw [e]
  exact hQ μ h
end
/-- a while, by a measure -/
theorem whl_wp {test : Env → Store → Res Bool} {body : Env → Store → SRes} (I : Nat → Env → Store → Prop) {Q : Flow → Env → Store → Prop}
    (step : ∀ n ρ μ, I n ρ μ → okR (test ρ μ) fun b μ1 => if b then okS (body ρ μ1) fun f ρ2 μ2 => match f with
      | .nx => ∃ m, m < n ∧ I m ρ2 μ2
      | .ct => ∃ m, m < n ∧ I m ρ2 μ2
      | .bk => Q .nx ρ2 μ2
      | .rt d => Q (.rt d) ρ2 μ2 else Q .nx ρ μ1) : ∀ (N n : Nat) (ρ : Env) (μ : Store), n < N → I n ρ μ → okS (whlL test body N ρ μ) Q := by
  intro N
  induction N with
  | zero => intro n ρ μ h; omega
  | succ N ih =>
    intro n ρ μ hn hI
    have un : whlL test body (N + 1) ρ μ = SRes.of ρ (test ρ μ) fun b μ' => if b then match body ρ μ' with
      | .go .nx ρ2 μ2 => whlL test body N ρ2 μ2
      | .go .ct ρ2 μ2 => whlL test body N ρ2 μ2
      | .go .bk ρ2 μ2 => .go .nx ρ2 μ2
      | r => r
      else .go .nx ρ μ' := rfl
    rw [un, okS_of]
    refine okR_mono (step n ρ μ hI) fun b μ1 h => ?_
    cases b with
    | false => exact h
    | true =>
      have h : okS (body ρ μ1) _ := h
      rw [if_pos rfl]
      cases e : body ρ μ1 with
      | stuck => rw [e] at h; exact h
      | exc x ρ2 μ2 => rw [e] at h; exact h
      | go f ρ2 μ2 =>
        rw [e] at h
        cases f with
        | nx => obtain ⟨m, h1, h2⟩ := h; exact ih m ρ2 μ2 (by omega) h2
        | ct => obtain ⟨m, h1, h2⟩ := h; exact ih m ρ2 μ2 (by omega) h2
        | bk => exact h
        | rt d => exact h
/-- a for over a list of Lean, whose body adds to a list of the store -/
theorem for_fm {α : Type} {w : Wk} {asg : D → Env → Store → Res Env} {body : Env → Store → SRes} {ρ0 : Env} {xs : List D} (L : List α) (e : α → D) (h : α → List D) (R : Env → Prop) (σ : List D → Store) {acc0 : List D} {μ0 : Store}
    (hx : w.items = xs) (hL : xs = L.map e) (hμ : μ0 = σ acc0) (h0 : R ρ0) (st : ∀ acc, w.stands (σ acc))
    (step : ∀ a ∈ L, ∀ ρ acc, R ρ → acc.length + (h a).length ≤ acc0.length + (L.flatMap h).length → okR (asg (e a) ρ (σ acc)) fun ρ1 μ1 => okS (body ρ1 μ1) (goS fun ρ2 μ2 => R ρ2 ∧ μ2 = σ (acc ++ h a)))
    {Q : Flow → Env → Store → Prop} (hQ : ∀ ρ, R ρ → Q .nx ρ (σ (acc0 ++ L.flatMap h))) : okS (forL w asg body xs ρ0 μ0) Q := by
  subst hμ
  refine for_wp (fun i ρ μ => R ρ ∧ μ = σ (acc0 ++ (L.take i).flatMap h)) hx ⟨h0, by simp⟩ (fun i ρ μ hI => by rw [hI.2]; exact st _) ?_ ?_
  · rintro i x ρ μ hx' ⟨hR, rfl⟩
    rw [hL, List.getElem?_map] at hx'
    cases ea : L[i]? with
    | none => rw [ea] at hx'; cases hx'
    | some a =>
      rw [ea] at hx'
      have : e a = x := Option.some.inj hx'
      subst this
      have ht : L.take (i + 1) = L.take i ++ [a] := by rw [List.take_add_one, ea]; rfl
      have hm : a ∈ L := List.mem_of_getElem? ea
      have hb : (acc0 ++ (L.take i).flatMap h).length + (h a).length ≤ acc0.length + (L.flatMap h).length := by
        have h1 : (L.take (i + 1)).flatMap h = (L.take i).flatMap h ++ h a := by rw [ht, List.flatMap_append]; simp
        have h2 : (L.flatMap h).length = ((L.take (i + 1)).flatMap h).length + ((L.drop (i + 1)).flatMap h).length := by
          rw [← List.length_append, ← List.flatMap_append, List.take_append_drop]
        rw [h2, h1, List.length_append, List.length_append]
        omega
      refine okR_mono (step a hm ρ _ hR hb) fun ρ1 μ1 h1 => okS_mono h1 fun f ρ2 μ2 h2 => ?_
      have e3 : acc0 ++ (L.take (i + 1)).flatMap h = acc0 ++ (L.take i).flatMap h ++ h a := by rw [ht, List.flatMap_append]; simp
      cases f with
      | nx => exact ⟨h2.1, by rw [e3]; exact h2.2⟩
      | ct => exact ⟨h2.1, by rw [e3]; exact h2.2⟩
      | bk => exact h2
      | rt d => exact h2
  · rintro ρ μ ⟨hR, rfl⟩
    have : L.take xs.length = L := List.take_of_length_le (by rw [hL, List.length_map]; exact Nat.le_refl _)
    rw [this]
    exact hQ ρ hR
/-- a comprehension over a list of Lean -/
theorem comp_fm {α : Type} {w : Wk} {turn : D → Store → Res (Option D)} {xs : List D} {l : Nat} {μ0 : Store} (L : List α) (e : α → D) (p : α → Bool) (g : α → D) (pre : Store)
    (hx : w.items = xs) (hL : xs = L.map e) (hl : l = pre.length) (hμ : μ0 = pre ++ [.lst []]) (hb : L.length < mostLen) (st : ∀ acc, w.stands (pre ++ [.lst acc]))
    (step : ∀ a ∈ L, ∀ acc, turn (e a) (pre ++ [.lst acc]) = .ok (if p a then some (g a) else none) (pre ++ [.lst acc])) :
    compL w l turn xs μ0 = .ok () (pre ++ [.lst ((L.filter p).map g)]) := by
  subst hμ hl
  have key : okR (compL w pre.length turn xs (pre ++ [.lst []])) (fun _ μ => μ = pre ++ [.lst ((L.filter p).map g)]) := by
    refine comp_wp (fun i μ => μ = pre ++ [.lst (((L.take i).filter p).map g)]) hx (by simp) (fun i μ hI => by rw [hI]; exact st _) ?_ ?_
    · rintro i x μ hx' rfl
      rw [hL, List.getElem?_map] at hx'
      cases ea : L[i]? with
      | none => rw [ea] at hx'; cases hx'
      | some a =>
        rw [ea] at hx'
        have : e a = x := Option.some.inj hx'
        subst this
        have ht : L.take (i + 1) = L.take i ++ [a] := by rw [List.take_add_one, ea]; rfl
        rw [step a (List.mem_of_getElem? ea)]
        by_cases hp : p a = true
        · rw [if_pos hp]
          refine ⟨((L.take i).filter p).map g, by simp, ?_, ?_⟩
          · rw [List.length_map]
            refine Nat.lt_of_le_of_lt (Nat.le_trans (List.length_filter_le _ _) ?_) hb
            rw [List.length_take]; exact Nat.min_le_right _ _
          · rw [ht, List.filter_append]
            simp [hp]
        · have hp' : p a = false := by simpa using hp
          rw [hp']
          show _ = _
          rw [ht, List.filter_append]
          simp [hp']
    · rintro μ rfl
      have : L.take xs.length = L := List.take_of_length_le (by rw [hL, List.length_map]; exact Nat.le_refl _)
      rw [this]
  obtain ⟨u, μ, e1, e2⟩ := okR_ex.mp key
  rw [e1, e2]
theorem comp_fm_wp {α : Type} {w : Wk} {turn : D → Store → Res (Option D)} {xs : List D} {l : Nat} {μ0 : Store} {Q : Unit → Store → Prop} (L : List α) (e : α → D) (p : α → Bool) (g : α → D) (pre : Store)
    (hx : w.items = xs) (hL : xs = L.map e) (hl : l = pre.length) (hμ : μ0 = pre ++ [.lst []]) (hb : L.length < mostLen) (st : ∀ acc, w.stands (pre ++ [.lst acc]))
    (step : ∀ a ∈ L, ∀ acc, turn (e a) (pre ++ [.lst acc]) = .ok (if p a then some (g a) else none) (pre ++ [.lst acc]))
    (hQ : Q () (pre ++ [.lst ((L.filter p).map g)])) : okR (compL w l turn xs μ0) Q := by
  rw [comp_fm L e p g pre hx hL hl hμ hb st step]
  exact hQ
/-- a for over a list of Lean, whose body adds to what the store holds -/
theorem for_fmT {α β : Type} {w : Wk} {asg : D → Env → Store → Res Env} {body : Env → Store → SRes} {ρ0 : Env} {xs : List D} (L : List α) (e : α → D) (h : α → List β) (R : Env → Prop) (T : List β → Store → Prop) {acc0 : List β} {μ0 : Store}
    (hx : w.items = xs) (hL : xs = L.map e) (hμ : T acc0 μ0) (h0 : R ρ0) (st : ∀ acc μ, T acc μ → w.stands μ)
    (step : ∀ a ∈ L, ∀ ρ acc μ, R ρ → T acc μ → acc.length + (h a).length ≤ acc0.length + (L.flatMap h).length → okR (asg (e a) ρ μ) fun ρ1 μ1 => okS (body ρ1 μ1) (goS fun ρ2 μ2 => R ρ2 ∧ T (acc ++ h a) μ2))
    {Q : Flow → Env → Store → Prop} (hQ : ∀ ρ μ, R ρ → T (acc0 ++ L.flatMap h) μ → Q .nx ρ μ) : okS (forL w asg body xs ρ0 μ0) Q := by
  refine for_wp (fun i ρ μ => R ρ ∧ T (acc0 ++ (L.take i).flatMap h) μ) hx ⟨h0, by simpa using hμ⟩ (fun i ρ μ hI => st _ _ hI.2) ?_ ?_
  · rintro i x ρ μ hx' ⟨hR, hT⟩
    rw [hL, List.getElem?_map] at hx'
    cases ea : L[i]? with
    | none => rw [ea] at hx'; cases hx'
    | some a =>
      rw [ea] at hx'
      have : e a = x := Option.some.inj hx'
      subst this
      have ht : L.take (i + 1) = L.take i ++ [a] := by rw [List.take_add_one, ea]; rfl
      have hm : a ∈ L := List.mem_of_getElem? ea
      have hb : (acc0 ++ (L.take i).flatMap h).length + (h a).length ≤ acc0.length + (L.flatMap h).length := by
        have h1 : (L.take (i + 1)).flatMap h = (L.take i).flatMap h ++ h a := by rw [ht, List.flatMap_append]; simp
        have h2 : (L.flatMap h).length = ((L.take (i + 1)).flatMap h).length + ((L.drop (i + 1)).flatMap h).length := by
          rw [← List.length_append, ← List.flatMap_append, List.take_append_drop]
        rw [h2, h1, List.length_append, List.length_append]
        omega
      refine okR_mono (step a hm ρ _ μ hR hT hb) fun ρ1 μ1 h1 => okS_mono h1 fun f ρ2 μ2 h2 => ?_
      have e3 : acc0 ++ (L.take (i + 1)).flatMap h = acc0 ++ (L.take i).flatMap h ++ h a := by rw [ht, List.flatMap_append]; simp
      cases f with
      | nx => exact ⟨h2.1, by rw [e3]; exact h2.2⟩
      | ct => exact ⟨h2.1, by rw [e3]; exact h2.2⟩
      | bk => exact h2
      | rt d => exact h2
  · rintro ρ μ ⟨hR, hT⟩
    have : L.take xs.length = L := List.take_of_length_le (by rw [hL, List.length_map]; exact Nat.le_refl _)
    rw [this] at hT
    exact hQ ρ μ hR hT
theorem extend_lst {C : Nat → List (Key × D)} {μ : Store} {l r : Nat} {xs ys : List D} (h1 : μ[l]? = some (.lst xs)) (h2 : μ[r]? = some (.lst ys)) (h3 : xs.length + ys.length ≤ mostLen) (h4 : l ≠ r) : methF C .extend (.loc l) [.loc r] μ = .ok .non (μ.set l (.lst (xs ++ ys))) := by
  unfold methF
  simp only [h1, h2]
  rw [if_pos ⟨h3, h4⟩]
theorem flatMap_filter {α β : Type} (p : α → Bool) (f : α → List β) : ∀ l : List α, (l.filter p).flatMap f = l.flatMap fun a => if p a then f a else []
  | [] => rfl
  | a :: l => by
    rw [List.flatMap_cons, ← flatMap_filter p f l, List.filter_cons]
    split <;> simp
theorem flatMap_ext {α β : Type} {f g : α → List β} : ∀ {l : List α}, (∀ a ∈ l, f a = g a) → l.flatMap f = l.flatMap g
  | [], _ => rfl
  | a :: l, h => by
    rw [List.flatMap_cons, List.flatMap_cons, h a (List.mem_cons_self ..), flatMap_ext fun b hb => h b (List.mem_cons_of_mem _ hb)]
end PL
end
section
set_option autoImplicit false
set_option maxRecDepth 10000
namespace K82
open PL
/-- thing -/
def f_is_point : Fn := ⟨1, 1,
  (.cons (.ret (.and (.isi (.v 0) .str) (.and (.cmp .eq (.bf .len (.v 0)) (.int 1)) (.cmp .inn (.v 0) (.glS 0 [101, 110, 115, 119]))))) .nil)⟩
/-- row, column, point, down, right -/
def f_next_cell : Fn := ⟨3, 5,
  (.cons (.asg (.tp [3, 4]) (.ix (.glC 1 1) (.v 2))) (.cons (.ret (.tup (.cons (.bin .add (.v 0) (.v 3)) (.cons (.bin .add (.v 1) (.v 4)) .nil)))) .nil))⟩
/-- board, row, column -/
def f_has_cell : Fn := ⟨3, 3,
  (.cons (.ret (.and (.chain .le .lt (.int 0) (.v 1) (.bf .len (.v 0))) (.chain .le .lt (.int 0) (.v 2) (.bf .len (.ix (.v 0) (.int 0)))))) .nil)⟩
/-- board, row, column -/
def f_is_open : Fn := ⟨3, 3,
  (.cons (.ret (.and (.call 1 (.cons (.v 0) (.cons (.v 1) (.cons (.v 2) .nil)))) (.cmp .ne (.ix (.ix (.v 0) (.v 1)) (.v 2)) (.str [])))) .nil)⟩
/-- thing -/
def f_is_whole : Fn := ⟨1, 1,
  (.cons (.ret (.and (.isi (.v 0) .int) (.not (.isi (.v 0) .bool)))) .nil)⟩
/-- thing, many -/
def f_is_row : Fn := ⟨2, 2,
  (.cons (.ret (.and (.isi (.v 0) .tuple) (.cmp .eq (.bf .len (.v 0)) (.v 1)))) .nil)⟩
/-- board, thing -/
def f_is_side : Fn := ⟨2, 2,
  (.cons (.ite (.or (.not (.call 22 (.cons (.v 1) (.cons (.int 3) .nil)))) (.or (.not (.call 21 (.cons (.ix (.v 1) (.int 0)) .nil))) (.or (.not (.call 21 (.cons (.ix (.v 1) (.int 1)) .nil))) (.not (.call 20 (.cons (.ix (.v 1) (.int 2)) .nil)))))) (.cons (.ret (.bl false)) .nil) .nil) (.cons (.ret (.call 2 (.cons (.v 0) (.cons (.ix (.v 1) (.int 0)) (.cons (.ix (.v 1) (.int 1)) .nil))))) .nil))⟩
/-- board, side, row, column, point, down, right -/
def f_other_side : Fn := ⟨2, 7,
  (.cons (.asg (.tp [2, 3, 4]) (.v 1)) (.cons (.asg (.tp [5, 6]) (.call 0 (.cons (.v 2) (.cons (.v 3) (.cons (.v 4) .nil))))) (.cons (.ite (.not (.call 2 (.cons (.v 0) (.cons (.v 5) (.cons (.v 6) .nil))))) (.cons (.ret .non) .nil) .nil) (.cons (.ret (.tup (.cons (.v 5) (.cons (.v 6) (.cons (.ix (.glC 2 2) (.v 4)) .nil))))) .nil))))⟩
/-- board, thing -/
def f_is_end : Fn := ⟨2, 2,
  (.cons (.ret (.and (.call 23 (.cons (.v 0) (.cons (.v 1) .nil))) (.cmp .is (.call 7 (.cons (.v 0) (.cons (.v 1) .nil))) .non))) .nil)⟩
/-- board, end -/
def f_look_for_end : Fn := ⟨2, 2,
  (.cons (.ite (.not (.call 24 (.cons (.v 0) (.cons (.v 1) .nil)))) (.cons (.rse [2, 1, 0] [0] (.cons (.str [101, 110, 100]) .nil)) .nil) .nil) .nil)⟩
/-- setting, side, row, column, point -/
def f_partner_of : Fn := ⟨2, 5,
  (.cons (.asg (.tp [2, 3, 4]) (.v 1)) (.cons (.ret (.tup (.cons (.v 2) (.cons (.v 3) (.cons (.ix (.glC 0 0) (.bin .add (.ix (.ix (.v 0) (.v 2)) (.v 3)) (.v 4))) .nil))))) .nil))⟩
/-- board, setting, side, found, out, after -/
def f_run_from : Fn := ⟨3, 6,
  (.cons (.asg (.nm 3) (.lst (.cons (.v 2) .nil))) (.cons (.whl (.bl true) (.cons (.asg (.nm 4) (.call 9 (.cons (.v 1) (.cons (.ix (.v 3) (.neg (.int 1))) .nil)))) (.cons (.ex (.meth .append (.v 3) (.cons (.v 4) .nil))) (.cons (.asg (.nm 5) (.call 7 (.cons (.v 0) (.cons (.v 4) .nil)))) (.cons (.ite (.or (.cmp .is (.v 5) .non) (.cmp .eq (.v 5) (.v 2))) (.cons (.ret (.v 3)) .nil) .nil) (.cons (.ex (.meth .append (.v 3) (.cons (.v 5) .nil))) .nil)))))) .nil))⟩
/-- way, at -/
def f_met_by_way : Fn := ⟨1, 2,
  (.cons (.ret (.comp (.nm 1) (.rng3 (.int 0) (.bf .len (.v 0)) (.int 2)) .yes (.tup (.cons (.ix (.ix (.v 0) (.v 1)) (.int 0)) (.cons (.ix (.ix (.v 0) (.v 1)) (.int 1)) .nil))) [1])) .nil)⟩
/-- setting, row, column, sign, line -/
def f_put_sign : Fn := ⟨4, 5,
  (.cons (.asg (.nm 4) (.bin .add (.bin .add (.slU (.ix (.v 0) (.v 1)) (.v 2)) (.v 3)) (.slL (.ix (.v 0) (.v 1)) (.bin .add (.v 2) (.int 1))))) (.cons (.ret (.bin .add (.bin .add (.slU (.v 0) (.v 1)) (.tup (.cons (.v 4) .nil))) (.slL (.v 0) (.bin .add (.v 1) (.int 1))))) .nil))⟩
/-- board, setting, deeds, found, row, column, letter -/
def f_run_deeds : Fn := ⟨3, 7,
  (.cons (.asg (.nm 3) (.lst (.cons (.v 1) .nil))) (.cons (.fr (.tp [4, 5, 6]) (.val (.v 2)) (.cons (.ex (.meth .append (.v 3) (.cons (.call 11 (.cons (.ix (.v 3) (.neg (.int 1))) (.cons (.v 4) (.cons (.v 5) (.cons (.v 6) .nil))))) .nil))) .nil)) (.cons (.ret (.bf .tuple (.v 3))) .nil)))⟩
/-- board, setting, deeds, end, one -/
def f_mates_along : Fn := ⟨4, 5,
  (.cons (.ex (.call 25 (.cons (.v 0) (.cons (.v 3) .nil)))) (.cons (.ret (.bf .tupleF (.comp (.nm 4) (.val (.call 13 (.cons (.v 0) (.cons (.v 1) (.cons (.v 2) .nil))))) .yes (.ix (.call 10 (.cons (.v 0) (.cons (.v 4) (.cons (.v 3) .nil)))) (.neg (.int 1))) [4]))) .nil))⟩
/-- board, setting, deeds, one, other, mates -/
def f_first_meeting : Fn := ⟨5, 6,
  (.cons (.ex (.call 25 (.cons (.v 0) (.cons (.v 3) .nil)))) (.cons (.ex (.call 25 (.cons (.v 0) (.cons (.v 4) .nil)))) (.cons (.asg (.nm 5) (.call 27 (.cons (.v 0) (.cons (.v 1) (.cons (.v 2) (.cons (.v 3) .nil)))))) (.cons (.ret (.ite (.cmp .inn (.v 4) (.v 5)) (.meth .indexT (.v 5) (.cons (.v 4) .nil)) .non)) .nil))))⟩
/-- board, setting, deeds, end, known, one, cell -/
def f_ever_lit : Fn := ⟨4, 7,
  (.cons (.ex (.call 25 (.cons (.v 0) (.cons (.v 3) .nil)))) (.cons (.asg (.nm 4) .dnT) (.cons (.fr (.nm 5) (.val (.call 13 (.cons (.v 0) (.cons (.v 1) (.cons (.v 2) .nil))))) (.cons (.fr (.nm 6) (.val (.call 26 (.cons (.call 10 (.cons (.v 0) (.cons (.v 5) (.cons (.v 3) .nil)))) .nil))) (.cons (.asg (.sb (.v 4) (.v 6)) (.bl true)) .nil)) .nil)) (.cons (.ret (.bf .tuple (.bf .sorted (.v 4)))) .nil))))⟩
/-- script, urn, cell, size -/
def f_law_urn : Fn := ⟨1, 4,
  (.cons (.asg (.nm 1) (.disp [(.inr [103, 114, 101, 97, 116]), (.inr [109, 105, 120])] (.cons (.lst .nil) (.cons (.int 82003) .nil)))) (.cons (.fr (.nm 2) (.val (.slU (.v 0) (.int 40))) (.cons (.asg (.nm 3) (.bf .abs (.bf .int (.v 2)))) (.cons (.asg (.sb (.v 1) (.str [109, 105, 120])) (.bin .mod (.bf .int (.bin .add (.bin .add (.bin .mul (.ix (.v 1) (.str [109, 105, 120])) (.int 40692)) (.bin .mod (.bf .int (.v 3)) (.int 1999999973))) (.int 11))) (.int 2147483587))) (.cons (.ite (.cmp .ge (.v 3) (.bin .pow (.int 10) (.int 18))) (.cons (.ex (.meth .append (.ix (.v 1) (.str [103, 114, 101, 97, 116])) (.cons (.bin .mod (.bf .int (.v 3)) (.bin .pow (.bin .pow (.int 10) (.int 60)) (.int 12))) .nil))) .nil) .nil) .nil)))) (.cons (.ret (.v 1)) .nil)))⟩
/-- urn, many, told -/
def f_law_take : Fn := ⟨2, 3,
  (.cons (.whl (.and (.cmp .gt (.bf .len (.ix (.v 0) (.str [103, 114, 101, 97, 116]))) (.int 0)) (.cmp .eq (.ix (.ix (.v 0) (.str [103, 114, 101, 97, 116])) (.int 0)) (.int 0))) (.cons (.ex (.meth .popAt (.ix (.v 0) (.str [103, 114, 101, 97, 116])) (.cons (.int 0) .nil))) .nil)) (.cons (.ite (.cmp .gt (.bf .len (.ix (.v 0) (.str [103, 114, 101, 97, 116]))) (.int 0)) (.cons (.asg (.nm 2) (.bin .mod (.bf .int (.ix (.ix (.v 0) (.str [103, 114, 101, 97, 116])) (.int 0))) (.v 1))) (.cons (.asg (.sb (.ix (.v 0) (.str [103, 114, 101, 97, 116])) (.int 0)) (.bin .fdiv (.ix (.ix (.v 0) (.str [103, 114, 101, 97, 116])) (.int 0)) (.v 1))) (.cons (.ret (.v 2)) .nil))) .nil) (.cons (.asg (.sb (.v 0) (.str [109, 105, 120])) (.bin .mod (.bf .int (.bin .add (.bin .mul (.ix (.v 0) (.str [109, 105, 120])) (.int 39373)) (.int 907))) (.int 2147483587))) (.cons (.ret (.bin .mod (.bf .int (.bin .fdiv (.ix (.v 0) (.str [109, 105, 120])) (.int 61))) (.v 1))) .nil))))⟩
/-- urn, place, many, way, one -/
def f_law_habit : Fn := ⟨3, 5,
  (.cons (.ite (.cmp .nin (.v 1) (.v 0)) (.cons (.asg (.sb (.v 0) (.v 1)) (.lst (.cons (.call 1001 (.cons (.v 0) (.cons (.int 6) .nil))) (.cons (.call 1001 (.cons (.v 0) (.cons (.v 2) .nil))) .nil)))) .nil) .nil) (.cons (.asg (.tp [3, 4]) (.ix (.v 0) (.v 1))) (.cons (.ite (.cmp .eq (.v 3) (.int 0)) (.cons (.ret (.int 0)) .nil) .nil) (.cons (.ite (.cmp .eq (.v 3) (.int 1)) (.cons (.ret (.bin .sub (.v 2) (.int 1))) .nil) .nil) (.cons (.ret (.ite (.cmp .eq (.v 3) (.int 2)) (.bin .mod (.bf .int (.v 4)) (.v 2)) (.call 1001 (.cons (.v 0) (.cons (.v 2) .nil))))) .nil)))))⟩
/-- urn, rows, columns, style, one, some, told, row, column -/
def f_law_board : Fn := ⟨3, 9,
  (.cons (.asg (.tp [3, 4]) (.tup (.cons (.call 1001 (.cons (.v 0) (.cons (.int 7) .nil))) (.cons (.ix (.lst (.cons (.str [100]) (.cons (.str [115]) (.cons (.str [117]) (.cons (.str [100, 115]) (.cons (.str [100, 117]) (.cons (.str [115, 117]) (.cons (.str [100, 115, 117]) .nil)))))))) (.call 1001 (.cons (.v 0) (.cons (.int 7) .nil)))) .nil)))) (.cons (.asg (.nm 5) (.lst (.cons (.lst (.cons (.str [100]) (.cons (.str [115]) (.cons (.str [117]) (.cons (.str [100, 115]) (.cons (.str [100, 117]) (.cons (.str [115, 117]) (.cons (.str [100, 115, 117]) .nil)))))))) (.cons (.lst (.cons (.str []) (.cons (.str [100]) (.cons (.str [115]) (.cons (.str [117]) (.cons (.str [100, 115]) (.cons (.str [100, 117]) (.cons (.str [115, 117]) (.cons (.str [100, 115, 117]) .nil))))))))) .nil)))) (.cons (.asg (.nm 5) (.bin .add (.v 5) (.lst (.cons (.lst (.cons (.str []) (.cons (.str []) (.cons (.str [100, 115, 117]) (.cons (.str [100, 117]) (.cons (.v 4) .nil)))))) (.cons (.lst (.cons (.v 4) (.cons (.v 4) (.cons (.v 4) (.cons (.str []) (.cons (.str [100, 115, 117]) .nil)))))) (.cons (.lst (.cons (.str [100, 117]) .nil)) (.cons (.lst (.cons (.str [100]) (.cons (.str [115]) (.cons (.str [117]) .nil)))) (.cons (.lst (.cons (.str [100, 115]) (.cons (.str [100, 117]) (.cons (.str [115, 117]) .nil)))) .nil)))))))) (.cons (.asg (.nm 6) (.lst .nil)) (.cons (.fr (.nm 7) (.rng (.v 1)) (.cons (.ex (.meth .append (.v 6) (.cons (.comp (.nm 8) (.rng (.v 2)) .yes (.ix (.ix (.v 5) (.v 3)) (.call 1001 (.cons (.v 0) (.cons (.bf .len (.ix (.v 5) (.v 3))) .nil)))) [8]) .nil))) .nil)) (.cons (.ite (.cmp .eq (.bf .len (.comp (.nm 7) (.val (.v 6)) (.test (.cmp .ne (.meth .join (.str []) (.cons (.v 7) .nil)) (.str []))) (.v 7) [7])) (.int 0)) (.cons (.asg (.sb (.ix (.v 6) (.call 1001 (.cons (.v 0) (.cons (.v 1) .nil)))) (.call 1001 (.cons (.v 0) (.cons (.v 2) .nil)))) (.v 4)) .nil) .nil) (.cons (.ret (.bf .tuple (.comp (.nm 7) (.val (.v 6)) .yes (.bf .tuple (.v 7)) [7]))) .nil)))))))⟩
/-- urn, board, told, row, signs, kind -/
def f_law_setting : Fn := ⟨2, 6,
  (.cons (.asg (.nm 2) (.lst .nil)) (.cons (.fr (.nm 3) (.val (.v 1)) (.cons (.asg (.nm 4) (.comp (.nm 5) (.val (.v 3)) .yes (.ite (.cmp .ne (.v 5) (.str [])) (.ix (.v 5) (.call 1001 (.cons (.v 0) (.cons (.bf .len (.v 5)) .nil)))) (.str [35])) [5])) (.cons (.ex (.meth .append (.v 2) (.cons (.meth .join (.str []) (.cons (.v 4) .nil)) .nil))) .nil))) (.cons (.ret (.bf .tuple (.v 2))) .nil)))⟩
/-- letter, point -/
def f_law_joined : Fn := ⟨2, 2,
  (.cons (.ret (.ix (.ix (.disp [(.inr [100]), (.inr [115]), (.inr [117])] (.cons (.str [110, 101, 119, 115]) (.cons (.str [119, 115, 110, 101]) (.cons (.str [115, 119, 101, 110]) .nil)))) (.v 0)) (.meth .index (.str [101, 110, 115, 119]) (.cons (.v 1) .nil)))) .nil)⟩
/-- board, side, row, column -/
def f_law_beyond : Fn := ⟨2, 4,
  (.cons (.par 2 3 (.bin .add (.ix (.v 1) (.int 0)) (.meth .get2 (.disp [(.inr [110]), (.inr [115])] (.cons (.neg (.int 1)) (.cons (.int 1) .nil))) (.cons (.ix (.v 1) (.int 2)) (.cons (.int 0) .nil)))) (.bin .add (.ix (.v 1) (.int 1)) (.meth .get2 (.disp [(.inr [119]), (.inr [101])] (.cons (.neg (.int 1)) (.cons (.int 1) .nil))) (.cons (.ix (.v 1) (.int 2)) (.cons (.int 0) .nil))))) (.cons (.ite (.or (.cmp .lt (.v 2) (.int 0)) (.or (.cmp .lt (.v 3) (.int 0)) (.or (.cmp .ge (.v 2) (.bf .len (.v 0))) (.or (.cmp .ge (.v 3) (.bf .len (.ix (.v 0) (.int 0)))) (.cmp .eq (.ix (.ix (.v 0) (.v 2)) (.v 3)) (.str [])))))) (.cons (.ret .non) .nil) .nil) (.cons (.ret (.tup (.cons (.v 2) (.cons (.v 3) (.cons (.ix (.disp [(.inr [101]), (.inr [119]), (.inr [110]), (.inr [115])] (.cons (.str [119]) (.cons (.str [101]) (.cons (.str [115]) (.cons (.str [110]) .nil))))) (.ix (.v 1) (.int 2))) .nil))))) .nil)))⟩
/-- board, told, row, column, sides, point, side -/
def f_law_ends : Fn := ⟨1, 7,
  (.cons (.asg (.nm 1) (.lst .nil)) (.cons (.fr (.nm 2) (.rng (.bf .len (.v 0))) (.cons (.fr (.nm 3) (.rng (.bf .len (.ix (.v 0) (.int 0)))) (.cons (.ite (.cmp .ne (.ix (.ix (.v 0) (.v 2)) (.v 3)) (.str [])) (.cons (.asg (.nm 4) (.comp (.nm 5) (.val (.str [101, 110, 115, 119])) .yes (.tup (.cons (.v 2) (.cons (.v 3) (.cons (.v 5) .nil)))) [5])) (.cons (.ex (.meth .extend (.v 1) (.cons (.comp (.nm 6) (.val (.v 4)) (.test (.cmp .is (.call 1006 (.cons (.v 0) (.cons (.v 6) .nil))) .non)) (.v 6) [6]) .nil))) .nil)) .nil) .nil)) .nil)) (.cons (.ret (.v 1)) .nil)))⟩
/-- board, setting, end, way, side, out -/
def f_law_way : Fn := ⟨3, 6,
  (.cons (.par 3 4 (.lst .nil) (.v 2)) (.cons (.whl (.cmp .isn (.v 4) .non) (.cons (.asg (.nm 5) (.tup (.cons (.ix (.v 4) (.int 0)) (.cons (.ix (.v 4) (.int 1)) (.cons (.call 1005 (.cons (.ix (.ix (.v 1) (.ix (.v 4) (.int 0))) (.ix (.v 4) (.int 1))) (.cons (.ix (.v 4) (.int 2)) .nil))) .nil))))) (.cons (.ex (.meth .extend (.v 3) (.cons (.lst (.cons (.v 4) (.cons (.v 5) .nil))) .nil))) (.cons (.asg (.nm 4) (.call 1006 (.cons (.v 0) (.cons (.v 5) .nil)))) .nil)))) (.cons (.ret (.v 3)) .nil)))⟩
/-- told, due, left, one, other, at -/
def f_law_same : Fn := ⟨2, 6,
  (.cons (.asg (.nm 2) (.lst (.cons (.tup (.cons (.v 0) (.cons (.v 1) .nil))) .nil))) (.cons (.whl (.cmp .gt (.bf .len (.v 2)) (.int 0)) (.cons (.asg (.tp [3, 4]) (.meth .pop (.v 2) .nil)) (.cons (.ite (.or (.cmp .is (.v 4) .non) (.cmp .is (.v 3) .non)) (.cons (.ite (.or (.cmp .isn (.v 3) .non) (.cmp .isn (.v 4) .non)) (.cons (.ret (.bl false)) .nil) .nil) .nil) (.cons (.ite (.or (.isi (.v 4) .bool) (.isi (.v 3) .bool)) (.cons (.ite (.or (.not (.isi (.v 4) .bool)) (.or (.not (.isi (.v 3) .bool)) (.cmp .ne (.v 3) (.v 4)))) (.cons (.ret (.bl false)) .nil) .nil) .nil) (.cons (.ite (.isi (.v 4) .str) (.cons (.ite (.or (.not (.isi (.v 3) .str)) (.cmp .ne (.v 3) (.v 4))) (.cons (.ret (.bl false)) .nil) .nil) .nil) (.cons (.ite (.isi (.v 4) .int) (.cons (.ite (.or (.not (.isi (.v 3) .int)) (.cmp .ne (.v 3) (.v 4))) (.cons (.ret (.bl false)) .nil) .nil) .nil) (.cons (.ite (.or (.not (.isi (.v 3) .tuple)) (.cmp .ne (.bf .len (.v 3)) (.bf .len (.v 4)))) (.cons (.ret (.bl false)) .nil) .nil) (.cons (.fr (.nm 5) (.rng (.bf .len (.v 4))) (.cons (.ex (.meth .append (.v 2) (.cons (.tup (.cons (.ix (.v 3) (.v 5)) (.cons (.ix (.v 4) (.v 5)) .nil))) .nil))) .nil)) .nil))) .nil)) .nil)) .nil)) .nil))) (.cons (.ret (.bl true)) .nil)))⟩
/-- urn, board, many, cells, row, told, turn, column, kind -/
def f_law_deeds : Fn := ⟨3, 9,
  (.cons (.asg (.nm 3) (.lst .nil)) (.cons (.fr (.nm 4) (.rng (.bf .len (.v 1))) (.cons (.ex (.meth .extend (.v 3) (.cons (.comp (.nm 7) (.rng (.bf .len (.ix (.v 1) (.int 0)))) (.test (.cmp .ne (.ix (.ix (.v 1) (.v 4)) (.v 7)) (.str []))) (.tup (.cons (.v 4) (.cons (.v 7) .nil))) [7]) .nil))) .nil)) (.cons (.asg (.nm 5) (.lst .nil)) (.cons (.fr (.nm 6) (.rng (.v 2)) (.cons (.asg (.tp [4, 7]) (.ix (.v 3) (.call 1002 (.cons (.v 0) (.cons (.str [99, 101, 108, 108]) (.cons (.bf .len (.v 3)) .nil)))))) (.cons (.asg (.nm 8) (.ix (.ix (.v 1) (.v 4)) (.v 7))) (.cons (.ex (.meth .append (.v 5) (.cons (.tup (.cons (.v 4) (.cons (.v 7) (.cons (.ix (.v 8) (.call 1002 (.cons (.v 0) (.cons (.str [108, 101, 116, 116, 101, 114]) (.cons (.bf .len (.v 8)) .nil))))) .nil)))) .nil))) .nil)))) (.cons (.ret (.bf .tuple (.v 5))) .nil)))))⟩
/-- setting, deeds, told, row, column, letter, now -/
def f_law_run : Fn := ⟨2, 7,
  (.cons (.asg (.nm 2) (.lst (.cons (.v 0) .nil))) (.cons (.fr (.tp [3, 4, 5]) (.val (.v 1)) (.cons (.asg (.nm 6) (.bf .list (.ix (.v 2) (.neg (.int 1))))) (.cons (.asg (.sb (.v 6) (.v 3)) (.bin .add (.bin .add (.slU (.ix (.v 6) (.v 3)) (.v 4)) (.v 5)) (.slL (.ix (.v 6) (.v 3)) (.bin .add (.v 4) (.int 1))))) (.cons (.ex (.meth .append (.v 2) (.cons (.bf .tuple (.v 6)) .nil))) .nil)))) (.cons (.ret (.v 2)) .nil)))⟩
/-- which, board, setting, deeds, one, other, error -/
def f_law_told : Fn := ⟨6, 7,
  (.cons (.tr (.cons (.ite (.cmp .eq (.v 0) (.str [109, 97, 116, 101, 115])) (.cons (.ret (.tup (.cons (.str [116, 111, 108, 100]) (.cons (.call 27 (.cons (.v 1) (.cons (.v 2) (.cons (.v 3) (.cons (.v 4) .nil))))) .nil)))) .nil) .nil) (.cons (.ite (.cmp .eq (.v 0) (.str [102, 105, 114, 115, 116])) (.cons (.ret (.tup (.cons (.str [116, 111, 108, 100]) (.cons (.call 28 (.cons (.v 1) (.cons (.v 2) (.cons (.v 3) (.cons (.v 4) (.cons (.v 5) .nil)))))) .nil)))) .nil) .nil) (.cons (.ret (.tup (.cons (.str [116, 111, 108, 100]) (.cons (.call 29 (.cons (.v 1) (.cons (.v 2) (.cons (.v 3) (.cons (.v 4) .nil))))) .nil)))) .nil))) (.cons 2 (some 6) (.cons (.ret (.tup (.cons (.str [115, 116, 101, 112]) (.cons (.errF 6 0) .nil)))) .nil) (.cons 0 none (.cons (.ret (.tup (.cons (.str [111, 116, 104, 101, 114]) .nil))) .nil) .nil))) .nil)⟩
/-- urn, board, setting, deeds, ends, end, ways, mates, cells, way, side, away, asked, other, due, row -/
def f_law_end_right : Fn := ⟨6, 16,
  (.cons (.asg (.nm 6) (.comp (.nm 15) (.val (.call 1011 (.cons (.v 2) (.cons (.v 3) .nil)))) .yes (.call 1008 (.cons (.v 1) (.cons (.v 15) (.cons (.v 5) .nil)))) [15])) (.cons (.asg (.tp [7, 8]) (.tup (.cons (.comp (.nm 9) (.val (.v 6)) .yes (.ix (.v 9) (.neg (.int 1))) [9]) (.cons .dnT .nil)))) (.cons (.fr (.nm 9) (.val (.v 6)) (.cons (.fr (.nm 10) (.val (.v 9)) (.cons (.asg (.sb (.v 8) (.slU (.v 10) (.int 2))) (.bl true)) .nil)) .nil)) (.cons (.ite (.not (.call 1009 (.cons (.call 1012 (.cons (.str [109, 97, 116, 101, 115]) (.cons (.v 1) (.cons (.v 2) (.cons (.v 3) (.cons (.v 5) (.cons .non .nil))))))) (.cons (.tup (.cons (.str [116, 111, 108, 100]) (.cons (.bf .tuple (.v 7)) .nil))) .nil)))) (.cons (.ret (.bl false)) .nil) .nil) (.cons (.ite (.not (.call 1009 (.cons (.call 1012 (.cons (.str [108, 105, 116]) (.cons (.v 1) (.cons (.v 2) (.cons (.v 3) (.cons (.v 5) (.cons .non .nil))))))) (.cons (.tup (.cons (.str [116, 111, 108, 100]) (.cons (.bf .tuple (.bf .sorted (.v 8))) .nil))) .nil)))) (.cons (.ret (.bl false)) .nil) .nil) (.cons (.asg (.nm 11) (.comp (.nm 13) (.val (.v 4)) (.test (.and (.cmp .ne (.v 13) (.v 5)) (.cmp .nin (.v 13) (.v 7)))) (.v 13) [13])) (.cons (.asg (.nm 12) (.lst (.cons (.ix (.v 7) (.neg (.int 1))) (.cons (.ix (.v 7) (.call 1001 (.cons (.v 0) (.cons (.bf .len (.v 7)) .nil)))) .nil)))) (.cons (.ite (.cmp .gt (.bf .len (.v 11)) (.int 0)) (.cons (.ex (.meth .append (.v 12) (.cons (.ix (.v 11) (.call 1001 (.cons (.v 0) (.cons (.bf .len (.v 11)) .nil)))) .nil))) .nil) .nil) (.cons (.fr (.nm 13) (.val (.v 12)) (.cons (.asg (.nm 14) (.ite (.cmp .inn (.v 13) (.v 7)) (.meth .indexL (.v 7) (.cons (.v 13) .nil)) .non)) (.cons (.ite (.not (.call 1009 (.cons (.call 1012 (.cons (.str [102, 105, 114, 115, 116]) (.cons (.v 1) (.cons (.v 2) (.cons (.v 3) (.cons (.v 5) (.cons (.v 13) .nil))))))) (.cons (.tup (.cons (.str [116, 111, 108, 100]) (.cons (.v 14) .nil))) .nil)))) (.cons (.ret (.bl false)) .nil) .nil) (.cons (.ite (.not (.call 1009 (.cons (.call 1012 (.cons (.str [102, 105, 114, 115, 116]) (.cons (.v 1) (.cons (.v 2) (.cons (.v 3) (.cons (.v 13) (.cons (.v 5) .nil))))))) (.cons (.tup (.cons (.str [116, 111, 108, 100]) (.cons (.v 14) .nil))) .nil)))) (.cons (.ret (.bl false)) .nil) .nil) .nil)))) (.cons (.ret (.bl true)) .nil))))))))))⟩
/-- urn, board, setting, deeds, end, row, column, point, lines, one, at, sides, odd, thing, asked, which, other, sign, side -/
def f_law_odd_right : Fn := ⟨5, 19,
  (.cons (.asg (.tp [5, 6, 7]) (.v 4)) (.cons (.asg (.nm 8) (.lst .nil)) (.cons (.fr (.nm 9) (.rng (.bf .len (.v 1))) (.cons (.fr (.nm 10) (.rng (.bf .len (.ix (.v 1) (.int 0)))) (.cons (.asg (.nm 11) (.comp (.nm 17) (.val (.str [101, 110, 115, 119])) (.test (.cmp .ne (.ix (.ix (.v 1) (.v 9)) (.v 10)) (.str []))) (.tup (.cons (.v 9) (.cons (.v 10) (.cons (.v 17) .nil)))) [17])) (.cons (.ex (.meth .extend (.v 8) (.cons (.comp (.nm 18) (.val (.v 11)) (.test (.cmp .isn (.call 1006 (.cons (.v 1) (.cons (.v 18) .nil))) .non)) (.v 18) [18]) .nil))) .nil))) .nil)) (.cons (.asg (.nm 12) (.lst (.cons .non (.cons (.bl true) (.cons (.tup (.cons (.v 5) (.cons (.v 6) .nil))) (.cons (.bf .list (.v 4)) (.cons (.tup (.cons (.v 5) (.cons (.v 6) (.cons (.str [120]) .nil)))) (.cons (.tup (.cons (.bin .add (.v 5) (.int 9)) (.cons (.v 6) (.cons (.v 7) .nil)))) (.cons (.tup (.cons (.neg (.int 1)) (.cons (.v 6) (.cons (.v 7) .nil)))) .nil))))))))) (.cons (.asg (.nm 12) (.bin .add (.v 12) (.lst (.cons (.tup (.cons (.cmp .eq (.v 5) (.int 1)) (.cons (.v 6) (.cons (.v 7) .nil)))) (.cons (.tup (.cons (.v 5) (.cons (.cmp .eq (.v 6) (.int 1)) (.cons (.v 7) .nil)))) (.cons (.tup (.cons (.bf .str (.v 5)) (.cons (.v 6) (.cons (.v 7) .nil)))) (.cons (.bin .pow (.int 10) (.int 59)) (.cons (.tup .nil) (.cons (.tup (.cons (.v 4) .nil)) .nil))))))))) (.cons (.asg (.nm 12) (.bin .add (.bin .add (.bin .add (.v 12) (.lst (.cons (.tup (.cons (.v 5) (.cons (.v 6) (.cons .non .nil)))) (.cons (.str [48, 48, 110]) (.cons (.bin .add (.v 4) (.tup (.cons (.int 0) .nil))) .nil))))) (.slU (.v 8) (.int 1))) (.slL (.v 8) (.neg (.int 1))))) (.cons (.asg (.nm 13) (.ix (.v 12) (.call 1001 (.cons (.v 0) (.cons (.bf .len (.v 12)) .nil))))) (.cons (.asg (.nm 14) (.lst (.cons (.tup (.cons (.str [109, 97, 116, 101, 115]) (.cons (.v 13) (.cons .non .nil)))) (.cons (.tup (.cons (.str [108, 105, 116]) (.cons (.v 13) (.cons .non .nil)))) (.cons (.tup (.cons (.str [102, 105, 114, 115, 116]) (.cons (.v 13) (.cons (.v 4) .nil)))) (.cons (.tup (.cons (.str [102, 105, 114, 115, 116]) (.cons (.v 4) (.cons (.v 13) .nil)))) .nil)))))) (.cons (.fr (.tp [15, 9, 16]) (.val (.v 14)) (.cons (.ite (.not (.call 1009 (.cons (.call 1012 (.cons (.v 15) (.cons (.v 1) (.cons (.v 2) (.cons (.v 3) (.cons (.v 9) (.cons (.v 16) .nil))))))) (.cons (.tup (.cons (.str [115, 116, 101, 112]) (.cons (.str [101, 110, 100]) .nil))) .nil)))) (.cons (.ret (.bl false)) .nil) .nil) .nil)) (.cons (.ret (.bl true)) .nil))))))))))⟩
/-- urn, board, deeds, many, setting, ends, turn -/
def f_law_asked : Fn := ⟨4, 7,
  (.cons (.asg (.nm 4) (.call 1004 (.cons (.v 0) (.cons (.v 1) .nil)))) (.cons (.asg (.nm 5) (.call 1007 (.cons (.v 1) .nil))) (.cons (.fr (.nm 6) (.rng (.v 3)) (.cons (.ite (.not (.call 1013 (.cons (.v 0) (.cons (.v 1) (.cons (.v 4) (.cons (.v 2) (.cons (.v 5) (.cons (.ix (.v 5) (.call 1002 (.cons (.v 0) (.cons (.str [101, 110, 100]) (.cons (.bf .len (.v 5)) .nil))))) .nil)))))))) (.cons (.ret (.bl false)) .nil) .nil) .nil)) (.cons (.ret (.call 1014 (.cons (.v 0) (.cons (.v 1) (.cons (.v 4) (.cons (.v 2) (.cons (.ix (.v 5) (.call 1001 (.cons (.v 0) (.cons (.bf .len (.v 5)) .nil)))) .nil))))))) .nil))))⟩
/-- urn, many, board, setting, at, deeds, west, east, north, south, due, other, lit, k -/
def f_law_crossings : Fn := ⟨1, 14,
  (.cons (.asg (.nm 1) (.bin .add (.int 1) (.call 1001 (.cons (.v 0) (.cons (.int 8) .nil))))) (.cons (.par 2 3 (.tup (.cons (.bin .mul (.tup (.cons (.str [100, 115, 117]) .nil)) (.v 1)) .nil)) (.tup (.cons (.bin .mul (.str [115]) (.v 1)) .nil))) (.cons (.asg (.nm 4) (.call 1001 (.cons (.v 0) (.cons (.v 1) .nil)))) (.cons (.asg (.nm 5) (.tup (.cons (.tup (.cons (.int 0) (.cons (.v 4) (.cons (.str [117]) .nil)))) (.cons (.tup (.cons (.int 0) (.cons (.v 4) (.cons (.str [117]) .nil)))) (.cons (.tup (.cons (.int 0) (.cons (.v 4) (.cons (.str [100]) .nil)))) (.cons (.tup (.cons (.int 0) (.cons (.v 4) (.cons (.str [115]) .nil)))) (.cons (.tup (.cons (.int 0) (.cons (.v 4) (.cons (.str [117]) .nil)))) .nil))))))) (.cons (.par 6 7 (.tup (.cons (.int 0) (.cons (.int 0) (.cons (.str [119]) .nil)))) (.tup (.cons (.int 0) (.cons (.bin .sub (.v 1) (.int 1)) (.cons (.str [101]) .nil))))) (.cons (.par 8 9 (.tup (.cons (.int 0) (.cons (.v 4) (.cons (.str [110]) .nil)))) (.tup (.cons (.int 0) (.cons (.v 4) (.cons (.str [115]) .nil))))) (.cons (.asg (.nm 10) (.tup (.cons (.v 7) (.cons (.v 8) (.cons (.v 8) (.cons (.v 9) (.cons (.v 7) (.cons (.v 8) .nil)))))))) (.cons (.ite (.not (.call 1009 (.cons (.call 1012 (.cons (.str [109, 97, 116, 101, 115]) (.cons (.v 2) (.cons (.v 3) (.cons (.v 5) (.cons (.v 6) (.cons .non .nil))))))) (.cons (.tup (.cons (.str [116, 111, 108, 100]) (.cons (.v 10) .nil))) .nil)))) (.cons (.ret (.bl false)) .nil) .nil) (.cons (.fr (.tp [11, 10]) (.val (.tup (.cons (.tup (.cons (.v 7) (.cons (.int 0) .nil))) (.cons (.tup (.cons (.v 8) (.cons (.int 1) .nil))) (.cons (.tup (.cons (.v 9) (.cons (.int 3) .nil))) .nil))))) (.cons (.ite (.not (.call 1009 (.cons (.call 1012 (.cons (.str [102, 105, 114, 115, 116]) (.cons (.v 2) (.cons (.v 3) (.cons (.v 5) (.cons (.v 6) (.cons (.v 11) .nil))))))) (.cons (.tup (.cons (.str [116, 111, 108, 100]) (.cons (.v 10) .nil))) .nil)))) (.cons (.ret (.bl false)) .nil) .nil) .nil)) (.cons (.asg (.nm 12) (.bf .tuple (.comp (.nm 13) (.rng (.bin .add (.v 4) (.int 1))) .yes (.tup (.cons (.int 0) (.cons (.v 13) .nil))) [13]))) (.cons (.ite (.not (.call 1009 (.cons (.call 1012 (.cons (.str [108, 105, 116]) (.cons (.v 2) (.cons (.v 3) (.cons (.slU (.v 5) (.int 2)) (.cons (.v 8) (.cons .non .nil))))))) (.cons (.tup (.cons (.str [116, 111, 108, 100]) (.cons (.v 12) .nil))) .nil)))) (.cons (.ret (.bl false)) .nil) .nil) (.cons (.ret (.call 1009 (.cons (.call 1012 (.cons (.str [102, 105, 114, 115, 116]) (.cons (.v 2) (.cons (.v 3) (.cons (.slU (.v 5) (.int 1)) (.cons (.v 9) (.cons (.v 8) .nil))))))) (.cons (.tup (.cons (.str [116, 111, 108, 100]) (.cons (.int 0) .nil))) .nil)))) .nil))))))))))))⟩
/-- script, urn, lap, board -/
def f_law : Fn := ⟨1, 4,
  (.cons (.asg (.nm 1) (.call 1000 (.cons (.v 0) .nil))) (.cons (.fr (.nm 2) (.rng (.int 2)) (.cons (.asg (.nm 3) (.call 1003 (.cons (.v 1) (.cons (.bin .add (.int 1) (.call 1001 (.cons (.v 1) (.cons (.int 4) .nil)))) (.cons (.bin .add (.int 1) (.call 1001 (.cons (.v 1) (.cons (.int 4) .nil)))) .nil))))) (.cons (.ite (.not (.call 1015 (.cons (.v 1) (.cons (.v 3) (.cons (.call 1010 (.cons (.v 1) (.cons (.v 3) (.cons (.ix (.lst (.cons (.int 0) (.cons (.int 1) (.cons (.int 4) (.cons (.int 9) (.cons (.int 16) .nil)))))) (.call 1001 (.cons (.v 1) (.cons (.int 5) .nil)))) .nil)))) (.cons (.int 2) .nil)))))) (.cons (.ret (.bl false)) .nil) .nil) .nil))) (.cons (.ite (.cmp .eq (.call 1001 (.cons (.v 1) (.cons (.int 13) .nil))) (.int 7)) (.cons (.asg (.nm 3) (.call 1003 (.cons (.v 1) (.cons (.int 8) (.cons (.int 8) .nil))))) (.cons (.ite (.not (.call 1015 (.cons (.v 1) (.cons (.v 3) (.cons (.call 1010 (.cons (.v 1) (.cons (.v 3) (.cons (.int 400) .nil)))) (.cons (.int 1) .nil)))))) (.cons (.ret (.bl false)) .nil) .nil) .nil)) .nil) (.cons (.ret (.call 1016 (.cons (.v 1) .nil))) .nil))))⟩
def c_JOINS : List (Key × D) := [(.inr [100, 101], .str [110]), (.inr [100, 110], .str [101]), (.inr [100, 115], .str [119]), (.inr [100, 119], .str [115]), (.inr [115, 101], .str [119]), (.inr [115, 110], .str [115]), (.inr [115, 115], .str [110]), (.inr [115, 119], .str [101]), (.inr [117, 101], .str [115]), (.inr [117, 110], .str [119]), (.inr [117, 115], .str [101]), (.inr [117, 119], .str [110])]
def c_STEPS : List (Key × D) := [(.inr [101], .ktp [.int 0, .int 1]), (.inr [110], .ktp [.int (-1), .int 0]), (.inr [115], .ktp [.int 1, .int 0]), (.inr [119], .ktp [.int 0, .int (-1)])]
def c_OPPOSITE : List (Key × D) := [(.inr [101], .str [119]), (.inr [110], .str [115]), (.inr [115], .str [110]), (.inr [119], .str [101])]
def fns : Nat → Option Fn
  | 20 => some f_is_point
  | 0 => some f_next_cell
  | 1 => some f_has_cell
  | 2 => some f_is_open
  | 21 => some f_is_whole
  | 22 => some f_is_row
  | 23 => some f_is_side
  | 7 => some f_other_side
  | 24 => some f_is_end
  | 25 => some f_look_for_end
  | 9 => some f_partner_of
  | 10 => some f_run_from
  | 26 => some f_met_by_way
  | 11 => some f_put_sign
  | 13 => some f_run_deeds
  | 27 => some f_mates_along
  | 28 => some f_first_meeting
  | 29 => some f_ever_lit
  | 1000 => some f_law_urn
  | 1001 => some f_law_take
  | 1002 => some f_law_habit
  | 1003 => some f_law_board
  | 1004 => some f_law_setting
  | 1005 => some f_law_joined
  | 1006 => some f_law_beyond
  | 1007 => some f_law_ends
  | 1008 => some f_law_way
  | 1009 => some f_law_same
  | 1010 => some f_law_deeds
  | 1011 => some f_law_run
  | 1012 => some f_law_told
  | 1013 => some f_law_end_right
  | 1014 => some f_law_odd_right
  | 1015 => some f_law_asked
  | 1016 => some f_law_crossings
  | 1017 => some f_law
  | _ => none
def csts : Nat → List (Key × D)
  | 0 => c_JOINS
  | 1 => c_STEPS
  | 2 => c_OPPOSITE
  | _ => []
def prog : Prog := ⟨fns, csts⟩
end K82
end
section
set_option autoImplicit false
set_option maxRecDepth 100000
set_option maxHeartbeats 4000000
namespace K82
open PL
open PySem PySem.Spec PyProof.Rows L2
abbrev top (i : Nat) : Stmt := PySem.Challenge.pw_lightled_k82_whole_first_meeting_lit.main.body.getD i (.Pass ⟨0, 0, 0, 0⟩)
abbrev Bnd (d : DefT) : Prop := ∀ (kV doc pm : Value) (an : Option Addr) (cdv ct : Value) (us : List Value), us.length = d.ps.length → bindArgs (PySem.W.fnOf d.name d.name (defArgs d.st) (defBody d.st) (defScope d.st) .none kV doc pm an cdv ct) { pos := us } = pure (d.ps.zip us)
abbrev Bnd2 (c : ClsT) : Prop := ∀ (kV doc pm : Value) (an : Option Addr) (cdv ct : Value) (us : List Value), us.length = c.ps.length → bindArgs (PySem.W.fnOf "__init__" c.qual (defArgs c.st) (defBody c.st) (defScope c.st) .none kV doc pm an cdv ct) { pos := us } = pure (c.ps.zip us)
abbrev d_is_point : DefT := ⟨20, "is_point", top 7, ["thing"], 1⟩
theorem b_is_point : Bnd d_is_point := fun _ _ _ _ _ _ us hl => match us, hl with | [_], _ => rfl
abbrev d_next_cell : DefT := ⟨0, "next_cell", top 11, ["row", "column", "point", "down", "right"], 3⟩
theorem b_next_cell : Bnd d_next_cell := fun _ _ _ _ _ _ us hl => match us, hl with | [_, _, _], _ => rfl
abbrev d_has_cell : DefT := ⟨1, "has_cell", top 12, ["board", "row", "column"], 3⟩
theorem b_has_cell : Bnd d_has_cell := fun _ _ _ _ _ _ us hl => match us, hl with | [_, _, _], _ => rfl
abbrev d_is_open : DefT := ⟨2, "is_open", top 13, ["board", "row", "column"], 3⟩
theorem b_is_open : Bnd d_is_open := fun _ _ _ _ _ _ us hl => match us, hl with | [_, _, _], _ => rfl
abbrev d_is_whole : DefT := ⟨21, "is_whole", top 15, ["thing"], 1⟩
theorem b_is_whole : Bnd d_is_whole := fun _ _ _ _ _ _ us hl => match us, hl with | [_], _ => rfl
abbrev d_is_row : DefT := ⟨22, "is_row", top 16, ["thing", "many"], 2⟩
theorem b_is_row : Bnd d_is_row := fun _ _ _ _ _ _ us hl => match us, hl with | [_, _], _ => rfl
abbrev d_is_side : DefT := ⟨23, "is_side", top 18, ["board", "thing"], 2⟩
theorem b_is_side : Bnd d_is_side := fun _ _ _ _ _ _ us hl => match us, hl with | [_, _], _ => rfl
abbrev d_other_side : DefT := ⟨7, "other_side", top 19, ["board", "side", "row", "column", "point", "down", "right"], 2⟩
theorem b_other_side : Bnd d_other_side := fun _ _ _ _ _ _ us hl => match us, hl with | [_, _], _ => rfl
abbrev d_is_end : DefT := ⟨24, "is_end", top 21, ["board", "thing"], 2⟩
theorem b_is_end : Bnd d_is_end := fun _ _ _ _ _ _ us hl => match us, hl with | [_, _], _ => rfl
abbrev d_look_for_end : DefT := ⟨25, "look_for_end", top 22, ["board", "end"], 2⟩
theorem b_look_for_end : Bnd d_look_for_end := fun _ _ _ _ _ _ us hl => match us, hl with | [_, _], _ => rfl
abbrev d_partner_of : DefT := ⟨9, "partner_of", top 24, ["setting", "side", "row", "column", "point"], 2⟩
theorem b_partner_of : Bnd d_partner_of := fun _ _ _ _ _ _ us hl => match us, hl with | [_, _], _ => rfl
abbrev d_run_from : DefT := ⟨10, "run_from", top 25, ["board", "setting", "side", "found", "out", "after"], 3⟩
theorem b_run_from : Bnd d_run_from := fun _ _ _ _ _ _ us hl => match us, hl with | [_, _, _], _ => rfl
abbrev d_met_by_way : DefT := ⟨26, "met_by_way", top 27, ["way", "at"], 1⟩
theorem b_met_by_way : Bnd d_met_by_way := fun _ _ _ _ _ _ us hl => match us, hl with | [_], _ => rfl
abbrev d_put_sign : DefT := ⟨11, "put_sign", top 29, ["setting", "row", "column", "sign", "line"], 4⟩
theorem b_put_sign : Bnd d_put_sign := fun _ _ _ _ _ _ us hl => match us, hl with | [_, _, _, _], _ => rfl
abbrev d_run_deeds : DefT := ⟨13, "run_deeds", top 31, ["board", "setting", "deeds", "found", "row", "column", "letter"], 3⟩
theorem b_run_deeds : Bnd d_run_deeds := fun _ _ _ _ _ _ us hl => match us, hl with | [_, _, _], _ => rfl
abbrev d_mates_along : DefT := ⟨27, "mates_along", top 33, ["board", "setting", "deeds", "end", "one"], 4⟩
theorem b_mates_along : Bnd d_mates_along := fun _ _ _ _ _ _ us hl => match us, hl with | [_, _, _, _], _ => rfl
abbrev d_first_meeting : DefT := ⟨28, "first_meeting", top 34, ["board", "setting", "deeds", "one", "other", "mates"], 5⟩
theorem b_first_meeting : Bnd d_first_meeting := fun _ _ _ _ _ _ us hl => match us, hl with | [_, _, _, _, _], _ => rfl
abbrev d_ever_lit : DefT := ⟨29, "ever_lit", top 35, ["board", "setting", "deeds", "end", "known", "one", "cell"], 4⟩
theorem b_ever_lit : Bnd d_ever_lit := fun _ _ _ _ _ _ us hl => match us, hl with | [_, _, _, _], _ => rfl
abbrev d_law_urn : DefT := ⟨1000, "_law_urn", top 37, ["script", "urn", "cell", "size"], 1⟩
theorem b_law_urn : Bnd d_law_urn := fun _ _ _ _ _ _ us hl => match us, hl with | [_], _ => rfl
abbrev d_law_take : DefT := ⟨1001, "_law_take", top 38, ["urn", "many", "told"], 2⟩
theorem b_law_take : Bnd d_law_take := fun _ _ _ _ _ _ us hl => match us, hl with | [_, _], _ => rfl
abbrev d_law_habit : DefT := ⟨1002, "_law_habit", top 39, ["urn", "place", "many", "way", "one"], 3⟩
theorem b_law_habit : Bnd d_law_habit := fun _ _ _ _ _ _ us hl => match us, hl with | [_, _, _], _ => rfl
abbrev d_law_board : DefT := ⟨1003, "_law_board", top 40, ["urn", "rows", "columns", "style", "one", "some", "told", "row", "column"], 3⟩
theorem b_law_board : Bnd d_law_board := fun _ _ _ _ _ _ us hl => match us, hl with | [_, _, _], _ => rfl
abbrev d_law_setting : DefT := ⟨1004, "_law_setting", top 41, ["urn", "board", "told", "row", "signs", "kind"], 2⟩
theorem b_law_setting : Bnd d_law_setting := fun _ _ _ _ _ _ us hl => match us, hl with | [_, _], _ => rfl
abbrev d_law_joined : DefT := ⟨1005, "_law_joined", top 42, ["letter", "point"], 2⟩
theorem b_law_joined : Bnd d_law_joined := fun _ _ _ _ _ _ us hl => match us, hl with | [_, _], _ => rfl
abbrev d_law_beyond : DefT := ⟨1006, "_law_beyond", top 43, ["board", "side", "row", "column"], 2⟩
theorem b_law_beyond : Bnd d_law_beyond := fun _ _ _ _ _ _ us hl => match us, hl with | [_, _], _ => rfl
abbrev d_law_ends : DefT := ⟨1007, "_law_ends", top 44, ["board", "told", "row", "column", "sides", "point", "side"], 1⟩
theorem b_law_ends : Bnd d_law_ends := fun _ _ _ _ _ _ us hl => match us, hl with | [_], _ => rfl
abbrev d_law_way : DefT := ⟨1008, "_law_way", top 45, ["board", "setting", "end", "way", "side", "out"], 3⟩
theorem b_law_way : Bnd d_law_way := fun _ _ _ _ _ _ us hl => match us, hl with | [_, _, _], _ => rfl
abbrev d_law_same : DefT := ⟨1009, "_law_same", top 46, ["told", "due", "left", "one", "other", "at"], 2⟩
theorem b_law_same : Bnd d_law_same := fun _ _ _ _ _ _ us hl => match us, hl with | [_, _], _ => rfl
abbrev d_law_deeds : DefT := ⟨1010, "_law_deeds", top 47, ["urn", "board", "many", "cells", "row", "told", "turn", "column", "kind"], 3⟩
theorem b_law_deeds : Bnd d_law_deeds := fun _ _ _ _ _ _ us hl => match us, hl with | [_, _, _], _ => rfl
abbrev d_law_run : DefT := ⟨1011, "_law_run", top 48, ["setting", "deeds", "told", "row", "column", "letter", "now"], 2⟩
theorem b_law_run : Bnd d_law_run := fun _ _ _ _ _ _ us hl => match us, hl with | [_, _], _ => rfl
abbrev d_law_told : DefT := ⟨1012, "_law_told", top 49, ["which", "board", "setting", "deeds", "one", "other", "error"], 6⟩
theorem b_law_told : Bnd d_law_told := fun _ _ _ _ _ _ us hl => match us, hl with | [_, _, _, _, _, _], _ => rfl
abbrev d_law_end_right : DefT := ⟨1013, "_law_end_right", top 50, ["urn", "board", "setting", "deeds", "ends", "end", "ways", "mates", "cells", "way", "side", "away", "asked", "other", "due", "row"], 6⟩
theorem b_law_end_right : Bnd d_law_end_right := fun _ _ _ _ _ _ us hl => match us, hl with | [_, _, _, _, _, _], _ => rfl
abbrev d_law_odd_right : DefT := ⟨1014, "_law_odd_right", top 51, ["urn", "board", "setting", "deeds", "end", "row", "column", "point", "lines", "one", "at", "sides", "odd", "thing", "asked", "which", "other", "sign", "side"], 5⟩
theorem b_law_odd_right : Bnd d_law_odd_right := fun _ _ _ _ _ _ us hl => match us, hl with | [_, _, _, _, _], _ => rfl
abbrev d_law_asked : DefT := ⟨1015, "_law_asked", top 52, ["urn", "board", "deeds", "many", "setting", "ends", "turn"], 4⟩
theorem b_law_asked : Bnd d_law_asked := fun _ _ _ _ _ _ us hl => match us, hl with | [_, _, _, _], _ => rfl
abbrev d_law_crossings : DefT := ⟨1016, "_law_crossings", top 53, ["urn", "many", "board", "setting", "at", "deeds", "west", "east", "north", "south", "due", "other", "lit", "k"], 1⟩
theorem b_law_crossings : Bnd d_law_crossings := fun _ _ _ _ _ _ us hl => match us, hl with | [_], _ => rfl
abbrev d_law : DefT := ⟨1017, "law", top 54, ["script", "urn", "lap", "board"], 1⟩
theorem b_law : Bnd d_law := fun _ _ _ _ _ _ us hl => match us, hl with | [_], _ => rfl
def ds : List DefT := [d_is_point, d_next_cell, d_has_cell, d_is_open, d_is_whole, d_is_row, d_is_side, d_other_side, d_is_end, d_look_for_end, d_partner_of, d_run_from, d_met_by_way, d_put_sign, d_run_deeds, d_mates_along, d_first_meeting, d_ever_lit, d_law_urn, d_law_take, d_law_habit, d_law_board, d_law_setting, d_law_joined, d_law_beyond, d_law_ends, d_law_way, d_law_same, d_law_deeds, d_law_run, d_law_told, d_law_end_right, d_law_odd_right, d_law_asked, d_law_crossings, d_law]
abbrev k_BadStep : ClsT := ⟨"BadStep", "BadStep.__init__", [2, 1, 0], [0], inClass (top 3) 0, ["word"]⟩
theorem i_BadStep : Bnd2 k_BadStep := fun _ _ _ _ _ _ us hl => match us, hl with | [_, _], _ => rfl
def tab : LawT := ⟨prog, ds, [("POINTS", [101, 110, 115, 119])], ["JOINS", "STEPS", "OPPOSITE"], ["len", "abs", "int", "str", "tuple", "list", "sorted", "bool", "isinstance", "range"], [k_BadStep], [("LightError", 0), ("CallError", 1), ("BadStep", 2)], [("word", 0)]⟩
theorem okT_all : tab.okT = true := by decide +kernel
theorem bnd2_all : ∀ c ∈ tab.cs, Bnd2 c := by
  intro c hc
  have hc : c ∈ [k_BadStep] := hc
  simp only [List.mem_cons, List.not_mem_nil, or_false] at hc
  rcases hc with rfl
  · exact i_BadStep
theorem chk_all : (ds.all fun d => chkDef tab.stat prog d) = true := by decide +kernel
theorem bnd_all : ∀ d ∈ tab.ds, Bnd d := by
  intro d hd
  have hd : d ∈ [d_is_point, d_next_cell, d_has_cell, d_is_open, d_is_whole, d_is_row, d_is_side, d_other_side, d_is_end, d_look_for_end, d_partner_of, d_run_from, d_met_by_way, d_put_sign, d_run_deeds, d_mates_along, d_first_meeting, d_ever_lit, d_law_urn, d_law_take, d_law_habit, d_law_board, d_law_setting, d_law_joined, d_law_beyond, d_law_ends, d_law_way, d_law_same, d_law_deeds, d_law_run, d_law_told, d_law_end_right, d_law_odd_right, d_law_asked, d_law_crossings, d_law] := hd
  simp only [List.mem_cons, List.not_mem_nil, or_false] at hd
  rcases hd with rfl | rfl | rfl | rfl | rfl | rfl | rfl | rfl | rfl | rfl | rfl | rfl | rfl | rfl | rfl | rfl | rfl | rfl | rfl | rfl | rfl | rfl | rfl | rfl | rfl | rfl | rfl | rfl | rfl | rfl | rfl | rfl | rfl | rfl | rfl | rfl
  · exact b_is_point
  · exact b_next_cell
  · exact b_has_cell
  · exact b_is_open
  · exact b_is_whole
  · exact b_is_row
  · exact b_is_side
  · exact b_other_side
  · exact b_is_end
  · exact b_look_for_end
  · exact b_partner_of
  · exact b_run_from
  · exact b_met_by_way
  · exact b_put_sign
  · exact b_run_deeds
  · exact b_mates_along
  · exact b_first_meeting
  · exact b_ever_lit
  · exact b_law_urn
  · exact b_law_take
  · exact b_law_habit
  · exact b_law_board
  · exact b_law_setting
  · exact b_law_joined
  · exact b_law_beyond
  · exact b_law_ends
  · exact b_law_way
  · exact b_law_same
  · exact b_law_deeds
  · exact b_law_run
  · exact b_law_told
  · exact b_law_end_right
  · exact b_law_odd_right
  · exact b_law_asked
  · exact b_law_crossings
  · exact b_law
end K82
end
section
set_option Elab.async false
set_option linter.all false
set_option autoImplicit false
set_option maxRecDepth 100000
set_option maxHeartbeats 1000000
namespace K82
open PL
abbrev N0 : Nat := 100000
abbrev cF (k : Nat) : CF := callF prog N0 k
/-- a call: its body, by the number of parameters -/
theorem call_eq {k f : Nat} {fn : Fn} {ds : List D} {μ : Store} (hf : prog.fns f = some fn) (hn : ds.length = fn.np) :
    cF (k + 1) f ds μ = if D.dataL ds then graft (callB prog N0 (cF k) fn ds []) μ else callB prog N0 (cF k) fn ds μ := by
  show (match prog.fns f with
    | some fn => if ds.length = fn.np then (if D.dataL ds then graft (callB prog N0 (cF k) fn ds []) μ else callB prog N0 (cF k) fn ds μ) else .stuck
    | none => .stuck) = _
  rw [hf]
  simp only
  rw [if_pos hn]
/-- a call of data that hands back data -/
theorem call_data {k f : Nat} {fn : Fn} {ds : List D} {μ μ' : Store} {d : D} (hf : prog.fns f = some fn) (hn : ds.length = fn.np) (hd : D.dataL ds = true) (h : callB prog N0 (cF k) fn ds [] = .ok d μ') (hr : D.data d = true) : cF (k + 1) f ds μ = .ok d μ := by
  rw [call_eq hf hn, if_pos hd, h]
  show (if D.data d then _ else _) = _
  rw [if_pos hr]
/-- a call of data that hands back a list of data -/
theorem call_list {k f : Nat} {fn : Fn} {ds xs : List D} {μ μ' : Store} {l : Nat} (hf : prog.fns f = some fn) (hn : ds.length = fn.np) (hd : D.dataL ds = true) (h : callB prog N0 (cF k) fn ds [] = .ok (.loc l) μ') (hl : μ'[l]? = some (.lst xs)) (hr : D.dataL xs = true) :
    cF (k + 1) f ds μ = .ok (.loc μ.length) (μ ++ [.lst xs]) := by
  rw [call_eq hf hn, if_pos hd, h]
  unfold graft
  simp only [D.data, hl, hr, if_true]
  rfl
/-- a call with places -/
theorem call_loc {k f : Nat} {fn : Fn} {ds : List D} {μ : Store} (hf : prog.fns f = some fn) (hn : ds.length = fn.np) (hd : D.dataL ds = false) : cF (k + 1) f ds μ = callB prog N0 (cF k) fn ds μ := by
  rw [call_eq hf hn, hd]; rfl
theorem call_D {k f : Nat} {fn : Fn} {ds : List D} {μ : Store} {d : D} (hf : prog.fns f = some fn) (hn : ds.length = fn.np) (hd : D.dataL ds = true) (hr : D.data d = true) (h : okR (callB prog N0 (cF k) fn ds []) fun d' _ => d' = d) : cF (k + 1) f ds μ = .ok d μ := by
  obtain ⟨a, μ', e, rfl⟩ := okR_ex.mp h
  exact call_data hf hn hd e hr
theorem call_L {k f : Nat} {fn : Fn} {ds xs : List D} {μ : Store} (hf : prog.fns f = some fn) (hn : ds.length = fn.np) (hd : D.dataL ds = true) (hr : D.dataL xs = true) (h : okR (callB prog N0 (cF k) fn ds []) fun d' μ' => ∃ l, d' = .loc l ∧ μ'[l]? = some (.lst xs)) : cF (k + 1) f ds μ = .ok (.loc μ.length) (μ ++ [.lst xs]) := by
  obtain ⟨a, μ', e, l, rfl, hl⟩ := okR_ex.mp h
  exact call_list hf hn hd e hl hr
/-! sides -/
def stp : Nat → Int × Int
  | 101 => (0, 1)
  | 110 => (-1, 0)
  | 115 => (1, 0)
  | 119 => (0, -1)
  | _ => (0, 0)
def isPt (p : Nat) : Prop := p = 101 ∨ p = 110 ∨ p = 115 ∨ p = 119
theorem next_cell_ok {k : Nat} (hk : 1 ≤ k) {r c : Int} {p : Nat} (hp : isPt p) (μ : Store) : cF k 0 [.int r, .int c, .str [p]] μ = .ok (.tup [.int (r + (stp p).1), .int (c + (stp p).2)]) μ := by
  obtain ⟨k, rfl⟩ : ∃ j, k = j + 1 := ⟨k - 1, by omega⟩
  refine call_data (fn := f_next_cell) rfl rfl rfl (μ' := []) ?_ rfl
  unfold callB
  rcases hp with rfl | rfl | rfl | rfl <;> rfl
end K82
end
section
set_option Elab.async false
set_option linter.all false
set_option autoImplicit false
set_option maxRecDepth 100000
set_option maxHeartbeats 1000000
namespace K82
open PL
abbrev Board := List (List Txt)
abbrev Setting := List Txt
def rowD (r : List Txt) : D := .tup (r.map .str)
def bD (b : Board) : D := .tup (b.map rowD)
def sD (s : Setting) : D := .tup (s.map .str)
theorem dataL_str : ∀ r : List Txt, D.dataL (r.map .str) = true
  | [] => rfl
  | x :: r => by rw [List.map_cons, D.dataL, dataL_str r]; rfl
theorem dataL_row : ∀ b : Board, D.dataL (b.map rowD) = true
  | [] => rfl
  | x :: r => by
    rw [List.map_cons, D.dataL, dataL_row r]
    show (D.dataL (x.map .str) && true) = true
    rw [dataL_str]; rfl
theorem data_b (b : Board) : D.data (bD b) = true := dataL_row b
theorem data_s (s : Setting) : D.data (sD s) = true := dataL_str s
/-- a board: rows of one width -/
structure Bok (b : Board) (rows cols : Nat) : Prop where
  r : b.length = rows
  c : ∀ x ∈ b, x.length = cols
  r0 : 0 < rows
  c0 : 0 < cols
  rs : rows ≤ 8
  cs : cols ≤ 8
def rowAt (b : Board) (i : Nat) : List Txt := b.getD i []
def cell (b : Board) (r c : Int) : Txt := (rowAt b r.toNat).getD c.toNat []
def inB (rows cols : Nat) (r c : Int) : Bool := decide (0 ≤ r) && decide (r < rows) && (decide (0 ≤ c) && decide (c < cols))
def opn (b : Board) (rows cols : Nat) (r c : Int) : Bool := inB rows cols r c && !(cell b r c).isEmpty
theorem atIx_nat {α : Type} {xs : List α} {i : Int} (h0 : 0 ≤ i) (h1 : i < xs.length) : atIx xs i = xs[i.toNat]? := by
  unfold atIx pyIx
  rw [if_pos h0, if_pos h1]
  rfl
theorem b_row {b : Board} {rows cols : Nat} (B : Bok b rows cols) {r : Int} (h0 : 0 ≤ r) (h1 : r < rows) : atIx (b.map rowD) r = some (rowD (rowAt b r.toNat)) := by
  have hl : r.toNat < b.length := by rw [B.r]; omega
  rw [atIx_nat h0 (by rw [List.length_map, B.r]; exact h1), List.getElem?_map, List.getElem?_eq_getElem hl]
  unfold rowAt
  rw [List.getD_eq_getElem?_getD, List.getElem?_eq_getElem hl]
  rfl
theorem b_len {b : Board} {rows cols : Nat} (B : Bok b rows cols) {i : Nat} (h1 : i < rows) : (rowAt b i).length = cols := by
  have hl : i < b.length := by rw [B.r]; exact h1
  unfold rowAt
  rw [List.getD_eq_getElem?_getD, List.getElem?_eq_getElem hl]
  exact B.c _ (List.getElem_mem hl)
theorem b_cell {b : Board} {rows cols : Nat} (B : Bok b rows cols) {r c : Int} (h0 : 0 ≤ r) (h1 : r < rows) (h2 : 0 ≤ c) (h3 : c < cols) : atIx ((rowAt b r.toNat).map D.str) c = some (.str (cell b r c)) := by
  have hc := b_len B (i := r.toNat) (by omega)
  have hl : c.toNat < (rowAt b r.toNat).length := by rw [hc]; omega
  rw [atIx_nat h2 (by rw [List.length_map, hc]; exact h3), List.getElem?_map, List.getElem?_eq_getElem hl]
  unfold cell
  rw [List.getD_eq_getElem?_getD (l := rowAt b r.toNat), List.getElem?_eq_getElem hl]
  rfl
theorem has_cell_ok {k : Nat} (hk : 1 ≤ k) {b : Board} {rows cols : Nat} (B : Bok b rows cols) (r c : Int) (μ : Store) : cF k 1 [bD b, .int r, .int c] μ = .ok (.bl (inB rows cols r c)) μ := by
  obtain ⟨k, rfl⟩ : ∃ j, k = j + 1 := ⟨k - 1, by omega⟩
  refine call_data (fn := f_has_cell) rfl rfl (by simp [D.dataL, data_b, D.data]) (μ' := []) ?_ rfl
  have e0 := b_row B (r := 0) (by omega) (by have := B.r0; omega)
  have e1 : (rowAt b 0).length = cols := b_len B B.r0
  have e2 := B.r
  unfold inB
  by_cases h1 : 0 ≤ r <;> by_cases h2 : r < rows <;> by_cases h3 : 0 ≤ c <;> by_cases h4 : c < cols <;> simp [callB, f_has_cell, startE, bD, e0, rowD, e1, e2, h1, h2, h3, h4]
theorem cell_ok {b : Board} {rows cols : Nat} (B : Bok b rows cols) {r c : Int} (h : inB rows cols r c = true) : atIx (b.map rowD) r = some (rowD (rowAt b r.toNat)) ∧ atIx ((rowAt b r.toNat).map D.str) c = some (.str (cell b r c)) := by
  unfold inB at h
  simp only [Bool.and_eq_true, decide_eq_true_eq] at h
  exact ⟨b_row B h.1.1 h.1.2, b_cell B h.1.1 h.1.2 h.2.1 h.2.2⟩
theorem is_open_ok {k : Nat} (hk : 2 ≤ k) {b : Board} {rows cols : Nat} (B : Bok b rows cols) (r c : Int) (μ : Store) : cF k 2 [bD b, .int r, .int c] μ = .ok (.bl (opn b rows cols r c)) μ := by
  obtain ⟨k, rfl⟩ : ∃ j, k = j + 1 := ⟨k - 1, by omega⟩
  refine call_data (fn := f_is_open) rfl rfl (by simp [D.dataL, data_b, D.data]) (μ' := []) ?_ rfl
  have e0 := has_cell_ok (k := k) (by omega) B r c []
  unfold opn
  by_cases h : inB rows cols r c = true
  · obtain ⟨h1, h2⟩ := cell_ok B h
    simp [callB, f_is_open, startE, e0, h]
    simp [bD, h1, rowD, h2]
  · have h : inB rows cols r c = false := by simpa using h
    simp [callB, f_is_open, startE, e0, h]
end K82
end
section
set_option Elab.async false
set_option linter.all false
set_option autoImplicit false
set_option maxRecDepth 100000
set_option maxHeartbeats 1000000
namespace K82
open PL
def grid (rows cols : Nat) : List (Nat × Nat) := (List.range rows).flatMap fun r => (List.range cols).map fun c => (r, c)
def pD (p : Nat × Nat) : D := .tup [.int p.1, .int p.2]
theorem data_pairs : ∀ l : List (Nat × Nat), D.dataL (l.map pD) = true
  | [] => rfl
  | x :: l => by rw [List.map_cons, D.dataL, data_pairs l]; rfl
theorem grid_len (rows cols : Nat) : (grid rows cols).length = rows * cols := by
  unfold grid
  induction rows with
  | zero => simp
  | succ n ih => rw [List.range_succ, List.flatMap_append, List.length_append, ih]; simp [Nat.succ_mul]
theorem rngW_len (n : Nat) : (rngW (n : Int)).items.length = n := by simp [rngW]
theorem rngW_at {n i : Nat} {x : D} (h : (rngW (n : Int)).items[i]? = some x) : i < n ∧ x = .int i := by
  have hl : i < n := by
    have := (List.getElem?_eq_some_iff.mp h).1
    rwa [rngW_len] at this
  refine ⟨hl, ?_⟩
  simp [rngW, hl] at h
  exact h.symm
theorem rngW_stands (n : Int) (μ : Store) : (rngW n).stands μ := trivial
theorem rngW_start (n : Int) (μ : Store) : (rngW n).start μ = μ := rfl
theorem rngW_stop (n : Int) (r : SRes) : unlock (rngW n) r = r := by cases r <;> rfl
theorem unlock_row (xs : List D) (r : SRes) : unlock (.row xs) r = r := by cases r <;> rfl
theorem unlock_lst (l : Nat) (xs : List D) (r : SRes) : unlock (.lst l xs) r = r := by cases r <;> rfl
theorem new_eq (o : Obj) (μ : Store) : PL.new o μ = .ok (.loc μ.length) (μ ++ [o]) := rfl
theorem grid_succ (i cols : Nat) : grid (i + 1) cols = grid i cols ++ (List.range cols).map fun c => (i, c) := by unfold grid; rw [List.range_succ, List.flatMap_append]; simp
theorem small_rng {n : Nat} (h : n ≤ 1000000) (μ : Store) : rng1 (.int n) μ = .ok (rngW n) μ := rng1_int μ (by omega) (by omega)
theorem set0 (o o' : Obj) (μ : Store) : (o :: μ).set 0 o' = o' :: μ := rfl
theorem append0 (xs : List D) (d : D) (μ : Store) (h : xs.length < 1000000) : methF prog.cst .append (.loc 0) [d] (.lst xs :: μ) = .ok .non (.lst (xs ++ [d]) :: μ) := append_lst prog.cst (.lst xs :: μ) (l := 0) rfl h
theorem isLst0 (xs : List D) (μ : Store) : isLstD (.loc 0) (.lst xs :: μ) = true := rfl
end K82
end
section
set_option Elab.async false
set_option linter.all false
set_option autoImplicit false
set_option maxRecDepth 100000
set_option maxHeartbeats 1000000
namespace K82
open PL
def opens (b : Board) (rows cols : Nat) : List (Nat × Nat) := (grid rows cols).filter fun p => !(cell b p.1 p.2).isEmpty
theorem mem_grid {rows cols : Nat} {p : Nat × Nat} : p ∈ grid rows cols ↔ p.1 < rows ∧ p.2 < cols := by
  unfold grid
  obtain ⟨r, c⟩ := p
  simp only [List.mem_flatMap, List.mem_range, List.mem_map, Prod.mk.injEq]
  constructor
  · rintro ⟨r', h1, c', h2, rfl, rfl⟩; exact ⟨h1, h2⟩
  · rintro ⟨h1, h2⟩; exact ⟨r, h1, c, h2, rfl, rfl⟩
theorem grid_small {b : Board} {rows cols : Nat} (B : Bok b rows cols) : (grid rows cols).length ≤ 64 := by
  rw [grid_len]
  exact Nat.le_trans (Nat.mul_le_mul B.rs B.cs) (by decide)
theorem inB_nat {rows cols r c : Nat} (h1 : r < rows) (h2 : c < cols) : inB rows cols r c = true := by
  unfold inB
  simp only [Bool.and_eq_true, decide_eq_true_eq]
  omega
end K82
end
section
set_option Elab.async false
set_option linter.all false
set_option autoImplicit false
set_option maxRecDepth 100000
set_option maxHeartbeats 1000000
namespace K82
open PL
abbrev Side := Nat × Nat × Nat
def sdD (s : Side) : D := .tup [.int s.1, .int s.2.1, .str [s.2.2]]
def pts : List Nat := [101, 110, 115, 119]
theorem mem_pts {p : Nat} : p ∈ pts ↔ isPt p := by simp [pts, isPt]
theorem data_sides : ∀ l : List Side, D.dataL (l.map sdD) = true
  | [] => rfl
  | x :: l => by rw [List.map_cons, D.dataL, data_sides l]; rfl
def sides (b : Board) (rows cols : Nat) : List Side := (opens b rows cols).flatMap fun q => pts.map fun p => (q.1, q.2, p)
theorem opens_small {b : Board} {rows cols : Nat} (B : Bok b rows cols) : (opens b rows cols).length ≤ 64 := Nat.le_trans (List.length_filter_le _ _) (grid_small B)
theorem sides_len (b : Board) (rows cols : Nat) : (sides b rows cols).length = 4 * (opens b rows cols).length := by
  unfold sides
  induction opens b rows cols with
  | nil => rfl
  | cons x l ih => rw [List.flatMap_cons, List.length_append, ih]; simp [pts]; omega
def opp : Nat → Nat
  | 101 => 119
  | 110 => 115
  | 115 => 110
  | 119 => 101
  | _ => 0
/-- what is behind a side -/
def after (b : Board) (rows cols : Nat) (s : Side) : Option Side :=
  if opn b rows cols (s.1 + (stp s.2.2).1) (s.2.1 + (stp s.2.2).2) = true then some (((s.1 : Int) + (stp s.2.2).1).toNat, ((s.2.1 : Int) + (stp s.2.2).2).toNat, opp s.2.2) else none
def oD : Option Side → D
  | none => .non
  | some s => sdD s
theorem opn_in {b : Board} {rows cols : Nat} {r c : Int} (h : opn b rows cols r c = true) : 0 ≤ r ∧ r < rows ∧ 0 ≤ c ∧ c < cols ∧ (cell b r c).isEmpty = false := by
  unfold opn inB at h
  simp only [Bool.and_eq_true, decide_eq_true_eq, Bool.not_eq_true'] at h
  exact ⟨h.1.1.1, h.1.1.2, h.1.2.1, h.1.2.2, h.2⟩
theorem other_side_ok {k : Nat} (hk : 3 ≤ k) {b : Board} {rows cols : Nat} (B : Bok b rows cols) {s : Side} (hp : isPt s.2.2) (μ : Store) : cF k 7 [bD b, sdD s] μ = .ok (oD (after b rows cols s)) μ := by
  obtain ⟨k, rfl⟩ : ∃ j, k = j + 1 := ⟨k - 1, by omega⟩
  obtain ⟨r, c, p⟩ := s
  refine call_D (fn := f_other_side) rfl rfl (by simp [D.dataL, data_b, D.data, sdD]) (by unfold after; split <;> rfl) ?_
  have e0 := next_cell_ok (k := k) (by omega) (r := r) (c := c) hp []
  have e1 := is_open_ok (k := k) (by omega) B ((r : Int) + (stp p).1) ((c : Int) + (stp p).2) []
  by_cases ho : opn b rows cols (r + (stp p).1) (c + (stp p).2) = true
  · obtain ⟨h1, _, h2, _⟩ := opn_in ho
    have t1 : ((((r : Int) + (stp p).1).toNat : Nat) : Int) = r + (stp p).1 := by omega
    have t2 : ((((c : Int) + (stp p).2).toNat : Nat) : Int) = c + (stp p).2 := by omega
    have hx : ixF prog.cst (.cst 2) (.str [p]) [] = .ok (.str [opp p]) [] := by
      rcases hp with h | h | h | h <;> (simp only at h; subst h; rfl)
    simp -implicitDefEqProofs [callB, f_other_side, startE, sdD, e0, e1, ho, truthF, hx, after, oD, mostLen_eq]
    omega
  · have ho' : opn b rows cols (r + (stp p).1) (c + (stp p).2) = false := by simpa using ho
    simp -implicitDefEqProofs [callB, f_other_side, startE, sdD, e0, e1, ho', truthF, after, oD]
def ends (b : Board) (rows cols : Nat) : List Side := (sides b rows cols).filter fun s => (after b rows cols s).isNone
theorem mem_sides {b : Board} {rows cols : Nat} {s : Side} : s ∈ sides b rows cols ↔ s.1 < rows ∧ s.2.1 < cols ∧ (cell b s.1 s.2.1).isEmpty = false ∧ isPt s.2.2 := by
  unfold sides opens
  obtain ⟨r, c, p⟩ := s
  simp only [List.mem_flatMap, List.mem_filter, List.mem_map, Prod.mk.injEq, Bool.not_eq_true']
  constructor
  · rintro ⟨⟨r', c'⟩, ⟨h1, h2⟩, p', h3, rfl, rfl, rfl⟩
    obtain ⟨h4, h5⟩ := mem_grid.mp h1
    exact ⟨h4, h5, h2, mem_pts.mp h3⟩
  · rintro ⟨h1, h2, h3, h4⟩
    exact ⟨(r, c), ⟨mem_grid.mpr ⟨h1, h2⟩, h3⟩, p, mem_pts.mpr h4, rfl, rfl, rfl⟩
theorem isNon_oD (o : Option Side) : (oD o).isNon = o.isNone := by cases o <;> rfl
end K82
end
section
set_option Elab.async false
set_option linter.all false
set_option autoImplicit false
set_option maxRecDepth 100000
set_option maxHeartbeats 1000000
namespace K82
open PL
def isLt (l : Nat) : Prop := l = 100 ∨ l = 115 ∨ l = 117
/-- where a letter leads a light -/
def joins : Nat → Nat → Nat
  | 100, 101 => 110
  | 100, 110 => 101
  | 100, 115 => 119
  | 100, 119 => 115
  | 115, 101 => 119
  | 115, 110 => 115
  | 115, 115 => 110
  | 115, 119 => 101
  | 117, 101 => 115
  | 117, 110 => 119
  | 117, 115 => 101
  | 117, 119 => 110
  | _, _ => 0
def rowS (S : Setting) (r : Nat) : Txt := S.getD r []
def letter (S : Setting) (r c : Nat) : Nat := (rowS S r).getD c 0
/-- a setting of a board -/
structure Sok (b : Board) (rows cols : Nat) (S : Setting) : Prop where
  r : S.length = rows
  c : ∀ x ∈ S, x.length = cols
  l : ∀ r c, r < rows → c < cols → (cell b r c).isEmpty = false → isLt (letter S r c)
theorem s_row {S : Setting} {rows : Nat} (h : S.length = rows) {r : Nat} (h1 : r < rows) : atIx (S.map D.str) (r : Int) = some (.str (rowS S r)) := by
  have hl : r < S.length := by omega
  rw [atIx_nat (by omega) (by rw [List.length_map]; omega), List.getElem?_map]
  unfold rowS
  rw [List.getD_eq_getElem?_getD]
  have : ((r : Int)).toNat = r := by omega
  rw [this, List.getElem?_eq_getElem hl]
  rfl
theorem rowS_len {b : Board} {rows cols : Nat} {S : Setting} (O : Sok b rows cols S) {r : Nat} (h1 : r < rows) : (rowS S r).length = cols := by
  have hl : r < S.length := by rw [O.r]; exact h1
  unfold rowS
  rw [List.getD_eq_getElem?_getD, List.getElem?_eq_getElem hl]
  exact O.c _ (List.getElem_mem hl)
theorem s_at {t : Txt} {c : Nat} (h : c < t.length) : atIx t (c : Int) = some (t.getD c 0) := by
  rw [atIx_nat (by omega) (by omega), List.getD_eq_getElem?_getD]
  have : ((c : Int)).toNat = c := by omega
  rw [this, List.getElem?_eq_getElem h]
  rfl
def out (S : Setting) (s : Side) : Side := (s.1, s.2.1, joins (letter S s.1 s.2.1) s.2.2)
theorem joins_pt {l p : Nat} (hl : isLt l) (hp : isPt p) : isPt (joins l p) := by
  rcases hl with rfl | rfl | rfl <;> rcases hp with rfl | rfl | rfl | rfl <;> simp [joins, isPt]
theorem joins_inv {l p : Nat} (hl : isLt l) (hp : isPt p) : joins l (joins l p) = p := by
  rcases hl with rfl | rfl | rfl <;> rcases hp with rfl | rfl | rfl | rfl <;> rfl
theorem partner_of_ok {k : Nat} (hk : 1 ≤ k) {b : Board} {rows cols : Nat} (B : Bok b rows cols) {S : Setting} (O : Sok b rows cols S) {s : Side} (hs : s ∈ sides b rows cols) (μ : Store) : cF k 9 [sD S, sdD s] μ = .ok (sdD (out S s)) μ := by
  obtain ⟨k, rfl⟩ : ∃ j, k = j + 1 := ⟨k - 1, by omega⟩
  obtain ⟨r, c, p⟩ := s
  obtain ⟨h1, h2, h3, h4⟩ := mem_sides.mp hs
  refine call_D (fn := f_partner_of) rfl rfl (by simp [D.dataL, data_s, D.data, sdD]) rfl ?_
  have hl := O.l r c h1 h2 h3
  simp only at h1 h2 h3 h4
  have e1 := s_row O.r h1
  have hlen : (rowS S r).length = cols := rowS_len O h1
  have e2 := s_at (t := rowS S r) (c := c) (by rw [hlen]; exact h2)
  have hc := B.cs
  have hx : ixF prog.cst (.cst 0) (.str [letter S r c, p]) [] = .ok (.str [joins (letter S r c) p]) [] := by
    generalize letter S r c = l at hl
    have h4 : isPt p := h4
    rcases hl with rfl | rfl | rfl <;> rcases h4 with rfl | rfl | rfl | rfl <;> rfl
  have e3 : (rowS S r).length ≤ 1000000 := by omega
  have e2' : atIx (rowS S r) (c : Int) = some (letter S r c) := e2
  simp -implicitDefEqProofs [callB, f_partner_of, startE, sdD, sD, e1, e2', e3, mostLen_eq, hx, out]
/-- where a light that enters at a side comes out at last, in n steps -/
def walk (b : Board) (rows cols : Nat) (S : Setting) : Nat → Side → Option Side
  | 0, _ => none
  | n + 1, s => match after b rows cols (out S s) with
    | none => some (out S s)
    | some t => walk b rows cols S n t
theorem after_mem {b : Board} {rows cols : Nat} {s t : Side} (hp : isPt s.2.2) (h : after b rows cols s = some t) : t ∈ sides b rows cols := by
  unfold after at h
  split at h
  · rename_i ho
    cases h
    obtain ⟨h1, h2, h3, h4, h5⟩ := opn_in ho
    refine mem_sides.mpr ⟨?_, ?_, ?_, ?_⟩
    · show ((s.1 : Int) + (stp s.2.2).1).toNat < rows
      omega
    · show ((s.2.1 : Int) + (stp s.2.2).2).toNat < cols
      omega
    · show (cell b (((s.1 : Int) + (stp s.2.2).1).toNat : Nat) (((s.2.1 : Int) + (stp s.2.2).2).toNat : Nat)).isEmpty = false
      rw [Int.toNat_of_nonneg h1, Int.toNat_of_nonneg h3]
      exact h5
    · show isPt (opp s.2.2)
      rcases hp with h | h | h | h <;> (rw [h]; simp [opp, isPt])
  · cases h
theorem out_mem {b : Board} {rows cols : Nat} {S : Setting} (O : Sok b rows cols S) {s : Side} (hs : s ∈ sides b rows cols) : out S s ∈ sides b rows cols := by
  obtain ⟨h1, h2, h3, h4⟩ := mem_sides.mp hs
  exact mem_sides.mpr ⟨h1, h2, h3, joins_pt (O.l _ _ h1 h2 h3) h4⟩
theorem out_inv {b : Board} {rows cols : Nat} {S : Setting} (O : Sok b rows cols S) {s : Side} (hs : s ∈ sides b rows cols) : out S (out S s) = s := by
  obtain ⟨h1, h2, h3, h4⟩ := mem_sides.mp hs
  obtain ⟨r, c, p⟩ := s
  unfold out
  simp only
  rw [joins_inv (O.l _ _ h1 h2 h3) h4]
/-- the way back -/
theorem after_inv {b : Board} {rows cols : Nat} {s t : Side} (hs : s ∈ sides b rows cols) (h : after b rows cols s = some t) : after b rows cols t = some s := by
  obtain ⟨h1, h2, h3, h4⟩ := mem_sides.mp hs
  obtain ⟨r, c, p⟩ := s
  simp only at h1 h2 h3 h4
  unfold after at h
  split at h
  · rename_i ho
    cases h
    simp only at ho
    obtain ⟨a1, a2, a3, a4, a5⟩ := opn_in ho
    have q1 : ((((r : Int) + (stp p).1).toNat : Nat) : Int) = r + (stp p).1 := Int.toNat_of_nonneg a1
    have q2 : ((((c : Int) + (stp p).2).toNat : Nat) : Int) = c + (stp p).2 := Int.toNat_of_nonneg a3
    have s1 : (stp (opp p)).1 = - (stp p).1 ∧ (stp (opp p)).2 = - (stp p).2 ∧ opp (opp p) = p := by
      rcases h4 with h | h | h | h <;> (rw [h]; exact ⟨rfl, rfl, rfl⟩)
    unfold after
    simp only
    rw [q1, q2, s1.1, s1.2.1, s1.2.2]
    have e1 : (r : Int) + (stp p).1 + -(stp p).1 = r := by omega
    have e2 : (c : Int) + (stp p).2 + -(stp p).2 = c := by omega
    rw [e1, e2]
    have ho2 : opn b rows cols r c = true := by
      unfold opn
      rw [inB_nat h1 h2, h3]; rfl
    rw [if_pos ho2]
    simp
  · cases h
end K82
end
section
set_option Elab.async false
set_option linter.all false
set_option autoImplicit false
set_option maxRecDepth 100000
set_option maxHeartbeats 1000000
namespace K82
open PL
/-! a light comes out -/
theorem sub_len {α : Type} [DecidableEq α] : ∀ (l m : List α), l.Nodup → (∀ x ∈ l, x ∈ m) → l.length ≤ m.length
  | [], _, _, _ => Nat.zero_le _
  | a :: l, m, hn, hs => by
    rw [List.nodup_cons] at hn
    have ha : a ∈ m := hs a (List.mem_cons_self ..)
    have h := sub_len l (m.erase a) hn.2 fun x hx => by
      rw [List.mem_erase_of_ne (fun e : x = a => hn.1 (e ▸ hx))]
      exact hs x (List.mem_cons_of_mem _ hx)
    rw [List.length_erase_of_mem ha] at h
    have : 0 < m.length := List.length_pos_of_mem ha
    rw [List.length_cons]
    omega
section
variable {b : Board} {rows cols : Nat} {S : Setting}
/-- a step of the light -/
def nxt (b : Board) (rows cols : Nat) (S : Setting) (s : Side) : Option Side := after b rows cols (out S s)
theorem nxt_mem (O : Sok b rows cols S) {s t : Side} (hs : s ∈ sides b rows cols) (h : nxt b rows cols S s = some t) : t ∈ sides b rows cols :=
  after_mem (mem_sides.mp (out_mem O hs)).2.2.2 h
theorem nxt_inj (O : Sok b rows cols S) {s t u : Side} (hs : s ∈ sides b rows cols) (ht : t ∈ sides b rows cols) (h1 : nxt b rows cols S s = some u) (h2 : nxt b rows cols S t = some u) : s = t := by
  have a1 := after_inv (out_mem O hs) h1
  have a2 := after_inv (out_mem O ht) h2
  rw [a1] at a2
  have e : out S s = out S t := Option.some.inj a2
  rw [← out_inv O hs, ← out_inv O ht, e]
/-- a way of the light: from the last side back to the first -/
inductive Way (b : Board) (rows cols : Nat) (S : Setting) (s0 : Side) : List Side → Prop where
  | one : Way b rows cols S s0 [s0]
  | step {s t : Side} {l : List Side} : Way b rows cols S s0 (s :: l) → nxt b rows cols S s = some t → Way b rows cols S s0 (t :: s :: l)
theorem way_mem (O : Sok b rows cols S) {s0 : Side} (h0 : s0 ∈ sides b rows cols) {l : List Side} (w : Way b rows cols S s0 l) : ∀ x ∈ l, x ∈ sides b rows cols := by
  induction w with
  | one => intro x hx; rw [List.mem_singleton.mp hx]; exact h0
  | step w h ih =>
    intro x hx
    rcases List.mem_cons.mp hx with rfl | hx
    · exact nxt_mem O (ih _ (List.mem_cons_self ..)) h
    · exact ih x hx
/-- each side of a way is its beginning, or is led to by one further back -/
theorem way_prev {s0 : Side} {l : List Side} (w : Way b rows cols S s0 l) : ∀ x ∈ l, x = s0 ∨ ∃ y ∈ l.tail, nxt b rows cols S y = some x := by
  induction w with
  | one => intro x hx; exact .inl (List.mem_singleton.mp hx)
  | step w h ih =>
    intro x hx
    rcases List.mem_cons.mp hx with rfl | hx
    · exact .inr ⟨_, List.mem_cons_self .., h⟩
    · rcases ih x hx with e | ⟨y, hy, e⟩
      · exact .inl e
      · exact .inr ⟨y, List.mem_cons_of_mem _ hy, e⟩
theorem way_nodup (O : Sok b rows cols S) {s0 : Side} (h0 : s0 ∈ sides b rows cols) (he : after b rows cols s0 = none) {l : List Side} (w : Way b rows cols S s0 l) : l.Nodup := by
  induction w with
  | one => simp
  | @step s t l w h ih =>
    rw [List.nodup_cons]
    refine ⟨fun hm => ?_, ih⟩
    have hmem := way_mem O h0 w
    rcases way_prev w t hm with rfl | ⟨y, hy, e⟩
    · have := after_inv (out_mem O (hmem s (List.mem_cons_self ..))) h
      rw [he] at this
      cases this
    · have hy' : y ∈ l := hy
      have : s = y := nxt_inj O (hmem s (List.mem_cons_self ..)) (hmem y (List.mem_cons_of_mem _ hy')) h e
      subst this
      exact (List.nodup_cons.mp ih).1 hy'
theorem walk_of_way (O : Sok b rows cols S) {s0 : Side} (h0 : s0 ∈ sides b rows cols) (he : after b rows cols s0 = none) : ∀ (n : Nat) (s : Side) (l : List Side), Way b rows cols S s0 (s :: l) → (sides b rows cols).length < n + (l.length + 1) → ∃ m, walk b rows cols S n s = some m
  | 0, s, l, w, h => by
    have := sub_len _ _ (way_nodup O h0 he w) (way_mem O h0 w)
    rw [List.length_cons] at this
    omega
  | n + 1, s, l, w, h => by
    unfold walk
    cases e : after b rows cols (out S s) with
    | none => exact ⟨_, rfl⟩
    | some t => exact walk_of_way O h0 he n t (s :: l) (.step w e) (by rw [List.length_cons]; omega)
theorem walk_mono : ∀ (n : Nat) (s m : Side), walk b rows cols S n s = some m → ∀ k, n ≤ k → walk b rows cols S k s = some m
  | 0, s, m, h, _, _ => by cases h
  | n + 1, s, m, h, 0, hk => by omega
  | n + 1, s, m, h, k + 1, hk => by
    unfold walk at h ⊢
    cases e : after b rows cols (out S s) with
    | none => rw [e] at h; exact h
    | some t =>
      rw [e] at h
      exact walk_mono n t m h k (by omega)
/-- where the light of an end comes out -/
def mate (b : Board) (rows cols : Nat) (S : Setting) (s : Side) : Side := (walk b rows cols S 300 s).getD s
theorem mate_walk (B : Bok b rows cols) (O : Sok b rows cols S) {s : Side} (hs : s ∈ ends b rows cols) : walk b rows cols S 300 s = some (mate b rows cols S s) := by
  have hs' := List.mem_filter.mp hs
  have he : after b rows cols s = none := by simpa using hs'.2
  have hl : (sides b rows cols).length ≤ 256 := by rw [sides_len]; have := opens_small B; omega
  obtain ⟨m, h⟩ := walk_of_way O hs'.1 he 300 s [] .one (by simp; omega)
  unfold mate
  rw [h]; rfl
/-- a light leads from a side to the last one -/
inductive Leads (b : Board) (rows cols : Nat) (S : Setting) : Side → Side → Prop where
  | out {s : Side} : after b rows cols (out S s) = none → Leads b rows cols S s (K82.out S s)
  | on {s t m : Side} : after b rows cols (K82.out S s) = some t → Leads b rows cols S t m → Leads b rows cols S s m
theorem leads_of_walk : ∀ (n : Nat) (s m : Side), walk b rows cols S n s = some m → Leads b rows cols S s m
  | 0, _, _, h => by cases h
  | n + 1, s, m, h => by
    unfold walk at h
    cases e : after b rows cols (out S s) with
    | none => rw [e] at h; cases h; exact .out e
    | some t => rw [e] at h; exact .on e (leads_of_walk n t m h)
theorem leads_uniq {s m m' : Side} (h : Leads b rows cols S s m) (h' : Leads b rows cols S s m') : m = m' := by
  induction h with
  | out e =>
    cases h' with
    | out _ => rfl
    | on e' _ => rw [e] at e'; cases e'
  | on e _ ih =>
    cases h' with
    | out e' => rw [e] at e'; cases e'
    | on e' h2 =>
      rw [e] at e'
      cases e'
      exact ih h2
theorem leads_end {s m : Side} (O : Sok b rows cols S) (hs : s ∈ sides b rows cols) (h : Leads b rows cols S s m) : m ∈ ends b rows cols := by
  induction h with
  | out e => exact List.mem_filter.mpr ⟨out_mem O hs, by rw [e]; rfl⟩
  | on e _ ih => exact ih (nxt_mem O hs e)
/-- the way back leads to where the way began -/
theorem leads_back {s m x : Side} (O : Sok b rows cols S) (hs : s ∈ sides b rows cols) (h : Leads b rows cols S s m) : Leads b rows cols S (out S s) x → Leads b rows cols S m x := by
  induction h with
  | out e => exact fun h => h
  | @on s t m e _ ih =>
    intro hx
    have ht := nxt_mem O hs e
    refine ih ht (.on (t := out S s) ?_ hx)
    rw [out_inv O ht]
    exact after_inv (out_mem O hs) e
theorem mate_leads (B : Bok b rows cols) (O : Sok b rows cols S) {s : Side} (hs : s ∈ ends b rows cols) : Leads b rows cols S s (mate b rows cols S s) := leads_of_walk _ _ _ (mate_walk B O hs)
theorem mate_end (B : Bok b rows cols) (O : Sok b rows cols S) {s : Side} (hs : s ∈ ends b rows cols) : mate b rows cols S s ∈ ends b rows cols := leads_end O (List.mem_filter.mp hs).1 (mate_leads B O hs)
theorem mate_mate (B : Bok b rows cols) (O : Sok b rows cols S) {s : Side} (hs : s ∈ ends b rows cols) : mate b rows cols S (mate b rows cols S s) = s := by
  have hs' := List.mem_filter.mp hs
  have he : after b rows cols s = none := by simpa using hs'.2
  have h1 : Leads b rows cols S (out S s) s := by
    have := Leads.out (b := b) (rows := rows) (cols := cols) (S := S) (s := out S s) (by rw [out_inv O hs'.1]; exact he)
    rw [out_inv O hs'.1] at this
    exact this
  exact leads_uniq (mate_leads B O (mate_end B O hs)) (leads_back O hs'.1 (mate_leads B O hs) h1)
theorem leads_mate (B : Bok b rows cols) (O : Sok b rows cols S) {s m : Side} (hs : s ∈ ends b rows cols) (h : Leads b rows cols S s m) : mate b rows cols S s = m := leads_uniq (mate_leads B O hs) h
end
end K82
end
section
set_option Elab.async false
set_option linter.all false
set_option autoImplicit false
set_option maxRecDepth 100000
set_option maxHeartbeats 1000000
namespace K82
open PL
theorem atIx_last {α : Type} (xs : List α) (d : α) : atIx (xs ++ [d]) (-1) = some d := by
  unfold atIx pyIx
  rw [if_neg (by decide), if_pos (by simp; omega)]
  have : ((-1 : Int) + ((xs ++ [d]).length : Int)).toNat = xs.length := by simp; omega
  simp only [Option.bind_some, this]
  simp
theorem eqOk_side {s : Side} (h : isPt s.2.2) : D.eqOk (sdD s) = true := by
  obtain ⟨r, c, p⟩ := s
  rcases h with h | h | h | h <;> (simp only at h; subst h; rfl)
theorem deq_side (s t : Side) : deq (sdD s) (sdD t) = decide (s = t) := by
  obtain ⟨r, c, p⟩ := s
  obtain ⟨r', c', p'⟩ := t
  by_cases h1 : r = r' <;> by_cases h2 : c = c' <;> by_cases h3 : p = p' <;> simp [sdD, deq, deqL, h1, h2, h3] <;> omega
theorem eq_side (C : Nat → List (Key × D)) {s t : Side} (h1 : isPt s.2.2) (h2 : isPt t.2.2) (μ : Store) : cmpF C .eq (sdD s) (sdD t) μ = .ok (decide (s = t)) μ := by
  show (if eqOk2 (sdD s) (sdD t) = true then Res.ok (deq (sdD s) (sdD t)) μ else .stuck) = _
  rw [if_pos (by unfold eqOk2; rw [eqOk_side h1, eqOk_side h2]; simp), deq_side]
theorem lst0 (xs : List D) (μ : Store) : (Obj.lst xs :: μ)[0]? = some (.lst xs) := rfl
theorem ix0 (xs : List D) (μ : Store) (i : Int) : ixF prog.cst (.loc 0) (.int i) (.lst xs :: μ) = okI (atIx xs i) (.lst xs :: μ) := ix_lst prog.cst (.lst xs :: μ) rfl
def RunI (b : Board) (rows cols : Nat) (S : Setting) (e m : Side) (n : Nat) (ρ : Env) (μ : Store) : Prop := ∃ (s : Side) (L : List Side) (x y : Option D), ρ = [some (bD b), some (sD S), some (sdD e), some (.loc 0), x, y] ∧ μ = [.lst (L.map sdD ++ [sdD s])] ∧ s ∈ sides b rows cols ∧ walk b rows cols S n s = some m ∧ L.length + 2 * n ≤ 600
theorem run_from_ok {k : Nat} (hk : 4 ≤ k) {b : Board} {rows cols : Nat} (B : Bok b rows cols) {S : Setting} (O : Sok b rows cols S) {e : Side} (he : e ∈ ends b rows cols) (μ : Store) :
    ∃ L : List Side, cF k 10 [bD b, sD S, sdD e] μ = .ok (.loc μ.length) (μ ++ [.lst ((L ++ [mate b rows cols S e]).map sdD)]) ∧ L.length ≤ 1000 := by
  obtain ⟨k, rfl⟩ : ∃ j, k = j + 1 := ⟨k - 1, by omega⟩
  have he' := List.mem_filter.mp he
  have hn : after b rows cols e = none := by simpa using he'.2
  have pe := (mem_sides.mp he'.1).2.2.2
  have hw := mate_walk B O he
  generalize mate b rows cols S e = m at hw
  have key : okR (callB prog N0 (cF k) f_run_from [bD b, sD S, sdD e] []) fun d μ => ∃ L : List Side, d = .loc 0 ∧ μ[0]? = some (.lst ((L ++ [m]).map sdD)) ∧ L.length ≤ 1000 := by
    have h0 : (1 : Nat) ≤ mostLen := by decide
    simp -implicitDefEqProofs [callB, f_run_from, startE, new_eq, h0]
    refine whl_wp (RunI b rows cols S e m) ?_ N0 300 _ _ (by decide) ⟨e, [], none, none, rfl, rfl, he'.1, hw, by simp⟩
    rintro n ρ μ ⟨s, L, x, y, rfl, rfl, hs, hwk, hL⟩
    cases n with
    | zero => cases hwk
    | succ n =>
      have po := (mem_sides.mp (out_mem O hs)).2.2.2
      have e1 := fun μ => partner_of_ok (k := k) (by omega) B O hs μ
      have e2 := fun μ => other_side_ok (k := k) (by omega) B po μ
      have l1 : (L.map sdD ++ [sdD s]).length < 1000000 := by simp; omega
      have l1' : L.length + 1 < 1000000 := by omega
      unfold walk at hwk
      cases ea : after b rows cols (out S s) with
      | none =>
        rw [ea] at hwk
        cases hwk
        simp -implicitDefEqProofs [ix0, atIx_last, e1, isLst0, append0, l1', e2, ea, oD]
        exact ⟨L ++ [s], by simp, by simp; omega⟩
      | some t =>
        rw [ea] at hwk
        have ht := after_mem po ea
        have pt := (mem_sides.mp ht).2.2.2
        have hne : t ≠ e := by
          rintro rfl
          have := after_inv (out_mem O hs) ea
          rw [hn] at this; cases this
        have l2' : L.length + 1 + 1 < 1000000 := by omega
        have isn : (sdD t).isNon = false := rfl
        simp -implicitDefEqProofs [ix0, atIx_last, e1, isLst0, append0, l1', l2', e2, ea, oD, isn, eq_side _ pt pe, hne]
        exact ⟨n, by omega, t, L ++ [s, out S s], _, _, rfl, by simp, ht, hwk, by simp; omega⟩
  obtain ⟨d, μ', e1, L, rfl, e2, e3⟩ := okR_ex.mp key
  exact ⟨L, call_list (fn := f_run_from) rfl rfl (by simp [D.dataL, data_b, data_s, D.data, sdD]) e1 e2 (data_sides _), e3⟩
end K82
end
section
set_option Elab.async false
set_option linter.all false
set_option autoImplicit false
set_option maxRecDepth 100000
set_option maxHeartbeats 1000000
namespace K82
open PL
/-! the law's own light -/
theorem ix_s0 (s : Side) : atIx [D.int s.1, .int s.2.1, .str [s.2.2]] 0 = some (.int s.1) := rfl
theorem ix_s1 (s : Side) : atIx [D.int s.1, .int s.2.1, .str [s.2.2]] 1 = some (.int s.2.1) := rfl
theorem ix_s2 (s : Side) : atIx [D.int s.1, .int s.2.1, .str [s.2.2]] 2 = some (.str [s.2.2]) := rfl
theorem law_joined_ok {k : Nat} (hk : 1 ≤ k) {l p : Nat} (hl : isLt l) (hp : isPt p) (μ : Store) : cF k 1005 [.str [l], .str [p]] μ = .ok (.str [joins l p]) μ := by
  obtain ⟨k, rfl⟩ : ∃ j, k = j + 1 := ⟨k - 1, by omega⟩
  obtain ⟨μ', e⟩ : ∃ μ', callB prog N0 (cF k) f_law_joined [.str [l], .str [p]] [] = .ok (.str [joins l p]) μ' := by
    rcases hl with rfl | rfl | rfl <;> rcases hp with rfl | rfl | rfl | rfl <;> exact ⟨_, rfl⟩
  exact call_data (fn := f_law_joined) rfl rfl rfl e rfl
theorem disp_ok {C : Nat → List (Key × D)} {cf : CF} {ks : List Key} {es : Es} {ρ : Env} {ds : List D} (h : ∀ μ, evs C cf es ρ μ = .ok ds μ) (hl : ds.length = ks.length) (h15 : ks.length ≤ 15) (μ : Store) :
    ev C cf (.disp ks es) ρ μ = .ok (.loc μ.length) (μ ++ [.dK false ((ks.zip ds).foldl (fun acc p => put acc p.1 p.2) [])]) := by
  show ((evs C cf es ρ (μ ++ [.dK false []])).bind fun ds μ' => match μ'[μ.length]? with
    | some (.dK false []) => if ds.length = ks.length ∧ ks.length ≤ 15 then .ok (.loc μ.length) (μ'.set μ.length (.dK false ((ks.zip ds).foldl (fun acc p => put acc p.1 p.2) []))) else .stuck
    | _ => .stuck : Res D) = _
  rw [h, bind_ok]
  have e : (μ ++ [Obj.dK false []])[μ.length]? = some (.dK false []) := by simp
  rw [e]
  simp only
  rw [if_pos ⟨hl, h15⟩]
  simp
theorem find_end {C : Nat → List (Key × D)} {μ : Store} {kvs : List (Key × D)} {s : Txt} : findF C (.loc μ.length) (.str s) (μ ++ [.dK false kvs]) = some (look kvs (.inr s)) := by
  unfold findF
  have e : (μ ++ [Obj.dK false kvs])[μ.length]? = some (.dK false kvs) := by simp
  simp only [e]
  rfl
theorem get2_end {C : Nat → List (Key × D)} {μ : Store} {kvs : List (Key × D)} {s : Txt} {d : D} : methF C .get2 (.loc μ.length) [.str s, d] (μ ++ [.dK false kvs]) = .ok ((look kvs (.inr s)).getD d) (μ ++ [.dK false kvs]) := by
  show (match findF C (.loc μ.length) (.str s) (μ ++ [.dK false kvs]) with
    | some r => .ok (r.getD d) (μ ++ [.dK false kvs])
    | none => .stuck : Res D) = _
  rw [find_end]
theorem mfOk_end {m : Mf} (hm : m = .get ∨ m = .get2) {μ : Store} {kvs : List (Key × D)} : mfOk m (.loc μ.length) (μ ++ [.dK false kvs]) = true := by
  have e : (μ ++ [Obj.dK false kvs])[μ.length]? = some (.dK false kvs) := by simp
  rcases hm with rfl | rfl <;> (unfold mfOk isDctD; simp only [e])
theorem ix_end {C : Nat → List (Key × D)} {μ : Store} {kvs : List (Key × D)} {s : Txt} {v : D} (h : look kvs (.inr s) = some v) : ixF C (.loc μ.length) (.str s) (μ ++ [.dK false kvs]) = .ok v (μ ++ [.dK false kvs]) := by
  unfold ixF
  have e : (μ ++ [Obj.dK false kvs])[μ.length]? = some (.dK false kvs) := by simp
  simp only [e]
  rw [find_end, h]
theorem law_beyond_ok {k : Nat} (hk : 1 ≤ k) {b : Board} {rows cols : Nat} (B : Bok b rows cols) {s : Side} (hp : isPt s.2.2) (μ : Store) : cF k 1006 [bD b, sdD s] μ = .ok (oD (after b rows cols s)) μ := by
  obtain ⟨k, rfl⟩ : ∃ j, k = j + 1 := ⟨k - 1, by omega⟩
  obtain ⟨r, c, p⟩ := s
  refine call_D (fn := f_law_beyond) rfl rfl (by simp [D.dataL, data_b, D.data, sdD]) (by unfold after; split <;> rfl) ?_
  have e0 := b_row B (r := 0) (by omega) (by have := B.r0; omega)
  have e1 : (rowAt b 0).length = cols := b_len B B.r0
  have e2 := B.r
  have hp : isPt p := hp
  -- the two places
  have step : ∃ μ', ex prog.cst (cF k) N0 (.par 2 3 (.bin .add (.ix (.v 1) (.int 0)) (.meth .get2 (.disp [(.inr [110]), (.inr [115])] (.cons (.neg (.int 1)) (.cons (.int 1) .nil))) (.cons (.ix (.v 1) (.int 2)) (.cons (.int 0) .nil)))) (.bin .add (.ix (.v 1) (.int 1)) (.meth .get2 (.disp [(.inr [119]), (.inr [101])] (.cons (.neg (.int 1)) (.cons (.int 1) .nil))) (.cons (.ix (.v 1) (.int 2)) (.cons (.int 0) .nil))))) [some (bD b), some (sdD (r, c, p)), none, none] [] =
      .go .nx [some (bD b), some (sdD (r, c, p)), some (.int (r + (stp p).1)), some (.int (c + (stp p).2))] μ' := by
    rcases hp with rfl | rfl | rfl | rfl <;> exact ⟨_, rfl⟩
  obtain ⟨μ1, step⟩ := step
  have last : ∀ (ρ : Env) μ, ρ[1]? = some (some (sdD (r, c, p))) → ∃ μ', ev prog.cst (cF k) (.ix (.disp [(.inr [101]), (.inr [119]), (.inr [110]), (.inr [115])] (.cons (.str [119]) (.cons (.str [101]) (.cons (.str [115]) (.cons (.str [110]) .nil))))) (.ix (.v 1) (.int 2))) ρ μ = .ok (.str [opp p]) μ' := by
    intro ρ μ hρ
    rw [ev_ix, disp_ok (ds := [.str [119], .str [101], .str [115], .str [110]]) (fun _ => rfl) rfl (by decide), bind_ok, ev_ix, ev_v, hρ, getV_some, bind_ok, ev_int, bind_ok]
    rw [show ixF prog.cst (sdD (r, c, p)) (.int 2) _ = .ok (.str [p]) _ from rfl, bind_ok]
    rcases hp with rfl | rfl | rfl | rfl <;> exact ⟨_, ix_end rfl⟩
  unfold callB f_law_beyond
  simp -implicitDefEqProofs only [startE, okR_handed, exs_cons, okS_next, List.map, List.replicate, List.cons_append, List.nil_append]
  rw [step, okS_go, thenS_nx]
  simp -implicitDefEqProofs only [exs_cons, okS_next, exs_nil, ex_ite, okS_of, evT_or, evT_cmp, okR_bind]
  generalize hr : (r : Int) + (stp p).1 = r'
  generalize hc : (c : Int) + (stp p).2 = c'
  have ha : after b rows cols (r, c, p) = if opn b rows cols r' c' = true then some (r'.toNat, c'.toNat, opp p) else none := by unfold after; simp only [hr, hc]
  have e0' : atIx (b.map rowD) 0 = some (rowD (rowAt b 0)) := e0
  rw [ha]
  by_cases h1 : r' < 0
  · have ho : opn b rows cols r' c' = false := by unfold opn inB; simp [show ¬ 0 ≤ r' by omega]
    simp -implicitDefEqProofs [h1, ho, oD]
  · by_cases h2 : c' < 0
    · have ho : opn b rows cols r' c' = false := by unfold opn inB; simp [show ¬ 0 ≤ c' by omega]
      simp -implicitDefEqProofs [h1, h2, ho, oD]
    · by_cases h3 : rows ≤ r'
      · have ho : opn b rows cols r' c' = false := by unfold opn inB; simp [show ¬ r' < rows by omega]
        simp -implicitDefEqProofs [h1, h2, bD, e2, h3, ho, oD]
      · by_cases h4 : cols ≤ c'
        · have ho : opn b rows cols r' c' = false := by unfold opn inB; simp [show ¬ c' < cols by omega]
          simp -implicitDefEqProofs [h1, h2, bD, e2, h3, e0', rowD, e1, h4, ho, oD]
        · have hin : inB rows cols r' c' = true := by
            unfold inB
            simp only [Bool.and_eq_true, decide_eq_true_eq]
            omega
          obtain ⟨c1, c2⟩ := cell_ok B hin
          by_cases h5 : cell b r' c' = []
          · have ho : opn b rows cols r' c' = false := by unfold opn; rw [h5]; simp
            simp -implicitDefEqProofs [h1, h2, bD, e2, h3, e0', rowD, e1, h4, c1, c2, h5, ho, oD]
          · have ho : opn b rows cols r' c' = true := by
              unfold opn
              rw [hin]
              cases hz : cell b r' c' with
              | nil => exact absurd hz h5
              | cons _ _ => rfl
            have h5' : (cell b r' c' == []) = false := by simpa using h5
            have t1 : ((r'.toNat : Nat) : Int) = r' := by omega
            have t2 : ((c'.toNat : Nat) : Int) = c' := by omega
            obtain ⟨μ2, el⟩ := last [some (bD b), some (sdD (r, c, p)), some (.int r'), some (.int c')] μ1 rfl
            simp -implicitDefEqProofs [h1, h2, bD, e2, h3, e0', rowD, e1, h4, c1, c2, h5, ho, oD]
            rw [disp_ok (ds := [.str [119], .str [101], .str [115], .str [110]]) (fun _ => rfl) rfl (by decide), okR_ok]
            rw [show ∀ μ, ixF prog.cst (sdD (r, c, p)) (.int 2) μ = .ok (.str [p]) μ from fun _ => rfl, okR_ok]
            have fin : (.tup [.int r', .int c', .str [opp p]] : D) = sdD (r'.toNat, c'.toNat, opp p) := by
              unfold sdD
              simp only
              rw [t1, t2]
            have h3 : (3 : Nat) ≤ mostLen := by decide
            rcases hp with rfl | rfl | rfl | rfl <;> (rw [ix_end rfl, okR_ok, if_pos h3, okR_ok]; exact fin)
theorem walk_pts (μ : Store) : okI (walkF (.str [101, 110, 115, 119]) μ) μ = .ok (.row [.str [101], .str [110], .str [115], .str [119]]) μ := rfl
theorem law_ends_ok {k : Nat} (hk : 2 ≤ k) {b : Board} {rows cols : Nat} (B : Bok b rows cols) (μ : Store) : cF k 1007 [bD b] μ = .ok (.loc μ.length) (μ ++ [.lst ((ends b rows cols).map sdD)]) := by
  obtain ⟨k, rfl⟩ : ∃ j, k = j + 1 := ⟨k - 1, by omega⟩
  refine call_L (fn := f_law_ends) rfl rfl (by simp [D.dataL, data_b, D.data]) (data_sides _) ?_
  have h0 : (0 : Nat) ≤ mostLen := by decide
  have hr := B.rs
  have hc := B.cs
  have e0 := b_row B (r := 0) (by omega) (by have := B.r0; omega)
  have e0' : atIx (b.map rowD) 0 = some (rowD (rowAt b 0)) := e0
  have e1 : (rowAt b 0).length = cols := b_len B B.r0
  have e2 := B.r
  have hg := grid_small B
  simp -implicitDefEqProofs [callB, f_law_ends, startE, new_eq, h0, bD, e2, small_rng (n := rows) (by omega), rngW_start, rngW_stop]
  let T : List D → Store → Prop := fun acc μ => ∃ junk, μ = .lst acc :: junk
  let hh : Nat → Nat → List D := fun r c => ((if (cell b r c).isEmpty = false then pts.map fun p => ((r, c, p) : Side) else []).filter fun s => (after b rows cols s).isNone).map sdD
  have hlen : ∀ r c, (hh r c).length ≤ 4 := by
    intro r c
    show (List.map sdD _).length ≤ 4
    rw [List.length_map]
    refine Nat.le_trans (List.length_filter_le _ _) ?_
    split <;> simp [pts]
  have hfl : ∀ (l : List Nat) (r : Nat), (l.flatMap (hh r)).length ≤ 4 * l.length := by
    intro l r
    induction l with
    | nil => simp
    | cons x l ih => rw [List.flatMap_cons, List.length_append, List.length_cons]; have := hlen r x; omega
  have hfl2 : ∀ (l : List Nat), (l.flatMap fun r => (List.range cols).flatMap (hh r)).length ≤ 32 * l.length := by
    intro l
    induction l with
    | nil => simp
    | cons x l ih => rw [List.flatMap_cons, List.length_append, List.length_cons]; have := hfl (List.range cols) x; rw [List.length_range] at this; omega
  refine for_fmT (w := rngW (rows : Int)) (acc0 := []) (List.range rows) (fun (r : Nat) => D.int r) (fun r => (List.range cols).flatMap (hh r)) (fun ρ => ∃ x y z u v, ρ = [some (.tup (b.map rowD)), some (.loc 0), x, y, z, u, v]) T rfl (by simp [rngW]) ⟨[], rfl⟩ ⟨none, none, none, none, none, rfl⟩ (fun _ _ _ => trivial) ?_ ?_
  · rintro r hr' ρ acc μ ⟨x, y, z, u, v, rfl⟩ ⟨junk, rfl⟩ hb
    have hrr : r < rows := List.mem_range.mp hr'
    have hb0 : acc.length + ((List.range cols).flatMap (hh r)).length ≤ 256 := by
      have := hfl2 (List.range rows)
      rw [List.length_range] at this
      simp only [List.length_nil, Nat.zero_add] at hb
      omega
    simp -implicitDefEqProofs [e0', rowD, e1, small_rng (n := cols) (by omega), rngW_start, rngW_stop]
    refine for_fmT (w := rngW (cols : Int)) (acc0 := acc) (List.range cols) (fun (c : Nat) => D.int c) (hh r) (fun ρ => ∃ y z u v, ρ = [some (.tup (b.map rowD)), some (.loc 0), some (.int r), y, z, u, v]) T rfl (by simp [rngW]) ⟨junk, rfl⟩ ⟨y, z, u, v, rfl⟩ (fun _ _ _ => trivial) ?_ ?_
    · rintro c hc' ρ acc2 μ ⟨y, z, u, v, rfl⟩ ⟨junk, rfl⟩ hb
      have hcc : c < cols := List.mem_range.mp hc'
      obtain ⟨c1, c2⟩ := cell_ok B (inB_nat hrr hcc)
      have c2' : atIx ((rowAt b r).map D.str) c = some (.str (cell b r c)) := by simpa using c2
      have c1' : atIx (b.map rowD) r = some (rowD (rowAt b r)) := by simpa using c1
      have hb2 : acc2.length + (hh r c).length ≤ 256 := Nat.le_trans hb hb0
      by_cases hcell : cell b r c = []
      · have hh0 : hh r c = [] := by show List.map sdD _ = []; rw [hcell]; rfl
        simp -implicitDefEqProofs [c1', rowD, c2', hcell, hh0]
        exact ⟨junk, rfl⟩
      · have hne : (cell b r c).isEmpty = false := by cases h : cell b r c with
          | nil => exact absurd h hcell
          | cons _ _ => rfl
        have hhe : hh r c = ((pts.map fun p => ((r, c, p) : Side)).filter fun s => (after b rows cols s).isNone).map sdD := by
          show List.map sdD _ = _
          rw [if_pos hne]
        simp -implicitDefEqProofs [c1', rowD, c2', hcell, walk_pts, wipeE]
        refine comp_fm_wp (w := .row [.str [101], .str [110], .str [115], .str [119]]) [101, 110, 115, 119] (fun p => .str [p]) (fun _ => true) (fun p => sdD (r, c, p)) (.lst acc2 :: junk) rfl rfl rfl rfl (by decide) (fun _ => trivial) ?_ ?_
        · intro p _ acc
          simp -implicitDefEqProofs [sdD, mostLen_eq]
        · have e5 : ((Obj.lst acc2 :: junk) ++ [Obj.lst (([101, 110, 115, 119].filter fun _ => true).map fun p => sdD (r, c, p))])[junk.length + 1]? = some (.lst ((pts.map fun p => ((r, c, p) : Side)).map sdD)) := by simp [pts]
          generalize hμ : (Obj.lst acc2 :: junk) ++ [Obj.lst (([101, 110, 115, 119].filter fun _ => true).map fun p => sdD (r, c, p))] = μ1 at e5 ⊢
          have hμ0 : ∃ j, μ1 = .lst acc2 :: j := ⟨_, hμ.symm⟩
          obtain ⟨j1, hj1⟩ := hμ0
          have i0 : isLstD (.loc 0) μ1 = true := by rw [hj1]; rfl
          simp -implicitDefEqProofs [i0, walk_lst _ e5]
          refine comp_fm_wp (w := .lst (junk.length + 1) ((pts.map fun p => ((r, c, p) : Side)).map sdD)) (pts.map fun p => ((r, c, p) : Side)) sdD (fun s => (after b rows cols s).isNone) sdD μ1 (by simp) (by simp) rfl rfl (by simp [pts, mostLen_eq]) (fun acc => ?_) ?_ ?_
          · show (μ1 ++ [Obj.lst acc])[junk.length + 1]? = _
            rw [List.getElem?_append_left (List.getElem?_eq_some_iff.mp e5).1]
            exact e5
          · intro s hs acc
            have hp : isPt s.2.2 := by
              obtain ⟨p, hp, rfl⟩ := List.mem_map.mp hs
              exact mem_pts.mp hp
            have e6 := law_beyond_ok (k := k) (by omega) B hp (μ1 ++ [Obj.lst acc])
            rw [show bD b = D.tup (b.map rowD) from rfl] at e6
            simp -implicitDefEqProofs [e6, isNon_oD]
            cases (after b rows cols s) <;> simp
          · rw [← hhe]
            have l0 : (μ1 ++ [Obj.lst (hh r c)])[0]? = some (.lst acc2) := by rw [hj1]; rfl
            have l1 : (μ1 ++ [Obj.lst (hh r c)])[μ1.length]? = some (.lst (hh r c)) := by simp
            have l2 : acc2.length + (hh r c).length ≤ mostLen := by rw [mostLen_eq]; omega
            have l3 : 0 ≠ μ1.length := by rw [hj1]; simp
            simp -implicitDefEqProofs [extend_lst l0 l1 l2 l3]
            exact ⟨_, by rw [hj1]; rfl⟩
    · rintro ρ μ ⟨y, z, u, v, rfl⟩ hT
      exact ⟨⟨_, _, _, _, _, rfl⟩, hT⟩
  · rintro ρ μ ⟨x, y, z, u, v, rfl⟩ ⟨junk, rfl⟩
    simp -implicitDefEqProofs
    unfold ends sides opens
    rw [flatMap_filter, List.filter_flatMap, List.map_flatMap]
    unfold grid
    rw [List.flatMap_assoc]
    refine flatMap_ext fun r hr => ?_
    rw [List.flatMap_map]
    refine flatMap_ext fun c hc => ?_
    show List.map sdD _ = List.map sdD _
    cases h : (cell b r c) <;> simp [h]
end K82
end
section
set_option Elab.async false
set_option linter.all false
set_option autoImplicit false
set_option maxRecDepth 100000
set_option maxHeartbeats 1000000
namespace K82
open PL
def WayI (b : Board) (rows cols : Nat) (S : Setting) (e m : Side) (n : Nat) (ρ : Env) (μ : Store) : Prop := ∃ (o : Option Side) (L : List Side) (junk : Store) (y : Option D), ρ = [some (bD b), some (sD S), some (sdD e), some (.loc 0), some (oD o), y] ∧ μ = .lst (L.map sdD) :: junk ∧ L.length + 2 * n ≤ 700 ∧
  ((∃ s, o = some s ∧ s ∈ sides b rows cols ∧ walk b rows cols S n s = some m) ∨ (o = none ∧ ∃ L', L = L' ++ [m]))
theorem law_way_ok {k : Nat} (hk : 2 ≤ k) {b : Board} {rows cols : Nat} (B : Bok b rows cols) {S : Setting} (O : Sok b rows cols S) {e : Side} (he : e ∈ ends b rows cols) (μ : Store) :
    ∃ L : List Side, cF k 1008 [bD b, sD S, sdD e] μ = .ok (.loc μ.length) (μ ++ [.lst ((L ++ [mate b rows cols S e]).map sdD)]) := by
  obtain ⟨k, rfl⟩ : ∃ j, k = j + 1 := ⟨k - 1, by omega⟩
  have he' := List.mem_filter.mp he
  have hw := mate_walk B O he
  generalize mate b rows cols S e = m at hw
  have key : okR (callB prog N0 (cF k) f_law_way [bD b, sD S, sdD e] []) fun d μ => ∃ L : List Side, d = .loc 0 ∧ μ[0]? = some (.lst ((L ++ [m]).map sdD)) := by
    have h0 : (0 : Nat) ≤ mostLen := by decide
    have h2 : (2 : Nat) ≤ mostLen := by decide
    simp -implicitDefEqProofs [callB, f_law_way, startE, new_eq, h0]
    refine whl_wp (WayI b rows cols S e m) ?_ N0 300 _ _ (by decide) ⟨some e, [], [], none, rfl, rfl, by simp, .inl ⟨e, rfl, he'.1, hw⟩⟩
    rintro n ρ μ ⟨o, L, junk, y, rfl, rfl, hL, h⟩
    rcases h with ⟨s, rfl, hs, hwk⟩ | ⟨rfl, L', rfl⟩
    · cases n with
      | zero => cases hwk
      | succ n =>
        obtain ⟨a1, a2, a3, a4⟩ := mem_sides.mp hs
        obtain ⟨r, c, p⟩ := s
        simp only at a1 a2 a3 a4
        have hl := O.l r c a1 a2 a3
        have e1 := s_row O.r a1
        have hlen : (rowS S r).length = cols := rowS_len O a1
        have e2 : atIx (rowS S r) (c : Int) = some (letter S r c) := s_at (t := rowS S r) (c := c) (by rw [hlen]; exact a2)
        have hc := B.cs
        have e3 : (rowS S r).length ≤ mostLen := by rw [mostLen_eq]; omega
        have e4 := fun μ => law_joined_ok (k := k) (by omega) hl a4 μ
        have po := (mem_sides.mp (out_mem O hs)).2.2.2
        have e5 := fun μ => law_beyond_ok (k := k) (by omega) B po μ
        have e6 : (.tup [.int r, .int c, .str [joins (letter S r c) p]] : D) = sdD (out S (r, c, p)) := rfl
        have isn : (sdD (r, c, p)).isNon = false := rfl
        have i0 : ∀ μ, ixF prog.cst (sdD (r, c, p)) (.int 0) μ = .ok (.int r) μ := fun _ => rfl
        have i1 : ∀ μ, ixF prog.cst (sdD (r, c, p)) (.int 1) μ = .ok (.int c) μ := fun _ => rfl
        have i2 : ∀ μ, ixF prog.cst (sdD (r, c, p)) (.int 2) μ = .ok (.str [p]) μ := fun _ => rfl
        have isr : ∀ μ, ixF prog.cst (sD S) (.int r) μ = .ok (.str (rowS S r)) μ := fun μ => by
          show okI (atIx (S.map D.str) (r : Int)) μ = _
          rw [e1]; rfl
        have h3 : (3 : Nat) ≤ mostLen := by decide
        have ext : methF prog.cst .extend (.loc 0) [.loc (junk.length + 1)] (.lst (L.map sdD) :: (junk ++ [.lst [sdD (r, c, p), sdD (out S (r, c, p))]])) = .ok .non (.lst (L.map sdD ++ [sdD (r, c, p), sdD (out S (r, c, p))]) :: (junk ++ [.lst [sdD (r, c, p), sdD (out S (r, c, p))]])) := by
          rw [extend_lst (xs := L.map sdD) (ys := [sdD (r, c, p), sdD (out S (r, c, p))]) rfl (by simp) (by rw [List.length_map, mostLen_eq]; simp; omega) (by omega)]
          rfl
        unfold walk at hwk
        simp -implicitDefEqProofs only [evT_cmp, ev_v, List.getElem?_cons_zero, List.getElem?_cons_succ, getV_some, ev_non, okR_bind, okR_ok, isn_non, oD, isn]
        simp -implicitDefEqProofs [i0, i1, i2, isr, e2, e3, e4, h3, e6, isLst0, h2, new_eq, ext, e5]
        cases ea : after b rows cols (out S (r, c, p)) with
        | none =>
          rw [ea] at hwk
          cases hwk
          exact ⟨n, by omega, none, L ++ [(r, c, p), out S (r, c, p)], junk ++ [Obj.lst [sdD (r, c, p), sdD (out S (r, c, p))]], _, rfl, by simp, by simp; omega, .inr ⟨rfl, L ++ [(r, c, p)], by simp⟩⟩
        | some t =>
          rw [ea] at hwk
          exact ⟨n, by omega, some t, L ++ [(r, c, p), out S (r, c, p)], junk ++ [Obj.lst [sdD (r, c, p), sdD (out S (r, c, p))]], _, rfl, by simp, by simp; omega, .inl ⟨t, rfl, after_mem po ea, hwk⟩⟩
    · simp -implicitDefEqProofs [oD]
      exact ⟨L', rfl⟩
  obtain ⟨d, μ', e1, L, rfl, e2⟩ := okR_ex.mp key
  exact ⟨L, call_list (fn := f_law_way) rfl rfl (by simp [D.dataL, data_b, data_s, D.data, sdD]) e1 e2 (data_sides _)⟩
/-! order of sides -/
def ltS (s t : Side) : Bool := decide (s.1 < t.1) || (s.1 == t.1 && (decide (s.2.1 < t.2.1) || (s.2.1 == t.2.1 && decide (s.2.2 < t.2.2))))
theorem dlt_side (s t : Side) : dlt (sdD s) (sdD t) = ltS s t := by
  obtain ⟨r, c, p⟩ := s
  obtain ⟨r', c', p'⟩ := t
  unfold ltS sdD
  by_cases h1 : r = r'
  · by_cases h2 : c = c'
    · by_cases h3 : p = p'
      · subst h1 h2 h3; simp [dlt, dltL, deq]
      · subst h1 h2
        simp [dlt, dltL, deq, h3, List.cons_lt_cons_iff]
    · subst h1
      have : ¬ ((c : Int) = c') := by omega
      simp [dlt, dltL, deq, this, h2]
  · have : ¬ ((r : Int) = r') := by omega
    simp [dlt, dltL, deq, this, h1]
theorem lt_side (C : Nat → List (Key × D)) {s t : Side} (h1 : isPt s.2.2) (h2 : isPt t.2.2) (μ : Store) : cmpF C .lt (sdD s) (sdD t) μ = .ok (ltS s t) μ := by
  show (if (alk (sdD s) (sdD t) && D.eqOk (sdD s) && D.eqOk (sdD t)) = true then Res.ok (dlt (sdD s) (sdD t)) μ else .stuck) = _
  rw [if_pos (by rw [eqOk_side h1, eqOk_side h2]; rfl), dlt_side]
/-- the law's mating -/
def mating (b : Board) (rows cols : Nat) (S : Setting) : List (Side × Side) := ((ends b rows cols).filter fun e => ltS e (mate b rows cols S e)).map fun e => (e, mate b rows cols S e)
def ppD (q : Side × Side) : D := .tup [sdD q.1, sdD q.2]
theorem data_pp : ∀ l : List (Side × Side), D.dataL (l.map ppD) = true
  | [] => rfl
  | x :: l => by rw [List.map_cons, D.dataL, data_pp l]; rfl
theorem end_pt {b : Board} {rows cols : Nat} {e : Side} (he : e ∈ ends b rows cols) : isPt e.2.2 := (mem_sides.mp (List.mem_filter.mp he).1).2.2.2
theorem ends_small {b : Board} {rows cols : Nat} (B : Bok b rows cols) : (ends b rows cols).length ≤ 256 := by
  refine Nat.le_trans (List.length_filter_le _ _) ?_
  rw [sides_len]
  have := opens_small B
  omega
end K82
end
section
set_option Elab.async false
set_option linter.all false
set_option autoImplicit false
set_option maxRecDepth 100000
set_option maxHeartbeats 1000000
namespace K82
open PL
/-! the order of sides -/
theorem ltS_trans {a b c : Side} (h1 : ltS a b = true) (h2 : ltS b c = true) : ltS a c = true := by
  obtain ⟨a1, a2, a3⟩ := a
  obtain ⟨b1, b2, b3⟩ := b
  obtain ⟨c1, c2, c3⟩ := c
  simp only [ltS, Bool.or_eq_true, Bool.and_eq_true, decide_eq_true_eq, beq_iff_eq] at *
  omega
theorem ltS_total {a b : Side} (h : a ≠ b) : ltS a b = true ∨ ltS b a = true := by
  obtain ⟨a1, a2, a3⟩ := a
  obtain ⟨b1, b2, b3⟩ := b
  simp only [ltS, Bool.or_eq_true, Bool.and_eq_true, decide_eq_true_eq, beq_iff_eq]
  have : ¬ (a1 = b1 ∧ a2 = b2 ∧ a3 = b3) := fun ⟨e1, e2, e3⟩ => h (by rw [e1, e2, e3])
  omega
theorem ltS_irrefl (a : Side) : ltS a a = false := by
  obtain ⟨a1, a2, a3⟩ := a
  simp [ltS]
theorem ltS_asymm {a b : Side} (h : ltS a b = true) : ltS b a = false := by
  cases e : ltS b a with
  | false => rfl
  | true =>
    have := ltS_trans h e
    rw [ltS_irrefl] at this; cases this
theorem sides_asc (b : Board) (rows cols : Nat) : (sides b rows cols).Pairwise fun s t => ltS s t = true := by
  have hg : (grid rows cols).Pairwise fun p q => p.1 < q.1 ∨ (p.1 = q.1 ∧ p.2 < q.2) := by
    unfold grid
    rw [List.pairwise_flatMap]
    refine ⟨fun r _ => ?_, ?_⟩
    · rw [List.pairwise_map]
      exact List.pairwise_lt_range.imp fun h => .inr ⟨rfl, h⟩
    · refine List.pairwise_lt_range.imp fun {a c} h x hx y hy => ?_
      obtain ⟨_, _, rfl⟩ := List.mem_map.mp hx
      obtain ⟨_, _, rfl⟩ := List.mem_map.mp hy
      exact .inl h
  have ho : (opens b rows cols).Pairwise fun p q => p.1 < q.1 ∨ (p.1 = q.1 ∧ p.2 < q.2) := hg.filter _
  unfold sides
  rw [List.pairwise_flatMap]
  refine ⟨fun q _ => ?_, ho.imp fun {p q} h x hx y hy => ?_⟩
  · simp [pts, ltS]
  · obtain ⟨_, _, rfl⟩ := List.mem_map.mp hx
    obtain ⟨_, _, rfl⟩ := List.mem_map.mp hy
    simp only [ltS, Bool.or_eq_true, Bool.and_eq_true, decide_eq_true_eq, beq_iff_eq]
    omega
theorem ends_asc (b : Board) (rows cols : Nat) : (ends b rows cols).Pairwise fun s t => ltS s t = true := (sides_asc b rows cols).filter _
theorem ends_nodup (b : Board) (rows cols : Nat) : (ends b rows cols).Nodup := (ends_asc b rows cols).imp fun {a c} h e => by
  subst e
  rw [ltS_irrefl] at h; cases h
/-! sorted rows -/
theorem sorted_eq {α : Type} {r : α → α → Prop} : ∀ {l m : List α}, l.Perm m → (∀ a ∈ l, ∀ b ∈ l, r a b → r b a → a = b) → l.Pairwise r → m.Pairwise r → l = m
  | [], m, hp, _, _, _ => (List.nil_perm.mp hp).symm
  | a :: l, [], hp, _, _, _ => absurd hp.symm (by simp)
  | a :: l, b :: m, hp, ha, h1, h2 => by
    have hb : b ∈ a :: l := hp.symm.subset (List.mem_cons_self ..)
    have ha' : a ∈ b :: m := hp.subset (List.mem_cons_self ..)
    rw [List.pairwise_cons] at h1 h2
    have e : a = b := by
      rcases List.mem_cons.mp hb with e | hb'
      · exact e.symm
      · rcases List.mem_cons.mp ha' with e | ha''
        · exact e
        · exact ha a (List.mem_cons_self ..) b hb (h1.1 b hb') (h2.1 a ha'')
    subst e
    rw [sorted_eq (List.Perm.cons_inv hp) (fun x hx y hy => ha x (List.mem_cons_of_mem _ hx) y (List.mem_cons_of_mem _ hy)) h1.2 h2.2]
def le1 (q q' : Side × Side) : Bool := !ltS q'.1 q.1
theorem dlt_pp (q q' : Side × Side) (h : q.1 = q'.1 → q = q') : dlt (ppD q) (ppD q') = ltS q.1 q'.1 := by
  obtain ⟨a, b⟩ := q
  obtain ⟨c, d⟩ := q'
  show dltL [sdD a, sdD b] [sdD c, sdD d] = _
  rw [dltL, deq_side]
  by_cases e : a = c
  · have := h e
    cases this
    rw [if_pos (by simp)]
    rw [dltL, deq_side, if_pos (by simp), dltL, ltS_irrefl]
  · rw [if_neg (by simp [e]), dlt_side]
theorem eqOk_pp {q : Side × Side} (h1 : isPt q.1.2.2) (h2 : isPt q.2.2.2) : D.eqOk (ppD q) = true := by
  obtain ⟨⟨r, c, p⟩, ⟨r', c', p'⟩⟩ := q
  rcases h1 with h | h | h | h <;> rcases h2 with h' | h' | h' | h' <;> (simp only at h h'; subst h h'; rfl)
theorem sort_pairs {b : Board} {rows cols : Nat} {S : Setting} {Ks : List Side} (hp : Ks.Perm (ends b rows cols)) :
    sortD (((Ks.filter fun s => ltS s (mate b rows cols S s)).map fun s => (s, mate b rows cols S s)).map ppD) = (mating b rows cols S).map ppD := by
  let f : Side → Side × Side := fun s => (s, mate b rows cols S s)
  let L := (Ks.filter fun s => ltS s (mate b rows cols S s)).map f
  have inj : ∀ q ∈ L, ∀ q' ∈ L, q.1 = q'.1 → q = q' := by
    intro q hq q' hq' e
    obtain ⟨s, _, rfl⟩ := List.mem_map.mp hq
    obtain ⟨t, _, rfl⟩ := List.mem_map.mp hq'
    have e : s = t := e
    rw [e]
  have h1 : (L.mergeSort le1).map ppD = sortD (L.map ppD) := by
    unfold sortD
    refine List.map_mergeSort fun a ha c hc => ?_
    unfold le1
    rw [dlt_pp c a fun e => inj c hc a ha e]
  show sortD (L.map ppD) = _
  rw [← h1]
  congr 1
  have tr : ∀ a c d : Side × Side, le1 a c = true → le1 c d = true → le1 a d = true := by
    intro a c d h1 h2
    unfold le1 at *
    simp only [Bool.not_eq_true'] at *
    cases e : ltS d.1 a.1 with
    | false => rfl
    | true =>
      by_cases hx : a.1 = c.1
      · rw [hx] at e; rw [e] at h2; cases h2
      · rcases ltS_total hx with h | h
        · have := ltS_trans e h
          rw [this] at h2; cases h2
        · rw [h] at h1; cases h1
  have tt : ∀ a c : Side × Side, (le1 a c || le1 c a) = true := by
    intro a c
    unfold le1
    cases e : ltS c.1 a.1 with
    | false => rfl
    | true => rw [ltS_asymm e]; rfl
  have hperm : (L.mergeSort le1).Perm (mating b rows cols S) := (List.mergeSort_perm L le1).trans ((hp.filter _).map f)
  refine sorted_eq (r := fun a c => le1 a c = true) hperm (fun a ha c hc h1 h2 => ?_) (List.pairwise_mergeSort tr tt L) ?_
  · have ha' : a ∈ L := (List.mergeSort_perm L le1).subset ha
    have hc' : c ∈ L := (List.mergeSort_perm L le1).subset hc
    refine inj a ha' c hc' ?_
    unfold le1 at h1 h2
    simp only [Bool.not_eq_true'] at h1 h2
    by_cases hx : a.1 = c.1
    · exact hx
    · rcases ltS_total hx with h | h
      · rw [h] at h2; cases h2
      · rw [h] at h1; cases h1
  · unfold mating
    rw [List.pairwise_map]
    refine ((ends_asc b rows cols).filter _).imp fun {s t} h => ?_
    unfold le1
    rw [ltS_asymm h]; rfl
end K82
end
section
set_option Elab.async false
set_option linter.all false
set_option autoImplicit false
set_option maxRecDepth 100000
set_option maxHeartbeats 1000000
namespace K82
open PL
def skey (s : Side) : List Key := [.inl s.1, .inl s.2.1, .inr [s.2.2]]
theorem skey_inj {s t : Side} (h : skey s = skey t) : s = t := by
  obtain ⟨a, b, c⟩ := s
  obtain ⟨a', b', c'⟩ := t
  simp only [skey, List.cons.injEq, Sum.inl.injEq, Sum.inr.injEq] at h
  obtain ⟨h1, h2, h3, _⟩ := h
  have e1 : a = a' := by omega
  have e2 : b = b' := by omega
  have e3 : c = c' := by simpa using h3
  rw [e1, e2, e3]
def kvS (b : Board) (rows cols : Nat) (S : Setting) (Ks : List Side) : List (List Key × D) := Ks.map fun s => (skey s, sdD (mate b rows cols S s))
section
variable {b : Board} {rows cols : Nat} {S : Setting}
theorem look_kvS {s : Side} : ∀ {Ks : List Side}, look (kvS b rows cols S Ks) (skey s) = if s ∈ Ks then some (sdD (mate b rows cols S s)) else none
  | [] => rfl
  | t :: Ks => by
    have ih := look_kvS (s := s) (Ks := Ks)
    unfold look kvS at ih ⊢
    rw [List.map_cons, List.find?_cons]
    by_cases h : t = s
    · subst h; simp
    · have : (decide (skey t = skey s)) = false := by simpa using fun e => h (skey_inj e)
      simp only [this]
      rw [ih]
      by_cases h2 : s ∈ Ks
      · rw [if_pos h2, if_pos (List.mem_cons_of_mem _ h2)]
      · rw [if_neg h2, if_neg]
        intro hm
        rcases List.mem_cons.mp hm with e | hm
        · exact h e.symm
        · exact h2 hm
def addK (Ks : List Side) (s : Side) : List Side := if s ∈ Ks then Ks else Ks ++ [s]
theorem put_kvS {s : Side} {Ks : List Side} : put (kvS b rows cols S Ks) (skey s) (sdD (mate b rows cols S s)) = kvS b rows cols S (addK Ks s) := by
  unfold put addK
  by_cases h : s ∈ Ks
  · have ha : ((kvS b rows cols S Ks).any fun p => decide (p.1 = skey s)) = true := by
      rw [List.any_eq_true]
      exact ⟨_, List.mem_map.mpr ⟨s, h, rfl⟩, by simp⟩
    rw [if_pos ha, if_pos h]
    unfold kvS
    rw [List.map_map]
    refine List.map_congr_left fun t _ => ?_
    show (if skey t = skey s then _ else _) = _
    split
    · rename_i e
      rw [skey_inj e]
    · rfl
  · have ha : ¬ ((kvS b rows cols S Ks).any fun p => decide (p.1 = skey s)) = true := by
      rw [List.any_eq_true]
      rintro ⟨p, hp, e⟩
      obtain ⟨t, ht, rfl⟩ := List.mem_map.mp hp
      have : skey t = skey s := by simpa using e
      exact h (skey_inj this ▸ ht)
    rw [if_neg ha, if_neg h]
    unfold kvS
    rw [List.map_append]; rfl
theorem addK_nodup {Ks : List Side} {s : Side} (h : Ks.Nodup) : (addK Ks s).Nodup := by
  unfold addK
  split
  · exact h
  · rename_i hn
    rw [List.nodup_append]
    exact ⟨h, by simp, fun a ha c hc e => hn (by rw [List.mem_singleton.mp hc] at e; exact e ▸ ha)⟩
theorem mem_addK {Ks : List Side} {s t : Side} : t ∈ addK Ks s ↔ t ∈ Ks ∨ t = s := by
  unfold addK
  split
  · rename_i h
    exact ⟨.inl, fun h' => h'.elim id fun e => e ▸ h⟩
  · simp
/-- the table of mates, its keys -/
structure Tab (b : Board) (rows cols : Nat) (S : Setting) (done : List Side) (Ks : List Side) : Prop where
  nd : Ks.Nodup
  sub : ∀ s ∈ Ks, s ∈ ends b rows cols
  has : ∀ s ∈ done, s ∈ Ks
theorem Tab.add {done Ks : List Side} {s : Side} (h : Tab b rows cols S done Ks) (hs : s ∈ ends b rows cols) : Tab b rows cols S done (addK Ks s) :=
  ⟨addK_nodup h.nd, fun t ht => (mem_addK.mp ht).elim (h.sub t) fun e => e ▸ hs, fun t ht => mem_addK.mpr (.inl (h.has t ht))⟩
theorem Tab.small {done Ks : List Side} (B : Bok b rows cols) (h : Tab b rows cols S done Ks) : Ks.length ≤ 256 := Nat.le_trans (sub_len _ _ h.nd h.sub) (ends_small B)
def findT (Ks : List Side) (s : Side) (b : Board) (rows cols : Nat) (S : Setting) (lk : Bool) (junk : Store) : Prop := True
theorem find_tab {C : Nat → List (Key × D)} {Ks : List Side} {s : Side} {lk : Bool} {junk : Store} : findF C (.loc 0) (sdD s) (.dT lk (kvS b rows cols S Ks) :: junk) = some (if s ∈ Ks then some (sdD (mate b rows cols S s)) else none) := by
  show some (look (kvS b rows cols S Ks) (skey s)) = _
  rw [look_kvS]
theorem set_tab {Ks : List Side} {s : Side} {d : D} {junk : Store} (hd : d = sdD (mate b rows cols S s)) (hl : Ks.length < 1000000) : setF (.loc 0) (sdD s) d (.dT false (kvS b rows cols S Ks) :: junk) = .ok () (.dT false (kvS b rows cols S (addK Ks s)) :: junk) := by
  subst hd
  show (if (kvS b rows cols S Ks).length < mostLen then Res.ok () ((Obj.dT false (kvS b rows cols S Ks) :: junk).set 0 (.dT false (put (kvS b rows cols S Ks) (skey s) (sdD (mate b rows cols S s))))) else .stuck) = _
  rw [if_pos (by unfold kvS; rw [List.length_map, mostLen_eq]; exact hl), put_kvS]
  rfl
mutual
theorem shift0 : ∀ d : D, d.shift 0 = d
  | .tup xs => by rw [D.shift, shift0L xs]
  | .rol xs => by rw [D.shift, shift0L xs]
  | .ktp xs => by rw [D.shift, shift0L xs]
  | .loc l => by rw [D.shift, Nat.zero_add]
  | .non => rfl
  | .bl _ => rfl
  | .int _ => rfl
  | .str _ => rfl
  | .cst _ => rfl
  | .err _ _ _ => rfl
  | .ftup xs => by rw [D.shift, shift0L xs]
theorem shift0L : ∀ xs : List D, D.shiftL 0 xs = xs
  | [] => rfl
  | x :: xs => by rw [D.shiftL, shift0 x, shift0L xs]
end
theorem shift0O (o : Obj) : o.shift 0 = o := by
  cases o with
  | lst xs => show Obj.lst (D.shiftL 0 xs) = _; rw [shift0L]
  | dK lk kvs =>
    show Obj.dK lk (kvs.map fun p => (p.1, p.2.shift 0)) = _
    congr 1
    have : (fun p : Key × D => (p.1, p.2.shift 0)) = id := funext fun p => by rw [shift0]; rfl
    rw [this, List.map_id]
  | dT lk kvs =>
    show Obj.dT lk (kvs.map fun p => (p.1, p.2.shift 0)) = _
    congr 1
    have : (fun p : List Key × D => (p.1, p.2.shift 0)) = id := funext fun p => by rw [shift0]; rfl
    rw [this, List.map_id]
theorem shift0S (μ : Store) : μ.map (Obj.shift 0) = μ := by
  have : (Obj.shift 0) = id := funext shift0O
  rw [this, List.map_id]
theorem keys_tab {ρ : Env} {Ks : List Side} {junk : Store} {cf : CF} {C : Nat → List (Key × D)} (h : ρ[2]? = some (some (.loc 0))) : evI C cf (.keys 2) ρ (.dT false (kvS b rows cols S Ks) :: junk) = .ok (.dct 0 (Ks.map sdD)) (.dT false (kvS b rows cols S Ks) :: junk) := by
  show (match ρ[2]? with
    | some (some d) => okI (keysF d (.dT false (kvS b rows cols S Ks) :: junk)) (.dT false (kvS b rows cols S Ks) :: junk)
    | _ => .stuck) = _
  rw [h]
  show Res.ok (Wk.dct 0 ((kvS b rows cols S Ks).map fun p => D.tup (p.1.map Key.d))) _ = _
  unfold kvS
  rw [List.map_map]
  rfl
theorem all_alk (L : List (Side × Side)) : allAlk (L.map ppD) = true := by
  unfold allAlk
  rw [List.all_eq_true]
  intro x hx
  rw [List.all_eq_true]
  intro y hy
  obtain ⟨p, _, rfl⟩ := List.mem_map.mp hx
  obtain ⟨q, _, rfl⟩ := List.mem_map.mp hy
  rfl
end
end K82
end
section
set_option Elab.async false
set_option linter.all false
set_option autoImplicit false
set_option maxRecDepth 100000
set_option maxHeartbeats 1000000
namespace K82
open PL
/-! deeds -/
theorem clip_nat (n d c : Nat) : clip n d (some (c : Int)) = min c n := by
  show (if (c : Int) < 0 then ((c : Int) + n).toNat else min (c : Int).toNat n) = _
  rw [if_neg (by omega), Int.toNat_natCast]
theorem cut_to {α : Type} (xs : List α) (c : Nat) : cut xs none (some (c : Int)) = xs.take c := by
  unfold cut
  rw [clip_nat]
  show (xs.drop 0).take (min c xs.length - 0) = _
  rw [List.drop_zero, Nat.sub_zero]
  by_cases h : c ≤ xs.length
  · rw [Nat.min_eq_left h]
  · rw [Nat.min_eq_right (by omega), List.take_of_length_le (Nat.le_refl _), List.take_of_length_le (by omega)]
theorem cut_from {α : Type} (xs : List α) (c : Nat) : cut xs (some (c : Int)) none = xs.drop c := by
  unfold cut
  rw [clip_nat]
  show (xs.drop (min c xs.length)).take (xs.length - min c xs.length) = _
  by_cases h : c ≤ xs.length
  · rw [Nat.min_eq_left h, List.take_of_length_le (by rw [List.length_drop]; exact Nat.le_refl _)]
  · rw [Nat.min_eq_right (by omega), List.drop_eq_nil_of_le (Nat.le_refl _), List.drop_eq_nil_of_le (by omega)]; simp
theorem cut_from1 {α : Type} (xs : List α) (c : Nat) : cut xs (some ((c : Int) + 1)) none = xs.drop (c + 1) := cut_from xs (c + 1)
def setL {α : Type} (xs : List α) (c : Nat) (x : α) : List α := xs.take c ++ [x] ++ xs.drop (c + 1)
theorem setL_eq {α : Type} {xs : List α} {c : Nat} (x : α) (h : c < xs.length) : setL xs c x = xs.set c x := by
  unfold setL
  rw [List.set_eq_take_append_cons_drop, if_pos h]
  simp
def apply (S : Setting) (d : Side) : Setting := setL S d.1 (setL (rowS S d.1) d.2.1 d.2.2)
theorem map_setL {α β : Type} (f : α → β) (xs : List α) (c : Nat) (x : α) : (setL xs c x).map f = setL (xs.map f) c (f x) := by
  unfold setL
  simp
/-- the form of a setting -/
structure Shp (rows cols : Nat) (S : Setting) : Prop where
  r : S.length = rows
  c : ∀ x ∈ S, x.length = cols
theorem Sok.shp {b : Board} {rows cols : Nat} {S : Setting} (O : Sok b rows cols S) : Shp rows cols S := ⟨O.r, O.c⟩
theorem Shp.row {rows cols : Nat} {S : Setting} (O : Shp rows cols S) {r : Nat} (h1 : r < rows) : (rowS S r).length = cols := by
  have hl : r < S.length := by rw [O.r]; exact h1
  unfold rowS
  rw [List.getD_eq_getElem?_getD, List.getElem?_eq_getElem hl]
  exact O.c _ (List.getElem_mem hl)
theorem len_setL {α : Type} {xs : List α} {c : Nat} (x : α) (h : c < xs.length) : (setL xs c x).length = xs.length := by rw [setL_eq x h, List.length_set]
theorem mem_setL {α : Type} {xs : List α} {c : Nat} {x y : α} (h : y ∈ setL xs c x) : y ∈ xs ∨ y = x := by
  unfold setL at h
  simp only [List.mem_append, List.mem_singleton] at h
  rcases h with (h | h) | h
  · exact .inl (List.mem_of_mem_take h)
  · exact .inr h
  · exact .inl (List.mem_of_mem_drop h)
theorem Shp.apply {rows cols : Nat} {S : Setting} (O : Shp rows cols S) {d : Side} (h1 : d.1 < rows) (h2 : d.2.1 < cols) : Shp rows cols (apply S d) := by
  refine ⟨by unfold K82.apply; rw [len_setL _ (by rw [O.r]; exact h1), O.r], fun x hx => ?_⟩
  rcases mem_setL hx with h | rfl
  · exact O.c x h
  · rw [len_setL _ (by rw [O.row h1]; exact h2), O.row h1]
theorem rowS_apply {rows cols : Nat} {S : Setting} (O : Shp rows cols S) {d : Side} (h1 : d.1 < rows) (r : Nat) : rowS (apply S d) r = if r = d.1 then setL (rowS S d.1) d.2.1 d.2.2 else rowS S r := by
  unfold rowS K82.apply
  rw [setL_eq _ (by rw [O.r]; exact h1), List.getD_eq_getElem?_getD, List.getD_eq_getElem?_getD]
  by_cases h : r = d.1
  · subst h
    rw [if_pos rfl, List.getElem?_set_self (by rw [O.r]; exact h1)]
    rfl
  · rw [if_neg h, List.getElem?_set_ne (fun e => h e.symm), List.getD_eq_getElem?_getD]
theorem letter_apply {rows cols : Nat} {S : Setting} (O : Shp rows cols S) {d : Side} (h1 : d.1 < rows) (h2 : d.2.1 < cols) (r c : Nat) : letter (apply S d) r c = if r = d.1 ∧ c = d.2.1 then d.2.2 else letter S r c := by
  unfold letter
  rw [rowS_apply O h1]
  by_cases h : r = d.1
  · subst h
    rw [if_pos rfl]
    rw [setL_eq _ (by rw [O.row h1]; exact h2), List.getD_eq_getElem?_getD, List.getD_eq_getElem?_getD]
    by_cases hc : c = d.2.1
    · subst hc
      rw [if_pos ⟨rfl, rfl⟩, List.getElem?_set_self (by rw [O.row h1]; exact h2)]
      rfl
    · rw [if_neg (fun e => hc e.2), List.getElem?_set_ne (fun e => hc e.symm)]
  · rw [if_neg h, if_neg (fun e => h e.1)]
/-- a deed of a board -/
structure Dok (b : Board) (rows cols : Nat) (d : Side) : Prop where
  r : d.1 < rows
  c : d.2.1 < cols
  o : (cell b d.1 d.2.1).isEmpty = false
  l : isLt d.2.2
theorem Sok.apply {b : Board} {rows cols : Nat} {S : Setting} (O : Sok b rows cols S) {d : Side} (h : Dok b rows cols d) : Sok b rows cols (apply S d) := by
  have := O.shp.apply h.r h.c
  refine ⟨this.r, this.c, fun r c h1 h2 h3 => ?_⟩
  rw [letter_apply O.shp h.r h.c]
  split
  · exact h.l
  · exact O.l r c h1 h2 h3
def fin (S : Setting) (ds : List Side) : Setting := ds.foldl apply S
def runL : Setting → List Side → List Setting
  | S, [] => [S]
  | S, d :: ds => S :: runL (apply S d) ds
theorem runL_snoc : ∀ (S : Setting) (ds : List Side) (d : Side), runL S (ds ++ [d]) = runL S ds ++ [apply (fin S ds) d]
  | S, [], d => rfl
  | S, e :: ds, d => by
    show S :: runL (apply S e) (ds ++ [d]) = S :: (runL (apply S e) ds ++ [apply (fin (apply S e) ds) d])
    rw [runL_snoc]
theorem runL_last : ∀ (S : Setting) (ds : List Side), ∃ i, runL S ds = i ++ [fin S ds]
  | S, [] => ⟨[], rfl⟩
  | S, d :: ds => by
    obtain ⟨i, e⟩ := runL_last (apply S d) ds
    exact ⟨S :: i, by show S :: runL (apply S d) ds = _; rw [e]; rfl⟩
theorem runL_len : ∀ (S : Setting) (ds : List Side), (runL S ds).length = ds.length + 1
  | S, [] => rfl
  | S, d :: ds => by show (runL (apply S d) ds).length + 1 = _; rw [runL_len]; rfl
theorem fin_sok {b : Board} {rows cols : Nat} : ∀ {ds : List Side} {S : Setting}, Sok b rows cols S → (∀ d ∈ ds, Dok b rows cols d) → Sok b rows cols (fin S ds)
  | [], S, O, _ => O
  | d :: ds, S, O, h => fin_sok (ds := ds) (O.apply (h d (List.mem_cons_self ..))) fun e he => h e (List.mem_cons_of_mem _ he)
theorem runL_sok {b : Board} {rows cols : Nat} : ∀ {ds : List Side} {S : Setting}, Sok b rows cols S → (∀ d ∈ ds, Dok b rows cols d) → ∀ x ∈ runL S ds, Sok b rows cols x
  | [], S, O, _, x, hx => by rw [List.mem_singleton.mp hx]; exact O
  | d :: ds, S, O, h, x, hx => by
    rcases List.mem_cons.mp hx with rfl | hx
    · exact O
    · exact runL_sok (O.apply (h d (List.mem_cons_self ..))) (fun e he => h e (List.mem_cons_of_mem _ he)) x hx
section
variable {b : Board} {rows cols : Nat} {S : Setting}
theorem sl_parts (hc : cols ≤ 8) (hr : rows ≤ 8) (O : Shp rows cols S) {d : Side} (h1 : d.1 < rows) (h2 : d.2.1 < cols) (k : Nat) (ρ : Env) (μ : Store) (e1 e2 e3 : E) (he1 : ∀ μ, ev prog.cst (cF k) e1 ρ μ = .ok (.int d.1) μ) (he2 : ∀ μ, ev prog.cst (cF k) e2 ρ μ = .ok (.int d.2.1) μ) (he3 : ∀ μ, ev prog.cst (cF k) e3 ρ μ = .ok (.str [d.2.2]) μ) (hv : ρ[0]? = some (some (sD S))) :
    ev prog.cst (cF k) (.bin .add (.bin .add (.slU (.ix (.v 0) e1) e2) e3) (.slL (.ix (.v 0) e1) (.bin .add e2 (.int 1)))) ρ μ = .ok (.str (setL (rowS S d.1) d.2.1 d.2.2)) μ := by
  have i1 : ∀ μ, ixF prog.cst (sD S) (.int d.1) μ = .ok (.str (rowS S d.1)) μ := fun μ => by
    show okI (atIx (S.map D.str) (d.1 : Int)) μ = _
    rw [s_row O.r h1]; rfl
  have hl := O.row h1
  have s1 : ∀ μ, slF (.str (rowS S d.1)) none (some (d.2.1 : Int)) μ = .ok (.str ((rowS S d.1).take d.2.1)) μ := fun μ => by
    show (if (rowS S d.1).length ≤ mostLen then Res.ok (D.str (cut (rowS S d.1) none (some (d.2.1 : Int)))) μ else .stuck) = _
    rw [if_pos (by rw [hl, mostLen_eq]; omega), cut_to]
  have s2 : ∀ μ, slF (.str (rowS S d.1)) (some ((d.2.1 : Int) + 1)) none μ = .ok (.str ((rowS S d.1).drop (d.2.1 + 1))) μ := fun μ => by
    show (if (rowS S d.1).length ≤ mostLen then Res.ok (D.str (cut (rowS S d.1) (some ((d.2.1 : Int) + 1)) none)) μ else .stuck) = _
    rw [if_pos (by rw [hl, mostLen_eq]; omega), cut_from1]
  have a1 : ∀ μ, binF .add (.str ((rowS S d.1).take d.2.1)) (.str [d.2.2]) μ = .ok (.str ((rowS S d.1).take d.2.1 ++ [d.2.2])) μ := fun μ => by
    rw [add_str, if_pos]
    rw [List.length_take, hl, mostLen_eq]; simp; omega
  have a2 : ∀ μ, binF .add (.str ((rowS S d.1).take d.2.1 ++ [d.2.2])) (.str ((rowS S d.1).drop (d.2.1 + 1))) μ = .ok (.str (setL (rowS S d.1) d.2.1 d.2.2)) μ := fun μ => by
    rw [add_str, if_pos]
    · rfl
    · rw [List.length_append, List.length_take, List.length_drop, hl, mostLen_eq]; simp; omega
  simp -implicitDefEqProofs only [ev_bin, ev_slU, ev_slL, ev_ix, ev_v, hv, getV_some, bind_ok, he1, he2, he3, i1, sl1_int, sl2_int, s1, s2, a1, a2, ev_int, add_int]
theorem sl_rows (hr : rows ≤ 8) (O : Shp rows cols S) {d : Side} (h1 : d.1 < rows) (k : Nat) (ρ : Env) (μ : Store) (e1 e2 : E) (t : Txt) (he1 : ∀ μ, ev prog.cst (cF k) e1 ρ μ = .ok (.int d.1) μ) (he2 : ∀ μ, ev prog.cst (cF k) e2 ρ μ = .ok (.str t) μ) (hv : ρ[0]? = some (some (sD S))) :
    ev prog.cst (cF k) (.bin .add (.bin .add (.slU (.v 0) e1) (.tup (.cons e2 .nil))) (.slL (.v 0) (.bin .add e1 (.int 1)))) ρ μ = .ok (sD (setL S d.1 t)) μ := by
  have s1 : ∀ μ, slF (sD S) none (some (d.1 : Int)) μ = .ok (.tup ((S.map D.str).take d.1)) μ := fun μ => by
    show Res.ok (D.tup (cut (S.map D.str) none (some (d.1 : Int)))) μ = _
    rw [cut_to]
  have s2 : ∀ μ, slF (sD S) (some ((d.1 : Int) + 1)) none μ = .ok (.tup ((S.map D.str).drop (d.1 + 1))) μ := fun μ => by
    show Res.ok (D.tup (cut (S.map D.str) (some ((d.1 : Int) + 1)) none)) μ = _
    rw [cut_from1]
  have h3 : (1 : Nat) ≤ mostLen := by decide
  have hl := O.r
  have a1 : ∀ μ, binF .add (.tup ((S.map D.str).take d.1)) (.tup [.str t]) μ = .ok (.tup ((S.map D.str).take d.1 ++ [.str t])) μ := fun μ => by
    rw [add_tup, if_pos]
    rw [List.length_take, List.length_map, hl, mostLen_eq]; simp; omega
  have a2 : ∀ μ, binF .add (.tup ((S.map D.str).take d.1 ++ [.str t])) (.tup ((S.map D.str).drop (d.1 + 1))) μ = .ok (.tup (setL (S.map D.str) d.1 (.str t))) μ := fun μ => by
    rw [add_tup, if_pos]
    · rfl
    · rw [List.length_append, List.length_take, List.length_drop, List.length_map, hl, mostLen_eq]; simp; omega
  simp -implicitDefEqProofs only [ev_bin, ev_slU, ev_slL, ev_v, hv, getV_some, bind_ok, he1, he2, sl1_int, sl2_int, s1, s2, a1, a2, ev_int, add_int, ev_tup, evs_cons, evs_nil, List.length_cons, List.length_nil, Nat.zero_add, if_pos h3]
  unfold sD
  rw [map_setL]
theorem put_sign_ok {k : Nat} (hk : 1 ≤ k) (hr : rows ≤ 8) (hc : cols ≤ 8) (O : Shp rows cols S) {d : Side} (h1 : d.1 < rows) (h2 : d.2.1 < cols) (μ : Store) : cF k 11 [sD S, .int d.1, .int d.2.1, .str [d.2.2]] μ = .ok (sD (apply S d)) μ := by
  obtain ⟨k, rfl⟩ : ∃ j, k = j + 1 := ⟨k - 1, by omega⟩
  refine call_D (fn := f_put_sign) rfl rfl (by simp [D.dataL, data_s, D.data]) (data_s _) ?_
  unfold callB f_put_sign
  simp -implicitDefEqProofs only [startE, okR_handed, exs_cons, okS_next, List.map, List.replicate, List.cons_append, List.nil_append, ex_asg, okS_of]
  rw [sl_parts hc hr O h1 h2 k _ _ _ _ _ (fun _ => rfl) (fun _ => rfl) (fun _ => rfl) rfl]
  simp -implicitDefEqProofs only [okR_ok, asgT_nm, List.set_cons_succ, List.set_cons_zero, okS_go, thenS_nx, exs_cons, okS_next, exs_nil, ex_ret, okS_of]
  rw [sl_rows hr O h1 k _ _ _ _ _ (fun _ => rfl) (fun _ => rfl) rfl]
  rfl
theorem data_ss : ∀ l : List Setting, D.dataL (l.map sD) = true
  | [] => rfl
  | x :: l => by rw [List.map_cons, D.dataL, data_ss l, data_s]; rfl
end
end K82
end
section
set_option Elab.async false
set_option linter.all false
set_option autoImplicit false
set_option maxRecDepth 100000
set_option maxHeartbeats 1000000
namespace K82
open PL
section
variable {b : Board} {rows cols : Nat} {S : Setting}
def dsD (ds : List Side) : D := .tup (ds.map sdD)
theorem data_ds (ds : List Side) : D.data (dsD ds) = true := data_sides ds
theorem run_deeds_ok {k : Nat} (hk : 2 ≤ k) (B : Bok b rows cols) (O : Sok b rows cols S) {ds : List Side} (hd : ∀ d ∈ ds, Dok b rows cols d) (hl : ds.length ≤ 500) (μ : Store) : cF k 13 [bD b, sD S, dsD ds] μ = .ok (.tup ((runL S ds).map sD)) μ := by
  obtain ⟨k, rfl⟩ : ∃ j, k = j + 1 := ⟨k - 1, by omega⟩
  refine call_D (fn := f_run_deeds) rfl rfl (by simp [D.dataL, data_b, data_s, data_ds, D.data]) (data_ss _) ?_
  have h1 : (1 : Nat) ≤ mostLen := by decide
  have wd : ∀ μ, walkF (dsD ds) μ = some (.row (ds.map sdD)) := fun _ => rfl
  simp -implicitDefEqProofs [callB, f_run_deeds, startE, new_eq, h1, wd, unlock_row]
  refine for_wp (w := .row (ds.map sdD)) (xs := ds.map sdD) (fun i ρ μ => (∃ x y z, ρ = [some (bD b), some (sD S), some (dsD ds), some (.loc 0), x, y, z]) ∧ μ = [.lst ((runL S (ds.take i)).map sD)]) rfl ⟨⟨none, none, none, rfl⟩, by simp [runL]⟩ (fun _ _ _ _ => trivial) ?_ ?_
  · rintro i z ρ μ hz ⟨⟨x, y, w, rfl⟩, rfl⟩
    rw [List.getElem?_map] at hz
    cases ee : ds[i]? with
    | none => rw [ee] at hz; cases hz
    | some d =>
      rw [ee] at hz
      have : sdD d = z := Option.some.inj hz
      subst this
      have hdm : d ∈ ds := List.mem_of_getElem? ee
      have ht : ds.take (i + 1) = ds.take i ++ [d] := by rw [List.take_add_one, ee]; rfl
      have hil : i < ds.length := (List.getElem?_eq_some_iff.mp ee).1
      obtain ⟨ini, hini⟩ := runL_last S (ds.take i)
      have O2 := fin_sok O (fun d hd' => hd d (List.mem_of_mem_take hd')) (ds := ds.take i)
      have hsz : (runL S (ds.take i)).length < 1000000 := by rw [runL_len, List.length_take]; omega
      have e1 := fun μ => put_sign_ok (k := k) (by omega) B.rs B.cs O2.shp (hd d hdm).r (hd d hdm).c μ
      rw [ht, runL_snoc]
      generalize hR : runL S (ds.take i) = R at hini hsz
      have hlast : ∀ μ, ixF prog.cst (.loc 0) (.int (-1)) (.lst (R.map sD) :: μ) = .ok (sD (fin S (ds.take i))) (.lst (R.map sD) :: μ) := by
        intro μ
        rw [ix0, hini, List.map_append, List.map_cons, List.map_nil, atIx_last]
        rfl
      obtain ⟨r, c, l⟩ := d
      have e1' : ∀ μ, cF k 11 [sD (fin S (ds.take i)), .int r, .int c, .str [l]] μ = .ok (sD (apply (fin S (ds.take i)) (r, c, l))) μ := e1
      simp -implicitDefEqProofs [sdD, isLst0, hlast, e1', append0, hsz]
  · rintro ρ μ ⟨⟨x, y, z, rfl⟩, rfl⟩
    rw [List.length_map, List.take_of_length_le (Nat.le_refl _)]
    simp -implicitDefEqProofs
    rw [tuple_lst (l := 0) _ rfl]
    rfl
theorem atIx_last' {α : Type} {xs i : List α} {d : α} (h : xs = i ++ [d]) : atIx xs (-1) = some d := by rw [h, atIx_last]
def diff (one other : Setting) (p : Nat × Nat) : Bool := !(letter one p.1 p.2 == letter other p.1 p.2)
def changed (rows cols : Nat) (one other : Setting) : List (Nat × Nat) := (grid rows cols).filter (diff one other)
def apart (rows cols : Nat) (one other : Setting) : List Side := (changed rows cols one other).map fun p => (p.1, p.2, letter other p.1 p.2)
theorem s_ix {rows cols : Nat} {S : Setting} (O : Shp rows cols S) {r : Nat} (h : r < rows) (μ : Store) : ixF prog.cst (sD S) (.int r) μ = .ok (.str (rowS S r)) μ := by
  show okI (atIx (S.map D.str) (r : Int)) μ = _
  rw [s_row O.r h]; rfl
theorem s_ix2 {rows cols : Nat} {S : Setting} (hc : cols ≤ 8) (O : Shp rows cols S) {r c : Nat} (h : r < rows) (h2 : c < cols) (μ : Store) : ixF prog.cst (.str (rowS S r)) (.int c) μ = .ok (.str [letter S r c]) μ := by
  have hl := O.row h
  rw [ix_str, if_pos (by rw [hl, mostLen_eq]; omega), s_at (by rw [hl]; exact h2)]
  rfl
theorem ne_sign (a c : Nat) (μ : Store) : cmpF prog.cst .ne (.str [a]) (.str [c]) μ = .ok (!(a == c)) μ := by
  rw [ne_str]
  by_cases h : a = c <;> simp [h]
theorem s_len {rows cols : Nat} {S : Setting} (O : Shp rows cols S) (μ : Store) : bfF .len (sD S) μ = .ok (.int rows) μ := by
  show Res.ok (D.int (S.map D.str).length) μ = _
  rw [List.length_map, O.r]
theorem s_len2 {rows cols : Nat} {S : Setting} (hc : cols ≤ 8) (O : Shp rows cols S) {r : Nat} (h : r < rows) (μ : Store) : bfF .len (.str (rowS S r)) μ = .ok (.int cols) μ := by
  have hl := O.row h
  rw [len_str, if_pos (by rw [hl, mostLen_eq]; omega), hl]
theorem grid_flat (rows cols : Nat) (p : Nat × Nat → Bool) : (grid rows cols).filter p = (List.range rows).flatMap fun r => (List.range cols).flatMap fun c => if p (r, c) then [(r, c)] else [] := by
  unfold grid
  rw [List.filter_flatMap]
  refine flatMap_ext fun r _ => ?_
  induction List.range cols with
  | nil => rfl
  | cons c l ih =>
    rw [List.map_cons, List.filter_cons, List.flatMap_cons, ← ih]
    split <;> rfl
theorem flat_small {α : Type} {f : Nat → Nat → List α} {rows cols : Nat} (hf : ∀ r c, (f r c).length ≤ 1) (hr : rows ≤ 8) (hc : cols ≤ 8) : ((List.range rows).flatMap fun r => (List.range cols).flatMap (f r)).length ≤ 64 ∧ ∀ r, ((List.range cols).flatMap (f r)).length ≤ 8 := by
  have h1 : ∀ (l : List Nat) (r : Nat), (l.flatMap (f r)).length ≤ l.length := by
    intro l r
    induction l with
    | nil => simp
    | cons x l ih => rw [List.flatMap_cons, List.length_append, List.length_cons]; have := hf r x; omega
  have h2 : ∀ (l : List Nat), (l.flatMap fun r => (List.range cols).flatMap (f r)).length ≤ 8 * l.length := by
    intro l
    induction l with
    | nil => simp
    | cons x l ih =>
      rw [List.flatMap_cons, List.length_append, List.length_cons]
      have := h1 (List.range cols) x
      rw [List.length_range] at this
      omega
  refine ⟨?_, fun r => ?_⟩
  · have := h2 (List.range rows); rw [List.length_range] at this; omega
  · have := h1 (List.range cols) r; rw [List.length_range] at this; omega
end
end K82
end
section
set_option Elab.async false
set_option linter.all false
set_option autoImplicit false
set_option maxRecDepth 100000
set_option maxHeartbeats 1000000
namespace K82
open PL
section
variable {b : Board} {rows cols : Nat} {S : Setting}
theorem mem_changed {one other : Setting} {p : Nat × Nat} (h : p ∈ changed rows cols one other) : p.1 < rows ∧ p.2 < cols := mem_grid.mp (List.mem_filter.mp h).1
theorem changed_small (hr : rows ≤ 8) (hc : cols ≤ 8) (one other : Setting) : (changed rows cols one other).length ≤ 64 := by
  refine Nat.le_trans (List.length_filter_le _ _) ?_
  rw [grid_len]
  exact Nat.mul_le_mul hr hc
end
end K82
end
section
set_option Elab.async false
set_option linter.all false
set_option autoImplicit false
set_option maxRecDepth 100000
set_option maxHeartbeats 1000000
namespace K82
open PL
/-! law_same -/
mutual
/-- ints, texts, tuples of them -/
def nice : D → Bool
  | .int _ => true
  | .str _ => true
  | .tup xs => niceL xs
  | _ => false
def niceL : List D → Bool
  | [] => true
  | x :: xs => nice x && niceL xs
end
mutual
def nodes : D → Nat
  | .tup xs => nodesL xs + 1
  | _ => 1
def nodesL : List D → Nat
  | [] => 0
  | x :: xs => nodes x + nodesL xs
end
theorem nodes_pos (d : D) : 1 ≤ nodes d := by cases d <;> simp [nodes]
theorem nodesL_len : ∀ xs : List D, xs.length ≤ nodesL xs
  | [] => Nat.le_refl _
  | x :: xs => by
    rw [List.length_cons, nodesL]
    have := nodes_pos x
    have := nodesL_len xs
    omega
theorem nodesL_app : ∀ xs ys : List D, nodesL (xs ++ ys) = nodesL xs + nodesL ys
  | [], ys => by simp [nodesL]
  | x :: xs, ys => by rw [List.cons_append, nodesL, nodesL, nodesL_app xs ys]; omega
theorem niceL_app : ∀ xs ys : List D, niceL (xs ++ ys) = (niceL xs && niceL ys)
  | [], ys => by simp [niceL]
  | x :: xs, ys => by rw [List.cons_append, niceL, niceL, niceL_app xs ys, Bool.and_assoc]
def twoD (d : D) : D := .tup [d, d]
def SameI (t d : D) (n : Nat) (ρ : Env) (μ : Store) : Prop := ∃ (L : List D) (x y z : Option D), ρ = [some t, some d, some (.loc 0), x, y, z] ∧ μ = [.lst (L.map twoD)] ∧ niceL L = true ∧ nodesL L = n ∧ n ≤ 50000
theorem range_get {α : Type} : ∀ (xs : List α) (f : Nat → List α), (∀ i (h : i < xs.length), f i = [xs[i]]) → (List.range xs.length).flatMap f = xs := by
  intro xs f h
  have : ∀ n, n ≤ xs.length → (List.range n).flatMap f = xs.take n := by
    intro n
    induction n with
    | zero => intro _; rfl
    | succ n ih =>
      intro hn
      rw [List.range_succ, List.flatMap_append, ih (by omega)]
      simp only [List.flatMap_cons, List.flatMap_nil, List.append_nil]
      rw [h n (by omega), List.take_add_one, List.getElem?_eq_getElem (by omega)]
      rfl
  rw [this _ (Nat.le_refl _), List.take_of_length_le (Nat.le_refl _)]
theorem law_same_ok {k : Nat} (hk : 1 ≤ k) {d : D} (hd : nice d = true) (hn : nodes d ≤ 50000) (hdat : D.data d = true) (μ : Store) : cF k 1009 [d, d] μ = .ok (.bl true) μ := by
  obtain ⟨k, rfl⟩ : ∃ j, k = j + 1 := ⟨k - 1, by omega⟩
  refine call_D (fn := f_law_same) rfl rfl (by simp [D.dataL, hdat]) rfl ?_
  have h2 : (2 : Nat) ≤ mostLen := by decide
  have h1 : (1 : Nat) ≤ mostLen := by decide
  simp -implicitDefEqProofs [callB, f_law_same, startE, new_eq, h1, h2]
  refine whl_wp (SameI d d) ?_ N0 (nodes d) _ _ (Nat.lt_of_le_of_lt hn (by decide)) ⟨[d], none, none, none, rfl, rfl, by simp [niceL, hd], by simp [nodesL], hn⟩
  rintro n ρ μ ⟨L, x, y, z, rfl, rfl, hL, hN, hB⟩
  have len0 : ∀ (xs : List D) (μ : Store), bfF .len (.loc 0) (.lst xs :: μ) = .ok (.int xs.length) (.lst xs :: μ) := fun xs μ => len_lst (.lst xs :: μ) rfl
  have pop0 : ∀ (xs : List D) (x : D) (μ : Store), methF prog.cst .pop (.loc 0) [] (.lst (xs ++ [x]) :: μ) = .ok x (.lst xs :: μ) := by
    intro xs x μ
    unfold methF
    simp only [lst0]
    have e : (xs ++ [x])[(xs ++ [x]).length - 1]? = some x := by simp
    rw [e]
    simp
  rcases List.eq_nil_or_concat L with rfl | ⟨L', e, rfl⟩
  · simp -implicitDefEqProofs [len0]
  · rw [List.concat_eq_append] at *
    rw [niceL_app, Bool.and_eq_true] at hL
    have he : nice e = true := by have := hL.2; simpa [niceL] using this
    rw [nodesL_app] at hN
    have hN' : nodesL L' + nodes e = n := by simpa [nodesL] using hN
    have hpos : (0 : Int) < ((L' ++ [e]).map twoD).length := by simp
    have hlen := nodesL_len L'
    have un : ∀ ρ μ, unpackF [3, 4] (twoD e) ρ μ = .ok ((ρ.set 3 (some e)).set 4 (some e)) μ := fun _ _ => rfl
    rw [List.map_append, List.map_cons, List.map_nil] at hpos ⊢
    simp -implicitDefEqProofs only [evT_cmp, ev_bf, ev_v, List.getElem?_cons_succ, List.getElem?_cons_zero, getV_some, bind_ok, len0, ev_int, gt_int, okR_bind, okR_ok, hpos, decide_true, if_true, exs_cons, ex_asg, ev_meth, mfOk_pop, isLst0, evs_nil, pop0, okS_next, okS_of, asgT_tp, un, List.set_cons_succ, List.set_cons_zero, okS_go, thenS_nx]
    cases e with
    | int i =>
      have i1 : ∀ μ, isiF (.int i) .bool μ = .ok false μ := fun _ => rfl
      have i2 : ∀ μ, isiF (.int i) .str μ = .ok false μ := fun _ => rfl
      have i3 : ∀ μ, isiF (.int i) .int μ = .ok true μ := fun _ => rfl
      have i4 : D.isNon (.int i) = false := rfl
      simp -implicitDefEqProofs [i1, i2, i3, i4]
      exact ⟨nodesL L', by simp [nodes] at hN'; omega, L', _, _, _, rfl, rfl, hL.1, rfl, by omega⟩
    | str s =>
      have i1 : ∀ μ, isiF (.str s) .bool μ = .ok false μ := fun _ => rfl
      have i2 : ∀ μ, isiF (.str s) .str μ = .ok true μ := fun _ => rfl
      have i4 : D.isNon (.str s) = false := rfl
      simp -implicitDefEqProofs [i1, i2, i4]
      exact ⟨nodesL L', by simp [nodes] at hN'; omega, L', _, _, _, rfl, rfl, hL.1, rfl, by omega⟩
    | tup xs =>
      have i1 : ∀ μ, isiF (.tup xs) .bool μ = .ok false μ := fun _ => rfl
      have i2 : ∀ μ, isiF (.tup xs) .str μ = .ok false μ := fun _ => rfl
      have i3 : ∀ μ, isiF (.tup xs) .int μ = .ok false μ := fun _ => rfl
      have i5 : ∀ μ, isiF (.tup xs) .tuple μ = .ok true μ := fun _ => rfl
      have i4 : D.isNon (.tup xs) = false := rfl
      have hxs : xs.length ≤ 1000000 := by
        have := nodesL_len xs
        rw [nodes] at hN'
        omega
      rw [nodes] at hN'
      have hb2 := nodesL_len xs
      simp -implicitDefEqProofs [i1, i2, i3, i4, i5, small_rng hxs, rngW_start, rngW_stop]
      refine for_fmT (w := rngW (xs.length : Int)) (acc0 := L'.map twoD) (List.range xs.length) (fun (i : Nat) => D.int i) (fun i => [twoD (xs.getD i .non)]) (fun ρ => ∃ z, ρ = [some d, some d, some (.loc 0), some (.tup xs), some (.tup xs), z]) (fun acc μ => μ = [.lst acc]) rfl (by simp [rngW]) rfl ⟨z, rfl⟩ (fun _ _ _ => trivial) ?_ ?_
      · rintro i hi ρ acc μ ⟨z, rfl⟩ rfl hb
        have hil : i < xs.length := List.mem_range.mp hi
        have hfl : ((List.range xs.length).flatMap fun i => [twoD (xs.getD i .non)]).length = xs.length := by
          have : ∀ l : List Nat, (l.flatMap fun i => [twoD (xs.getD i .non)]).length = l.length := by
            intro l
            induction l with
            | nil => rfl
            | cons a l ih => rw [List.flatMap_cons, List.length_append, ih, List.length_cons]; simp; omega
          rw [this, List.length_range]
        rw [hfl, List.length_map] at hb
        simp only [List.length_cons, List.length_nil] at hb
        have hsz : acc.length < 1000000 := by omega
        have ga : atIx xs (i : Int) = some (xs.getD i .non) := by
          rw [atIx_nat (by omega) (by omega), List.getD_eq_getElem?_getD, Int.toNat_natCast, List.getElem?_eq_getElem hil]
          rfl
        simp -implicitDefEqProofs only [asgT_nm, okR_ok, List.set_cons_succ, List.set_cons_zero, exs_cons, exs_nil, ex_ex, ev_meth, ev_v, List.getElem?_cons_succ, List.getElem?_cons_zero, getV_some, bind_ok, mfOk_append, isLst0, if_true, evs_cons, evs_nil, ev_tup, ev_ix, ix_tup, ga, okI_some, List.length_cons, List.length_nil, Nat.zero_add, Nat.reduceAdd, if_pos h2, append0 _ _ _ hsz, okS_next, okS_of, okS_go, thenS_nx, goS_nx]
        exact ⟨⟨_, rfl⟩, rfl⟩
      · rintro ρ μ ⟨z, rfl⟩ rfl
        have e1 : ((List.range xs.length).flatMap fun i => [twoD (xs.getD i .non)]) = xs.map twoD := by
          have := range_get (xs.map twoD) (fun i => [twoD (xs.getD i .non)]) (fun i h => by
            rw [List.length_map] at h
            rw [List.getD_eq_getElem?_getD, List.getElem?_eq_getElem h]
            simp)
          rw [List.length_map] at this
          exact this
        rw [e1]
        simp -implicitDefEqProofs
        exact ⟨nodesL (L' ++ xs), by rw [nodesL_app]; omega, L' ++ xs, _, _, _, rfl, by simp, by rw [niceL_app, hL.1]; exact he, rfl, by rw [nodesL_app]; omega⟩
    | _ => cases he
end K82
end
section
set_option Elab.async false
set_option linter.all false
set_option autoImplicit false
set_option maxRecDepth 100000
set_option maxHeartbeats 1000000
namespace K82
open PL
section
variable {b : Board} {rows cols : Nat} {S : Setting}
def mD (b : Board) (rows cols : Nat) (S : Setting) : D := .tup ((mating b rows cols S).map ppD)
/-- deeds that change no mating -/
def idleL (b : Board) (rows cols : Nat) (S : Setting) (ds : List Side) : List Nat := (List.range ds.length).filter fun i => deq (mD b rows cols ((runL S ds).getD i [])) (mD b rows cols ((runL S ds).getD (i + 1) []))
def nD (i : Nat) : D := .int i
theorem data_ints' : ∀ l : List Nat, D.dataL (l.map nD) = true
  | [] => rfl
  | x :: l => by rw [List.map_cons, D.dataL, data_ints' l]; rfl
theorem plain_pp {q : Side × Side} (h1 : isPt q.1.2.2) (h2 : isPt q.2.2.2) : D.plain (ppD q) = true ∧ D.depth (ppD q) ≤ 2 := by
  obtain ⟨⟨r, c, p⟩, ⟨r', c', p'⟩⟩ := q
  rcases h1 with h | h | h | h <;> rcases h2 with h' | h' | h' | h' <;> (simp only at h h'; subst h h'; exact ⟨rfl, Nat.le_refl 2⟩)
theorem mating_pts (B : Bok b rows cols) (O : Sok b rows cols S) {q : Side × Side} (hq : q ∈ mating b rows cols S) : isPt q.1.2.2 ∧ isPt q.2.2.2 := by
  obtain ⟨e, he, rfl⟩ := List.mem_map.mp hq
  have he' := (List.mem_filter.mp he).1
  exact ⟨end_pt he', end_pt (mate_end B O he')⟩
theorem eqOk_m (B : Bok b rows cols) (O : Sok b rows cols S) : D.eqOk (mD b rows cols S) = true := by
  have key : ∀ l : List (Side × Side), (∀ q ∈ l, isPt q.1.2.2 ∧ isPt q.2.2.2) → D.plainL (l.map ppD) = true ∧ D.depthL (l.map ppD) ≤ 2 := by
    intro l
    induction l with
    | nil => intro _; exact ⟨rfl, by decide⟩
    | cons q l ih =>
      intro h
      obtain ⟨a1, a2⟩ := ih fun q hq => h q (List.mem_cons_of_mem _ hq)
      obtain ⟨h1, h2⟩ := h q (List.mem_cons_self ..)
      obtain ⟨b1, b2⟩ := plain_pp h1 h2
      rw [List.map_cons, D.plainL, D.depthL, a1, b1]
      exact ⟨rfl, by omega⟩
  obtain ⟨a1, a2⟩ := key _ fun q hq => mating_pts B O hq
  unfold D.eqOk mD
  rw [D.plain, D.depth, a1]
  simp
  omega
theorem eq_m {C : Nat → List (Key × D)} {S' : Setting} (B : Bok b rows cols) (O : Sok b rows cols S) (O' : Sok b rows cols S') (μ : Store) : cmpF C .eq (mD b rows cols S) (mD b rows cols S') μ = .ok (deq (mD b rows cols S) (mD b rows cols S')) μ := by
  show (if eqOk2 (mD b rows cols S) (mD b rows cols S') = true then Res.ok (deq (mD b rows cols S) (mD b rows cols S')) μ else .stuck) = _
  rw [if_pos]
  unfold eqOk2
  rw [eqOk_m B O, eqOk_m B O']
  simp
theorem data_ms : ∀ l : List Setting, D.dataL (l.map (mD b rows cols)) = true
  | [] => rfl
  | x :: l => by
    rw [List.map_cons, D.dataL, data_ms l]
    show (D.dataL ((mating b rows cols x).map ppD) && true) = true
    rw [data_pp]; rfl
theorem ms_at {L : List Setting} {i : Nat} (h : i < L.length) : atIx (L.map (mD b rows cols)) (i : Int) = some (mD b rows cols (L.getD i [])) := by
  rw [atIx_nat (by omega) (by rw [List.length_map]; omega), List.getElem?_map, Int.toNat_natCast, List.getElem?_eq_getElem h, List.getD_eq_getElem?_getD, List.getElem?_eq_getElem h]
  rfl
theorem ms_at1 {L : List Setting} {i : Nat} (h : i + 1 < L.length) : atIx (L.map (mD b rows cols)) ((i : Int) + 1) = some (mD b rows cols (L.getD (i + 1) [])) := ms_at h
theorem getD_mem {α : Type} {L : List α} {i : Nat} {d : α} (h : i < L.length) : L.getD i d ∈ L := by
  rw [List.getD_eq_getElem?_getD, List.getElem?_eq_getElem h]
  exact List.getElem_mem h
theorem ds_len (ds : List Side) (μ : Store) : bfF .len (dsD ds) μ = .ok (.int ds.length) μ := by
  show Res.ok (D.int (ds.map sdD).length) μ = _
  rw [List.length_map]
theorem niceN : ∀ l : List Nat, niceL (l.map nD) = true ∧ nodesL (l.map nD) = l.length
  | [] => ⟨rfl, rfl⟩
  | x :: l => by
    obtain ⟨h1, h2⟩ := niceN l
    rw [List.map_cons, niceL, nodesL, h1, h2]
    exact ⟨rfl, by simp [nodes, nD]; omega⟩
end
end K82
end
section
set_option Elab.async false
set_option linter.all false
set_option autoImplicit false
set_option maxRecDepth 100000
set_option maxHeartbeats 1000000
namespace K82
open PL
def great : Txt := [103, 114, 101, 97, 116]
def mix : Txt := [109, 105, 120]
def tCell : Txt := [99, 101, 108, 108]
def tLetter : Txt := [108, 101, 116, 116, 101, 114]
def tEnd : Txt := [101, 110, 100]
def isNm (t : Txt) : Prop := t = tCell ∨ t = tLetter ∨ t = tEnd
def urnK (m : Int) (ex : List (Txt × Nat)) : List (Key × D) := (.inr great, .loc 1) :: (.inr mix, .int m) :: ex.map fun p => (.inr p.1, .loc p.2)
def urnO (m : Int) (ex : List (Txt × Nat)) : Obj := .dK false (urnK m ex)
/-- an urn's store -/
def uS (m : Int) (g : List Int) (ex : List (Txt × Nat)) (rest : Store) : Store := urnO m ex :: .lst (g.map .int) :: rest
structure UOk (m : Int) (g : List Int) (ex : List (Txt × Nat)) (rest : Store) : Prop where
  m0 : 0 ≤ m
  g0 : ∀ x ∈ g, 0 ≤ x
  gl : g.length ≤ 100
  nm : ∀ p ∈ ex, isNm p.1
  at_ : ∀ p ∈ ex, ∃ (j : Nat) (a c : Int), p.2 = j + 2 ∧ rest[j]? = some (.lst [.int a, .int c]) ∧ 0 ≤ a ∧ 0 ≤ c
  el : ex.length ≤ 3
  nd : (ex.map (·.1)).Nodup
theorem ix_great (m : Int) (g : List Int) (ex : List (Txt × Nat)) (rest : Store) : ixF prog.cst (.loc 0) (.str [103, 114, 101, 97, 116]) (uS m g ex rest) = .ok (.loc 1) (uS m g ex rest) := rfl
theorem ix_mix (m : Int) (g : List Int) (ex : List (Txt × Nat)) (rest : Store) : ixF prog.cst (.loc 0) (.str [109, 105, 120]) (uS m g ex rest) = .ok (.int m) (uS m g ex rest) := rfl
theorem len_great (m : Int) (g : List Int) (ex : List (Txt × Nat)) (rest : Store) : bfF .len (.loc 1) (uS m g ex rest) = .ok (.int g.length) (uS m g ex rest) := by
  rw [len_lst (uS m g ex rest) (l := 1) (xs := g.map .int) rfl, List.length_map]
theorem ix_g (m : Int) (g : List Int) (ex : List (Txt × Nat)) (rest : Store) (i : Int) : ixF prog.cst (.loc 1) (.int i) (uS m g ex rest) = okI (atIx (g.map D.int) i) (uS m g ex rest) := ix_lst prog.cst _ rfl
theorem set_mix {m : Int} {g : List Int} {ex : List (Txt × Nat)} {rest : Store} (h : UOk m g ex rest) (v : Int) : setF (.loc 0) (.str [109, 105, 120]) (.int v) (uS m g ex rest) = .ok () (uS v g ex rest) := by
  show (if (urnK m ex).length < mostLen then Res.ok () ((uS m g ex rest).set 0 (.dK false (put (urnK m ex) (.inr mix) (.int v)))) else .stuck) = _
  rw [if_pos (by unfold urnK; have := h.el; simp [mostLen_eq]; omega)]
  have e : put (urnK m ex) (.inr mix) (.int v) = urnK v ex := by
    unfold put
    have ha : ((urnK m ex).any fun p => decide (p.1 = .inr mix)) = true := rfl
    rw [if_pos ha]
    unfold urnK
    rw [List.map_cons, List.map_cons, List.map_map]
    congr 2
    refine List.map_congr_left fun p hp => ?_
    show (if (Sum.inr p.1 : Key) = .inr mix then _ else _) = _
    rw [if_neg]
    intro e
    have e : p.1 = mix := Sum.inr.inj e
    rcases h.nm p hp with q | q | q <;> (rw [q] at e; exact absurd e (by decide))
  rw [e]
  rfl
theorem set_g (m : Int) (x v : Int) (g : List Int) (ex : List (Txt × Nat)) (rest : Store) : setF (.loc 1) (.int 0) (.int v) (uS m (x :: g) ex rest) = .ok () (uS m (v :: g) ex rest) := by
  show (match pyIx ((x :: g).map D.int).length 0 with
    | some k => Res.ok () ((uS m (x :: g) ex rest).set 1 (.lst (((x :: g).map D.int).set k (.int v))))
    | none => .stuck) = _
  have e : pyIx ((x :: g).map D.int).length 0 = some 0 := by
    unfold pyIx
    rw [if_pos (by decide), if_pos (by simp)]
    rfl
  rw [e]
  rfl
theorem pop_g (m : Int) (x : Int) (g : List Int) (ex : List (Txt × Nat)) (rest : Store) : methF prog.cst .popAt (.loc 1) [.int 0] (uS m (x :: g) ex rest) = .ok (.int x) (uS m g ex rest) := by
  unfold methF
  simp only [show (uS m (x :: g) ex rest)[1]? = some (.lst ((x :: g).map .int)) from rfl]
  have e : pyIx ((x :: g).map D.int).length 0 = some 0 := by
    unfold pyIx
    rw [if_pos (by decide), if_pos (by simp)]
    rfl
  simp only [e]
  rfl
theorem at_g0 (x : Int) (g : List Int) : atIx ((x :: g).map D.int) 0 = some (.int x) := by
  unfold atIx pyIx
  rw [if_pos (by decide), if_pos (by simp)]
  rfl
theorem at_c0 (x : D) (g : List D) : atIx (x :: g) 0 = some x := by
  unfold atIx pyIx
  rw [if_pos (by decide), if_pos (by simp)]
  rfl
theorem int_int (i : Int) (μ : Store) : bfF .int (.int i) μ = .ok (.int i) μ := rfl
theorem mod_int {i j : Int} (h : 0 < j) (μ : Store) : binF .mod (.int i) (.int j) μ = .ok (.int (i % j)) μ := by
  show (if 0 < j then Res.ok (D.int (i % j)) μ else .stuck) = _
  rw [if_pos h]
theorem div_int {i j : Int} (h : 0 < j) (h2 : j < 1073741824) (μ : Store) : binF .fdiv (.int i) (.int j) μ = .ok (.int (i / j)) μ := by
  show (if 0 < j ∧ j < 1073741824 then Res.ok (D.int (i / j)) μ else .stuck) = _
  rw [if_pos ⟨h, h2⟩]
theorem mul_small {i j : Int} (h : small j = true) (μ : Store) : binF .mul (.int i) (.int j) μ = .ok (.int (i * j)) μ := by
  show (if (small i || small j) = true then Res.ok (D.int (i * j)) μ else .stuck) = _
  rw [if_pos (by rw [h]; simp)]
def TakeI (m : Int) (ex : List (Txt × Nat)) (rest : Store) (many : Int) (n : Nat) (ρ : Env) (μ : Store) : Prop := ∃ (g : List Int) (x : Option D), ρ = [some (.loc 0), some (.int many), x] ∧ μ = uS m g ex rest ∧ g.length = n ∧ UOk m g ex rest
theorem UOk.tail {m x : Int} {g : List Int} {ex : List (Txt × Nat)} {rest : Store} (h : UOk m (x :: g) ex rest) : UOk m g ex rest :=
  ⟨h.m0, fun y hy => h.g0 y (List.mem_cons_of_mem _ hy), by have := h.gl; rw [List.length_cons] at this; omega, h.nm, h.at_, h.el, h.nd⟩
theorem take_run {k : Nat} {m : Int} {g : List Int} {ex : List (Txt × Nat)} {rest : Store} (h : UOk m g ex rest) {many : Int} (h1 : 1 ≤ many) (h2 : many < 1073741824) :
    okR (callB prog N0 (cF k) f_law_take [.loc 0, .int many] (uS m g ex rest)) fun d μ => ∃ r m' g', d = .int r ∧ 0 ≤ r ∧ r < many ∧ μ = uS m' g' ex rest ∧ UOk m' g' ex rest := by
  simp -implicitDefEqProofs [callB, f_law_take, startE]
  refine whl_wp (TakeI m ex rest many) ?_ N0 g.length _ _ (by have := h.gl; show g.length < 100000; omega) ⟨g, none, rfl, rfl, rfl, h⟩
  rintro n ρ μ ⟨g, x, rfl, rfl, hn, U⟩
  have fin0 : g = [] → okS (exs prog.cst (cF k) N0 (.cons (.asg (.sb (.v 0) (.str [109, 105, 120])) (.bin .mod (.bf .int (.bin .add (.bin .mul (.ix (.v 0) (.str [109, 105, 120])) (.int 39373)) (.int 907))) (.int 2147483587))) (.cons (.ret (.bin .mod (.bf .int (.bin .fdiv (.ix (.v 0) (.str [109, 105, 120])) (.int 61))) (.v 1))) .nil)) [some (.loc 0), some (.int many), x] (uS m g ex rest)) (handQ fun d μ => ∃ r m' g', d = .int r ∧ 0 ≤ r ∧ r < many ∧ μ = uS m' g' ex rest ∧ UOk m' g' ex rest) := by
    rintro rfl
    have s1 : small 39373 = true := by decide
    simp -implicitDefEqProofs [ix_mix, mul_small s1, int_int, mod_int, set_mix U, div_int, mod_int (show 0 < many by omega)]
    exact ⟨Int.emod_nonneg _ (by omega), Int.emod_lt_of_pos _ (by omega), _, [], rfl, ⟨Int.emod_nonneg _ (by omega), U.g0, U.gl, U.nm, U.at_, U.el, U.nd⟩⟩
  cases g with
  | nil =>
    have := fin0 rfl
    simp -implicitDefEqProofs at this
    simp -implicitDefEqProofs [ix_great, len_great]
    exact this
  | cons y g =>
    have hp : (0 : Int) < (g.length : Int) + 1 := by omega
    by_cases hy : y = 0
    · subst hy
      have i1 : isLstD (.loc 1) (uS m (0 :: g) ex rest) = true := rfl
      simp -implicitDefEqProofs [ix_great, len_great, hp, ix_g, at_c0, i1, pop_g]
      exact ⟨g.length, by rw [List.length_cons] at hn; omega, g, _, rfl, rfl, rfl, U.tail⟩
    · have hy0 := U.g0 y (List.mem_cons_self ..)
      simp -implicitDefEqProofs [ix_great, len_great, hp, ix_g, at_c0, hy, int_int, mod_int (show 0 < many by omega), div_int (show 0 < many by omega) h2, set_g]
      exact ⟨Int.emod_nonneg _ (by omega), Int.emod_lt_of_pos _ (by omega), m, (y / many) :: g, rfl, ⟨U.m0, fun z hz => (List.mem_cons.mp hz).elim (fun e => e ▸ Int.ediv_nonneg hy0 (by omega)) fun hz => U.g0 z (List.mem_cons_of_mem _ hz), U.gl, U.nm, U.at_, U.el, U.nd⟩⟩
theorem take_ok {k : Nat} (hk : 1 ≤ k) {m : Int} {g : List Int} {ex : List (Txt × Nat)} {rest : Store} (h : UOk m g ex rest) {many : Int} (h1 : 1 ≤ many) (h2 : many < 1073741824) :
    ∃ r m' g', cF k 1001 [.loc 0, .int many] (uS m g ex rest) = .ok (.int r) (uS m' g' ex rest) ∧ 0 ≤ r ∧ r < many ∧ UOk m' g' ex rest := by
  obtain ⟨k, rfl⟩ : ∃ j, k = j + 1 := ⟨k - 1, by omega⟩
  obtain ⟨d, μ, e, r, m', g', rfl, h3, h4, rfl, h5⟩ := okR_ex.mp (take_run (k := k) h h1 h2)
  refine ⟨r, m', g', ?_, h3, h4, h5⟩
  rw [call_loc (fn := f_law_take) rfl rfl rfl, e]
end K82
end
section
set_option Elab.async false
set_option linter.all false
set_option autoImplicit false
set_option maxRecDepth 100000
set_option maxHeartbeats 1000000
namespace K82
open PL
/-- an urn behind a call: its store grew -/
structure Aft (rest : Store) (m : Int) (g : List Int) (ex : List (Txt × Nat)) (rest' : Store) : Prop where
  ok : UOk m g ex rest'
  pre : rest <+: rest'
theorem UOk.grow {m : Int} {g : List Int} {ex : List (Txt × Nat)} {rest rest' : Store} (h : UOk m g ex rest) (p : rest <+: rest') : UOk m g ex rest' := by
  obtain ⟨t, rfl⟩ := p
  refine ⟨h.m0, h.g0, h.gl, h.nm, fun q hq => ?_, h.el, h.nd⟩
  obtain ⟨j, a, c, e1, e2, e3⟩ := h.at_ q hq
  exact ⟨j, a, c, e1, by rw [List.getElem?_append_left (List.getElem?_eq_some_iff.mp e2).1]; exact e2, e3⟩
theorem look_ex {m : Int} {ex : List (Txt × Nat)} {t : Txt} (ht : isNm t) : look (urnK m ex) (.inr t) = (ex.find? fun p => decide (p.1 = t)).map fun p => D.loc p.2 := by
  have n1 : ¬ ((.inr great : Key) = .inr t) := by
    intro e
    have e := Sum.inr.inj e
    rcases ht with q | q | q <;> (rw [q] at e; exact absurd e (by decide))
  have n2 : ¬ ((.inr mix : Key) = .inr t) := by
    intro e
    have e := Sum.inr.inj e
    rcases ht with q | q | q <;> (rw [q] at e; exact absurd e (by decide))
  unfold look urnK
  rw [List.find?_cons_of_neg (by simpa using n1), List.find?_cons_of_neg (by simpa using n2), List.find?_map, Option.map_map]
  congr 1
  congr 1
  funext p
  simp
theorem find_ex {m : Int} {g : List Int} {ex : List (Txt × Nat)} {rest : Store} {t : Txt} (ht : isNm t) : findF prog.cst (.loc 0) (.str t) (uS m g ex rest) = some ((ex.find? fun p => decide (p.1 = t)).map fun p => D.loc p.2) := by
  rw [← look_ex (m := m) ht]
  rfl
theorem nin_ex {m : Int} {g : List Int} {ex : List (Txt × Nat)} {rest : Store} {t : Txt} (ht : isNm t) : cmpF prog.cst .nin (.str t) (.loc 0) (uS m g ex rest) = .ok (ex.find? fun p => decide (p.1 = t)).isNone (uS m g ex rest) := by
  have hin : inF prog.cst (.str t) (.loc 0) (uS m g ex rest) = .ok (ex.find? fun p => decide (p.1 = t)).isSome (uS m g ex rest) := by
    show (match findF prog.cst (.loc 0) (.str t) (uS m g ex rest) with
      | some o => Res.ok o.isSome (uS m g ex rest)
      | none => .stuck) = _
    rw [find_ex ht]
    cases ex.find? fun p => decide (p.1 = t) <;> rfl
  show (inF prog.cst (.str t) (.loc 0) (uS m g ex rest)).bind (fun b μ => .ok (!b) μ) = _
  rw [hin]
  cases ex.find? fun p => decide (p.1 = t) <;> rfl
theorem ixx {m : Int} {g : List Int} {ex : List (Txt × Nat)} {rest : Store} {t : Txt} (ht : isNm t) {p : Txt × Nat} (hp : ex.find? (fun p => decide (p.1 = t)) = some p) : ixF prog.cst (.loc 0) (.str t) (uS m g ex rest) = .ok (.loc p.2) (uS m g ex rest) := by
  show (match findF prog.cst (.loc 0) (.str t) (uS m g ex rest) with
    | some (some v) => Res.ok v (uS m g ex rest)
    | _ => .stuck) = _
  rw [find_ex ht, hp]
  rfl
theorem set_ex {m : Int} {g : List Int} {ex : List (Txt × Nat)} {rest : Store} {t : Txt} (ht : isNm t) (hp : ex.find? (fun p => decide (p.1 = t)) = none) (h : UOk m g ex rest) (l : Nat) : setF (.loc 0) (.str t) (.loc l) (uS m g ex rest) = .ok () (uS m g (ex ++ [(t, l)]) rest) := by
  show (if (urnK m ex).length < mostLen then Res.ok () ((uS m g ex rest).set 0 (.dK false (put (urnK m ex) (.inr t) (.loc l)))) else .stuck) = _
  rw [if_pos (by unfold urnK; have := h.el; simp [mostLen_eq]; omega)]
  have e : put (urnK m ex) (.inr t) (.loc l) = urnK m (ex ++ [(t, l)]) := by
    unfold put
    have hl := look_ex (m := m) (ex := ex) ht
    rw [hp] at hl
    have ha : ¬ ((urnK m ex).any fun p => decide (p.1 = .inr t)) = true := by
      intro ha
      obtain ⟨q, hq, e⟩ := List.any_eq_true.mp ha
      unfold look at hl
      have : (urnK m ex).find? (fun p => decide (p.1 = .inr t)) = none := by simpa using hl
      have := List.find?_eq_none.mp this q hq
      exact this e
    rw [if_neg ha]
    unfold urnK
    simp
  rw [e]
  rfl
theorem habit_run {k : Nat} (hk : 1 ≤ k) {m : Int} {g : List Int} {ex : List (Txt × Nat)} {rest : Store} (h : UOk m g ex rest) {t : Txt} (ht : isNm t) {many : Int} (h1 : 1 ≤ many) (h2 : many < 1073741824) :
    okR (callB prog N0 (cF k) f_law_habit [.loc 0, .str t, .int many] (uS m g ex rest)) fun d μ => ∃ r m' g' ex' rest', d = .int r ∧ 0 ≤ r ∧ r < many ∧ μ = uS m' g' ex' rest' ∧ Aft rest m' g' ex' rest' := by
  -- behind the first statement
  have second : ∀ (m : Int) (g : List Int) (ex : List (Txt × Nat)) (rest' : Store) (p : Txt × Nat), UOk m g ex rest' → rest <+: rest' → ex.find? (fun p => decide (p.1 = t)) = some p →
      okS (exs prog.cst (cF k) N0 (.cons (.asg (.tp [3, 4]) (.ix (.v 0) (.v 1))) (.cons (.ite (.cmp .eq (.v 3) (.int 0)) (.cons (.ret (.int 0)) .nil) .nil) (.cons (.ite (.cmp .eq (.v 3) (.int 1)) (.cons (.ret (.bin .sub (.v 2) (.int 1))) .nil) .nil) (.cons (.ret (.ite (.cmp .eq (.v 3) (.int 2)) (.bin .mod (.bf .int (.v 4)) (.v 2)) (.call 1001 (.cons (.v 0) (.cons (.v 2) .nil))))) .nil)))) [some (.loc 0), some (.str t), some (.int many), none, none] (uS m g ex rest'))
        (handQ fun d μ => ∃ r m' g' ex' rest', d = .int r ∧ 0 ≤ r ∧ r < many ∧ μ = uS m' g' ex' rest' ∧ Aft rest m' g' ex' rest') := by
    intro m g ex rest' p U hpre hp
    obtain ⟨j, a, c, e1, e2, e3, e4⟩ := U.at_ p (List.mem_of_find?_eq_some hp)
    have ix := ixx (m := m) (g := g) (rest := rest') ht hp
    have un : ∀ ρ, unpackF [3, 4] (.loc p.2) ρ (uS m g ex rest') = .ok ((ρ.set 3 (some (.int a))).set 4 (some (.int c))) (uS m g ex rest') := by
      intro ρ
      unfold unpackF rowF
      have : (uS m g ex rest')[p.2]? = some (.lst [.int a, .int c]) := by rw [e1]; exact e2
      simp only [this]
      rfl
    obtain ⟨r, m', g', et, r0, r1, U'⟩ := take_ok (k := k) hk U h1 h2
    by_cases a0 : a = 0
    · subst a0
      simp -implicitDefEqProofs [ix, un]
      exact ⟨by omega, m, g, ex, rest', rfl, U, hpre⟩
    · by_cases a1 : a = 1
      · subst a1
        simp -implicitDefEqProofs [ix, un]
        exact ⟨by omega, by omega, m, g, ex, rest', rfl, U, hpre⟩
      · by_cases a2 : a = 2
        · subst a2
          simp -implicitDefEqProofs [ix, un, int_int, mod_int (show 0 < many by omega)]
          exact ⟨Int.emod_nonneg _ (by omega), Int.emod_lt_of_pos _ (by omega), m, g, ex, rest', rfl, U, hpre⟩
        · simp -implicitDefEqProofs [ix, un, a0, a1, a2, et]
          exact ⟨r0, r1, m', g', ex, rest', rfl, U', hpre⟩
  cases hf : ex.find? fun p => decide (p.1 = t) with
  | some p =>
    have hs := second m g ex rest p h (List.prefix_refl _) hf
    have hn := nin_ex (m := m) (g := g) (ex := ex) (rest := rest) ht
    rw [hf] at hn
    have hn' : cmpF prog.cst .nin (.str t) (.loc 0) (uS m g ex rest) = .ok false (uS m g ex rest) := hn
    unfold callB f_law_habit
    simp -implicitDefEqProofs only [startE, okR_handed, exs_cons, okS_next, List.map, List.replicate, List.cons_append, List.nil_append, ex_ite, okS_of, evT_cmp, ev_v, List.getElem?_cons_succ, List.getElem?_cons_zero, getV_some, bind_ok, hn', okR_ok, Bool.false_eq_true, if_false, exs_nil, okS_go, thenS_nx] at hs ⊢
    exact hs
  | none =>
    have hn := nin_ex (m := m) (g := g) (ex := ex) (rest := rest) ht
    rw [hf] at hn
    have hn' : cmpF prog.cst .nin (.str t) (.loc 0) (uS m g ex rest) = .ok true (uS m g ex rest) := hn
    obtain ⟨a, m1, g1, et1, a0, a1, U1⟩ := take_ok (k := k) hk h (many := 6) (by omega) (by omega)
    obtain ⟨c, m2, g2, et2, c0, c1, U2⟩ := take_ok (k := k) hk U1 h1 h2
    have U3 : UOk m2 g2 ex (rest ++ [.lst [.int a, .int c]]) := U2.grow ⟨_, rfl⟩
    have hfalse : ∀ q ∈ ex, ¬ q.1 = t := fun q hq e => by
      have := List.find?_eq_none.mp hf q hq
      exact this (by simpa using e)
    have nd : ((ex ++ [(t, rest.length + 2)]).map (·.1)).Nodup := by
      rw [List.map_append, List.nodup_append]
      refine ⟨U2.nd, by simp, fun x hx y hy e => ?_⟩
      obtain ⟨q, hq, rfl⟩ := List.mem_map.mp hx
      rw [List.map_cons, List.map_nil, List.mem_singleton] at hy
      exact hfalse q hq (e.trans hy)
    have U4 : UOk m2 g2 (ex ++ [(t, rest.length + 2)]) (rest ++ [.lst [.int a, .int c]]) := by
      refine ⟨U3.m0, U3.g0, U3.gl, fun q hq => ?_, fun q hq => ?_, ?_, nd⟩
      · rcases List.mem_append.mp hq with hq | hq
        · exact U3.nm q hq
        · rw [List.mem_singleton.mp hq]; exact ht
      · rcases List.mem_append.mp hq with hq | hq
        · exact U3.at_ q hq
        · rw [List.mem_singleton.mp hq]
          exact ⟨rest.length, a, c, rfl, by simp, a0, c0⟩
      · have := sub_len _ [tCell, tLetter, tEnd] nd fun x hx => by
          obtain ⟨q, hq, rfl⟩ := List.mem_map.mp hx
          rcases List.mem_append.mp hq with hq | hq
          · rcases U3.nm q hq with e | e | e <;> (rw [e]; simp)
          · rw [List.mem_singleton.mp hq]
            rcases ht with e | e | e <;> (rw [e]; simp)
        rw [List.length_map] at this
        exact this
    have hf4 : (ex ++ [(t, rest.length + 2)]).find? (fun p => decide (p.1 = t)) = some (t, rest.length + 2) := by
      rw [List.find?_append, hf]
      simp
    have hs := second m2 g2 _ _ _ U4 ⟨_, rfl⟩ hf4
    have h22 : (2 : Nat) ≤ mostLen := by decide
    have nw : PL.new (.lst [.int a, .int c]) (uS m2 g2 ex rest) = .ok (.loc (rest.length + 2)) (uS m2 g2 ex (rest ++ [.lst [.int a, .int c]])) := rfl
    have st := set_ex (m := m2) (g := g2) (rest := rest ++ [.lst [.int a, .int c]]) ht hf U3 (rest.length + 2)
    unfold callB f_law_habit
    simp -implicitDefEqProofs only [startE, okR_handed, exs_cons, okS_next, List.map, List.replicate, List.cons_append, List.nil_append, ex_ite, okS_of, evT_cmp, ev_v, List.getElem?_cons_succ, List.getElem?_cons_zero, getV_some, bind_ok, hn', okR_ok, if_true, exs_nil, okS_go, thenS_nx, ex_asg, ev_lst, evs_cons, evs_nil, ev_call, ev_int, et1, et2, List.length_cons, List.length_nil, Nat.zero_add, Nat.reduceAdd, if_pos h22, nw, asgT_sb, st] at hs ⊢
    exact hs
theorem habit_ok {k : Nat} (hk : 2 ≤ k) {m : Int} {g : List Int} {ex : List (Txt × Nat)} {rest : Store} (h : UOk m g ex rest) {t : Txt} (ht : isNm t) {many : Int} (h1 : 1 ≤ many) (h2 : many < 1073741824) :
    ∃ r m' g' ex' rest', cF k 1002 [.loc 0, .str t, .int many] (uS m g ex rest) = .ok (.int r) (uS m' g' ex' rest') ∧ 0 ≤ r ∧ r < many ∧ Aft rest m' g' ex' rest' := by
  obtain ⟨k, rfl⟩ : ∃ j, k = j + 1 := ⟨k - 1, by omega⟩
  obtain ⟨d, μ, e, r, m', g', ex', rest', rfl, h3, h4, rfl, h5⟩ := okR_ex.mp (habit_run (k := k) (by omega) h ht h1 h2)
  exact ⟨r, m', g', ex', rest', by rw [call_loc (fn := f_law_habit) rfl rfl rfl, e], h3, h4, h5⟩
end K82
end
section
set_option Elab.async false
set_option linter.all false
set_option autoImplicit false
set_option maxRecDepth 100000
set_option maxHeartbeats 1000000
namespace K82
open PL
def scrD (ns : List Int) : D := .rol (ns.map .int)
theorem data_ints2 : ∀ l : List Int, D.dataL (l.map .int) = true
  | [] => rfl
  | x :: l => by rw [List.map_cons, D.dataL, data_ints2 l]; rfl
theorem app_great {m : Int} {g : List Int} {ex : List (Txt × Nat)} {rest : Store} (h : UOk m g ex rest) (v : Int) : methF prog.cst .append (.loc 1) [.int v] (uS m g ex rest) = .ok .non (uS m (g ++ [v]) ex rest) := by
  rw [append_lst (C := prog.cst) (μ := uS m g ex rest) (l := 1) (xs := g.map .int) rfl (by rw [List.length_map, mostLen_eq]; have := h.gl; omega)]
  unfold uS
  simp
theorem pow_ok {i j : Int} (h : 0 ≤ j ∧ j ≤ 1000 ∧ 0 ≤ i ∧ i < 2 ^ 256) (μ : Store) : binF .pow (.int i) (.int j) μ = .ok (.int (i ^ j.toNat)) μ := by
  show (if 0 ≤ j ∧ j ≤ 1000 ∧ 0 ≤ i ∧ i < 2 ^ 256 then Res.ok (D.int (i ^ j.toNat)) μ else .stuck) = _
  rw [if_pos h]
theorem abs_int (i : Int) (μ : Store) : bfF .abs (.int i) μ = .ok (.int (if i < 0 then -i else i)) μ := rfl
theorem law_urn_run {k : Nat} (ns : List Int) : okR (callB prog N0 (cF k) f_law_urn [scrD ns] []) fun d μ => ∃ m g rest, d = .loc 0 ∧ μ = uS m g [] rest ∧ UOk m g [] rest := by
  have h0 : (0 : Nat) ≤ mostLen := by decide
  have dsp : ∀ ρ, ev prog.cst (cF k) (.disp [(.inr [103, 114, 101, 97, 116]), (.inr [109, 105, 120])] (.cons (.lst .nil) (.cons (.int 82003) .nil))) ρ [] = .ok (.loc 0) (uS 82003 [] [] []) := fun ρ => rfl
  have sl : slF (scrD ns) none (some 40) (uS 82003 [] [] []) = .ok (.loc 2) (uS 82003 [] [] [.lst ((ns.take 40).map .int)]) := by
    show Res.ok (D.loc 2) (uS 82003 [] [] [.lst (cut (ns.map D.int) none (some ((40 : Nat) : Int)))]) = _
    rw [cut_to, List.map_take]
  have wl : walkF (.loc 2) (uS 82003 [] [] [.lst ((ns.take 40).map .int)]) = some (.lst 2 ((ns.take 40).map .int)) := rfl
  have s1 : small 40692 = true := by decide
  simp -implicitDefEqProofs only [callB, f_law_urn, startE, okR_handed, exs_cons, okS_next, List.map, List.replicate, List.cons_append, List.nil_append, ex_asg, okS_of, dsp, okR_ok, asgT_nm, List.set_cons_succ, List.set_cons_zero, okS_go, thenS_nx, ex_fr, evI_val, ev_slU, ev_v, List.getElem?_cons_succ, List.getElem?_cons_zero, getV_some, bind_ok, ev_int, sl2_int, sl, wl, okI_some, unlock_lst, items_lst, start_lst, exs_nil]
  refine for_wp (w := .lst 2 ((ns.take 40).map .int)) (xs := (ns.take 40).map .int) (fun i ρ μ => (∃ x y, ρ = [some (scrD ns), some (.loc 0), x, y]) ∧ ∃ m g, μ = uS m g [] [.lst ((ns.take 40).map .int)] ∧ UOk m g [] [.lst ((ns.take 40).map .int)] ∧ g.length ≤ i) rfl ⟨⟨none, none, rfl⟩, 82003, [], rfl, ⟨by decide, fun _ h => by simp at h, by simp, fun _ h => by simp at h, fun _ h => by simp at h, by simp, by simp⟩, by simp⟩ (fun i ρ μ ⟨_, m, g, e, _⟩ => by rw [e]; rfl) ?_ ?_
  · rintro i z ρ μ hz ⟨⟨x, y, rfl⟩, m, g, rfl, U, hg⟩
    rw [List.getElem?_map] at hz
    cases ee : (ns.take 40)[i]? with
    | none => rw [ee] at hz; cases hz
    | some n =>
      rw [ee] at hz
      have : D.int n = z := Option.some.inj hz
      subst this
      have hi : i < 40 := by
        have := (List.getElem?_eq_some_iff.mp ee).1
        rw [List.length_take] at this
        omega
      generalize hs : (if n < 0 then -n else n) = s
      have hs0 : 0 ≤ s := by rw [← hs]; split <;> omega
      generalize hv : (m * 40692 + s % 1999999973 + 11) % 2147483587 = v
      have hv0 : 0 ≤ v := by rw [← hv]; exact Int.emod_nonneg _ (by omega)
      have U2 : UOk v g [] [.lst ((ns.take 40).map .int)] := ⟨hv0, U.g0, U.gl, U.nm, U.at_, U.el, U.nd⟩
      have p18 : ∀ μ, binF .pow (.int 10) (.int 18) μ = .ok (.int (10 ^ 18)) μ := fun μ => pow_ok (by decide) μ
      have p60 : ∀ μ, binF .pow (.int 10) (.int 60) μ = .ok (.int (10 ^ 60)) μ := fun μ => pow_ok (by decide) μ
      have p12 : ∀ μ, binF .pow (.int (10 ^ 60)) (.int 12) μ = .ok (.int ((10 ^ 60) ^ 12)) μ := fun μ => pow_ok (by decide) μ
      have md : ∀ μ, binF .mod (.int s) (.int ((10 ^ 60) ^ 12)) μ = .ok (.int (s % ((10 ^ 60) ^ 12))) μ := fun μ => mod_int (by decide) μ
      have i1 : isLstD (.loc 1) (uS v g [] [.lst ((ns.take 40).map .int)]) = true := rfl
      have body1 : ∀ Q : Flow → Env → Store → Prop, okS (ex prog.cst (cF k) N0 (.ite (.cmp .ge (.v 3) (.bin .pow (.int 10) (.int 18))) (.cons (.ex (.meth .append (.ix (.v 1) (.str [103, 114, 101, 97, 116])) (.cons (.bin .mod (.bf .int (.v 3)) (.bin .pow (.bin .pow (.int 10) (.int 60)) (.int 12))) .nil))) .nil) .nil) [some (scrD ns), some (.loc 0), some (.int n), some (.int s)] (uS v g [] [.lst ((ns.take 40).map .int)])) Q ↔ if 10 ^ 18 ≤ s then Q .nx [some (scrD ns), some (.loc 0), some (.int n), some (.int s)] (uS v (g ++ [s % ((10 ^ 60) ^ 12)]) [] [.lst ((ns.take 40).map .int)]) else Q .nx [some (scrD ns), some (.loc 0), some (.int n), some (.int s)] (uS v g [] [.lst ((ns.take 40).map .int)]) := by
        intro Q
        simp -implicitDefEqProofs only [ex_ite, okS_of, evT_cmp, ev_v, List.getElem?_cons_succ, List.getElem?_cons_zero, getV_some, bind_ok, ev_bin, ev_int, p18, ge_int, okR_ok]
        by_cases hge : (10 : Int) ^ 18 ≤ s
        · rw [if_pos hge, decide_eq_true hge, if_pos rfl]
          simp -implicitDefEqProofs only [exs_cons, ex_ex, ev_meth, ev_ix, ev_v, List.getElem?_cons_succ, List.getElem?_cons_zero, getV_some, bind_ok, ev_str, ix_great, mfOk_append, i1, if_true, evs_cons, evs_nil, ev_bin, ev_bf, int_int, ev_int, p60, p12, md, app_great U2, okS_next, okS_of, okR_ok, okS_go, thenS_nx, exs_nil]
        · rw [if_neg hge, decide_eq_false hge, if_neg (by simp)]
          simp -implicitDefEqProofs only [exs_nil, okS_go]
      simp -implicitDefEqProofs only [asgT_nm, okR_ok, List.set_cons_succ, List.set_cons_zero, exs_cons, ex_asg, okS_next, okS_of, ev_bf, ev_v, List.getElem?_cons_succ, List.getElem?_cons_zero, getV_some, bind_ok, int_int, abs_int, hs, okS_go, thenS_nx, ev_bin, ev_ix, ev_str, ix_mix, ev_int, mul_small s1, mod_int (show (0 : Int) < 1999999973 by decide), add_int, mod_int (show (0 : Int) < 2147483587 by decide), hv, asgT_sb, set_mix U, body1, exs_nil]
      by_cases hge : (10 : Int) ^ 18 ≤ s
      · rw [if_pos hge]
        simp -implicitDefEqProofs only [thenS_nx, okS_go, goS_nx]
        refine ⟨⟨_, _, rfl⟩, v, g ++ [s % ((10 ^ 60) ^ 12)], rfl, ⟨hv0, fun x hx => ?_, by rw [List.length_append]; simp; omega, U.nm, U.at_, U.el, U.nd⟩, by rw [List.length_append]; simp; omega⟩
        rcases List.mem_append.mp hx with hx | hx
        · exact U.g0 x hx
        · rw [List.mem_singleton.mp hx]
          exact Int.emod_nonneg _ (by decide)
      · rw [if_neg hge]
        simp -implicitDefEqProofs only [thenS_nx, okS_go, goS_nx]
        exact ⟨⟨_, _, rfl⟩, v, g, rfl, U2, by omega⟩
  · rintro ρ μ ⟨⟨x, y, rfl⟩, m, g, rfl, U, hg⟩
    simp -implicitDefEqProofs only [thenS_nx, okS_next, ex_ret, okS_of, ev_v, List.getElem?_cons_succ, List.getElem?_cons_zero, getV_some, okR_ok, okS_go, thenS_rt, handQ_rt, exs_cons]
    exact ⟨m, g, _, True.intro, rfl, U⟩
theorem law_urn_ok {k : Nat} (hk : 1 ≤ k) (ns : List Int) : ∃ m g rest, cF k 1000 [scrD ns] [] = .ok (.loc 0) (uS m g [] rest) ∧ UOk m g [] rest := by
  obtain ⟨k, rfl⟩ : ∃ j, k = j + 1 := ⟨k - 1, by omega⟩
  obtain ⟨d, μ, e, m, g, rest, rfl, rfl, U⟩ := okR_ex.mp (law_urn_run (k := k) ns)
  refine ⟨m, g, rest, ?_, U⟩
  rw [call_eq (fn := f_law_urn) rfl rfl, if_pos (by simp [D.dataL, scrD, D.data, data_ints2]), e]
  show Res.ok (D.shift 0 (.loc 0)) ([] ++ (uS m g [] rest).map (Obj.shift 0)) = _
  rw [shift0, shift0S]
  rfl
end K82
end
section
set_option Elab.async false
set_option linter.all false
set_option autoImplicit false
set_option maxRecDepth 100000
set_option maxHeartbeats 1000000
namespace K82
open PL
/-- kinds of letters -/
structure Kok (b : Board) : Prop where
  l : ∀ x ∈ b, ∀ t ∈ x, ∀ a ∈ t, isLt a
  s : ∀ x ∈ b, ∀ t ∈ x, t.length ≤ 3
/-- signs of a row of kinds -/
def rowOk (ks : List Txt) (t : Txt) : Prop := t.length = ks.length ∧ ∀ (i : Nat) kd a, ks[i]? = some kd → t[i]? = some a → (kd ≠ [] → a ∈ kd) ∧ (kd = [] → a = 35)
theorem uS_snoc (m : Int) (g : List Int) (ex : List (Txt × Nat)) (pre : Store) (o : Obj) : uS m g ex pre ++ [o] = uS m g ex (pre ++ [o]) := rfl
theorem uS_len (m : Int) (g : List Int) (ex : List (Txt × Nat)) (pre : Store) : (uS m g ex pre).length = pre.length + 2 := rfl
theorem uS_at (m : Int) (g : List Int) (ex : List (Txt × Nat)) (pre : Store) (i : Nat) : (uS m g ex pre)[i + 2]? = pre[i]? := rfl
theorem uS_set (m : Int) (g : List Int) (ex : List (Txt × Nat)) (pre : Store) (i : Nat) (o : Obj) : (uS m g ex pre).set (i + 2) o = uS m g ex (pre.set i o) := rfl
theorem join_empty : ∀ ts : List Txt, joinT [] ts = ts.flatten
  | [] => rfl
  | [a] => by simp [joinT]
  | a :: c :: r => by
    rw [joinT, join_empty (c :: r)]
    · simp
    · simp
theorem strs_signs : ∀ t : Txt, strsOf (t.map fun a => D.str [a]) = some (t.map fun a => [a])
  | [] => rfl
  | a :: t => by rw [List.map_cons, strsOf, strs_signs t]; rfl
theorem sum_signs : ∀ t : Txt, sumLen [] (t.map fun a => [a]) = t.length
  | [] => rfl
  | a :: t => by
    have := sum_signs t
    unfold sumLen at this ⊢
    rw [List.map_cons, List.foldr_cons, this]
    simp; omega
theorem flat_signs : ∀ t : Txt, (t.map fun a => [a]).flatten = t
  | [] => rfl
  | a :: t => by rw [List.map_cons, List.flatten_cons, flat_signs t]; rfl
theorem join_ok {μ : Store} {l : Nat} {t : Txt} (h : μ[l]? = some (.lst (t.map fun a => D.str [a]))) (hl : t.length ≤ 1000000) : methF prog.cst .join (.str []) [.loc l] μ = .ok (.str t) μ := by
  unfold methF rowF
  simp only [h, strs_signs]
  rw [if_pos (by rw [sum_signs]; exact hl), join_empty, flat_signs]
/-- the letters of one row -/
theorem row_signs {k : Nat} (hk : 1 ≤ k) {ks : List Txt} (hks : ks.length ≤ 8) (h3 : ∀ t ∈ ks, t.length ≤ 3) {m : Int} {g : List Int} {ex : List (Txt × Nat)} {pre : Store} (U : UOk m g ex pre) (x2 x3 x4 : Option D) (bb : D) {Q : Unit → Store → Prop}
    (hQ : ∀ m' g' t, UOk m' g' ex pre → rowOk ks t → Q () (uS m' g' ex (pre ++ [.lst (t.map fun a => D.str [a])]))) :
    okR (compL (.row (ks.map .str)) (pre.length + 2) (fun x μ => (asgT prog.cst (cF k) (.nm 5) x [some (.loc 0), some bb, x2, x3, x4, none] μ).bind fun ρ2 μ => (evC prog.cst (cF k) .yes ρ2 μ).bind fun b μ =>
      if b then (ev prog.cst (cF k) (.ite (.cmp .ne (.v 5) (.str [])) (.ix (.v 5) (.call 1001 (.cons (.v 0) (.cons (.bf .len (.v 5)) .nil)))) (.str [35])) ρ2 μ).bind fun d μ => .ok (some d) μ else .ok none μ) (ks.map .str) (uS m g ex (pre ++ [.lst []]))) Q := by
  refine comp_wp (w := .row (ks.map .str)) (xs := ks.map .str) (fun i μ => ∃ m' g' t, μ = uS m' g' ex (pre ++ [.lst (t.map fun a => D.str [a])]) ∧ UOk m' g' ex pre ∧ rowOk (ks.take i) t) rfl ⟨m, g, [], rfl, U, by simp [rowOk]⟩ (fun _ _ _ => trivial) ?_ ?_
  · rintro i x μ hx ⟨m', g', t, rfl, U', hr⟩
    rw [List.getElem?_map] at hx
    cases ee : ks[i]? with
    | none => rw [ee] at hx; cases hx
    | some kd =>
      rw [ee] at hx
      have : D.str kd = x := Option.some.inj hx
      subst this
      have hil := (List.getElem?_eq_some_iff.mp ee).1
      have hkd : kd ∈ ks := List.mem_of_getElem? ee
      have ht : ks.take (i + 1) = ks.take i ++ [kd] := by rw [List.take_add_one, ee]; rfl
      have htl : t.length = i := by rw [hr.1, List.length_take]; omega
      have U2 := U'.grow (rest' := pre ++ [.lst (t.map fun a => D.str [a])]) ⟨_, rfl⟩
      have step : ∀ a, (kd ≠ [] → a ∈ kd) ∧ (kd = [] → a = 35) → rowOk (ks.take i ++ [kd]) (t ++ [a]) := by
        intro a ha
        refine ⟨by rw [List.length_append, List.length_append, hr.1]; rfl, fun j kd' a' h1 h2 => ?_⟩
        by_cases hj : j < t.length
        · rw [List.getElem?_append_left hj] at h2
          rw [List.getElem?_append_left (by rw [← hr.1]; exact hj)] at h1
          exact hr.2 j kd' a' h1 h2
        · rw [List.getElem?_append_right (by omega)] at h2
          rw [List.getElem?_append_right (by rw [← hr.1]; omega), ← hr.1] at h1
          have hz : j - t.length = 0 := by
            have := (List.getElem?_eq_some_iff.mp h2).1
            simp at this; omega
          rw [hz] at h1 h2
          cases h1
          cases h2
          exact ha
      have lst : ∀ m g (a : Nat), ∃ acc, (uS m g ex (pre ++ [.lst (t.map fun a => D.str [a])]))[pre.length + 2]? = some (.lst acc) ∧ acc.length < mostLen ∧ (uS m g ex (pre ++ [.lst (t.map fun a => D.str [a])])).set (pre.length + 2) (.lst (acc ++ [D.str [a]])) = uS m g ex (pre ++ [.lst ((t ++ [a]).map fun a => D.str [a])]) := by
        intro m g a
        refine ⟨t.map fun a => D.str [a], by rw [uS_at]; simp, by rw [List.length_map, mostLen_eq]; omega, ?_⟩
        rw [uS_set]
        simp
      by_cases hk0 : kd = []
      · subst hk0
        simp -implicitDefEqProofs
        obtain ⟨acc, q1, q2, q3⟩ := lst m' g' 35
        exact ⟨acc, q1, q2, by rw [q3]; exact ⟨m', g', t ++ [35], rfl, U', by rw [ht]; exact step 35 ⟨fun h => absurd rfl h, fun _ => rfl⟩⟩⟩
      · have hkl : 1 ≤ kd.length := by cases kd with
          | nil => exact absurd rfl hk0
          | cons _ _ => simp
        have hk3 := h3 kd hkd
        obtain ⟨r, m2, g2, et, r0, r1, U3⟩ := take_ok (k := k) hk U2 (many := (kd.length : Int)) (by omega) (by omega)
        have U3' : UOk m2 g2 ex pre := ⟨U3.m0, U3.g0, U3.gl, U3.nm, U'.at_, U3.el, U3.nd⟩
        have hne : (kd == []) = false := by simpa using hk0
        have hat : atIx kd r = some (kd.getD r.toNat 0) := by
          rw [atIx_nat r0 r1, List.getD_eq_getElem?_getD, List.getElem?_eq_getElem (by omega)]
          rfl
        have hmem : kd.getD r.toNat 0 ∈ kd := getD_mem (by omega)
        have hm1 : kd.length ≤ mostLen := by rw [mostLen_eq]; omega
        simp -implicitDefEqProofs only [asgT_nm, bind_ok, List.set_cons_succ, List.set_cons_zero, evC_yes, if_true, ev_ite, evT_cmp, ev_v, List.getElem?_cons_succ, List.getElem?_cons_zero, getV_some, ev_str, ne_str, hne, Bool.not_false, ev_ix, ev_call, evs_cons, evs_nil, ev_bf, len_str, if_pos hm1, et, ix_str, hat, Option.map_some, okI_some, okR_ok]
        obtain ⟨acc, q1, q2, q3⟩ := lst m2 g2 (kd.getD r.toNat 0)
        exact ⟨acc, q1, q2, by rw [q3]; exact ⟨m2, g2, t ++ [kd.getD r.toNat 0], rfl, U3', by rw [ht]; exact step _ ⟨fun _ => hmem, fun h => absurd h hk0⟩⟩⟩
  · rintro μ ⟨m', g', t, rfl, U', hr⟩
    rw [List.length_map, List.take_of_length_le (Nat.le_refl _)] at hr
    exact hQ m' g' t U' hr
/-- the letters of a board -/
def setOk (b : Board) (S : Setting) : Prop := S.length = b.length ∧ ∀ (i : Nat) x t, b[i]? = some x → S[i]? = some t → rowOk x t
theorem law_setting_ok {k : Nat} (hk : 2 ≤ k) {b : Board} {rows cols : Nat} (B : Bok b rows cols) (K : Kok b) {m : Int} {g : List Int} {ex : List (Txt × Nat)} {rest : Store} (U : UOk m g ex rest) :
    ∃ S m' g' rest', cF k 1004 [.loc 0, bD b] (uS m g ex rest) = .ok (sD S) (uS m' g' ex rest') ∧ Aft rest m' g' ex rest' ∧ setOk b S := by
  obtain ⟨k, rfl⟩ : ∃ j, k = j + 1 := ⟨k - 1, by omega⟩
  have key : okR (callB prog N0 (cF k) f_law_setting [.loc 0, bD b] (uS m g ex rest)) fun d μ => ∃ S m' g' rest', d = sD S ∧ μ = uS m' g' ex rest' ∧ Aft rest m' g' ex rest' ∧ setOk b S := by
    have h0 : (0 : Nat) ≤ mostLen := by decide
    have hr := B.rs
    have hc := B.cs
    have wb : ∀ μ, walkF (bD b) μ = some (.row (b.map rowD)) := fun _ => rfl
    have nw : PL.new (.lst []) (uS m g ex rest) = .ok (.loc (rest.length + 2)) (uS m g ex (rest ++ [.lst []])) := rfl
    simp -implicitDefEqProofs only [callB, f_law_setting, startE, okR_handed, exs_cons, okS_next, List.map, List.replicate, List.cons_append, List.nil_append, ex_asg, okS_of, ev_lst, evs_nil, bind_ok, List.length_nil, if_pos h0, nw, okR_ok, asgT_nm, List.set_cons_succ, List.set_cons_zero, okS_go, thenS_nx, ex_fr, evI_val, ev_v, List.getElem?_cons_succ, List.getElem?_cons_zero, getV_some, wb, okI_some, unlock_row, items_row, start_row, exs_nil]
    refine for_wp (w := .row (b.map rowD)) (xs := b.map rowD) (fun i ρ μ => (∃ x y z, ρ = [some (.loc 0), some (bD b), some (.loc (rest.length + 2)), x, y, z]) ∧ ∃ m' g' S junk, μ = uS m' g' ex (rest ++ .lst (S.map .str) :: junk) ∧ UOk m' g' ex rest ∧ setOk (b.take i) S) rfl ⟨⟨none, none, none, rfl⟩, m, g, [], [], rfl, U, by simp [setOk]⟩ (fun _ _ _ _ => trivial) ?_ ?_
    · rintro i z ρ μ hz ⟨⟨x, y, z2, rfl⟩, m', g', S, junk, rfl, U', hS⟩
      rw [List.getElem?_map] at hz
      cases ee : b[i]? with
      | none => rw [ee] at hz; cases hz
      | some ks =>
        rw [ee] at hz
        have : rowD ks = z := Option.some.inj hz
        subst this
        have hks : ks ∈ b := List.mem_of_getElem? ee
        have hil := (List.getElem?_eq_some_iff.mp ee).1
        have hkl := B.c ks hks
        have ht : b.take (i + 1) = b.take i ++ [ks] := by rw [List.take_add_one, ee]; rfl
        have hSl : S.length ≤ 8 := by rw [hS.1, List.length_take, B.r]; omega
        have U2 := U'.grow (rest' := rest ++ .lst (S.map .str) :: junk) ⟨_, rfl⟩
        have wr : ∀ μ, walkF (rowD ks) μ = some (.row (ks.map .str)) := fun _ => rfl
        simp -implicitDefEqProofs only [asgT_nm, okR_ok, List.set_cons_succ, List.set_cons_zero, exs_cons, okS_next, ex_asg, okS_of, ev_comp, evI_val, ev_v, List.getElem?_cons_succ, List.getElem?_cons_zero, getV_some, bind_ok, wr, okI_some, okR_bind, items_row, start_row, stop_row, wipeE, uS_len, uS_snoc, List.append_assoc, List.cons_append]
        have e0 : rest ++ Obj.lst (S.map .str) :: (junk ++ [Obj.lst []]) = (rest ++ Obj.lst (S.map .str) :: junk) ++ [Obj.lst []] := by simp
        rw [e0]
        refine row_signs (k := k) (by omega) (by omega) (fun t ht => K.s ks hks t ht) U2 _ _ _ (bD b) ?_
        intro m2 g2 t U3 hrow
        have htl : t.length ≤ 1000000 := by rw [hrow.1, hkl]; omega
        have l1 : (uS m2 g2 ex ((rest ++ .lst (S.map .str) :: junk) ++ [.lst (t.map fun a => D.str [a])]))[(rest ++ Obj.lst (S.map .str) :: junk).length + 2]? = some (.lst (t.map fun a => D.str [a])) := by rw [uS_at]; simp
        have jn := join_ok l1 htl
        have l2 : (uS m2 g2 ex ((rest ++ .lst (S.map .str) :: junk) ++ [.lst (t.map fun a => D.str [a])]))[rest.length + 2]? = some (.lst (S.map .str)) := by rw [uS_at]; simp
        have ap := append_lst (C := prog.cst) (d := .str t) _ l2 (by rw [List.length_map, mostLen_eq]; omega)
        have i1 := mfOk_lst _ l2
        simp -implicitDefEqProofs only [okR_ok, asgT_nm, List.set_cons_succ, List.set_cons_zero, okS_go, thenS_nx, exs_cons, okS_next, ex_ex, okS_of, ev_meth, ev_v, List.getElem?_cons_succ, List.getElem?_cons_zero, getV_some, bind_ok, mfOk_append, i1, if_true, evs_cons, evs_nil, ev_str, mfOk_join, jn, ap, exs_nil, goS_nx]
        refine ⟨⟨_, _, _, rfl⟩, m2, g2, S ++ [t], junk ++ [.lst (t.map fun a => D.str [a])], ?_, ⟨U3.m0, U3.g0, U3.gl, U3.nm, U'.at_, U3.el, U3.nd⟩, ?_⟩
        · rw [uS_set]
          simp
        · rw [ht]
          refine ⟨by rw [List.length_append, List.length_append, hS.1]; rfl, fun j x' t' h1 h2 => ?_⟩
          by_cases hj : j < S.length
          · rw [List.getElem?_append_left hj] at h2
            rw [List.getElem?_append_left (by rw [← hS.1]; exact hj)] at h1
            exact hS.2 j x' t' h1 h2
          · rw [List.getElem?_append_right (by omega)] at h2
            rw [List.getElem?_append_right (by rw [← hS.1]; omega), ← hS.1] at h1
            have hz : j - S.length = 0 := by
              have := (List.getElem?_eq_some_iff.mp h2).1
              simp at this; omega
            rw [hz] at h1 h2
            cases h1
            cases h2
            exact hrow
    · rintro ρ μ ⟨⟨x, y, z, rfl⟩, m', g', S, junk, rfl, U', hS⟩
      rw [List.length_map, List.take_of_length_le (Nat.le_refl _)] at hS
      have l2 : (uS m' g' ex (rest ++ .lst (S.map .str) :: junk))[rest.length + 2]? = some (.lst (S.map .str)) := by rw [uS_at]; simp
      simp -implicitDefEqProofs only [thenS_nx, okS_next, ex_ret, okS_of, ev_bf, ev_v, List.getElem?_cons_succ, List.getElem?_cons_zero, getV_some, bind_ok, tuple_lst _ l2, okR_ok, okS_go, thenS_rt, handQ_rt, exs_cons]
      exact ⟨S, m', g', _, rfl, rfl, ⟨U'.grow ⟨_, rfl⟩, ⟨_, rfl⟩⟩, hS⟩
  obtain ⟨d, μ, e, S, m', g', rest', rfl, rfl, h1, h2⟩ := okR_ex.mp key
  exact ⟨S, m', g', rest', by rw [call_loc (fn := f_law_setting) rfl rfl rfl, e], h1, h2⟩
end K82
end
section
set_option Elab.async false
set_option linter.all false
set_option autoImplicit false
set_option maxRecDepth 100000
set_option maxHeartbeats 1000000
namespace K82
open PL
def isKd (t : Txt) : Prop := (∀ a ∈ t, isLt a) ∧ t.length ≤ 3
def kinds7 : List Txt := [[100], [115], [117], [100, 115], [100, 117], [115, 117], [100, 115, 117]]
def kinds8 : List Txt := [[], [100], [115], [117], [100, 115], [100, 117], [115, 117], [100, 115, 117]]
def lS (l : List Txt) : Obj := .lst (l.map .str)
/-- the choices of kinds, by the one drawn -/
def choices (one : Txt) : List (List Txt) := [kinds7, kinds8, [[], [], [100, 115, 117], [100, 117], one], [one, one, one, [], [100, 115, 117]], [[100, 117]], [[100], [115], [117]], [[100, 115], [100, 117], [115, 117]]]
def boardJ (n : Nat) (one : Txt) : Store := [lS kinds7, lS kinds7, lS kinds8, .lst [.loc (n + 3), .loc (n + 4)], lS [[], [], [100, 115, 117], [100, 117], one], lS [one, one, one, [], [100, 115, 117]], lS [[100, 117]], lS [[100], [115], [117]], lS [[100, 115], [100, 117], [115, 117]], .lst [.loc (n + 6), .loc (n + 7), .loc (n + 8), .loc (n + 9), .loc (n + 10)], .lst [.loc (n + 3), .loc (n + 4), .loc (n + 6), .loc (n + 7), .loc (n + 8), .loc (n + 9), .loc (n + 10)]]
theorem kinds7_kd : ∀ t ∈ kinds7, isKd t ∧ t ≠ [] := by
  intro t ht
  simp only [kinds7, List.mem_cons, List.not_mem_nil, or_false] at ht
  rcases ht with rfl | rfl | rfl | rfl | rfl | rfl | rfl <;> simp [isKd, isLt]
theorem choices_kd {one : Txt} (h : isKd one) : ∀ l ∈ choices one, l ≠ [] ∧ l.length ≤ 8 ∧ ∀ t ∈ l, isKd t := by
  have k1 : ∀ t ∈ kinds8, isKd t := by
    intro t ht
    simp only [kinds8, List.mem_cons, List.not_mem_nil, or_false] at ht
    rcases ht with rfl | rfl | rfl | rfl | rfl | rfl | rfl | rfl <;> simp [isKd, isLt]
  have e0 : isKd [] := k1 _ (by simp [kinds8])
  have e1 : isKd [100] := k1 _ (by simp [kinds8])
  have e2 : isKd [115] := k1 _ (by simp [kinds8])
  have e3 : isKd [117] := k1 _ (by simp [kinds8])
  have e4 : isKd [100, 115] := k1 _ (by simp [kinds8])
  have e5 : isKd [100, 117] := k1 _ (by simp [kinds8])
  have e6 : isKd [115, 117] := k1 _ (by simp [kinds8])
  have e7 : isKd [100, 115, 117] := k1 _ (by simp [kinds8])
  intro l hl
  simp only [choices, List.mem_cons, List.not_mem_nil, or_false] at hl
  rcases hl with rfl | rfl | rfl | rfl | rfl | rfl | rfl
  · exact ⟨by decide, by decide, fun t ht => (kinds7_kd t ht).1⟩
  · exact ⟨by decide, by decide, k1⟩
  · refine ⟨by simp, by simp, fun t ht => ?_⟩
    simp only [List.mem_cons, List.not_mem_nil, or_false] at ht
    rcases ht with rfl | rfl | rfl | rfl | rfl <;> assumption
  · refine ⟨by simp, by simp, fun t ht => ?_⟩
    simp only [List.mem_cons, List.not_mem_nil, or_false] at ht
    rcases ht with rfl | rfl | rfl | rfl | rfl <;> assumption
  · refine ⟨by simp, by simp, fun t ht => ?_⟩
    simp only [List.mem_cons, List.not_mem_nil, or_false] at ht
    rcases ht with rfl; assumption
  · refine ⟨by simp, by simp, fun t ht => ?_⟩
    simp only [List.mem_cons, List.not_mem_nil, or_false] at ht
    rcases ht with rfl | rfl | rfl <;> assumption
  · refine ⟨by simp, by simp, fun t ht => ?_⟩
    simp only [List.mem_cons, List.not_mem_nil, or_false] at ht
    rcases ht with rfl | rfl | rfl <;> assumption
theorem add_lsts {μ : Store} {a c : Nat} {xs ys : List D} (h1 : μ[a]? = some (.lst xs)) (h2 : μ[c]? = some (.lst ys)) (h : xs.length + ys.length ≤ mostLen) : binF .add (.loc a) (.loc c) μ = PL.new (.lst (xs ++ ys)) μ := by
  show (match μ[a]?, μ[c]? with
    | some (.lst xs), some (.lst ys) => if xs.length + ys.length ≤ mostLen then PL.new (.lst (xs ++ ys)) μ else .stuck
    | _, _ => .stuck) = _
  rw [h1, h2]
  simp only
  rw [if_pos h]
theorem board_setup {k : Nat} (hk : 1 ≤ k) {m : Int} {g : List Int} {ex : List (Txt × Nat)} {rest : Store} (U : UOk m g ex rest) (rows cols : Nat) :
    ∃ (st : Nat) (one : Txt) (m2 : Int) (g2 : List Int), st < 7 ∧ isKd one ∧ one ≠ [] ∧ UOk m2 g2 ex (rest ++ boardJ rest.length one) ∧
      ∀ (ss : Ss) (Q : Flow → Env → Store → Prop), okS (exs prog.cst (cF k) N0 ss [some (.loc 0), some (.int rows), some (.int cols), some (.int st), some (.str one), some (.loc (rest.length + 12)), none, none, none] (uS m2 g2 ex (rest ++ boardJ rest.length one))) Q →
        okS (exs prog.cst (cF k) N0 (.cons (.asg (.tp [3, 4]) (.tup (.cons (.call 1001 (.cons (.v 0) (.cons (.int 7) .nil))) (.cons (.ix (.lst (.cons (.str [100]) (.cons (.str [115]) (.cons (.str [117]) (.cons (.str [100, 115]) (.cons (.str [100, 117]) (.cons (.str [115, 117]) (.cons (.str [100, 115, 117]) .nil)))))))) (.call 1001 (.cons (.v 0) (.cons (.int 7) .nil)))) .nil)))) (.cons (.asg (.nm 5) (.lst (.cons (.lst (.cons (.str [100]) (.cons (.str [115]) (.cons (.str [117]) (.cons (.str [100, 115]) (.cons (.str [100, 117]) (.cons (.str [115, 117]) (.cons (.str [100, 115, 117]) .nil)))))))) (.cons (.lst (.cons (.str []) (.cons (.str [100]) (.cons (.str [115]) (.cons (.str [117]) (.cons (.str [100, 115]) (.cons (.str [100, 117]) (.cons (.str [115, 117]) (.cons (.str [100, 115, 117]) .nil))))))))) .nil)))) (.cons (.asg (.nm 5) (.bin .add (.v 5) (.lst (.cons (.lst (.cons (.str []) (.cons (.str []) (.cons (.str [100, 115, 117]) (.cons (.str [100, 117]) (.cons (.v 4) .nil)))))) (.cons (.lst (.cons (.v 4) (.cons (.v 4) (.cons (.v 4) (.cons (.str []) (.cons (.str [100, 115, 117]) .nil)))))) (.cons (.lst (.cons (.str [100, 117]) .nil)) (.cons (.lst (.cons (.str [100]) (.cons (.str [115]) (.cons (.str [117]) .nil)))) (.cons (.lst (.cons (.str [100, 115]) (.cons (.str [100, 117]) (.cons (.str [115, 117]) .nil)))) .nil)))))))) ss))) [some (.loc 0), some (.int rows), some (.int cols), none, none, none, none, none, none] (uS m g ex rest)) Q := by
  obtain ⟨r1, m1, g1, et1, a0, a1, U1⟩ := take_ok (k := k) hk U (many := 7) (by omega) (by omega)
  have U1' := U1.grow (rest' := rest ++ [lS kinds7]) ⟨_, rfl⟩
  obtain ⟨r2, m2, g2, et2, b0, b1, U2⟩ := take_ok (k := k) hk U1' (many := 7) (by omega) (by omega)
  have hmem : kinds7.getD r2.toNat [] ∈ kinds7 := getD_mem (by show r2.toNat < 7; omega)
  obtain ⟨hkd, hne⟩ := kinds7_kd _ hmem
  refine ⟨r1.toNat, kinds7.getD r2.toNat [], m2, g2, by omega, hkd, hne, U2.grow ⟨(boardJ rest.length (kinds7.getD r2.toNat [])).tail, by simp [boardJ]⟩, fun ss Q hQ => ?_⟩
  have hat : atIx ([D.str [100], .str [115], .str [117], .str [100, 115], .str [100, 117], .str [115, 117], .str [100, 115, 117]]) r2 = some (.str (kinds7.getD r2.toNat [])) := by
    have : r2 = 0 ∨ r2 = 1 ∨ r2 = 2 ∨ r2 = 3 ∨ r2 = 4 ∨ r2 = 5 ∨ r2 = 6 := by omega
    rcases this with rfl | rfl | rfl | rfl | rfl | rfl | rfl <;> rfl
  generalize kinds7.getD r2.toNat [] = one at *
  have hr1 : ((r1.toNat : Nat) : Int) = r1 := by omega
  rw [hr1] at hQ
  have h2 : (2 : Nat) ≤ mostLen := by decide
  have h7 : (7 : Nat) ≤ mostLen := by decide
  have h8 : (8 : Nat) ≤ mostLen := by decide
  have h5 : (5 : Nat) ≤ mostLen := by decide
  have h1 : (1 : Nat) ≤ mostLen := by decide
  have h3 : (3 : Nat) ≤ mostLen := by decide
  have nw : ∀ m g (pre : Store) o, PL.new o (uS m g ex pre) = .ok (.loc (pre.length + 2)) (uS m g ex (pre ++ [o])) := fun _ _ _ _ => rfl
  have ixl : ∀ m g, ixF prog.cst (.loc (rest.length + 2)) (.int r2) (uS m g ex (rest ++ [lS kinds7])) = .ok (.str one) (uS m g ex (rest ++ [lS kinds7])) := by
    intro m g
    rw [ix_lst (xs := kinds7.map .str) _ _ (by rw [uS_at]; simp [lS])]
    show okI (atIx [D.str [100], .str [115], .str [117], .str [100, 115], .str [100, 117], .str [115, 117], .str [100, 115, 117]] r2) _ = _
    rw [hat]; rfl
  have lS7 : lS kinds7 = Obj.lst [D.str [100], .str [115], .str [117], .str [100, 115], .str [100, 117], .str [115, 117], .str [100, 115, 117]] := rfl
  rw [lS7] at et2 ixl
  have sum : binF .add (.loc (rest.length + 5)) (.loc (rest.length + 11)) (uS m2 g2 ex (rest ++ (boardJ rest.length one).take 10)) = .ok (.loc (rest.length + 12)) (uS m2 g2 ex (rest ++ boardJ rest.length one)) := by
    rw [add_lsts (xs := [.loc (rest.length + 3), .loc (rest.length + 4)]) (ys := [.loc (rest.length + 6), .loc (rest.length + 7), .loc (rest.length + 8), .loc (rest.length + 9), .loc (rest.length + 10)]) (by rw [show rest.length + 5 = (rest.length + 3) + 2 from rfl, uS_at, List.getElem?_append_right (by omega)]; simp [boardJ]) (by rw [show rest.length + 11 = (rest.length + 9) + 2 from rfl, uS_at, List.getElem?_append_right (by omega)]; simp [boardJ]) (by simp [mostLen_eq])]
    rw [nw]
    simp [boardJ]
  have bJ : (boardJ rest.length one).take 10 = [lS kinds7, lS kinds7, lS kinds8, .lst [.loc (rest.length + 3), .loc (rest.length + 4)], lS [[], [], [100, 115, 117], [100, 117], one], lS [one, one, one, [], [100, 115, 117]], lS [[100, 117]], lS [[100], [115], [117]], lS [[100, 115], [100, 117], [115, 117]], .lst [.loc (rest.length + 6), .loc (rest.length + 7), .loc (rest.length + 8), .loc (rest.length + 9), .loc (rest.length + 10)]] := rfl
  rw [bJ] at sum
  simp -implicitDefEqProofs only [lS, List.map, kinds7, kinds8] at sum
  simp -implicitDefEqProofs only [exs_cons, okS_next, ex_asg, okS_of, ev_tup, evs_cons, evs_nil, ev_call, ev_v, List.getElem?_cons_succ, List.getElem?_cons_zero, getV_some, bind_ok, ev_int, et1, ev_ix, ev_lst, ev_str, List.length_cons, List.length_nil, Nat.zero_add, Nat.reduceAdd, if_pos h7, if_pos h2, if_pos h8, if_pos h5, if_pos h1, if_pos h3, nw, et2, ixl, okR_ok, asgT_tp, unpack_2, asgT_nm, List.set_cons_succ, List.set_cons_zero, okS_go, thenS_nx, List.length_append, List.append_assoc, List.cons_append, List.nil_append, ev_bin, Nat.add_assoc]
  rw [sum, okR_ok]
  exact hQ
end K82
end
section
set_option Elab.async false
set_option linter.all false
set_option autoImplicit false
set_option maxRecDepth 100000
set_option maxHeartbeats 1000000
namespace K82
open PL
theorem choice_at {rest : Store} {one : Txt} {st : Nat} (h : st < 7) : ∃ (q : Nat) (ch : List Txt), ch ∈ choices one ∧ (∀ X m g ex, ixF prog.cst (.loc (rest.length + 12)) (.int st) (uS m g ex (rest ++ boardJ rest.length one ++ X)) = .ok (.loc (q + 2)) (uS m g ex (rest ++ boardJ rest.length one ++ X))) ∧ ∀ X, (rest ++ boardJ rest.length one ++ X)[q]? = some (lS ch) := by
  have some_at : ∀ X m g ex, (uS m g ex (rest ++ boardJ rest.length one ++ X))[rest.length + 12]? = some (.lst [.loc (rest.length + 3), .loc (rest.length + 4), .loc (rest.length + 6), .loc (rest.length + 7), .loc (rest.length + 8), .loc (rest.length + 9), .loc (rest.length + 10)]) := by
    intro X m g ex
    rw [show rest.length + 12 = (rest.length + 10) + 2 from rfl, uS_at, List.append_assoc, List.getElem?_append_right (by omega), List.getElem?_append_left (by simp [boardJ])]
    simp [boardJ]
  have at_ : ∀ (j : Nat) (o : Obj), (boardJ rest.length one)[j]? = some o → ∀ X, (rest ++ boardJ rest.length one ++ X)[rest.length + j]? = some o := by
    intro j o ho X
    rw [List.append_assoc, List.getElem?_append_right (by omega), List.getElem?_append_left (by rw [Nat.add_sub_cancel_left]; exact (List.getElem?_eq_some_iff.mp ho).1), Nat.add_sub_cancel_left]
    exact ho
  have hs : st = 0 ∨ st = 1 ∨ st = 2 ∨ st = 3 ∨ st = 4 ∨ st = 5 ∨ st = 6 := by omega
  rcases hs with rfl | rfl | rfl | rfl | rfl | rfl | rfl
  · exact ⟨rest.length + 1, (choices one).getD 0 [], getD_mem (by simp [choices]), fun X m g ex => by rw [ix_lst _ _ (some_at X m g ex)]; rfl, at_ 1 _ rfl⟩
  · exact ⟨rest.length + 2, (choices one).getD 1 [], getD_mem (by simp [choices]), fun X m g ex => by rw [ix_lst _ _ (some_at X m g ex)]; rfl, at_ 2 _ rfl⟩
  · exact ⟨rest.length + 4, (choices one).getD 2 [], getD_mem (by simp [choices]), fun X m g ex => by rw [ix_lst _ _ (some_at X m g ex)]; rfl, at_ 4 _ rfl⟩
  · exact ⟨rest.length + 5, (choices one).getD 3 [], getD_mem (by simp [choices]), fun X m g ex => by rw [ix_lst _ _ (some_at X m g ex)]; rfl, at_ 5 _ rfl⟩
  · exact ⟨rest.length + 6, (choices one).getD 4 [], getD_mem (by simp [choices]), fun X m g ex => by rw [ix_lst _ _ (some_at X m g ex)]; rfl, at_ 6 _ rfl⟩
  · exact ⟨rest.length + 7, (choices one).getD 5 [], getD_mem (by simp [choices]), fun X m g ex => by rw [ix_lst _ _ (some_at X m g ex)]; rfl, at_ 7 _ rfl⟩
  · exact ⟨rest.length + 8, (choices one).getD 6 [], getD_mem (by simp [choices]), fun X m g ex => by rw [ix_lst _ _ (some_at X m g ex)]; rfl, at_ 8 _ rfl⟩
theorem UOk.back {m m' : Int} {g g' : List Int} {ex : List (Txt × Nat)} {rest rest' : Store} (h : UOk m g ex rest) (h' : UOk m' g' ex rest') : UOk m' g' ex rest := ⟨h'.m0, h'.g0, h'.gl, h.nm, h.at_, h.el, h.nd⟩
/-- a drawn row of kinds -/
theorem row_kinds {k : Nat} (hk : 1 ≤ k) {rest : Store} {one : Txt} (h1 : isKd one) {st : Nat} (hst : st < 7) {cols : Nat} (hc : cols ≤ 8) {rows : Nat} {m : Int} {g : List Int} {ex : List (Txt × Nat)} {X : Store} (U : UOk m g ex (rest ++ boardJ rest.length one ++ X)) (x6 x7 : Option D) {Q : Unit → Store → Prop}
    (hQ : ∀ m' g' t, UOk m' g' ex (rest ++ boardJ rest.length one ++ X) → t.length = cols → (∀ x ∈ t, isKd x) → Q () (uS m' g' ex (rest ++ boardJ rest.length one ++ X ++ [lS t]))) :
    okR (compL (rngW (cols : Int)) ((rest ++ boardJ rest.length one ++ X).length + 2) (fun x μ => (asgT prog.cst (cF k) (.nm 8) x [some (.loc 0), some (.int rows), some (.int cols), some (.int st), some (.str one), some (.loc (rest.length + 12)), x6, x7, none] μ).bind fun ρ2 μ => (evC prog.cst (cF k) .yes ρ2 μ).bind fun b μ =>
      if b then (ev prog.cst (cF k) (.ix (.ix (.v 5) (.v 3)) (.call 1001 (.cons (.v 0) (.cons (.bf .len (.ix (.v 5) (.v 3))) .nil)))) ρ2 μ).bind fun d μ => .ok (some d) μ else .ok none μ) (rngW (cols : Int)).items (uS m g ex (rest ++ boardJ rest.length one ++ X ++ [.lst []]))) Q := by
  obtain ⟨q, ch, hch, hix, hq⟩ := choice_at (rest := rest) (one := one) hst
  obtain ⟨c1, c2, c3⟩ := choices_kd h1 ch hch
  have hcl : 1 ≤ ch.length := by cases ch with
    | nil => exact absurd rfl c1
    | cons _ _ => simp
  refine comp_wp (w := rngW (cols : Int)) (fun i μ => ∃ m' g' t, μ = uS m' g' ex (rest ++ boardJ rest.length one ++ X ++ [lS t]) ∧ UOk m' g' ex (rest ++ boardJ rest.length one ++ X) ∧ t.length = i ∧ ∀ x ∈ t, isKd x) rfl ⟨m, g, [], rfl, U, rfl, fun _ h => by simp at h⟩ (fun _ _ _ => trivial) ?_ ?_
  · rintro i x μ hx ⟨m', g', t, rfl, U', ht, hkd⟩
    have hx2 := rngW_at (n := cols) hx
    have hi := hx2.1
    have U2 := U'.grow (rest' := rest ++ boardJ rest.length one ++ X ++ [lS t]) ⟨_, rfl⟩
    obtain ⟨r, m2, g2, et, r0, r1, U3⟩ := take_ok (k := k) hk U2 (many := (ch.length : Int)) (by omega) (by omega)
    have i1 : ∀ m g, ixF prog.cst (.loc (rest.length + 12)) (.int st) (uS m g ex (rest ++ boardJ rest.length one ++ X ++ [lS t])) = .ok (.loc (q + 2)) (uS m g ex (rest ++ boardJ rest.length one ++ X ++ [lS t])) := by
      intro m g
      rw [List.append_assoc (rest ++ boardJ rest.length one)]
      exact hix _ m g ex
    have l1 : ∀ m g, (uS m g ex (rest ++ boardJ rest.length one ++ X ++ [lS t]))[q + 2]? = some (lS ch) := by
      intro m g
      rw [uS_at, List.append_assoc (rest ++ boardJ rest.length one)]
      exact hq _
    have e1 : ∀ m g, bfF .len (.loc (q + 2)) (uS m g ex (rest ++ boardJ rest.length one ++ X ++ [lS t])) = .ok (.int ch.length) (uS m g ex (rest ++ boardJ rest.length one ++ X ++ [lS t])) := by
      intro m g
      rw [len_lst _ (l1 m g), List.length_map]
    have hmem : ch.getD r.toNat [] ∈ ch := getD_mem (by omega)
    have e2 : ∀ m g, ixF prog.cst (.loc (q + 2)) (.int r) (uS m g ex (rest ++ boardJ rest.length one ++ X ++ [lS t])) = .ok (.str (ch.getD r.toNat [])) (uS m g ex (rest ++ boardJ rest.length one ++ X ++ [lS t])) := by
      intro m g
      rw [ix_lst _ _ (l1 m g), atIx_nat r0 (by rw [List.length_map]; omega), List.getElem?_map, List.getElem?_eq_getElem (by omega), List.getD_eq_getElem?_getD, List.getElem?_eq_getElem (by omega)]
      rfl
    simp -implicitDefEqProofs only [asgT_nm, bind_ok, List.set_cons_succ, List.set_cons_zero, evC_yes, if_true, ev_ix, ev_v, List.getElem?_cons_succ, List.getElem?_cons_zero, getV_some, i1, ev_call, evs_cons, evs_nil, ev_bf, e1, et, e2, okR_ok]
    refine ⟨t.map .str, by rw [uS_at]; simp [lS], by rw [List.length_map, mostLen_eq]; omega, m2, g2, t ++ [ch.getD r.toNat []], ?_, U'.back U3, by rw [List.length_append, ht]; rfl, fun x hx => ?_⟩
    · rw [uS_set]
      simp [lS]
    · rcases List.mem_append.mp hx with hx | hx
      · exact hkd x hx
      · rw [List.mem_singleton.mp hx]; exact c3 _ hmem
  · rintro μ ⟨m', g', t, rfl, U', ht, hkd⟩
    rw [rngW_len] at ht
    exact hQ m' g' t U' ht hkd
end K82
end
section
set_option Elab.async false
set_option linter.all false
set_option autoImplicit false
set_option maxRecDepth 100000
set_option maxHeartbeats 1000000
namespace K82
open PL
theorem strs_all : ∀ t : List Txt, strsOf (t.map D.str) = some t
  | [] => rfl
  | a :: t => by rw [List.map_cons, strsOf, strs_all t]; rfl
theorem sum_kd : ∀ t : List Txt, (∀ x ∈ t, isKd x) → sumLen [] t ≤ 3 * t.length
  | [], _ => by simp [sumLen]
  | a :: t, h => by
    have h1 := sum_kd t fun x hx => h x (List.mem_cons_of_mem _ hx)
    have h2 := (h a (List.mem_cons_self ..)).2
    unfold sumLen at h1 ⊢
    rw [List.foldr_cons, List.length_cons]
    simp only [List.length_nil] at h1 ⊢
    omega
theorem join_kd {μ : Store} {l : Nat} {t : List Txt} (h : μ[l]? = some (lS t)) (hk : ∀ x ∈ t, isKd x) (hl : t.length ≤ 8) : methF prog.cst .join (.str []) [.loc l] μ = .ok (.str t.flatten) μ := by
  have h : μ[l]? = some (.lst (t.map .str)) := h
  unfold methF rowF
  simp only [h, strs_all]
  rw [if_pos (by have := sum_kd t hk; rw [mostLen_eq]; omega), join_empty]
/-- where the rows of a board that is made stand -/
def locs (n i : Nat) : List D := (List.range i).map fun j => .loc (n + 14 + j)
structure Rok (rows cols : Nat) (R : List (List Txt)) : Prop where
  r : R.length = rows
  c : ∀ x ∈ R, x.length = cols ∧ ∀ t ∈ x, isKd t
def bS (m : Int) (g : List Int) (ex : List (Txt × Nat)) (rest : Store) (one : Txt) (i : Nat) (R : List (List Txt)) (junk : Store) : Store := uS m g ex (rest ++ boardJ rest.length one ++ (Obj.lst (locs rest.length i) :: (R.map lS ++ junk)))
section
variable {m : Int} {g : List Int} {ex : List (Txt × Nat)} {rest : Store} {one : Txt} {i : Nat} {R : List (List Txt)} {junk : Store}
theorem J_len : (boardJ rest.length one).length = 11 := rfl
theorem bS_told : (bS m g ex rest one i R junk)[rest.length + 13]? = some (.lst (locs rest.length i)) := by
  unfold bS
  rw [show rest.length + 13 = (rest.length + 11) + 2 from rfl, uS_at, List.getElem?_append_right (by rw [List.length_append, J_len]; omega), List.length_append, J_len]
  simp
theorem bS_row {j : Nat} {t : List Txt} (h : R[j]? = some t) : (bS m g ex rest one i R junk)[rest.length + 14 + j]? = some (lS t) := by
  have hj := (List.getElem?_eq_some_iff.mp h).1
  unfold bS
  rw [show rest.length + 14 + j = (rest.length + 12 + j) + 2 by omega, uS_at, List.getElem?_append_right (by rw [List.length_append, J_len]; omega), List.length_append, J_len]
  rw [show rest.length + 12 + j - (rest.length + 11) = j + 1 by omega, List.getElem?_cons_succ, List.getElem?_append_left (by rw [List.length_map]; exact hj), List.getElem?_map, h]
  rfl
theorem locs_at {j : Nat} (h : j < i) : atIx (locs rest.length i) (j : Int) = some (.loc (rest.length + 14 + j)) := by
  unfold locs
  rw [atIx_nat (by omega) (by simp; omega)]
  simp [h]
theorem bS_set {j : Nat} {t : List Txt} (h : j < R.length) : (bS m g ex rest one i R junk).set (rest.length + 14 + j) (lS t) = bS m g ex rest one i (R.set j t) junk := by
  unfold bS
  rw [show rest.length + 14 + j = (rest.length + 12 + j) + 2 by omega, uS_set, List.set_append_right _ _ (by rw [List.length_append, J_len]; omega), List.length_append, J_len]
  rw [show rest.length + 12 + j - (rest.length + 11) = j + 1 by omega, List.set_cons_succ, List.set_append_left _ _ (by rw [List.length_map]; exact h), List.map_set]
theorem set_lst {μ : Store} {l : Nat} {xs : List D} {i : Nat} {v : D} (h : μ[l]? = some (.lst xs)) (hi : i < xs.length) : setF (.loc l) (.int i) v μ = .ok () (μ.set l (.lst (xs.set i v))) := by
  unfold setF
  simp only [h]
  have e : pyIx xs.length (i : Int) = some i := by
    unfold pyIx
    rw [if_pos (by omega), if_pos (by omega), Int.toNat_natCast]
  simp only [e]
theorem locs_len : (locs rest.length i).length = i := by simp [locs]
end
theorem law_board_run {k : Nat} (hk : 1 ≤ k) {m : Int} {g : List Int} {ex : List (Txt × Nat)} {rest : Store} (U : UOk m g ex rest) {rows cols : Nat} (hr : rows ≤ 8) (hc : cols ≤ 8) (hr0 : 0 < rows) (hc0 : 0 < cols) :
    okR (callB prog N0 (cF k) f_law_board [.loc 0, .int rows, .int cols] (uS m g ex rest)) fun d μ => ∃ R m' g' rest', d = bD R ∧ μ = uS m' g' ex rest' ∧ Aft rest m' g' ex rest' ∧ Rok rows cols R ∧ ∃ x ∈ R, ∃ t ∈ x, t ≠ [] := by
  obtain ⟨st, one, m2, g2, hst, hkd, hne, U2, cont⟩ := board_setup (k := k) hk U rows cols
  have h0 : (0 : Nat) ≤ mostLen := by decide
  unfold callB f_law_board
  simp -implicitDefEqProofs only [startE, okR_handed, List.map, List.replicate, List.cons_append, List.nil_append]
  refine cont _ _ ?_
  have nw : PL.new (.lst []) (uS m2 g2 ex (rest ++ boardJ rest.length one)) = .ok (.loc (rest.length + 13)) (bS m2 g2 ex rest one 0 [] []) := by
    show Res.ok (D.loc ((rest ++ boardJ rest.length one).length + 2)) (uS m2 g2 ex (rest ++ boardJ rest.length one ++ [Obj.lst []])) = _
    rw [List.length_append, J_len]
    rfl
  simp -implicitDefEqProofs only [exs_cons, okS_next, ex_asg, okS_of, ev_lst, evs_nil, bind_ok, List.length_nil, if_pos h0, nw, okR_ok, asgT_nm, List.set_cons_succ, List.set_cons_zero, okS_go, thenS_nx, ex_fr, evI_rng, ev_v, List.getElem?_cons_succ, List.getElem?_cons_zero, getV_some, small_rng (n := rows) (by omega), rngW_start, rngW_stop]
  refine for_wp (w := rngW (rows : Int)) (fun i ρ μ => (∃ x y, ρ = [some (.loc 0), some (.int rows), some (.int cols), some (.int st), some (.str one), some (.loc (rest.length + 12)), some (.loc (rest.length + 13)), x, y]) ∧ ∃ m' g' R, μ = bS m' g' ex rest one i R [] ∧ UOk m' g' ex (rest ++ boardJ rest.length one) ∧ Rok i cols R) rfl ⟨⟨none, none, rfl⟩, m2, g2, [], rfl, U2, rfl, fun _ h => by simp at h⟩ (fun _ _ _ _ => rngW_stands _ _) ?_ ?_
  · rintro i z ρ μ hz ⟨⟨x, y, rfl⟩, m', g', R, rfl, U', hR⟩
    have hz2 := rngW_at (n := rows) hz
    have hi := hz2.1
    have hzz := hz2.2
    subst hzz
    have U3 := U'.grow (rest' := rest ++ boardJ rest.length one ++ (Obj.lst (locs rest.length i) :: (R.map lS ++ []))) ⟨_, rfl⟩
    have i1 := mfOk_lst _ (bS_told (m := m') (g := g') (ex := ex) (rest := rest) (one := one) (i := i) (R := R) (junk := []))
    simp -implicitDefEqProofs only [asgT_nm, okR_ok, List.set_cons_succ, List.set_cons_zero, exs_cons, okS_next, ex_ex, okS_of, ev_meth, ev_v, List.getElem?_cons_succ, List.getElem?_cons_zero, getV_some, bind_ok, mfOk_append, i1, if_true, evs_cons, evs_nil, ev_comp, evI_rng, small_rng (n := cols) (by omega), rngW_start, okR_bind, wipeE]
    have hl : (bS m' g' ex rest one i R []).length = (rest ++ boardJ rest.length one ++ (Obj.lst (locs rest.length i) :: (R.map lS ++ []))).length + 2 := rfl
    have hsn : bS m' g' ex rest one i R [] ++ [Obj.lst []] = uS m' g' ex (rest ++ boardJ rest.length one ++ (Obj.lst (locs rest.length i) :: (R.map lS ++ [])) ++ [Obj.lst []]) := rfl
    rw [hl, hsn]
    refine row_kinds (k := k) hk hkd hst hc U3 _ _ ?_
    intro m3 g3 t U4 htl hkt
    have hst2 : ∀ μ, (rngW (cols : Int)).stop μ = μ := fun _ => rfl
    have hb : uS m3 g3 ex (rest ++ boardJ rest.length one ++ (Obj.lst (locs rest.length i) :: (R.map lS ++ [])) ++ [lS t]) = bS m3 g3 ex rest one i (R ++ [t]) [] := by
      unfold bS
      simp
    have hln : (rest ++ boardJ rest.length one ++ (Obj.lst (locs rest.length i) :: (R.map lS ++ []))).length + 2 = rest.length + 14 + i := by
      rw [List.length_append, List.length_append, J_len, List.length_cons, List.append_nil, List.length_map, hR.r]
      omega
    rw [hln]
    have ap := append_lst (C := prog.cst) (d := .loc (rest.length + 14 + i)) _ (bS_told (m := m3) (g := g3) (ex := ex) (rest := rest) (one := one) (i := i) (R := R ++ [t]) (junk := [])) (by rw [locs_len, mostLen_eq]; omega)
    have hset : (bS m3 g3 ex rest one i (R ++ [t]) []).set (rest.length + 13) (.lst (locs rest.length i ++ [.loc (rest.length + 14 + i)])) = bS m3 g3 ex rest one (i + 1) (R ++ [t]) [] := by
      unfold bS
      rw [show rest.length + 13 = (rest.length + 11) + 2 from rfl, uS_set, List.set_append_right _ _ (by rw [List.length_append, J_len]; omega), List.length_append, J_len, Nat.sub_self, List.set_cons_zero]
      have hl2 : locs rest.length (i + 1) = locs rest.length i ++ [.loc (rest.length + 14 + i)] := by
        unfold locs
        rw [List.range_succ, List.map_append]
        rfl
      rw [hl2]
    rw [hset] at ap
    simp -implicitDefEqProofs only [okR_ok, hst2, hb, ap, okS_go, thenS_nx, exs_nil, goS_nx]
    refine ⟨⟨_, _, rfl⟩, m3, g3, R ++ [t], rfl, U'.back U4, by rw [List.length_append, hR.r]; rfl, fun x hx => ?_⟩
    rcases List.mem_append.mp hx with hx | hx
    · exact hR.c x hx
    · rw [List.mem_singleton.mp hx]; exact ⟨htl, hkt⟩
  · rintro ρ μ ⟨⟨x, y, rfl⟩, m3, g3, R, rfl, U3, hR⟩
    rw [rngW_len] at hR ⊢
    have wt : ∀ m g R junk, walkF (.loc (rest.length + 13)) (bS m g ex rest one rows R junk) = some (.lst (rest.length + 13) (locs rest.length rows)) := fun m g R junk => walk_lst _ bS_told
    have bsn : ∀ m g R junk o, bS m g ex rest one rows R junk ++ [o] = bS m g ex rest one rows R (junk ++ [o]) := by
      intro m g R junk o
      unfold bS
      rw [uS_snoc]
      simp
    -- the rows that are not empty
    have fin : ∀ (m : Int) (g : List Int) (R : List (List Txt)) (junk : Store) (ρ : Env), UOk m g ex (rest ++ boardJ rest.length one) → Rok rows cols R → ρ[6]? = some (some (.loc (rest.length + 13))) → ρ.length = 9 → (∃ x ∈ R, ∃ t ∈ x, t ≠ []) →
        okS (exs prog.cst (cF k) N0 (.cons (.ret (.bf .tuple (.comp (.nm 7) (.val (.v 6)) .yes (.bf .tuple (.v 7)) [7]))) .nil) ρ (bS m g ex rest one rows R junk)) (handQ fun d μ => ∃ R m' g' rest', d = bD R ∧ μ = uS m' g' ex rest' ∧ Aft rest m' g' ex rest' ∧ Rok rows cols R ∧ ∃ x ∈ R, ∃ t ∈ x, t ≠ []) := by
      intro m g R junk ρ U hR h6 h9 hex
      simp -implicitDefEqProofs only [exs_cons, okS_next, ex_ret, okS_of, ev_bf, ev_comp, evI_val, ev_v, h6, getV_some, bind_ok, wt, okI_some, okR_bind, okR_ok, items_lst, start_lst, bsn]
      have hv : ∀ x, ((wipeE ρ [7]).set 7 (some x))[7]? = some (some x) := fun x => by
        rw [List.getElem?_set_self]
        simp [wipeE, h9]
      refine comp_fm_wp (w := .lst (rest.length + 13) (locs rest.length rows)) (List.range rows) (fun j => .loc (rest.length + 14 + j)) (fun _ => true) (fun j => rowD (R.getD j [])) (bS m g ex rest one rows R junk) rfl rfl rfl (bsn m g R junk _).symm (by rw [List.length_range, mostLen_eq]; omega) (fun acc => ?_) ?_ ?_
      · show (bS m g ex rest one rows R junk ++ [Obj.lst acc])[rest.length + 13]? = _
        rw [bsn]
        exact bS_told
      · intro j hj acc
        have hj2 : j < rows := List.mem_range.mp hj
        have hrow : R[j]? = some (R.getD j []) := by
          rw [List.getD_eq_getElem?_getD, List.getElem?_eq_getElem (by rw [hR.r]; exact hj2)]
          rfl
        have tl := tuple_lst (xs := (R.getD j []).map .str) (bS m g ex rest one rows R (junk ++ [Obj.lst acc])) (bS_row hrow)
        rw [bsn]
        simp -implicitDefEqProofs only [asgT_nm, bind_ok, evC_yes, if_true, ev_bf, ev_v, hv, getV_some, tl]
        rfl
      · rw [bsn]
        have hl : (bS m g ex rest one rows R (junk ++ [Obj.lst (((List.range rows).filter fun _ => true).map fun j => rowD (R.getD j []))]))[(bS m g ex rest one rows R junk).length]? = some (.lst (R.map rowD)) := by
          rw [← bsn]
          rw [List.getElem?_append_right (Nat.le_refl _), Nat.sub_self, List.filter_eq_self.mpr (fun _ _ => rfl)]
          have : (List.range rows).map (fun j => rowD (R.getD j [])) = R.map rowD := by
            apply List.ext_getElem?
            intro j
            rw [List.getElem?_map, List.getElem?_map]
            by_cases hj : j < rows
            · have hj' : j < R.length := by rw [hR.r]; exact hj
              rw [List.getElem?_range hj, List.getElem?_eq_getElem hj']
              show some (rowD (R.getD j [])) = some (rowD R[j])
              rw [List.getD_eq_getElem?_getD, List.getElem?_eq_getElem hj']
              rfl
            · rw [List.getElem?_eq_none (by simp; omega), List.getElem?_eq_none (by rw [hR.r]; omega)]
              rfl
          rw [this]
          rfl
        simp -implicitDefEqProofs only [stop_lst, okR_ok, tuple_lst _ hl, okS_go, thenS_rt, handQ_rt]
        exact ⟨R, m, g, _, rfl, rfl, ⟨U.grow ⟨_, by rw [List.append_assoc]⟩, ⟨boardJ rest.length one ++ _, by rw [List.append_assoc]⟩⟩, hR, hex⟩
    simp -implicitDefEqProofs only [thenS_nx, okS_go, exs_cons, okS_next, ex_ite, okS_of, evT_cmp, ev_bf, ev_comp, evI_val, ev_v, List.getElem?_cons_succ, List.getElem?_cons_zero, getV_some, bind_ok, wt, okI_some, okR_bind, okR_ok, items_lst, start_lst, bsn, List.nil_append, wipeE, List.set_cons_succ, List.set_cons_zero]
    refine comp_fm_wp (w := .lst (rest.length + 13) (locs rest.length rows)) (List.range rows) (fun j => .loc (rest.length + 14 + j)) (fun j => !(R.getD j []).flatten.isEmpty) (fun j => .loc (rest.length + 14 + j)) (bS m3 g3 ex rest one rows R []) rfl rfl rfl (bsn m3 g3 R [] _).symm (by rw [List.length_range, mostLen_eq]; omega) (fun acc => ?_) ?_ ?_
    · show (bS m3 g3 ex rest one rows R [] ++ [Obj.lst acc])[rest.length + 13]? = _
      rw [bsn]
      exact bS_told
    · intro j hj acc
      have hj2 : j < rows := List.mem_range.mp hj
      have hrow : R[j]? = some (R.getD j []) := by
        rw [List.getD_eq_getElem?_getD, List.getElem?_eq_getElem (by rw [hR.r]; exact hj2)]
        rfl
      have hmem := List.mem_of_getElem? hrow
      obtain ⟨q1, q2⟩ := hR.c _ hmem
      have jn := join_kd (bS_row (m := m3) (g := g3) (ex := ex) (rest := rest) (one := one) (i := rows) (junk := [] ++ [Obj.lst acc]) hrow) q2 (by omega)
      rw [bsn]
      simp -implicitDefEqProofs only [asgT_nm, bind_ok, evC_test, evT_cmp, ev_meth, ev_str, mfOk_join, if_true, evs_cons, evs_nil, ev_v, List.set_cons_succ, List.set_cons_zero, List.getElem?_cons_succ, List.getElem?_cons_zero, getV_some, jn, ne_str]
      cases (R.getD j []).flatten <;> rfl
    · rw [bsn]
      generalize hF : (List.range rows).filter (fun j => !(R.getD j []).flatten.isEmpty) = F
      generalize hjk : ([] ++ [Obj.lst (F.map fun j => D.loc (rest.length + 14 + j))] : Store) = jk
      have hll : (bS m3 g3 ex rest one rows R jk)[(bS m3 g3 ex rest one rows R []).length]? = some (.lst (F.map fun j => D.loc (rest.length + 14 + j))) := by
        rw [← hjk, ← bsn, List.getElem?_append_right (Nat.le_refl _), Nat.sub_self]
        rfl
      simp -implicitDefEqProofs only [stop_lst, okR_ok, len_lst _ hll, List.length_map, ev_int, eq_int]
      cases F with
      | cons f F =>
        have hz : (((f :: F).length : Int) == 0) = false := by simp; omega
        rw [hz]
        simp -implicitDefEqProofs only [Bool.false_eq_true, if_false, exs_nil, okS_go, thenS_nx]
        have hf : f ∈ (List.range rows).filter (fun j => !(R.getD j []).flatten.isEmpty) := by rw [hF]; exact List.mem_cons_self ..
        obtain ⟨f1, f2⟩ := List.mem_filter.mp hf
        have f1 := List.mem_range.mp f1
        have hmem : R.getD f [] ∈ R := getD_mem (by rw [hR.r]; exact f1)
        have hex : ∃ x ∈ R, ∃ t ∈ x, t ≠ [] := by
          refine ⟨_, hmem, ?_⟩
          cases hfl : (R.getD f []).flatten with
          | nil => rw [hfl] at f2; cases f2
          | cons a l =>
            have : a ∈ (R.getD f []).flatten := by rw [hfl]; exact List.mem_cons_self ..
            obtain ⟨t, ht, ha⟩ := List.mem_flatten.mp this
            exact ⟨t, ht, fun e => by rw [e] at ha; cases ha⟩
        exact fin m3 g3 R jk _ U3 hR rfl rfl hex
      | nil =>
        have U5 := U3.grow (rest' := rest ++ boardJ rest.length one ++ (Obj.lst (locs rest.length rows) :: (R.map lS ++ jk))) ⟨_, rfl⟩
        obtain ⟨r1, m4, g4, et1, a0, a1, U6⟩ := take_ok (k := k) hk U5 (many := (rows : Int)) (by omega) (by omega)
        obtain ⟨r2, m5, g5, et2, b0, b1, U7⟩ := take_ok (k := k) hk U6 (many := (cols : Int)) (by omega) (by omega)
        have et1 : cF k 1001 [.loc 0, .int rows] (bS m3 g3 ex rest one rows R jk) = .ok (.int r1) (bS m4 g4 ex rest one rows R jk) := et1
        have et2 : cF k 1001 [.loc 0, .int cols] (bS m4 g4 ex rest one rows R jk) = .ok (.int r2) (bS m5 g5 ex rest one rows R jk) := et2
        obtain ⟨j1, rfl⟩ : ∃ j : Nat, r1 = j := ⟨r1.toNat, by omega⟩
        obtain ⟨j2, rfl⟩ : ∃ j : Nat, r2 = j := ⟨r2.toNat, by omega⟩
        have hj1 : j1 < R.length := by rw [hR.r]; omega
        have hrow : R[j1]? = some (R.getD j1 []) := by
          rw [List.getD_eq_getElem?_getD, List.getElem?_eq_getElem hj1]
          rfl
        have hmem := List.mem_of_getElem? hrow
        obtain ⟨q1, q2⟩ := hR.c _ hmem
        have ix1 : ixF prog.cst (.loc (rest.length + 13)) (.int j1) (bS m4 g4 ex rest one rows R jk) = .ok (.loc (rest.length + 14 + j1)) (bS m4 g4 ex rest one rows R jk) := by
          rw [ix_lst _ _ bS_told, locs_at (by omega)]
          rfl
        have st1 : setF (.loc (rest.length + 14 + j1)) (.int j2) (.str one) (bS m5 g5 ex rest one rows R jk) = .ok () (bS m5 g5 ex rest one rows (R.set j1 ((R.getD j1 []).set j2 one)) jk) := by
          rw [set_lst (xs := (R.getD j1 []).map .str) (bS_row hrow) (by rw [List.length_map, q1]; omega), ← List.map_set, ← bS_set hj1]
          rfl
        have hz : (((([] : List Nat).length : Nat) : Int) == 0) = true := rfl
        rw [hz]
        simp -implicitDefEqProofs only [if_true, exs_cons, exs_nil, okS_next, ex_asg, okS_of, ev_v, List.getElem?_cons_succ, List.getElem?_cons_zero, getV_some, okR_ok, asgT_sb, ev_ix, bind_ok, ev_call, evs_cons, evs_nil, et1, ix1, et2, st1, okS_go, thenS_nx]
        have hRk : Rok rows cols (R.set j1 ((R.getD j1 []).set j2 one)) := by
          refine ⟨by rw [List.length_set, hR.r], fun x hx => ?_⟩
          rcases List.mem_or_eq_of_mem_set hx with hx | rfl
          · exact hR.c x hx
          · refine ⟨by rw [List.length_set, q1], fun t ht => ?_⟩
            rcases List.mem_or_eq_of_mem_set ht with ht | rfl
            · exact q2 t ht
            · exact hkd
        have hfin := fin m5 g5 (R.set j1 ((R.getD j1 []).set j2 one)) jk [some (.loc 0), some (.int rows), some (.int cols), some (.int st), some (.str one), some (.loc (rest.length + 12)), some (.loc (rest.length + 13)), x, y] (U3.back U7) hRk rfl rfl ⟨(R.getD j1 []).set j2 one, List.mem_set hj1 _, one, List.mem_set (by rw [q1]; omega) _, hne⟩
        simp -implicitDefEqProofs only [exs_cons, okS_next, exs_nil] at hfin
        exact hfin
end K82
end
section
set_option Elab.async false
set_option linter.all false
set_option autoImplicit false
set_option maxRecDepth 100000
set_option maxHeartbeats 1000000
namespace K82
open PL
theorem Rok.bok {rows cols : Nat} {R : List (List Txt)} (h : Rok rows cols R) (hr : rows ≤ 8) (hc : cols ≤ 8) (hr0 : 0 < rows) (hc0 : 0 < cols) : Bok R rows cols := ⟨h.r, fun x hx => (h.c x hx).1, hr0, hc0, hr, hc⟩
theorem Rok.kok {rows cols : Nat} {R : List (List Txt)} (h : Rok rows cols R) : Kok R := ⟨fun x hx t ht => ((h.c x hx).2 t ht).1, fun x hx t ht => ((h.c x hx).2 t ht).2⟩
theorem law_board_ok {k : Nat} (hk : 2 ≤ k) {m : Int} {g : List Int} {ex : List (Txt × Nat)} {rest : Store} (U : UOk m g ex rest) {rows cols : Nat} (hr : rows ≤ 8) (hc : cols ≤ 8) (hr0 : 0 < rows) (hc0 : 0 < cols) :
    ∃ R m' g' rest', cF k 1003 [.loc 0, .int rows, .int cols] (uS m g ex rest) = .ok (bD R) (uS m' g' ex rest') ∧ Aft rest m' g' ex rest' ∧ Rok rows cols R ∧ ∃ x ∈ R, ∃ t ∈ x, t ≠ [] := by
  obtain ⟨k, rfl⟩ : ∃ j, k = j + 1 := ⟨k - 1, by omega⟩
  obtain ⟨d, μ, e, R, m', g', rest', rfl, rfl, h1, h2, h3⟩ := okR_ex.mp (law_board_run (k := k) (by omega) U hr hc hr0 hc0)
  exact ⟨R, m', g', rest', by rw [call_loc (fn := f_law_board) rfl rfl rfl, e], h1, h2, h3⟩
theorem cell_mem {b : Board} {rows cols : Nat} (B : Bok b rows cols) {r c : Nat} (h1 : r < rows) (h2 : c < cols) : ∃ x ∈ b, cell b r c ∈ x ∧ x = rowAt b r := by
  have hl : r < b.length := by rw [B.r]; exact h1
  have hx : rowAt b r ∈ b := getD_mem hl
  refine ⟨_, hx, ?_, rfl⟩
  have hc := B.c _ hx
  show (rowAt b ((r : Int)).toNat).getD ((c : Int)).toNat [] ∈ _
  rw [Int.toNat_natCast, Int.toNat_natCast]
  exact getD_mem (by rw [hc]; exact h2)
/-- a drawn setting is one of the board -/
theorem setOk.sok {b : Board} {rows cols : Nat} {S : Setting} (B : Bok b rows cols) (K : Kok b) (h : setOk b S) : Sok b rows cols S := by
  have hlen : S.length = rows := by rw [h.1, B.r]
  refine ⟨hlen, fun x hx => ?_, fun r c h1 h2 h3 => ?_⟩
  · obtain ⟨i, hi, e⟩ := List.mem_iff_getElem.mp hx
    have hb : i < b.length := by rw [← h.1]; exact hi
    have := (h.2 i b[i] S[i] (List.getElem?_eq_getElem hb) (List.getElem?_eq_getElem hi)).1
    rw [← e, this]
    exact B.c _ (List.getElem_mem hb)
  · have hb : r < b.length := by rw [B.r]; exact h1
    have hs : r < S.length := by rw [hlen]; exact h1
    have hro := h.2 r b[r] S[r] (List.getElem?_eq_getElem hb) (List.getElem?_eq_getElem hs)
    have e1 : rowAt b r = b[r] := by unfold rowAt; rw [List.getD_eq_getElem?_getD, List.getElem?_eq_getElem hb]; rfl
    have e2 : rowS S r = S[r] := by unfold rowS; rw [List.getD_eq_getElem?_getD, List.getElem?_eq_getElem hs]; rfl
    have hbl := B.c _ (List.getElem_mem hb)
    have hc1 : c < b[r].length := by rw [hbl]; exact h2
    have hc2 : c < S[r].length := by rw [hro.1]; exact hc1
    have e3 : cell b r c = b[r][c] := by
      show (rowAt b ((r : Int)).toNat).getD ((c : Int)).toNat [] = _
      rw [Int.toNat_natCast, Int.toNat_natCast, e1, List.getD_eq_getElem?_getD, List.getElem?_eq_getElem hc1]
      rfl
    have e4 : letter S r c = S[r][c] := by
      unfold letter
      rw [e2, List.getD_eq_getElem?_getD, List.getElem?_eq_getElem hc2]
      rfl
    rw [e4]
    have hmem := hro.2 c b[r][c] S[r][c] (List.getElem?_eq_getElem hc1) (List.getElem?_eq_getElem hc2)
    have hmem := hmem.1 (by
      intro e
      rw [e3, e] at h3; cases h3)
    exact K.l _ (List.getElem_mem hb) _ (List.getElem_mem hc1) _ hmem
/-- closed cells hold the sign of a wall -/
def Hash (b : Board) (rows cols : Nat) (S : Setting) : Prop := ∀ r c, r < rows → c < cols → (cell b r c).isEmpty = true → letter S r c = 35
theorem setOk.hash {b : Board} {rows cols : Nat} {S : Setting} (B : Bok b rows cols) (h : setOk b S) : Hash b rows cols S := by
  intro r c h1 h2 h3
  have hlen : S.length = rows := by rw [h.1, B.r]
  have hb : r < b.length := by rw [B.r]; exact h1
  have hs : r < S.length := by rw [hlen]; exact h1
  have hro := h.2 r b[r] S[r] (List.getElem?_eq_getElem hb) (List.getElem?_eq_getElem hs)
  have e1 : rowAt b r = b[r] := by unfold rowAt; rw [List.getD_eq_getElem?_getD, List.getElem?_eq_getElem hb]; rfl
  have e2 : rowS S r = S[r] := by unfold rowS; rw [List.getD_eq_getElem?_getD, List.getElem?_eq_getElem hs]; rfl
  have hbl := B.c _ (List.getElem_mem hb)
  have hc1 : c < b[r].length := by rw [hbl]; exact h2
  have hc2 : c < S[r].length := by rw [hro.1]; exact hc1
  have e3 : cell b r c = b[r][c] := by
    show (rowAt b ((r : Int)).toNat).getD ((c : Int)).toNat [] = _
    rw [Int.toNat_natCast, Int.toNat_natCast, e1, List.getD_eq_getElem?_getD, List.getElem?_eq_getElem hc1]
    rfl
  have e4 : letter S r c = S[r][c] := by
    unfold letter
    rw [e2, List.getD_eq_getElem?_getD, List.getElem?_eq_getElem hc2]
    rfl
  rw [e4]
  exact (hro.2 c b[r][c] S[r][c] (List.getElem?_eq_getElem hc1) (List.getElem?_eq_getElem hc2)).2 (by
    rw [e3] at h3
    exact List.isEmpty_iff.mp h3)
/-! differences undone -/
theorem apart_mem {rows cols : Nat} {one other : Setting} {d : Side} (h : d ∈ apart rows cols one other) : d.1 < rows ∧ d.2.1 < cols ∧ d.2.2 = letter other d.1 d.2.1 := by
  obtain ⟨p, hp, rfl⟩ := List.mem_map.mp h
  obtain ⟨h1, h2⟩ := mem_changed hp
  exact ⟨h1, h2, rfl⟩
theorem fin_shp {rows cols : Nat} : ∀ {ds : List Side} {S : Setting}, Shp rows cols S → (∀ d ∈ ds, d.1 < rows ∧ d.2.1 < cols) → Shp rows cols (fin S ds)
  | [], S, O, _ => O
  | d :: ds, S, O, h => fin_shp (ds := ds) (O.apply (h d (List.mem_cons_self ..)).1 (h d (List.mem_cons_self ..)).2) fun e he => h e (List.mem_cons_of_mem _ he)
theorem fin_letter {rows cols : Nat} {T : Setting} : ∀ {ds : List Side} {S : Setting}, Shp rows cols S → (∀ d ∈ ds, d.1 < rows ∧ d.2.1 < cols ∧ d.2.2 = letter T d.1 d.2.1) → ∀ r c, letter (fin S ds) r c = if (∃ d ∈ ds, d.1 = r ∧ d.2.1 = c) then letter T r c else letter S r c
  | [], S, O, _, r, c => by rw [if_neg (by simp)]; rfl
  | d :: ds, S, O, h, r, c => by
    obtain ⟨h1, h2, h3⟩ := h d (List.mem_cons_self ..)
    show letter (fin (apply S d) ds) r c = _
    rw [fin_letter (O.apply h1 h2) (fun e he => h e (List.mem_cons_of_mem _ he)) r c, letter_apply O h1 h2]
    by_cases hd : ∃ e ∈ ds, e.1 = r ∧ e.2.1 = c
    · obtain ⟨e, he, q⟩ := hd
      rw [if_pos ⟨e, he, q⟩, if_pos ⟨e, List.mem_cons_of_mem _ he, q⟩]
    · rw [if_neg hd]
      by_cases hq : r = d.1 ∧ c = d.2.1
      · obtain ⟨rfl, rfl⟩ := hq
        rw [if_pos ⟨rfl, rfl⟩, if_pos ⟨d, List.mem_cons_self .., rfl, rfl⟩, h3]
      · rw [if_neg hq, if_neg]
        rintro ⟨e, he, q1, q2⟩
        rcases List.mem_cons.mp he with rfl | he
        · exact hq ⟨q1.symm, q2.symm⟩
        · exact hd ⟨e, he, q1, q2⟩
theorem shp_ext {rows cols : Nat} {S T : Setting} (A : Shp rows cols S) (Z : Shp rows cols T) (h : ∀ r c, r < rows → c < cols → letter S r c = letter T r c) : S = T := by
  apply List.ext_getElem (by rw [A.r, Z.r])
  intro r h1 h2
  have hr : r < rows := by rw [← A.r]; exact h1
  have e1 : rowS S r = S[r] := by unfold rowS; rw [List.getD_eq_getElem?_getD, List.getElem?_eq_getElem h1]; rfl
  have e2 : rowS T r = T[r] := by unfold rowS; rw [List.getD_eq_getElem?_getD, List.getElem?_eq_getElem h2]; rfl
  have l1 := A.c _ (List.getElem_mem h1)
  have l2 := Z.c _ (List.getElem_mem h2)
  apply List.ext_getElem (by rw [l1, l2])
  intro c c1 c2
  have hc : c < cols := by rw [← l1]; exact c1
  have := h r c hr hc
  unfold letter at this
  rw [e1, e2, List.getD_eq_getElem?_getD, List.getD_eq_getElem?_getD, List.getElem?_eq_getElem c1, List.getElem?_eq_getElem c2] at this
  exact this
/-- what sets two settings apart leads from the one to the other -/
theorem fin_apart {rows cols : Nat} {S T : Setting} (A : Shp rows cols S) (Z : Shp rows cols T) : fin S (apart rows cols S T) = T := by
  refine shp_ext (fin_shp A fun d hd => ⟨(apart_mem hd).1, (apart_mem hd).2.1⟩) Z fun r c hr hc => ?_
  rw [fin_letter (T := T) A (fun d hd => apart_mem hd)]
  split
  · rfl
  · rename_i hn
    by_cases hd : letter S r c = letter T r c
    · exact hd
    · exfalso
      apply hn
      refine ⟨(r, c, letter T r c), List.mem_map.mpr ⟨(r, c), List.mem_filter.mpr ⟨mem_grid.mpr ⟨hr, hc⟩, ?_⟩, rfl⟩, rfl, rfl⟩
      unfold diff
      simp [hd]
theorem apart_dok {b : Board} {rows cols : Nat} {S T : Setting} (hc : ∀ r c, r < rows → c < cols → (cell b r c).isEmpty = true → letter S r c = letter T r c) (Z : Sok b rows cols T) : ∀ d ∈ apart rows cols S T, Dok b rows cols d := by
  intro d hd
  obtain ⟨p, hp, rfl⟩ := List.mem_map.mp hd
  obtain ⟨h1, h2⟩ := mem_changed hp
  have hdf := (List.mem_filter.mp hp).2
  have ho : (cell b p.1 p.2).isEmpty = false := by
    cases e : (cell b p.1 p.2).isEmpty with
    | false => rfl
    | true =>
      have := hc p.1 p.2 h1 h2 e
      unfold diff at hdf
      rw [this] at hdf
      simp at hdf
  exact ⟨h1, h2, ho, Z.l _ _ h1 h2 ho⟩
end K82
end
section
set_option Elab.async false
set_option linter.all false
set_option autoImplicit false
set_option maxRecDepth 100000
set_option maxHeartbeats 1000000
namespace K82
open PL
theorem nice_s : ∀ S : Setting, niceL (S.map D.str) = true ∧ nodesL (S.map D.str) = S.length
  | [] => ⟨rfl, rfl⟩
  | x :: S => by
    obtain ⟨h1, h2⟩ := nice_s S
    rw [List.map_cons, niceL, nodesL, h1, h2]
    exact ⟨rfl, by simp [nodes]; omega⟩
theorem nice_ss : ∀ L : List Setting, (∀ S ∈ L, S.length ≤ 8) → niceL (L.map sD) = true ∧ nodesL (L.map sD) ≤ 9 * L.length
  | [], _ => ⟨rfl, by simp [nodesL]⟩
  | S :: L, h => by
    obtain ⟨h1, h2⟩ := nice_ss L fun T hT => h T (List.mem_cons_of_mem _ hT)
    obtain ⟨h3, h4⟩ := nice_s S
    have := h S (List.mem_cons_self ..)
    rw [List.map_cons, niceL, nodesL, h1]
    refine ⟨by show (niceL (S.map D.str) && true) = true; rw [h3]; rfl, ?_⟩
    have e : nodes (sD S) = S.length + 1 := by show nodesL (S.map D.str) + 1 = _; rw [h4]
    rw [e, List.length_cons]
    omega
theorem nice_d : ∀ L : List Side, niceL (L.map sdD) = true ∧ nodesL (L.map sdD) = 4 * L.length
  | [] => ⟨rfl, rfl⟩
  | d :: L => by
    obtain ⟨h1, h2⟩ := nice_d L
    rw [List.map_cons, niceL, nodesL, h1, h2]
    refine ⟨rfl, ?_⟩
    have : nodes (sdD d) = 4 := rfl
    rw [this, List.length_cons]; omega
theorem same_s {k : Nat} (hk : 1 ≤ k) {S : Setting} (h : S.length ≤ 8) (μ : Store) : cF k 1009 [sD S, sD S] μ = .ok (.bl true) μ :=
  law_same_ok (d := sD S) hk (nice_s S).1 (by show nodesL (S.map D.str) + 1 ≤ _; rw [(nice_s S).2]; omega) (data_s S) μ
theorem same_d {k : Nat} (hk : 1 ≤ k) {L : List Side} (h : L.length ≤ 5000) (μ : Store) : cF k 1009 [dsD L, dsD L] μ = .ok (.bl true) μ :=
  law_same_ok (d := dsD L) hk (nice_d L).1 (by show nodesL (L.map sdD) + 1 ≤ _; rw [(nice_d L).2]; omega) (data_ds L) μ
theorem same_ss {k : Nat} (hk : 1 ≤ k) {L : List Setting} (h : ∀ S ∈ L, S.length ≤ 8) (hl : L.length ≤ 5000) (μ : Store) : cF k 1009 [.tup (L.map sD), .tup (L.map sD)] μ = .ok (.bl true) μ :=
  law_same_ok (d := .tup (L.map sD)) hk (nice_ss L h).1 (by show nodesL (L.map sD) + 1 ≤ _; have := (nice_ss L h).2; omega) (data_ss L) μ
theorem truth_bl (b : Bool) (μ : Store) : truthF (.bl b) μ = .ok b μ := rfl
end K82
end
section
set_option Elab.async false
set_option linter.all false
set_option autoImplicit false
set_option maxRecDepth 100000
set_option maxHeartbeats 1000000
namespace K82
open PL
theorem UOk.set {m : Int} {g : List Int} {ex : List (Txt × Nat)} {rest : Store} (h : UOk m g ex rest) {j : Nat} {L : List Side} (hj : rest[j]? = some (.lst (L.map sdD))) (o : Obj) : UOk m g ex (rest.set j o) := by
  refine ⟨h.m0, h.g0, h.gl, h.nm, fun p hp => ?_, h.el, h.nd⟩
  obtain ⟨i, a, c, e1, e2, e3⟩ := h.at_ p hp
  refine ⟨i, a, c, e1, ?_, e3⟩
  have hne : j ≠ i := by
    rintro rfl
    rw [hj] at e2
    have e2 := Option.some.inj e2
    have e2 : L.map sdD = [.int a, .int c] := by injection e2
    cases L with
    | nil => cases e2
    | cons x L => rw [List.map_cons] at e2; injection e2 with e4 _; cases e4
  rw [List.getElem?_set_ne hne]
  exact e2
/-- an open cell of a board is among its open cells -/
theorem opens_pos {b : Board} {rows cols : Nat} (B : Bok b rows cols) (h : ∃ x ∈ b, ∃ t ∈ x, t ≠ []) : 0 < (opens b rows cols).length := by
  obtain ⟨x, hx, t, ht, hne⟩ := h
  obtain ⟨r, hr, e1⟩ := List.mem_iff_getElem.mp hx
  obtain ⟨c, hc, e2⟩ := List.mem_iff_getElem.mp ht
  have hr2 : r < rows := by rw [← B.r]; exact hr
  have hc2 : c < cols := by rw [← B.c x hx]; exact hc
  refine List.length_pos_of_mem (a := (r, c)) (List.mem_filter.mpr ⟨mem_grid.mpr ⟨hr2, hc2⟩, ?_⟩)
  have e3 : rowAt b r = x := by unfold rowAt; rw [List.getD_eq_getElem?_getD, List.getElem?_eq_getElem hr, e1]; rfl
  have e4 : cell b r c = t := by
    show (rowAt b ((r : Int)).toNat).getD ((c : Int)).toNat [] = _
    rw [Int.toNat_natCast, Int.toNat_natCast, e3, List.getD_eq_getElem?_getD, List.getElem?_eq_getElem hc, e2]
    rfl
  show (!(cell b r c).isEmpty) = true
  rw [e4]
  cases t with
  | nil => exact absurd rfl hne
  | cons _ _ => rfl
theorem opens_flat (b : Board) (rows cols : Nat) : opens b rows cols = (List.range rows).flatMap fun r => ((List.range cols).filter fun c => !(cell b (r : Nat) (c : Nat)).isEmpty).map fun c => (r, c) := by
  unfold opens grid
  rw [List.filter_flatMap]
  refine flatMap_ext fun r _ => ?_
  rw [List.filter_map]
  rfl
/-- the second loop of law_deeds: one drawn deed -/
def DeedI (b : Board) (rows cols : Nat) (P : Store) (bb cells : D) (many : Nat) (i : Nat) (ρ : Env) (μ : Store) : Prop := (∃ x y z w, ρ = [some (.loc 0), some bb, some (.int many), some cells, x, some (.loc (P.length + 2)), y, z, w]) ∧ ∃ (m : Int) (g : List Int) (ex : List (Txt × Nat)) (L : List Side) (junk : Store), μ = uS m g ex (P ++ .lst (L.map sdD) :: junk) ∧ UOk m g ex (P ++ .lst (L.map sdD) :: junk) ∧ L.length = i ∧ ∀ d ∈ L, Dok b rows cols d
theorem deeds_drawn_run {k : Nat} (hk : 2 ≤ k) {b : Board} {rows cols : Nat} (B : Bok b rows cols) (K : Kok b) (hop : 0 < (opens b rows cols).length) {m : Int} {g : List Int} {ex : List (Txt × Nat)} {rest : Store} (U : UOk m g ex rest) {many : Nat} (hm : many ≤ 400) :
    ∃ d μ, callB prog N0 (cF k) f_law_deeds [.loc 0, bD b, .int many] (uS m g ex rest) = .ok d μ ∧ ∃ (L : List Side) (m' : Int) (g' : List Int) (ex' : List (Txt × Nat)) (rest' : Store), d = dsD L ∧ μ = uS m' g' ex' rest' ∧ Aft rest m' g' ex' rest' ∧ L.length = many ∧ ∀ d ∈ L, Dok b rows cols d := by
  refine okR_ex.mp ?_
  have h0 : (0 : Nat) ≤ mostLen := by decide
  have h2 : (2 : Nat) ≤ mostLen := by decide
  have h3 : (3 : Nat) ≤ mostLen := by decide
  have hr := B.rs
  have hc := B.cs
  have e0 := b_row B (r := 0) (by omega) (by have := B.r0; omega)
  have e0' : ∀ μ, ixF prog.cst (bD b) (.int 0) μ = .ok (rowD (rowAt b 0)) μ := fun μ => by
    show okI (atIx (b.map rowD) 0) μ = _
    rw [e0]; rfl
  have l0 : ∀ μ, bfF .len (rowD (rowAt b 0)) μ = .ok (.int cols) μ := fun μ => by
    show Res.ok (D.int ((rowAt b 0).map D.str).length) μ = _
    rw [List.length_map, b_len B B.r0]
  have lb : ∀ μ, bfF .len (bD b) μ = .ok (.int rows) μ := fun μ => by
    show Res.ok (D.int (b.map rowD).length) μ = _
    rw [List.length_map, B.r]
  have cx : ∀ r c : Nat, r < rows → c < cols → (∀ μ, ixF prog.cst (bD b) (.int r) μ = .ok (rowD (rowAt b r)) μ) ∧ ∀ μ, ixF prog.cst (rowD (rowAt b r)) (.int c) μ = .ok (.str (cell b r c)) μ := by
    intro r c h1 h2
    obtain ⟨c1, c2⟩ := cell_ok B (inB_nat h1 h2)
    constructor
    · intro μ
      show okI (atIx (b.map rowD) (r : Int)) μ = _
      rw [c1]; rfl
    · intro μ
      show okI (atIx ((rowAt b r).map D.str) (c : Int)) μ = _
      have c2' : atIx ((rowAt b r).map D.str) c = some (.str (cell b r c)) := by simpa using c2
      rw [c2']; rfl
  have nw : ∀ m g ex (pre : Store) o, PL.new o (uS m g ex pre) = .ok (.loc (pre.length + 2)) (uS m g ex (pre ++ [o])) := fun _ _ _ _ _ => rfl
  simp -implicitDefEqProofs only [callB, f_law_deeds, startE, okR_handed, exs_cons, okS_next, List.map, List.replicate, List.cons_append, List.nil_append, ex_asg, okS_of, ev_lst, evs_nil, bind_ok, List.length_nil, if_pos h0, nw, okR_ok, asgT_nm, List.set_cons_succ, List.set_cons_zero, okS_go, thenS_nx, ex_fr, evI_rng, ev_bf, ev_v, List.getElem?_cons_succ, List.getElem?_cons_zero, getV_some, lb, small_rng (n := rows) (by omega), rngW_start, rngW_stop]
  let T : List (Nat × Nat) → Store → Prop := fun acc μ => ∃ junk, μ = uS m g ex (rest ++ Obj.lst (acc.map pD) :: junk)
  let gg : Nat → List (Nat × Nat) := fun r => ((List.range cols).filter fun c => !(cell b (r : Nat) (c : Nat)).isEmpty).map fun c => (r, c)
  have hg : ∀ r, (gg r).length ≤ 8 := fun r => by
    show (List.map _ _).length ≤ 8
    rw [List.length_map]
    refine Nat.le_trans (List.length_filter_le _ _) ?_
    rw [List.length_range]; exact hc
  have hg2 : ∀ l : List Nat, (l.flatMap gg).length ≤ 8 * l.length := by
    intro l
    induction l with
    | nil => simp
    | cons x l ih => rw [List.flatMap_cons, List.length_append, List.length_cons]; have := hg x; omega
  refine for_fmT (w := rngW (rows : Int)) (acc0 := []) (List.range rows) (fun (r : Nat) => D.int r) gg (fun ρ => ∃ x y z u v, ρ = [some (.loc 0), some (bD b), some (.int many), some (.loc (rest.length + 2)), x, y, z, u, v]) T rfl (by simp [rngW]) ⟨[], rfl⟩ ⟨none, none, none, none, none, rfl⟩ (fun _ _ _ => trivial) ?_ ?_
  · rintro r hr' ρ acc μ ⟨x, y, z, u, v, rfl⟩ ⟨junk, rfl⟩ hb
    have hrr : r < rows := List.mem_range.mp hr'
    have hb2 : acc.length + (gg r).length ≤ 64 := by
      have := hg2 (List.range rows)
      rw [List.length_range] at this
      simp only [List.length_nil, Nat.zero_add] at hb
      omega
    have q0 : (uS m g ex (rest ++ Obj.lst (acc.map pD) :: junk))[rest.length + 2]? = some (.lst (acc.map pD)) := by rw [uS_at]; simp
    have i0 := mfOk_lst _ q0
    simp -implicitDefEqProofs only [asgT_nm, okR_ok, List.set_cons_succ, List.set_cons_zero, exs_cons, okS_next, ex_ex, okS_of, ev_meth, ev_v, List.getElem?_cons_succ, List.getElem?_cons_zero, getV_some, bind_ok, mfOk_extend, i0, if_true, evs_cons, evs_nil, ev_comp, evI_rng, ev_bf, ev_ix, ev_int, e0', l0, small_rng (n := cols) (by omega), rngW_start, okR_bind, wipeE, uS_len, uS_snoc]
    refine comp_fm_wp (w := rngW (cols : Int)) (List.range cols) (fun (c : Nat) => D.int c) (fun c => !(cell b (r : Nat) (c : Nat)).isEmpty) (fun c => pD (r, c)) (uS m g ex (rest ++ Obj.lst (acc.map pD) :: junk)) rfl (by simp [rngW]) rfl rfl (by rw [List.length_range, mostLen_eq]; omega) (fun _ => rngW_stands _ _) ?_ ?_
    · rintro c hc' acc2
      have hcc : c < cols := List.mem_range.mp hc'
      obtain ⟨x1, x2⟩ := cx r c hrr hcc
      simp -implicitDefEqProofs only [asgT_nm, bind_ok, List.set_cons_succ, List.set_cons_zero, evC_test, evT_cmp, ev_ix, ev_v, List.getElem?_cons_succ, List.getElem?_cons_zero, getV_some, x1, x2, ev_str, ne_str, ev_tup, evs_cons, evs_nil, List.length_cons, List.length_nil, Nat.zero_add, Nat.reduceAdd, if_pos h2]
      cases cell b (r : Nat) (c : Nat) <;> rfl
    · have e : (((List.range cols).filter fun c => !(cell b (r : Nat) (c : Nat)).isEmpty).map fun c => pD (r, c)) = (gg r).map pD := by
        show _ = List.map pD (List.map _ _)
        rw [List.map_map]; rfl
      rw [e, uS_snoc]
      have hst : ∀ μ, (rngW (cols : Int)).stop μ = μ := fun _ => rfl
      have q1 : (uS m g ex ((rest ++ Obj.lst (acc.map pD) :: junk) ++ [Obj.lst ((gg r).map pD)]))[rest.length + 2]? = some (.lst (acc.map pD)) := by rw [uS_at]; simp
      have q2 : (uS m g ex ((rest ++ Obj.lst (acc.map pD) :: junk) ++ [Obj.lst ((gg r).map pD)]))[(rest ++ Obj.lst (acc.map pD) :: junk).length + 2]? = some (.lst ((gg r).map pD)) := by rw [uS_at]; simp
      rw [hst]
      rw [extend_lst q1 q2 (by rw [List.length_map, List.length_map, mostLen_eq]; omega) (by simp), uS_set]
      simp -implicitDefEqProofs only [okR_ok, okS_go, thenS_nx, exs_nil, goS_nx]
      refine ⟨⟨_, _, _, _, _, rfl⟩, junk ++ [Obj.lst ((gg r).map pD)], ?_⟩
      congr 1
      simp
  · rintro ρ μ ⟨x, y, z, u, v, rfl⟩ hT
    have e : ((List.range rows).flatMap gg) = opens b rows cols := (opens_flat b rows cols).symm
    have hT : ∃ junk, μ = uS m g ex (rest ++ Obj.lst ((opens b rows cols).map pD) :: junk) := by
      rw [← e]; exact hT
    have hT1 := hT.choose_spec
    generalize hT.choose = junk at hT1
    subst hT1
    generalize hP : rest ++ Obj.lst ((opens b rows cols).map pD) :: junk = P
    have hpre : rest <+: P := ⟨_, hP⟩
    have hcells : P[rest.length]? = some (.lst ((opens b rows cols).map pD)) := by rw [← hP]; simp
    have UP := U.grow hpre
    simp -implicitDefEqProofs only [thenS_nx, okS_go, exs_cons, okS_next, ex_asg, okS_of, ev_lst, evs_nil, bind_ok, List.length_nil, if_pos h0, nw, okR_ok, asgT_nm, List.set_cons_succ, List.set_cons_zero, ex_fr, evI_rng, ev_v, List.getElem?_cons_succ, List.getElem?_cons_zero, getV_some, small_rng (n := many) (by omega), rngW_start, rngW_stop]
    refine for_wp (w := rngW (many : Int)) (DeedI b rows cols P (bD b) (.loc (rest.length + 2)) many) rfl ⟨⟨_, _, _, _, rfl⟩, m, g, ex, [], [], rfl, UP.grow ⟨_, rfl⟩, rfl, fun _ h => by simp at h⟩ (fun _ _ _ _ => rngW_stands _ _) ?_ ?_
    · rintro i zz ρ μ hz ⟨⟨x, y, z, w, rfl⟩, m', g', ex', L, junk2, rfl, U', hL, hD⟩
      have hi := (rngW_at (n := many) hz).1
      have hzz := (rngW_at (n := many) hz).2
      subst hzz
      have hPl : rest.length < P.length := (List.getElem?_eq_some_iff.mp hcells).1
      have c1 : (P ++ Obj.lst (L.map sdD) :: junk2)[rest.length]? = some (.lst ((opens b rows cols).map pD)) := by rw [List.getElem?_append_left hPl]; exact hcells
      have t1 : (P ++ Obj.lst (L.map sdD) :: junk2)[P.length]? = some (.lst (L.map sdD)) := by simp
      generalize hR : P ++ Obj.lst (L.map sdD) :: junk2 = R at U' c1 t1
      have hRP : ∃ t, R = P ++ Obj.lst (L.map sdD) :: t := ⟨junk2, hR.symm⟩
      obtain ⟨r, m1, g1, ex1, R1, et1, r0, r1, A1⟩ := habit_ok (k := k) hk U' (t := tCell) (.inl rfl) (many := ((opens b rows cols).length : Int)) (by omega) (by have := opens_small B; omega)
      have up : ∀ {R R' : Store} {j : Nat} {o : Obj}, R <+: R' → R[j]? = some o → R'[j]? = some o := by
        intro R R' j o h e
        obtain ⟨t, rfl⟩ := h
        rw [List.getElem?_append_left (List.getElem?_eq_some_iff.mp e).1]
        exact e
      have c2 := up A1.pre c1
      have t2 := up A1.pre t1
      have lenC : bfF .len (.loc (rest.length + 2)) (uS m' g' ex' R) = .ok (.int (opens b rows cols).length) (uS m' g' ex' R) := by
        rw [len_lst _ (by rw [uS_at]; exact c1), List.length_map]
      generalize hq : (opens b rows cols).getD r.toNat (0, 0) = q
      have hqm : q ∈ opens b rows cols := by rw [← hq]; exact getD_mem (by omega)
      have ixC : ixF prog.cst (.loc (rest.length + 2)) (.int r) (uS m1 g1 ex1 R1) = .ok (pD q) (uS m1 g1 ex1 R1) := by
        rw [ix_lst _ _ (by rw [uS_at]; exact c2), atIx_nat r0 (by rw [List.length_map]; exact r1), List.getElem?_map, List.getElem?_eq_getElem (by omega), ← hq, List.getD_eq_getElem?_getD, List.getElem?_eq_getElem (by omega)]
        rfl
      obtain ⟨hq1, hq2⟩ := List.mem_filter.mp hqm
      obtain ⟨g1', g2'⟩ := mem_grid.mp hq1
      have hqo : (cell b q.1 q.2).isEmpty = false := by simpa using hq2
      obtain ⟨x1, x2⟩ := cx q.1 q.2 g1' g2'
      obtain ⟨xr, hxr, hcm, _⟩ := cell_mem B g1' g2'
      have kl := K.s xr hxr _ hcm
      have klt := K.l xr hxr _ hcm
      have kpos : 1 ≤ (cell b q.1 q.2).length := by
        cases e : cell b q.1 q.2 with
        | nil => rw [e] at hqo; cases hqo
        | cons _ _ => simp
      obtain ⟨s, m2, g2, ex2, R2, et2, s0, s1, A2⟩ := habit_ok (k := k) hk A1.ok (t := tLetter) (.inr (.inl rfl)) (many := ((cell b q.1 q.2).length : Int)) (by omega) (by omega)
      have t3 := up A2.pre t2
      generalize hkd : cell b (q.1 : Nat) (q.2 : Nat) = kd at *
      have hsm : kd.getD s.toNat 0 ∈ kd := getD_mem (by omega)
      have hat : atIx kd s = some (kd.getD s.toNat 0) := by
        rw [atIx_nat s0 s1, List.getD_eq_getElem?_getD, List.getElem?_eq_getElem (by omega)]
        rfl
      have hkm : kd.length ≤ mostLen := by rw [mostLen_eq]; omega
      have tm : (uS m1 g1 ex1 R1)[P.length + 2]? = some (.lst (L.map sdD)) := by rw [uS_at]; exact t2
      have tm2 : (uS m2 g2 ex2 R2)[P.length + 2]? = some (.lst (L.map sdD)) := by rw [uS_at]; exact t3
      have im := mfOk_lst _ tm
      have ap := append_lst (C := prog.cst) (d := .tup [.int q.1, .int q.2, .str [kd.getD s.toNat 0]]) _ tm2 (by rw [List.length_map, mostLen_eq]; omega)
      have un : ∀ ρ μ, unpackF [4, 7] (pD q) ρ μ = .ok ((ρ.set 4 (some (.int q.1))).set 7 (some (.int q.2))) μ := fun _ _ => rfl
      have et1' : cF k 1002 [.loc 0, .str [99, 101, 108, 108], .int (opens b rows cols).length] (uS m' g' ex' R) = .ok (.int r) (uS m1 g1 ex1 R1) := et1
      have et2' : cF k 1002 [.loc 0, .str [108, 101, 116, 116, 101, 114], .int kd.length] (uS m1 g1 ex1 R1) = .ok (.int s) (uS m2 g2 ex2 R2) := et2
      simp -implicitDefEqProofs only [asgT_nm, okR_ok, List.set_cons_succ, List.set_cons_zero, exs_cons, okS_next, ex_asg, okS_of, ev_ix, ev_v, List.getElem?_cons_succ, List.getElem?_cons_zero, getV_some, bind_ok, ev_call, evs_cons, evs_nil, ev_str, ev_bf, lenC, et1', ixC, asgT_tp, un, okS_go, thenS_nx, x1, x2, ex_ex, ev_meth, mfOk_append, im, if_true, ev_tup, len_str, if_pos hkm, et2', ix_str, hat, Option.map_some, okI_some, List.length_cons, List.length_nil, Nat.zero_add, Nat.reduceAdd, if_pos h3, ap, exs_nil, goS_nx, uS_set]
      have hR2 : ∃ t, R2 = P ++ Obj.lst (L.map sdD) :: t := by
        obtain ⟨t0, h00⟩ := hRP
        obtain ⟨ta, ha⟩ := A1.pre
        obtain ⟨tb, hb⟩ := A2.pre
        refine ⟨t0 ++ ta ++ tb, ?_⟩
        rw [← hb, ← ha, h00]
        simp
      obtain ⟨t, ht⟩ := hR2
      have U6 := A2.ok.set t3 (.lst (L.map sdD ++ [.tup [.int q.1, .int q.2, .str [kd.getD s.toNat 0]]]))
      have e6 : R2.set P.length (.lst (L.map sdD ++ [.tup [.int q.1, .int q.2, .str [kd.getD s.toNat 0]]])) = P ++ Obj.lst ((L ++ [(q.1, q.2, kd.getD s.toNat 0)]).map sdD) :: t := by
        rw [ht]
        simp [sdD]
      rw [e6] at U6 ⊢
      refine ⟨⟨_, _, _, _, rfl⟩, m2, g2, ex2, L ++ [(q.1, q.2, kd.getD s.toNat 0)], t, rfl, U6, by rw [List.length_append, hL]; rfl, fun d hd => ?_⟩
      rcases List.mem_append.mp hd with hd | hd
      · exact hD d hd
      · rw [List.mem_singleton.mp hd]
        exact ⟨g1', g2', by show (cell b (q.1 : Nat) (q.2 : Nat)).isEmpty = false; rw [hkd]; exact hqo, klt _ hsm⟩
    · rintro ρ μ ⟨⟨x, y, z, w, rfl⟩, m', g', ex', L, junk2, rfl, U', hL, hD⟩
      rw [rngW_len] at hL
      have q1 : (uS m' g' ex' (P ++ .lst (L.map sdD) :: junk2))[P.length + 2]? = some (.lst (L.map sdD)) := by rw [uS_at]; simp
      simp -implicitDefEqProofs only [thenS_nx, okS_next, ex_ret, okS_of, ev_bf, ev_v, List.getElem?_cons_succ, List.getElem?_cons_zero, getV_some, bind_ok, tuple_lst _ q1, okR_ok, okS_go, thenS_rt, handQ_rt, exs_cons]
      exact ⟨L, m', g', ex', _, rfl, rfl, ⟨U', hpre.trans ⟨_, rfl⟩⟩, hL, hD⟩
end K82
end
section
set_option Elab.async false
set_option linter.all false
set_option autoImplicit false
set_option maxRecDepth 100000
set_option maxHeartbeats 1000000
namespace K82
open PL
/-! the ways of lights -/
def wayL (b : Board) (rows cols : Nat) (S : Setting) : Nat → Side → List Side
  | 0, _ => []
  | n + 1, s => s :: out S s :: match after b rows cols (out S s) with
    | none => []
    | some t => wayL b rows cols S n t
def way (b : Board) (rows cols : Nat) (S : Setting) (e : Side) : List Side := wayL b rows cols S 300 e
section
variable {b : Board} {rows cols : Nat} {S : Setting}
theorem wayL_last : ∀ (n : Nat) (s m : Side), walk b rows cols S n s = some m → ∃ L, wayL b rows cols S n s = L ++ [m]
  | 0, _, _, h => by cases h
  | n + 1, s, m, h => by
    unfold walk at h
    unfold wayL
    cases e : after b rows cols (out S s) with
    | none => rw [e] at h; cases h; exact ⟨[s], rfl⟩
    | some t =>
      rw [e] at h
      obtain ⟨L, hL⟩ := wayL_last n t m h
      exact ⟨s :: out S s :: L, by simp [hL]⟩
theorem way_last (B : Bok b rows cols) (O : Sok b rows cols S) {e : Side} (he : e ∈ ends b rows cols) : ∃ L, way b rows cols S e = L ++ [mate b rows cols S e] := wayL_last _ _ _ (mate_walk B O he)
theorem wayL_len : ∀ (n : Nat) (s : Side), (wayL b rows cols S n s).length ≤ 2 * n
  | 0, _ => by simp [wayL]
  | n + 1, s => by
    unfold wayL
    cases after b rows cols (out S s) with
    | none => simp; omega
    | some t => have := wayL_len n t; simp; omega
theorem wayL_mem (O : Sok b rows cols S) : ∀ (n : Nat) (s : Side), s ∈ sides b rows cols → ∀ x ∈ wayL b rows cols S n s, x ∈ sides b rows cols
  | 0, _, _, x, h => by simp [wayL] at h
  | n + 1, s, hs, x, h => by
    unfold wayL at h
    rcases List.mem_cons.mp h with rfl | h
    · exact hs
    rcases List.mem_cons.mp h with rfl | h
    · exact out_mem O hs
    cases ea : after b rows cols (out S s) with
    | none => rw [ea] at h; cases h
    | some t =>
      rw [ea] at h
      exact wayL_mem O n t (after_mem (mem_sides.mp (out_mem O hs)).2.2.2 ea) x h
def RunI2 (b : Board) (rows cols : Nat) (S : Setting) (e m : Side) (W : List Side) (n : Nat) (ρ : Env) (μ : Store) : Prop := ∃ (s : Side) (L : List Side) (x y : Option D), ρ = [some (bD b), some (sD S), some (sdD e), some (.loc 0), x, y] ∧ μ = [.lst (L.map sdD ++ [sdD s])] ∧ s ∈ sides b rows cols ∧ walk b rows cols S n s = some m ∧ L.length + 2 * n ≤ 600 ∧ W = L ++ wayL b rows cols S n s
theorem run_way_ok {k : Nat} (hk : 4 ≤ k) (B : Bok b rows cols) (O : Sok b rows cols S) {e : Side} (he : e ∈ ends b rows cols) (μ : Store) :
    cF k 10 [bD b, sD S, sdD e] μ = .ok (.loc μ.length) (μ ++ [.lst ((way b rows cols S e).map sdD)]) := by
  obtain ⟨k, rfl⟩ : ∃ j, k = j + 1 := ⟨k - 1, by omega⟩
  have he' := List.mem_filter.mp he
  have hn : after b rows cols e = none := by simpa using he'.2
  have pe := (mem_sides.mp he'.1).2.2.2
  have hw := mate_walk B O he
  generalize mate b rows cols S e = m at hw
  refine call_L (fn := f_run_from) rfl rfl (by simp [D.dataL, data_b, data_s, D.data, sdD]) (data_sides _) ?_
  have h0 : (1 : Nat) ≤ mostLen := by decide
  simp -implicitDefEqProofs [callB, f_run_from, startE, new_eq, h0]
  refine whl_wp (RunI2 b rows cols S e m (way b rows cols S e)) ?_ N0 300 _ _ (by decide) ⟨e, [], none, none, rfl, rfl, he'.1, hw, by simp, rfl⟩
  rintro n ρ μ ⟨s, L, x, y, rfl, rfl, hs, hwk, hL, hW⟩
  cases n with
  | zero => cases hwk
  | succ n =>
    have po := (mem_sides.mp (out_mem O hs)).2.2.2
    have e1 := fun μ => partner_of_ok (k := k) (by omega) B O hs μ
    have e2 := fun μ => other_side_ok (k := k) (by omega) B po μ
    have l1' : L.length + 1 < 1000000 := by omega
    unfold walk at hwk
    unfold wayL at hW
    cases ea : after b rows cols (out S s) with
    | none =>
      rw [ea] at hwk hW
      cases hwk
      simp -implicitDefEqProofs [ix0, atIx_last, e1, isLst0, append0, l1', e2, ea, oD]
      rw [hW]; simp
    | some t =>
      rw [ea] at hwk hW
      have ht := after_mem po ea
      have pt := (mem_sides.mp ht).2.2.2
      have hne : t ≠ e := by
        rintro rfl
        have := after_inv (out_mem O hs) ea
        rw [hn] at this; cases this
      have l2' : L.length + 1 + 1 < 1000000 := by omega
      have isn : (sdD t).isNon = false := rfl
      simp -implicitDefEqProofs [ix0, atIx_last, e1, isLst0, append0, l1', l2', e2, ea, oD, isn, eq_side _ pt pe, hne]
      exact ⟨n, by omega, t, L ++ [s, out S s], _, _, rfl, by simp, ht, hwk, by simp; omega, by rw [hW]; simp⟩
def WayI2 (b : Board) (rows cols : Nat) (S : Setting) (e m : Side) (W : List Side) (n : Nat) (ρ : Env) (μ : Store) : Prop := ∃ (o : Option Side) (L : List Side) (junk : Store) (y : Option D), ρ = [some (bD b), some (sD S), some (sdD e), some (.loc 0), some (oD o), y] ∧ μ = .lst (L.map sdD) :: junk ∧ L.length + 2 * n ≤ 700 ∧
  ((∃ s, o = some s ∧ s ∈ sides b rows cols ∧ walk b rows cols S n s = some m ∧ W = L ++ wayL b rows cols S n s) ∨ (o = none ∧ W = L))
theorem law_way_list {k : Nat} (hk : 2 ≤ k) (B : Bok b rows cols) (O : Sok b rows cols S) {e : Side} (he : e ∈ ends b rows cols) (μ : Store) :
    cF k 1008 [bD b, sD S, sdD e] μ = .ok (.loc μ.length) (μ ++ [.lst ((way b rows cols S e).map sdD)]) := by
  obtain ⟨k, rfl⟩ : ∃ j, k = j + 1 := ⟨k - 1, by omega⟩
  have he' := List.mem_filter.mp he
  have hw := mate_walk B O he
  generalize mate b rows cols S e = m at hw
  refine call_L (fn := f_law_way) rfl rfl (by simp [D.dataL, data_b, data_s, D.data, sdD]) (data_sides _) ?_
  have h0 : (0 : Nat) ≤ mostLen := by decide
  have h2 : (2 : Nat) ≤ mostLen := by decide
  simp -implicitDefEqProofs [callB, f_law_way, startE, new_eq, h0]
  refine whl_wp (WayI2 b rows cols S e m (way b rows cols S e)) ?_ N0 300 _ _ (by decide) ⟨some e, [], [], none, rfl, rfl, by simp, .inl ⟨e, rfl, he'.1, hw, rfl⟩⟩
  rintro n ρ μ ⟨o, L, junk, y, rfl, rfl, hL, h⟩
  rcases h with ⟨s, rfl, hs, hwk, hW⟩ | ⟨rfl, hW⟩
  · cases n with
    | zero => cases hwk
    | succ n =>
      obtain ⟨a1, a2, a3, a4⟩ := mem_sides.mp hs
      obtain ⟨r, c, p⟩ := s
      simp only at a1 a2 a3 a4
      have hl := O.l r c a1 a2 a3
      have e1 := s_row O.r a1
      have hlen : (rowS S r).length = cols := rowS_len O a1
      have e2 : atIx (rowS S r) (c : Int) = some (letter S r c) := s_at (t := rowS S r) (c := c) (by rw [hlen]; exact a2)
      have hc := B.cs
      have e3 : (rowS S r).length ≤ mostLen := by rw [mostLen_eq]; omega
      have e4 := fun μ => law_joined_ok (k := k) (by omega) hl a4 μ
      have po := (mem_sides.mp (out_mem O hs)).2.2.2
      have e5 := fun μ => law_beyond_ok (k := k) (by omega) B po μ
      have e6 : (.tup [.int r, .int c, .str [joins (letter S r c) p]] : D) = sdD (out S (r, c, p)) := rfl
      have isn : (sdD (r, c, p)).isNon = false := rfl
      have i0 : ∀ μ, ixF prog.cst (sdD (r, c, p)) (.int 0) μ = .ok (.int r) μ := fun _ => rfl
      have i1 : ∀ μ, ixF prog.cst (sdD (r, c, p)) (.int 1) μ = .ok (.int c) μ := fun _ => rfl
      have i2 : ∀ μ, ixF prog.cst (sdD (r, c, p)) (.int 2) μ = .ok (.str [p]) μ := fun _ => rfl
      have isr : ∀ μ, ixF prog.cst (sD S) (.int r) μ = .ok (.str (rowS S r)) μ := fun μ => by
        show okI (atIx (S.map D.str) (r : Int)) μ = _
        rw [e1]; rfl
      have h3 : (3 : Nat) ≤ mostLen := by decide
      have ext : methF prog.cst .extend (.loc 0) [.loc (junk.length + 1)] (.lst (L.map sdD) :: (junk ++ [.lst [sdD (r, c, p), sdD (out S (r, c, p))]])) = .ok .non (.lst (L.map sdD ++ [sdD (r, c, p), sdD (out S (r, c, p))]) :: (junk ++ [.lst [sdD (r, c, p), sdD (out S (r, c, p))]])) := by
        rw [extend_lst (xs := L.map sdD) (ys := [sdD (r, c, p), sdD (out S (r, c, p))]) rfl (by simp) (by rw [List.length_map, mostLen_eq]; simp; omega) (by omega)]
        rfl
      unfold walk at hwk
      unfold wayL at hW
      simp -implicitDefEqProofs only [evT_cmp, ev_v, List.getElem?_cons_zero, List.getElem?_cons_succ, getV_some, ev_non, okR_bind, okR_ok, isn_non, oD, isn]
      simp -implicitDefEqProofs [i0, i1, i2, isr, e2, e3, e4, h3, e6, isLst0, h2, new_eq, ext, e5]
      cases ea : after b rows cols (out S (r, c, p)) with
      | none =>
        rw [ea] at hwk hW
        exact ⟨n, by omega, none, L ++ [(r, c, p), out S (r, c, p)], junk ++ [Obj.lst [sdD (r, c, p), sdD (out S (r, c, p))]], _, rfl, by simp, by simp; omega, .inr ⟨rfl, hW⟩⟩
      | some t =>
        rw [ea] at hwk hW
        exact ⟨n, by omega, some t, L ++ [(r, c, p), out S (r, c, p)], junk ++ [Obj.lst [sdD (r, c, p), sdD (out S (r, c, p))]], _, rfl, by simp, by simp; omega, .inl ⟨t, rfl, after_mem po ea, hwk, by rw [hW]; simp⟩⟩
  · simp -implicitDefEqProofs [oD]
    rw [hW]
end
end K82
end
section
set_option Elab.async false
set_option linter.all false
set_option autoImplicit false
set_option maxRecDepth 100000
set_option maxHeartbeats 1000000
namespace K82
open PL
/-! which things are ends -/
def kindOk : D → Bool
  | .non => true
  | .bl _ => true
  | .int _ => true
  | .str s => decide (s.length ≤ 1000)
  | .tup _ => true
  | _ => false
def isIntD : D → Bool
  | .int _ => true
  | _ => false
def isPtD : D → Bool
  | .str [c] => decide (c ∈ pts)
  | _ => false
def sideV (d : D) : Option (Int × Int × Nat) := match d with
  | .tup [.int r, .int c, .str [p]] => if p ∈ pts then some (r, c, p) else none
  | _ => none
def isSideB (b : Board) (rows cols : Nat) (d : D) : Bool := match sideV d with
  | some (r, c, _) => opn b rows cols r c
  | none => false
def isEndB (b : Board) (rows cols : Nat) (d : D) : Bool := match sideV d with
  | some (r, c, p) => opn b rows cols r c && (after b rows cols (r.toNat, c.toNat, p)).isNone
  | none => false
/-- a thing at μ: data of these kinds, or a list -/
def Thing (d : D) (μ : Store) : Prop := (kindOk d = true ∧ (∀ xs, d = .tup xs → ∀ x ∈ xs, kindOk x = true) ∧ D.data d = true) ∨ ∃ l xs, d = .loc l ∧ μ[l]? = some (.lst xs)
theorem is_whole_ok {k : Nat} (hk : 1 ≤ k) {d : D} (h : kindOk d = true) (hd : D.data d = true) (μ : Store) : cF k 21 [d] μ = .ok (.bl (isIntD d)) μ := by
  obtain ⟨k, rfl⟩ : ∃ j, k = j + 1 := ⟨k - 1, by omega⟩
  refine call_D (fn := f_is_whole) rfl rfl (by simp [D.dataL, hd]) rfl ?_
  cases d <;> first | (simp [kindOk] at h; done) | (simp -implicitDefEqProofs [callB, f_is_whole, startE, isiF, isIntD])
theorem is_point_ok {k : Nat} (hk : 1 ≤ k) {d : D} (h : kindOk d = true) (hd : D.data d = true) (μ : Store) : cF k 20 [d] μ = .ok (.bl (isPtD d)) μ := by
  obtain ⟨k, rfl⟩ : ∃ j, k = j + 1 := ⟨k - 1, by omega⟩
  refine call_D (fn := f_is_point) rfl rfl (by simp [D.dataL, hd]) rfl ?_
  cases d with
  | str s =>
    have hs : s.length ≤ mostLen := by
      have : s.length ≤ 1000 := by simpa [kindOk] using h
      rw [mostLen_eq]; omega
    match s, hs with
    | [], hs => simp -implicitDefEqProofs [callB, f_is_point, startE, isiF, isPtD, hs]
    | [c], hs =>
      have h1 : (1 : Nat) ≤ mostLen := by decide
      have hin : ∀ μ, cmpF prog.cst .inn (.str [c]) (.str [101, 110, 115, 119]) μ = .ok (decide (c ∈ pts)) μ := fun _ => rfl
      simp -implicitDefEqProofs [callB, f_is_point, startE, isiF, isPtD, hs, hin, h1]
    | a :: c :: r, hs =>
      have hne : ¬ ((r.length : Int) + 1 + 1 = 1) := by omega
      have hs' : r.length + 1 + 1 ≤ mostLen := hs
      simp -implicitDefEqProofs [callB, f_is_point, startE, isiF, isPtD, hs', hne]
  | _ => first | (simp [kindOk] at h; done) | (simp -implicitDefEqProofs [callB, f_is_point, startE, isiF, isPtD])
def is3 : D → Bool
  | .tup xs => decide (xs.length = 3)
  | _ => false
theorem is_row_data {k : Nat} (hk : 1 ≤ k) {d : D} (h : kindOk d = true) (hd : D.data d = true) (μ : Store) : cF k 22 [d, .int 3] μ = .ok (.bl (is3 d)) μ := by
  obtain ⟨k, rfl⟩ : ∃ j, k = j + 1 := ⟨k - 1, by omega⟩
  refine call_D (fn := f_is_row) rfl rfl (by simp [D.dataL, hd, D.data]) rfl ?_
  cases d with
  | tup xs =>
    simp -implicitDefEqProofs [callB, f_is_row, startE, isiF, is3]
    by_cases e : xs.length = 3
    · rw [e]; rfl
    · have : ¬ ((xs.length : Int) = 3) := by omega
      simp [e, this]
  | _ => first | (simp [kindOk] at h; done) | (simp -implicitDefEqProofs [callB, f_is_row, startE, isiF, is3])
section
variable {b : Board} {rows cols : Nat}
theorem is_side_data {k : Nat} (hk : 3 ≤ k) (B : Bok b rows cols) {d : D} (h : kindOk d = true) (hx : ∀ xs, d = .tup xs → ∀ x ∈ xs, kindOk x = true) (hd : D.data d = true) (μ : Store) : cF k 23 [bD b, d] μ = .ok (.bl (isSideB b rows cols d)) μ := by
  obtain ⟨k, rfl⟩ : ∃ j, k = j + 1 := ⟨k - 1, by omega⟩
  refine call_D (fn := f_is_side) rfl rfl (by simp [D.dataL, hd, data_b]) rfl ?_
  have e1 := fun μ => is_row_data (k := k) (by omega) h hd μ
  have tb : ∀ (x : Bool) (μ : Store), truthF (.bl x) μ = .ok x μ := fun _ _ => rfl
  have no : ∀ (f : Bool), is3 d = false → isSideB b rows cols d = false → okR (callB prog N0 (cF k) f_is_side [bD b, d] []) fun d' _ => d' = .bl (isSideB b rows cols d) := by
    intro f h3 h4
    rw [h3] at e1
    simp -implicitDefEqProofs [callB, f_is_side, startE, e1, tb, h4]
  match d, h, hx, hd, e1, no with
  | .tup [x, y, z], h, hx, hd, e1, no =>
    have hd' : D.dataL [x, y, z] = true := hd
    simp only [D.dataL, Bool.and_eq_true, Bool.and_true] at hd'
    have e2 := fun μ => is_whole_ok (k := k) (by omega) (hx _ rfl x (by simp)) hd'.1 μ
    have e3 := fun μ => is_whole_ok (k := k) (by omega) (hx _ rfl y (by simp)) hd'.2.1 μ
    have e4 := fun μ => is_point_ok (k := k) (by omega) (hx _ rfl z (by simp)) hd'.2.2 μ
    have a0 : atIx [x, y, z] 0 = some x := rfl
    have a1 : atIx [x, y, z] 1 = some y := rfl
    have a2 : atIx [x, y, z] 2 = some z := rfl
    have e1' : ∀ μ, cF k 22 [.tup [x, y, z], .int 3] μ = .ok (.bl true) μ := e1
    by_cases c1 : isIntD x = true
    · by_cases c2 : isIntD y = true
      · by_cases c3 : isPtD z = true
        · obtain ⟨r, rfl⟩ : ∃ r, x = .int r := by cases x <;> first | exact ⟨_, rfl⟩ | cases c1
          obtain ⟨c, rfl⟩ : ∃ c, y = .int c := by cases y <;> first | exact ⟨_, rfl⟩ | cases c2
          obtain ⟨p, rfl, hp⟩ : ∃ p, z = .str [p] ∧ p ∈ pts := by
            match z, c3 with
            | .str [p], c3 => exact ⟨p, rfl, by simpa [isPtD] using c3⟩
          have e5 := fun μ => is_open_ok (k := k) (by omega) B r c μ
          have es : isSideB b rows cols (.tup [.int r, .int c, .str [p]]) = opn b rows cols r c := by simp [isSideB, sideV, hp]
          rw [es]
          simp -implicitDefEqProofs [callB, f_is_side, startE, e1', tb, a0, a1, a2, e2, e3, e4, c1, c2, c3, e5]
        · have c3 : isPtD z = false := by simpa using c3
          have es : isSideB b rows cols (.tup [x, y, z]) = false := by
            unfold isSideB sideV
            split
            · rename_i r c p e
              split at e
              · rename_i p' h1
                simp at h1
                obtain ⟨_, _, rfl⟩ := h1
                split at e
                · rename_i hp; simp [isPtD, hp] at c3
                · cases e
              · cases e
            · rfl
          rw [es]
          simp -implicitDefEqProofs [callB, f_is_side, startE, e1', tb, a0, a1, a2, e2, e3, e4, c1, c2, c3]
      · have c2 : isIntD y = false := by simpa using c2
        have es : isSideB b rows cols (.tup [x, y, z]) = false := by
          have : sideV (.tup [x, y, z]) = none := by
            unfold sideV
            split
            · rename_i h1; simp at h1; obtain ⟨_, rfl, _⟩ := h1; cases c2
            · rfl
          unfold isSideB; rw [this]
        rw [es]
        simp -implicitDefEqProofs [callB, f_is_side, startE, e1', tb, a0, a1, e2, e3, c1, c2]
    · have c1 : isIntD x = false := by simpa using c1
      have es : isSideB b rows cols (.tup [x, y, z]) = false := by
        have : sideV (.tup [x, y, z]) = none := by
          unfold sideV
          split
          · rename_i h1; simp at h1; obtain ⟨rfl, _, _⟩ := h1; cases c1
          · rfl
        unfold isSideB; rw [this]
      rw [es]
      simp -implicitDefEqProofs [callB, f_is_side, startE, e1', tb, a0, e2, c1]
  | .tup [], h, hx, hd, e1, no => exact no true rfl rfl
  | .tup [_], h, hx, hd, e1, no => exact no true rfl (by simp [isSideB, sideV])
  | .tup [_, _], h, hx, hd, e1, no => exact no true rfl (by simp [isSideB, sideV])
  | .tup (_ :: _ :: _ :: _ :: r), h, hx, hd, e1, no => exact no true (by simp [is3]) (by simp [isSideB, sideV])
  | .non, h, hx, hd, e1, no => exact no true rfl rfl
  | .bl _, h, hx, hd, e1, no => exact no true rfl rfl
  | .int _, h, hx, hd, e1, no => exact no true rfl rfl
  | .str _, h, hx, hd, e1, no => exact no true rfl rfl
theorem is_end_data {k : Nat} (hk : 4 ≤ k) (B : Bok b rows cols) {d : D} (h : kindOk d = true) (hx : ∀ xs, d = .tup xs → ∀ x ∈ xs, kindOk x = true) (hd : D.data d = true) (μ : Store) : cF k 24 [bD b, d] μ = .ok (.bl (isEndB b rows cols d)) μ := by
  obtain ⟨k, rfl⟩ : ∃ j, k = j + 1 := ⟨k - 1, by omega⟩
  refine call_D (fn := f_is_end) rfl rfl (by simp [D.dataL, hd, data_b]) rfl ?_
  have e1 := fun μ => is_side_data (k := k) (by omega) B h hx hd μ
  by_cases hs : isSideB b rows cols d = true
  · have hs0 := hs
    unfold isSideB at hs
    have hv : ∃ r c p, d = .tup [.int r, .int c, .str [p]] ∧ p ∈ pts ∧ opn b rows cols r c = true ∧ sideV d = some (r, c, p) := by
      cases e : sideV d with
      | none => rw [e] at hs; cases hs
      | some q =>
        obtain ⟨r, c, p⟩ := q
        rw [e] at hs
        have e' := e
        unfold sideV at e
        split at e
        · rename_i r' c' p'
          split at e
          · rename_i hp; cases e; exact ⟨r, c, p, rfl, hp, hs, rfl⟩
          · cases e
        · cases e
    obtain ⟨r, c, p, rfl, hp, ho, hv⟩ := hv
    obtain ⟨o1, o2, o3, o4, o5⟩ := opn_in ho
    have er : ((r.toNat : Nat) : Int) = r := by omega
    have ec : ((c.toNat : Nat) : Int) = c := by omega
    have e2 := fun μ => other_side_ok (k := k) (by omega) B (s := (r.toNat, c.toNat, p)) (mem_pts.mp hp) μ
    have es : sdD (r.toNat, c.toNat, p) = .tup [.int r, .int c, .str [p]] := by
      unfold sdD; simp only; rw [er, ec]
    rw [es] at e2
    have ee : isEndB b rows cols (.tup [.int r, .int c, .str [p]]) = (after b rows cols (r.toNat, c.toNat, p)).isNone := by
      unfold isEndB; rw [hv]; simp [ho]
    rw [ee]
    simp -implicitDefEqProofs [callB, f_is_end, startE, e1, hs0, e2, isNon_oD]
  · have hs : isSideB b rows cols d = false := by simpa using hs
    have ee : isEndB b rows cols d = false := by
      unfold isSideB at hs
      unfold isEndB
      cases e : sideV d with
      | none => rfl
      | some q => obtain ⟨r, c, p⟩ := q; rw [e] at hs; simp only at hs ⊢; rw [hs]; rfl
    rw [ee]
    simp -implicitDefEqProofs [callB, f_is_end, startE, e1, hs]
theorem is_end_list {k : Nat} (hk : 4 ≤ k) {l : Nat} {xs : List D} {μ : Store} (h : μ[l]? = some (.lst xs)) : cF k 24 [bD b, .loc l] μ = .ok (.bl false) μ := by
  obtain ⟨k, rfl⟩ : ∃ j, k = j + 3 := ⟨k - 3, by omega⟩
  have i1 : isiF (.loc l) .tuple μ = .ok false μ := by unfold isiF; simp only [h]; rfl
  have tb : ∀ (x : Bool) (μ : Store), truthF (.bl x) μ = .ok x μ := fun _ _ => rfl
  have hd : D.dataL [D.loc l, .int 3] = false := rfl
  have hd2 : D.dataL [bD b, .loc l] = false := by simp [D.dataL, data_b, D.data]
  have r1 : cF (k + 1) 22 [.loc l, .int 3] μ = .ok (.bl false) μ := by
    rw [call_loc (fn := f_is_row) rfl rfl hd]
    simp -implicitDefEqProofs [callB, f_is_row, startE, i1]
  have r2 : cF (k + 2) 23 [bD b, .loc l] μ = .ok (.bl false) μ := by
    rw [call_loc (fn := f_is_side) rfl rfl hd2]
    simp -implicitDefEqProofs [callB, f_is_side, startE, r1, tb]
  rw [call_loc (fn := f_is_end) rfl rfl hd2]
  simp -implicitDefEqProofs [callB, f_is_end, startE, r2]
/-- an end is one -/
theorem isEndB_end {e : Side} (he : e ∈ ends b rows cols) : isEndB b rows cols (sdD e) = true := by
  have he' := List.mem_filter.mp he
  obtain ⟨h1, h2, h3, h4⟩ := mem_sides.mp he'.1
  obtain ⟨r, c, p⟩ := e
  have hp : p ∈ pts := mem_pts.mpr h4
  have ho : opn b rows cols (r : Int) (c : Int) = true := by
    unfold opn inB
    simp only at h1 h2 h3
    simp [h1, h2, h3]
  unfold isEndB sideV sdD
  simp only [hp, if_true, ho, Bool.true_and, Int.toNat_natCast]
  exact he'.2
theorem kindOk_side (s : Side) : kindOk (sdD s) = true ∧ (∀ xs, sdD s = .tup xs → ∀ x ∈ xs, kindOk x = true) ∧ D.data (sdD s) = true := by
  refine ⟨rfl, fun xs e x hx => ?_, rfl⟩
  cases e
  simp at hx
  rcases hx with rfl | rfl | rfl <;> rfl
end
end K82
end
section
set_option Elab.async false
set_option linter.all false
set_option autoImplicit false
set_option maxRecDepth 100000
set_option maxHeartbeats 1000000
namespace K82
open PL
/-! errors that fly; the mates along -/
theorem of_exc {α : Type} (ρ : Env) (x : Exc) (μ : Store) (f : α → Store → SRes) : SRes.of ρ (.exc x μ) f = .exc x ρ μ := rfl
theorem bind_exc {α β : Type} (x : Exc) (μ : Store) (f : α → Store → Res β) : (Res.exc x μ : Res α).bind f = .exc x μ := rfl
theorem next_exc (x : Exc) (ρ : Env) (μ : Store) (f : Env → Store → SRes) : (SRes.exc x ρ μ).next f = .exc x ρ μ := rfl
theorem handed_exc (x : Exc) (ρ : Env) (μ : Store) : handed (.exc x ρ μ) = .exc x μ := rfl
theorem ex_rse {cf : CF} {N : Nat} (ms ks : List Nat) (es : Es) (ρ : Env) (μ : Store) : ex prog.cst cf N (.rse ms ks es) ρ μ = SRes.of ρ (evs prog.cst cf es ρ μ) fun ds μ => if ds.length = ks.length ∧ ks.length ≤ 900 then .exc ⟨ms, ks, ds⟩ ρ μ else .stuck := rfl
/-- the word end of BadStep -/
def XE : Exc := ⟨[2, 1, 0], [0], [.str [101, 110, 100]]⟩
theorem call_exc {k f : Nat} {fn : Fn} {ds : List D} {μ μ' : Store} {x : Exc} (hf : prog.fns f = some fn) (hn : ds.length = fn.np) (h : callB prog N0 (cF k) fn ds [] = .exc x μ') (hx : D.dataL x.fs = true) (hd : D.dataL ds = true) : cF (k + 1) f ds μ = .exc x μ := by
  rw [call_eq hf hn, if_pos hd, h]
  show (if D.dataL x.fs then _ else _) = _
  rw [if_pos hx]
section
variable {b : Board} {rows cols : Nat}
/-- a thing that is no end: data, or a list -/
def NoEnd (b : Board) (rows cols : Nat) (d : D) (μ : Store) : Prop := (kindOk d = true ∧ (∀ xs, d = .tup xs → ∀ x ∈ xs, kindOk x = true) ∧ D.data d = true ∧ isEndB b rows cols d = false) ∨ ∃ l xs, d = .loc l ∧ μ[l]? = some (.lst xs)
theorem look_end {k : Nat} (hk : 5 ≤ k) (B : Bok b rows cols) {e : Side} (he : e ∈ ends b rows cols) (μ : Store) : cF k 25 [bD b, sdD e] μ = .ok .non μ := by
  obtain ⟨k, rfl⟩ : ∃ j, k = j + 1 := ⟨k - 1, by omega⟩
  refine call_D (fn := f_look_for_end) rfl rfl (by simp [D.dataL, data_b, D.data, sdD]) rfl ?_
  obtain ⟨h1, h2, h3⟩ := kindOk_side e
  have e1 := fun μ => is_end_data (k := k) (by omega) B h1 h2 h3 μ
  rw [isEndB_end he] at e1
  have tb : ∀ (x : Bool) (μ : Store), truthF (.bl x) μ = .ok x μ := fun _ _ => rfl
  simp -implicitDefEqProofs [callB, f_look_for_end, startE, e1, tb]
theorem look_no {k : Nat} (hk : 5 ≤ k) (B : Bok b rows cols) {d : D} {μ : Store} (h : NoEnd b rows cols d μ) : cF k 25 [bD b, d] μ = .exc XE μ := by
  obtain ⟨k, rfl⟩ : ∃ j, k = j + 1 := ⟨k - 1, by omega⟩
  have tb : ∀ (x : Bool) (μ : Store), truthF (.bl x) μ = .ok x μ := fun _ _ => rfl
  rcases h with ⟨h1, h2, h3, h4⟩ | ⟨l, xs, rfl, hl⟩
  · have e1 := fun μ => is_end_data (k := k) (by omega) B h1 h2 h3 μ
    rw [h4] at e1
    refine call_exc (fn := f_look_for_end) (μ' := []) rfl rfl ?_ rfl (by simp [D.dataL, data_b, h3])
    simp -implicitDefEqProofs [callB, f_look_for_end, startE, e1, tb, ex_rse, next_exc, handed_exc]
    rfl
  · have e1 := is_end_list (b := b) (k := k) (by omega) hl
    rw [call_loc (fn := f_look_for_end) rfl rfl (by simp [D.dataL, data_b, D.data])]
    simp -implicitDefEqProofs [callB, f_look_for_end, startE, e1, tb, ex_rse, next_exc, handed_exc]
    rfl
end
end K82
end
section
set_option Elab.async false
set_option linter.all false
set_option autoImplicit false
set_option maxRecDepth 100000
set_option maxHeartbeats 1000000
namespace K82
open PL
/-! mates along, first meetings -/
section
variable {b : Board} {rows cols : Nat} {S : Setting}
def mates (b : Board) (rows cols : Nat) (S : Setting) (ds : List Side) (e : Side) : List Side := (runL S ds).map fun T => mate b rows cols T e
theorem mates_len (ds : List Side) (e : Side) : (mates b rows cols S ds e).length = ds.length + 1 := by unfold mates; rw [List.length_map, runL_len]
theorem mates_end (B : Bok b rows cols) (O : Sok b rows cols S) {ds : List Side} (hd : ∀ d ∈ ds, Dok b rows cols d) {e : Side} (he : e ∈ ends b rows cols) : ∀ m ∈ mates b rows cols S ds e, m ∈ ends b rows cols := by
  intro m hm
  obtain ⟨T, hT, rfl⟩ := List.mem_map.mp hm
  exact mate_end B (runL_sok O hd T hT) he
theorem mates_ok {k : Nat} (hk : 6 ≤ k) (B : Bok b rows cols) (O : Sok b rows cols S) {ds : List Side} (hd : ∀ d ∈ ds, Dok b rows cols d) (hl : ds.length ≤ 500) {e : Side} (he : e ∈ ends b rows cols) (μ : Store) :
    cF k 27 [bD b, sD S, dsD ds, sdD e] μ = .ok (.ftup ((mates b rows cols S ds e).map sdD)) μ := by
  obtain ⟨k, rfl⟩ : ∃ j, k = j + 1 := ⟨k - 1, by omega⟩
  refine call_D (fn := f_mates_along) rfl rfl (by simp [D.dataL, data_b, data_s, data_ds, D.data, sdD]) (data_sides _) ?_
  have e1 := fun μ => look_end (k := k) (by omega) B he μ
  have e2 := fun μ => run_deeds_ok (k := k) (by omega) B O hd hl μ
  simp -implicitDefEqProofs [callB, f_mates_along, startE, e1, e2]
  refine comp_wp (w := .row ((runL S ds).map sD)) (xs := (runL S ds).map sD) (fun i μ => ∃ junk, μ = .lst ((((runL S ds).take i).map fun T => mate b rows cols T e).map sdD) :: junk) rfl ⟨[], rfl⟩ (fun _ _ _ => trivial) ?_ ?_
  · rintro i x μ hx ⟨junk, rfl⟩
    rw [List.getElem?_map] at hx
    cases ea : (runL S ds)[i]? with
    | none => rw [ea] at hx; cases hx
    | some T =>
      rw [ea] at hx
      have : sD T = x := Option.some.inj hx
      subst this
      have hi : i < (runL S ds).length := (List.getElem?_eq_some_iff.mp ea).1
      have ht : (runL S ds).take (i + 1) = (runL S ds).take i ++ [T] := by rw [List.take_add_one, ea]; rfl
      have OT := runL_sok O hd T (List.mem_of_getElem? ea)
      have e3 := fun μ => run_way_ok (k := k) (by omega) B OT he μ
      obtain ⟨L, hL⟩ := way_last B OT he
      have e4 : ∀ μ : Store, ixF prog.cst (.loc μ.length) (.int (-1)) (μ ++ [.lst ((way b rows cols T e).map sdD)]) = .ok (sdD (mate b rows cols T e)) (μ ++ [.lst ((way b rows cols T e).map sdD)]) := by
        intro μ
        rw [ix_lst (l := μ.length) (xs := (way b rows cols T e).map sdD) _ _ (by simp), hL, List.map_append, List.map_cons, List.map_nil, atIx_last]
        rfl
      rw [ht]
      rw [runL_len] at hi
      simp -implicitDefEqProofs [wipeE, e3]
      have e4' := e4 (.lst ((((runL S ds).take i).map fun T => mate b rows cols T e).map sdD) :: junk)
      simp at e4'
      rw [e4']
      simp -implicitDefEqProofs
      rw [mostLen_eq]; omega
  · rintro μ ⟨junk, rfl⟩
    rw [List.length_map, List.take_of_length_le (Nat.le_refl _)]
    rfl
theorem mates_no {k : Nat} (hk : 6 ≤ k) (B : Bok b rows cols) {ds : List Side} {d : D} {μ : Store} (h : NoEnd b rows cols d μ) :
    cF k 27 [bD b, sD S, dsD ds, d] μ = .exc XE μ := by
  obtain ⟨k, rfl⟩ : ∃ j, k = j + 1 := ⟨k - 1, by omega⟩
  rcases h with h | ⟨l, xs, rfl, hl⟩
  · have e1 : cF k 25 [bD b, d] [] = .exc XE [] := look_no (by omega) B (.inl h)
    refine call_exc (fn := f_mates_along) (μ' := []) rfl rfl ?_ rfl (by simp [D.dataL, data_b, data_s, data_ds, h.2.2.1])
    simp -implicitDefEqProofs [callB, f_mates_along, startE, e1, of_exc, next_exc, handed_exc]
  · have e1 : cF k 25 [bD b, .loc l] μ = .exc XE μ := look_no (by omega) B (.inr ⟨l, xs, rfl, hl⟩)
    rw [call_loc (fn := f_mates_along) rfl rfl (by simp [D.dataL, data_b, data_s, data_ds, D.data])]
    simp -implicitDefEqProofs [callB, f_mates_along, startE, e1, of_exc, next_exc, handed_exc]
/-- the first place of an end in a row, none -/
def firstD (ms : List Side) (o : Side) : D := match ms.findIdx? (fun m => decide (m = o)) with
  | some i => .int i
  | none => .non
theorem data_first (ms : List Side) (o : Side) : D.data (firstD ms o) = true := by unfold firstD; cases ms.findIdx? _ <;> rfl
theorem any_side (ms : List Side) (o : Side) : (ms.map sdD).any (fun z => deq z (sdD o)) = (ms.findIdx? (fun m => decide (m = o))).isSome := by
  induction ms with
  | nil => rfl
  | cons m ms ih =>
    rw [List.map_cons, List.any_cons, ih, List.findIdx?_cons, deq_side]
    by_cases h : m = o
    · simp [h]
    · simp [h]
theorem find_side (ms : List Side) (o : Side) : (ms.map sdD).findIdx? (fun z => deq z (sdD o)) = ms.findIdx? (fun m => decide (m = o)) := by
  induction ms with
  | nil => rfl
  | cons m ms ih =>
    rw [List.map_cons, List.findIdx?_cons, List.findIdx?_cons, deq_side, ih]
theorem plainL_sides : ∀ {ms : List Side}, (∀ m ∈ ms, isPt m.2.2) → D.plainL (ms.map sdD) = true ∧ D.depthL (ms.map sdD) ≤ 2
  | [], _ => ⟨rfl, by simp [D.depthL]⟩
  | m :: ms, h => by
    obtain ⟨i1, i2⟩ := plainL_sides fun x hx => h x (List.mem_cons_of_mem _ hx)
    have := eqOk_side (h m (List.mem_cons_self ..))
    unfold D.eqOk at this
    simp at this
    have hd : D.depth (sdD m) = 1 := rfl
    refine ⟨by rw [List.map_cons, D.plainL, this.1, i1]; rfl, ?_⟩
    rw [List.map_cons, D.depthL, hd]
    omega
theorem eqOk_sides {ms : List Side} (h : ∀ m ∈ ms, isPt m.2.2) : D.eqOk (.tup (ms.map sdD)) = true := by
  obtain ⟨i1, i2⟩ := plainL_sides h
  unfold D.eqOk
  rw [D.plain, i1, D.depth]
  simp
  omega
theorem in_ftup {ms : List Side} (h : ∀ m ∈ ms, isPt m.2.2) {o : Side} (ho : isPt o.2.2) (μ : Store) : cmpF prog.cst .inn (sdD o) (.ftup (ms.map sdD)) μ = .ok (ms.findIdx? (fun m => decide (m = o))).isSome μ := by
  show (if D.eqOk (sdD o) && D.eqOk (.tup (ms.map sdD)) then Res.ok ((ms.map sdD).any fun z => deq z (sdD o)) μ else .stuck) = _
  rw [eqOk_side ho, eqOk_sides h, any_side]; rfl
theorem index_ftup {ms : List Side} (h : ∀ m ∈ ms, isPt m.2.2) {o : Side} (ho : isPt o.2.2) {i : Nat} (hi : ms.findIdx? (fun m => decide (m = o)) = some i) (μ : Store) : methF prog.cst .indexT (.ftup (ms.map sdD)) [sdD o] μ = .ok (.int i) μ := by
  show (if D.eqOk (sdD o) && D.eqOk (.tup (ms.map sdD)) then (match (ms.map sdD).findIdx? fun z => deq z (sdD o) with
    | some i => Res.ok (D.int i) μ
    | none => .stuck) else .stuck) = _
  rw [eqOk_side ho, eqOk_sides h, find_side, hi]; rfl
theorem in_lst {ms : List Side} (h : ∀ m ∈ ms, isPt m.2.2) {o : Side} (ho : isPt o.2.2) {μ : Store} {l : Nat} (hl : μ[l]? = some (.lst (ms.map sdD))) : cmpF prog.cst .inn (sdD o) (.loc l) μ = .ok (ms.findIdx? (fun m => decide (m = o))).isSome μ := by
  show inF prog.cst (sdD o) (.loc l) μ = _
  unfold inF
  simp only [hl]
  rw [eqOk_side ho, eqOk_sides h, any_side]; rfl
theorem index_lst {ms : List Side} (h : ∀ m ∈ ms, isPt m.2.2) {o : Side} (ho : isPt o.2.2) {i : Nat} (hi : ms.findIdx? (fun m => decide (m = o)) = some i) {μ : Store} {l : Nat} (hl : μ[l]? = some (.lst (ms.map sdD))) : methF prog.cst .indexL (.loc l) [sdD o] μ = .ok (.int i) μ := by
  have e : listF (.loc l) μ = some (ms.map sdD) := by unfold listF; simp only [hl]
  show (match listF (.loc l) μ with
    | some xs => if D.eqOk (sdD o) && D.eqOk (.tup xs) then (match xs.findIdx? fun z => deq z (sdD o) with
      | some i => Res.ok (D.int i) μ
      | none => .stuck) else .stuck
    | none => .stuck) = _
  rw [e]
  simp only
  rw [eqOk_side ho, eqOk_sides h, find_side, hi]; rfl
theorem first_ok {k : Nat} (hk : 7 ≤ k) (B : Bok b rows cols) (O : Sok b rows cols S) {ds : List Side} (hd : ∀ d ∈ ds, Dok b rows cols d) (hl : ds.length ≤ 500) {e o : Side} (he : e ∈ ends b rows cols) (ho : o ∈ ends b rows cols) (μ : Store) :
    cF k 28 [bD b, sD S, dsD ds, sdD e, sdD o] μ = .ok (firstD (mates b rows cols S ds e) o) μ := by
  obtain ⟨k, rfl⟩ : ∃ j, k = j + 1 := ⟨k - 1, by omega⟩
  refine call_D (fn := f_first_meeting) rfl rfl (by simp [D.dataL, data_b, data_s, data_ds, D.data, sdD]) (data_first _ _) ?_
  have e1 := fun μ => look_end (k := k) (by omega) B he μ
  have e2 := fun μ => look_end (k := k) (by omega) B ho μ
  have e3 := fun μ => mates_ok (k := k) (by omega) B O hd hl he μ
  have hm : ∀ m ∈ mates b rows cols S ds e, isPt m.2.2 := fun m hm => end_pt (mates_end B O hd he m hm)
  have e4 := fun μ => in_ftup hm (end_pt ho) μ
  have mk : ∀ μ, mfOk .indexT (.ftup ((mates b rows cols S ds e).map sdD)) μ = true := fun _ => rfl
  unfold firstD
  cases hi : (mates b rows cols S ds e).findIdx? (fun m => decide (m = o)) with
  | none =>
    rw [hi] at e4
    simp -implicitDefEqProofs [callB, f_first_meeting, startE, e1, e2, e3, e4]
  | some i =>
    rw [hi] at e4
    have e5 := fun μ => index_ftup hm (end_pt ho) hi μ
    simp -implicitDefEqProofs [callB, f_first_meeting, startE, e1, e2, e3, e4, mk, e5]
theorem first_no1 {k : Nat} (hk : 7 ≤ k) (B : Bok b rows cols) {ds : List Side} {d : D} {o : Side} {μ : Store} (h : NoEnd b rows cols d μ) :
    cF k 28 [bD b, sD S, dsD ds, d, sdD o] μ = .exc XE μ := by
  obtain ⟨k, rfl⟩ : ∃ j, k = j + 1 := ⟨k - 1, by omega⟩
  rcases h with h | ⟨l, xs, rfl, hl⟩
  · have e1 : cF k 25 [bD b, d] [] = .exc XE [] := look_no (by omega) B (.inl h)
    refine call_exc (fn := f_first_meeting) (μ' := []) rfl rfl ?_ rfl (by simp [D.dataL, data_b, data_s, data_ds, h.2.2.1, sdD, D.data])
    simp -implicitDefEqProofs [callB, f_first_meeting, startE, e1, of_exc, next_exc, handed_exc]
  · have e1 : cF k 25 [bD b, .loc l] μ = .exc XE μ := look_no (by omega) B (.inr ⟨l, xs, rfl, hl⟩)
    rw [call_loc (fn := f_first_meeting) rfl rfl (by simp [D.dataL, data_b, data_s, data_ds, D.data, sdD])]
    simp -implicitDefEqProofs [callB, f_first_meeting, startE, e1, of_exc, next_exc, handed_exc]
theorem first_no2 {k : Nat} (hk : 7 ≤ k) (B : Bok b rows cols) {ds : List Side} {d : D} {e : Side} (he : e ∈ ends b rows cols) {μ : Store} (h : NoEnd b rows cols d μ) :
    cF k 28 [bD b, sD S, dsD ds, sdD e, d] μ = .exc XE μ := by
  obtain ⟨k, rfl⟩ : ∃ j, k = j + 1 := ⟨k - 1, by omega⟩
  have e2 := fun μ => look_end (k := k) (by omega) B he μ
  rcases h with h | ⟨l, xs, rfl, hl⟩
  · have e1 : cF k 25 [bD b, d] [] = .exc XE [] := look_no (by omega) B (.inl h)
    refine call_exc (fn := f_first_meeting) (μ' := []) rfl rfl ?_ rfl (by simp [D.dataL, data_b, data_s, data_ds, h.2.2.1, sdD, D.data])
    simp -implicitDefEqProofs [callB, f_first_meeting, startE, e1, e2, of_exc, next_exc, handed_exc]
  · have e1 : cF k 25 [bD b, .loc l] μ = .exc XE μ := look_no (by omega) B (.inr ⟨l, xs, rfl, hl⟩)
    rw [call_loc (fn := f_first_meeting) rfl rfl (by simp [D.dataL, data_b, data_s, data_ds, D.data, sdD])]
    simp -implicitDefEqProofs [callB, f_first_meeting, startE, e1, e2, of_exc, next_exc, handed_exc]
end
end K82
end
section
set_option Elab.async false
set_option linter.all false
set_option autoImplicit false
set_option maxRecDepth 100000
set_option maxHeartbeats 1000000
namespace K82
open PL
/-! law_same, of a value and its plain form -/
mutual
def nice2 : D → Bool
  | .non => true
  | .bl _ => true
  | .int _ => true
  | .str _ => true
  | .tup xs => nice2L xs
  | .ftup xs => nice2L xs
  | _ => false
def nice2L : List D → Bool
  | [] => true
  | x :: xs => nice2 x && nice2L xs
end
mutual
def nod2 : D → Nat
  | .tup xs => nod2L xs + 1
  | .ftup xs => nod2L xs + 1
  | _ => 1
def nod2L : List D → Nat
  | [] => 0
  | x :: xs => nod2 x + nod2L xs
end
mutual
/-- the plain form -/
def er : D → D
  | .tup xs => .tup (erL xs)
  | .ftup xs => .tup (erL xs)
  | d => d
def erL : List D → List D
  | [] => []
  | x :: xs => er x :: erL xs
end
theorem erL_map : ∀ xs : List D, erL xs = xs.map er
  | [] => rfl
  | x :: xs => by rw [erL, erL_map xs]; rfl
theorem nod2_pos (d : D) : 1 ≤ nod2 d := by cases d <;> simp [nod2]
theorem nod2L_len : ∀ xs : List D, xs.length ≤ nod2L xs
  | [] => Nat.le_refl _
  | x :: xs => by
    rw [List.length_cons, nod2L]
    have := nod2_pos x
    have := nod2L_len xs
    omega
theorem nod2L_app : ∀ xs ys : List D, nod2L (xs ++ ys) = nod2L xs + nod2L ys
  | [], ys => by simp [nod2L]
  | x :: xs, ys => by rw [List.cons_append, nod2L, nod2L, nod2L_app xs ys]; omega
theorem nice2L_app : ∀ xs ys : List D, nice2L (xs ++ ys) = (nice2L xs && nice2L ys)
  | [], ys => by simp [nice2L]
  | x :: xs, ys => by rw [List.cons_append, nice2L, nice2L, nice2L_app xs ys, Bool.and_assoc]
mutual
theorem data_er : ∀ d : D, nice2 d = true → D.data d = true ∧ D.data (er d) = true
  | .non, _ => ⟨rfl, rfl⟩
  | .bl _, _ => ⟨rfl, rfl⟩
  | .int _, _ => ⟨rfl, rfl⟩
  | .str _, _ => ⟨rfl, rfl⟩
  | .tup xs, h => by
    rw [nice2] at h
    obtain ⟨h1, h2⟩ := dataL_er xs h
    exact ⟨h1, h2⟩
  | .ftup xs, h => by
    rw [nice2] at h
    obtain ⟨h1, h2⟩ := dataL_er xs h
    exact ⟨h1, h2⟩
  | .rol _, h => by cases h
  | .ktp _, h => by cases h
  | .loc _, h => by cases h
  | .cst _, h => by cases h
  | .err _ _ _, h => by cases h
theorem dataL_er : ∀ xs : List D, nice2L xs = true → D.dataL xs = true ∧ D.dataL (erL xs) = true
  | [], _ => ⟨rfl, rfl⟩
  | x :: xs, h => by
    rw [nice2L, Bool.and_eq_true] at h
    obtain ⟨h1, h2⟩ := data_er x h.1
    obtain ⟨h3, h4⟩ := dataL_er xs h.2
    exact ⟨by rw [D.dataL, h1, h3]; rfl, by rw [erL, D.dataL, h2, h4]; rfl⟩
end
def twoE (d : D) : D := .tup [d, er d]
def SameI2 (t d : D) (n : Nat) (ρ : Env) (μ : Store) : Prop := ∃ (L : List D) (x y z : Option D), ρ = [some t, some d, some (.loc 0), x, y, z] ∧ μ = [.lst (L.map twoE)] ∧ nice2L L = true ∧ nod2L L = n ∧ n ≤ 50000
theorem law_same2 {k : Nat} (hk : 1 ≤ k) {d : D} (hd : nice2 d = true) (hn : nod2 d ≤ 50000) (μ : Store) : cF k 1009 [d, er d] μ = .ok (.bl true) μ := by
  obtain ⟨k, rfl⟩ : ∃ j, k = j + 1 := ⟨k - 1, by omega⟩
  refine call_D (fn := f_law_same) rfl rfl (by simp [D.dataL, (data_er d hd).1, (data_er d hd).2]) rfl ?_
  have h2 : (2 : Nat) ≤ mostLen := by decide
  have h1 : (1 : Nat) ≤ mostLen := by decide
  simp -implicitDefEqProofs [callB, f_law_same, startE, new_eq, h1, h2]
  refine whl_wp (SameI2 d (er d)) ?_ N0 (nod2 d) _ _ (Nat.lt_of_le_of_lt hn (by decide)) ⟨[d], none, none, none, rfl, rfl, by simp [nice2L, hd], by simp [nod2L], hn⟩
  rintro n ρ μ ⟨L, x, y, z, rfl, rfl, hL, hN, hB⟩
  have len0 : ∀ (xs : List D) (μ : Store), bfF .len (.loc 0) (.lst xs :: μ) = .ok (.int xs.length) (.lst xs :: μ) := fun xs μ => len_lst (.lst xs :: μ) rfl
  have pop0 : ∀ (xs : List D) (x : D) (μ : Store), methF prog.cst .pop (.loc 0) [] (.lst (xs ++ [x]) :: μ) = .ok x (.lst xs :: μ) := by
    intro xs x μ
    unfold methF
    simp only [lst0]
    have e : (xs ++ [x])[(xs ++ [x]).length - 1]? = some x := by simp
    rw [e]
    simp
  rcases List.eq_nil_or_concat L with rfl | ⟨L', e, rfl⟩
  · simp -implicitDefEqProofs [len0]
  · rw [List.concat_eq_append] at *
    rw [nice2L_app, Bool.and_eq_true] at hL
    have he : nice2 e = true := by have := hL.2; simpa [nice2L] using this
    rw [nod2L_app] at hN
    have hN' : nod2L L' + nod2 e = n := by simpa [nod2L] using hN
    have hpos : (0 : Int) < ((L' ++ [e]).map twoE).length := by simp
    have hlen := nod2L_len L'
    have un : ∀ ρ μ, unpackF [3, 4] (twoE e) ρ μ = .ok ((ρ.set 3 (some e)).set 4 (some (er e))) μ := fun _ _ => rfl
    rw [List.map_append, List.map_cons, List.map_nil] at hpos ⊢
    simp -implicitDefEqProofs only [evT_cmp, ev_bf, ev_v, List.getElem?_cons_succ, List.getElem?_cons_zero, getV_some, bind_ok, len0, ev_int, gt_int, okR_bind, okR_ok, hpos, decide_true, if_true, exs_cons, ex_asg, ev_meth, mfOk_pop, isLst0, evs_nil, pop0, okS_next, okS_of, asgT_tp, un, List.set_cons_succ, List.set_cons_zero, okS_go, thenS_nx]
    cases e with
    | non =>
      have e0 : er .non = .non := rfl
      simp -implicitDefEqProofs [e0]
      exact ⟨nod2L L', by simp [nod2] at hN'; omega, L', _, _, _, rfl, rfl, hL.1, rfl, by omega⟩
    | bl s =>
      have i1 : ∀ μ, isiF (.bl s) .bool μ = .ok true μ := fun _ => rfl
      have i2 : ∀ μ, cmpF prog.cst .ne (.bl s) (.bl s) μ = .ok false μ := fun μ => by
        show Res.ok (!(s == s)) μ = _
        simp
      have i4 : D.isNon (.bl s) = false := rfl
      have e0 : er (.bl s) = .bl s := rfl
      simp -implicitDefEqProofs [i1, i2, i4, e0]
      exact ⟨nod2L L', by simp [nod2] at hN'; omega, L', _, _, _, rfl, rfl, hL.1, rfl, by omega⟩
    | int i =>
      have i1 : ∀ μ, isiF (.int i) .bool μ = .ok false μ := fun _ => rfl
      have i2 : ∀ μ, isiF (.int i) .str μ = .ok false μ := fun _ => rfl
      have i3 : ∀ μ, isiF (.int i) .int μ = .ok true μ := fun _ => rfl
      have i4 : D.isNon (.int i) = false := rfl
      have e0 : er (.int i) = .int i := rfl
      simp -implicitDefEqProofs [i1, i2, i3, i4, e0]
      exact ⟨nod2L L', by simp [nod2] at hN'; omega, L', _, _, _, rfl, rfl, hL.1, rfl, by omega⟩
    | str s =>
      have i1 : ∀ μ, isiF (.str s) .bool μ = .ok false μ := fun _ => rfl
      have i2 : ∀ μ, isiF (.str s) .str μ = .ok true μ := fun _ => rfl
      have i4 : D.isNon (.str s) = false := rfl
      have e0 : er (.str s) = .str s := rfl
      simp -implicitDefEqProofs [i1, i2, i4, e0]
      exact ⟨nod2L L', by simp [nod2] at hN'; omega, L', _, _, _, rfl, rfl, hL.1, rfl, by omega⟩
    | tup xs =>
      have i1 : ∀ μ, isiF (.tup xs) .bool μ = .ok false μ := fun _ => rfl
      have i2 : ∀ μ, isiF (.tup (xs.map er)) .str μ = .ok false μ := fun _ => rfl
      have i3 : ∀ μ, isiF (.tup (xs.map er)) .int μ = .ok false μ := fun _ => rfl
      have i5 : ∀ μ, isiF (.tup xs) .tuple μ = .ok true μ := fun _ => rfl
      have i9 : ∀ μ, isiF (.tup (xs.map er)) .bool μ = .ok false μ := fun _ => rfl
      have i4b : D.isNon (.tup (xs.map er)) = false := rfl
      have e0 : er (.tup xs) = .tup (xs.map er) := by rw [er, erL_map]
      have i4 : D.isNon (.tup xs) = false := rfl
      have hxs : xs.length ≤ 1000000 := by
        have := nod2L_len xs
        rw [nod2] at hN'
        omega
      rw [nod2] at hN'
      have hb2 := nod2L_len xs
      simp -implicitDefEqProofs [i1, i2, i3, i4, i5, i9, i4b, e0, small_rng hxs, rngW_start, rngW_stop]
      refine for_fmT (w := rngW (xs.length : Int)) (acc0 := L'.map twoE) (List.range xs.length) (fun (i : Nat) => D.int i) (fun i => [twoE (xs.getD i .non)]) (fun ρ => ∃ z, ρ = [some d, some (er d), some (.loc 0), some (.tup xs), some (.tup (xs.map er)), z]) (fun acc μ => μ = [.lst acc]) rfl (by simp [rngW]) rfl ⟨z, rfl⟩ (fun _ _ _ => trivial) ?_ ?_
      · rintro i hi ρ acc μ ⟨z, rfl⟩ rfl hb
        have hil : i < xs.length := List.mem_range.mp hi
        have hfl : ((List.range xs.length).flatMap fun i => [twoE (xs.getD i .non)]).length = xs.length := by
          have : ∀ l : List Nat, (l.flatMap fun i => [twoE (xs.getD i .non)]).length = l.length := by
            intro l
            induction l with
            | nil => rfl
            | cons a l ih => rw [List.flatMap_cons, List.length_append, ih, List.length_cons]; simp; omega
          rw [this, List.length_range]
        rw [hfl, List.length_map] at hb
        simp only [List.length_cons, List.length_nil] at hb
        have hsz : acc.length < 1000000 := by omega
        have ga : atIx xs (i : Int) = some (xs.getD i .non) := by
          rw [atIx_nat (by omega) (by omega), List.getD_eq_getElem?_getD, Int.toNat_natCast, List.getElem?_eq_getElem hil]
          rfl
        have ga2 : atIx (xs.map er) (i : Int) = some (er (xs.getD i .non)) := by
          rw [atIx_nat (by omega) (by simp; omega), List.getD_eq_getElem?_getD, Int.toNat_natCast, List.getElem?_map, List.getElem?_eq_getElem hil]
          rfl
        simp -implicitDefEqProofs only [asgT_nm, okR_ok, List.set_cons_succ, List.set_cons_zero, exs_cons, exs_nil, ex_ex, ev_meth, ev_v, List.getElem?_cons_succ, List.getElem?_cons_zero, getV_some, bind_ok, mfOk_append, isLst0, if_true, evs_cons, evs_nil, ev_tup, ev_ix, ix_tup, ga, ga2, okI_some, List.length_cons, List.length_nil, Nat.zero_add, Nat.reduceAdd, if_pos h2, append0 _ _ _ hsz, okS_next, okS_of, okS_go, thenS_nx, goS_nx]
        exact ⟨⟨_, rfl⟩, rfl⟩
      · rintro ρ μ ⟨z, rfl⟩ rfl
        have e1 : ((List.range xs.length).flatMap fun i => [twoE (xs.getD i .non)]) = xs.map twoE := by
          have := range_get (xs.map twoE) (fun i => [twoE (xs.getD i .non)]) (fun i h => by
            rw [List.length_map] at h
            rw [List.getD_eq_getElem?_getD, List.getElem?_eq_getElem h]
            simp)
          rw [List.length_map] at this
          exact this
        rw [e1]
        simp -implicitDefEqProofs
        exact ⟨nod2L (L' ++ xs), by rw [nod2L_app]; omega, L' ++ xs, _, _, _, rfl, by simp, by rw [nice2L_app, hL.1]; exact he, rfl, by rw [nod2L_app]; omega⟩
    | ftup xs =>
      have i1 : ∀ μ, isiF (.ftup xs) .bool μ = .ok false μ := fun _ => rfl
      have i2 : ∀ μ, isiF (.tup (xs.map er)) .str μ = .ok false μ := fun _ => rfl
      have i3 : ∀ μ, isiF (.tup (xs.map er)) .int μ = .ok false μ := fun _ => rfl
      have i5 : ∀ μ, isiF (.ftup xs) .tuple μ = .ok true μ := fun _ => rfl
      have i7 : ∀ μ, bfF .len (.ftup xs) μ = .ok (.int xs.length) μ := fun _ => rfl
      have i8 : ∀ i μ, ixF prog.cst (.ftup xs) (.int i) μ = okI (atIx xs i) μ := fun _ _ => rfl
      have i9 : ∀ μ, isiF (.tup (xs.map er)) .bool μ = .ok false μ := fun _ => rfl
      have i4b : D.isNon (.tup (xs.map er)) = false := rfl
      have e0 : er (.ftup xs) = .tup (xs.map er) := by rw [er, erL_map]
      have i4 : D.isNon (.ftup xs) = false := rfl
      have hxs : xs.length ≤ 1000000 := by
        have := nod2L_len xs
        rw [nod2] at hN'
        omega
      rw [nod2] at hN'
      have hb2 := nod2L_len xs
      simp -implicitDefEqProofs [i1, i2, i3, i4, i5, i7, i9, i4b, e0, small_rng hxs, rngW_start, rngW_stop]
      refine for_fmT (w := rngW (xs.length : Int)) (acc0 := L'.map twoE) (List.range xs.length) (fun (i : Nat) => D.int i) (fun i => [twoE (xs.getD i .non)]) (fun ρ => ∃ z, ρ = [some d, some (er d), some (.loc 0), some (.ftup xs), some (.tup (xs.map er)), z]) (fun acc μ => μ = [.lst acc]) rfl (by simp [rngW]) rfl ⟨z, rfl⟩ (fun _ _ _ => trivial) ?_ ?_
      · rintro i hi ρ acc μ ⟨z, rfl⟩ rfl hb
        have hil : i < xs.length := List.mem_range.mp hi
        have hfl : ((List.range xs.length).flatMap fun i => [twoE (xs.getD i .non)]).length = xs.length := by
          have : ∀ l : List Nat, (l.flatMap fun i => [twoE (xs.getD i .non)]).length = l.length := by
            intro l
            induction l with
            | nil => rfl
            | cons a l ih => rw [List.flatMap_cons, List.length_append, ih, List.length_cons]; simp; omega
          rw [this, List.length_range]
        rw [hfl, List.length_map] at hb
        simp only [List.length_cons, List.length_nil] at hb
        have hsz : acc.length < 1000000 := by omega
        have ga : atIx xs (i : Int) = some (xs.getD i .non) := by
          rw [atIx_nat (by omega) (by omega), List.getD_eq_getElem?_getD, Int.toNat_natCast, List.getElem?_eq_getElem hil]
          rfl
        have ga2 : atIx (xs.map er) (i : Int) = some (er (xs.getD i .non)) := by
          rw [atIx_nat (by omega) (by simp; omega), List.getD_eq_getElem?_getD, Int.toNat_natCast, List.getElem?_map, List.getElem?_eq_getElem hil]
          rfl
        simp -implicitDefEqProofs only [asgT_nm, okR_ok, List.set_cons_succ, List.set_cons_zero, exs_cons, exs_nil, ex_ex, ev_meth, ev_v, List.getElem?_cons_succ, List.getElem?_cons_zero, getV_some, bind_ok, mfOk_append, isLst0, if_true, evs_cons, evs_nil, ev_tup, ev_ix, ix_tup, i8, ga, ga2, okI_some, List.length_cons, List.length_nil, Nat.zero_add, Nat.reduceAdd, if_pos h2, append0 _ _ _ hsz, okS_next, okS_of, okS_go, thenS_nx, goS_nx]
        exact ⟨⟨_, rfl⟩, rfl⟩
      · rintro ρ μ ⟨z, rfl⟩ rfl
        have e1 : ((List.range xs.length).flatMap fun i => [twoE (xs.getD i .non)]) = xs.map twoE := by
          have := range_get (xs.map twoE) (fun i => [twoE (xs.getD i .non)]) (fun i h => by
            rw [List.length_map] at h
            rw [List.getD_eq_getElem?_getD, List.getElem?_eq_getElem h]
            simp)
          rw [List.length_map] at this
          exact this
        rw [e1]
        simp -implicitDefEqProofs
        exact ⟨nod2L (L' ++ xs), by rw [nod2L_app]; omega, L' ++ xs, _, _, _, rfl, by simp, by rw [nice2L_app, hL.1]; exact he, rfl, by rw [nod2L_app]; omega⟩
    | _ => cases he
end K82
end
section
set_option Elab.async false
set_option linter.all false
set_option autoImplicit false
set_option maxRecDepth 100000
set_option maxHeartbeats 1000000
namespace K82
open PL
/-! cells ever lit -/
abbrev Cel := Nat × Nat
def celD (c : Cel) : D := .tup [.int c.1, .int c.2]
def ckey (c : Cel) : List Key := [.inl c.1, .inl c.2]
theorem ckey_inj {s t : Cel} (h : ckey s = ckey t) : s = t := by
  obtain ⟨a, b⟩ := s
  obtain ⟨a', b'⟩ := t
  simp only [ckey, List.cons.injEq, Sum.inl.injEq] at h
  obtain ⟨h1, h2, _⟩ := h
  have e1 : a = a' := by omega
  have e2 : b = b' := by omega
  rw [e1, e2]
def kvC (cs : List Cel) : List (List Key × D) := cs.map fun c => (ckey c, .bl true)
def addC (cs : List Cel) (c : Cel) : List Cel := if c ∈ cs then cs else cs ++ [c]
theorem put_kvC {cs : List Cel} {c : Cel} : put (kvC cs) (ckey c) (.bl true) = kvC (addC cs c) := by
  unfold put addC
  by_cases h : c ∈ cs
  · have ha : ((kvC cs).any fun p => decide (p.1 = ckey c)) = true := by
      rw [List.any_eq_true]
      exact ⟨_, List.mem_map.mpr ⟨c, h, rfl⟩, by simp⟩
    rw [if_pos ha, if_pos h]
    unfold kvC
    rw [List.map_map]
    refine List.map_congr_left fun t _ => ?_
    show (if ckey t = ckey c then _ else _) = _
    split <;> rfl
  · have ha : ¬ ((kvC cs).any fun p => decide (p.1 = ckey c)) = true := by
      rw [List.any_eq_true]
      rintro ⟨p, hp, e⟩
      obtain ⟨t, ht, rfl⟩ := List.mem_map.mp hp
      have : ckey t = ckey c := by simpa using e
      exact h (ckey_inj this ▸ ht)
    rw [if_neg ha, if_neg h]
    unfold kvC
    rw [List.map_append]; rfl
theorem mem_addC {cs : List Cel} {c t : Cel} : t ∈ addC cs c ↔ t ∈ cs ∨ t = c := by
  unfold addC
  split
  · rename_i h
    exact ⟨.inl, fun h' => h'.elim id fun e => e ▸ h⟩
  · simp
theorem addC_twice (cs : List Cel) (c : Cel) : addC (addC cs c) c = addC cs c := by
  have : c ∈ addC cs c := mem_addC.mpr (.inr rfl)
  generalize addC cs c = d at this
  unfold addC
  rw [if_pos this]
theorem addC_nodup {cs : List Cel} {c : Cel} (h : cs.Nodup) : (addC cs c).Nodup := by
  unfold addC
  split
  · exact h
  · rename_i hn
    rw [List.nodup_append]
    exact ⟨h, by simp, fun a ha c hc e => hn (by rw [List.mem_singleton.mp hc] at e; exact e ▸ ha)⟩
def cel (s : Side) : Cel := (s.1, s.2.1)
/-- the cells of sides, each at its first time -/
def seen (W : List Side) : List Cel := W.foldl (fun cs s => addC cs (cel s)) []
theorem seen_snoc (W : List Side) (s : Side) : seen (W ++ [s]) = addC (seen W) (cel s) := by unfold seen; rw [List.foldl_append]; rfl
theorem seenF_len : ∀ (W : List Side) (cs : List Cel), (W.foldl (fun cs s => addC cs (cel s)) cs).length ≤ cs.length + W.length
  | [], cs => by simp
  | s :: W, cs => by
    rw [List.foldl_cons]
    refine Nat.le_trans (seenF_len W _) ?_
    have : (addC cs (cel s)).length ≤ cs.length + 1 := by unfold addC; split <;> simp
    rw [List.length_cons]; omega
theorem seen_len (W : List Side) : (seen W).length ≤ W.length := by have := seenF_len W []; simpa [seen] using this
theorem seenF_nodup : ∀ (W : List Side) (cs : List Cel), cs.Nodup → (W.foldl (fun cs s => addC cs (cel s)) cs).Nodup
  | [], _, h => h
  | s :: W, cs, h => seenF_nodup W _ (addC_nodup h)
theorem seenF_mem : ∀ (W : List Side) (cs : List Cel) (c : Cel), c ∈ W.foldl (fun cs s => addC cs (cel s)) cs → c ∈ cs ∨ ∃ s ∈ W, c = cel s
  | [], _, _, h => .inl h
  | s :: W, cs, c, h => by
    rcases seenF_mem W _ c h with h | ⟨t, ht, e⟩
    · rcases mem_addC.mp h with h | h
      · exact .inl h
      · exact .inr ⟨s, List.mem_cons_self .., h⟩
    · exact .inr ⟨t, List.mem_cons_of_mem _ ht, e⟩
theorem seen_small {b : Board} {rows cols : Nat} (B : Bok b rows cols) {W : List Side} (h : ∀ s ∈ W, s ∈ sides b rows cols) : (seen W).length ≤ 64 := by
  refine Nat.le_trans (sub_len _ (grid rows cols) (seenF_nodup W [] List.nodup_nil) fun c hc => ?_) (grid_small B)
  rcases seenF_mem W [] c hc with h' | ⟨s, hs, rfl⟩
  · cases h'
  · obtain ⟨h1, h2, _, _⟩ := mem_sides.mp (h s hs)
    unfold grid
    exact List.mem_flatMap.mpr ⟨s.1, List.mem_range.mpr h1, List.mem_map.mpr ⟨s.2.1, List.mem_range.mpr h2, rfl⟩⟩
/-- each second one -/
def evens : List Side → List Side
  | [] => []
  | [a] => [a]
  | a :: _ :: r => a :: evens r
section
variable {b : Board} {rows cols : Nat} {S : Setting}
theorem seen_wayL : ∀ (n : Nat) (s : Side) (cs : List Cel), (wayL b rows cols S n s).foldl (fun cs s => addC cs (cel s)) cs = (evens (wayL b rows cols S n s)).foldl (fun cs s => addC cs (cel s)) cs
  | 0, _, _ => rfl
  | n + 1, s, cs => by
    unfold wayL
    rw [evens, List.foldl_cons, List.foldl_cons, List.foldl_cons]
    have : cel (out S s) = cel s := rfl
    rw [this, addC_twice]
    cases after b rows cols (out S s) with
    | none => rfl
    | some t => exact seen_wayL n t _
theorem seen_flat (e : Side) : ∀ (Ts : List Setting) (cs : List Cel), (Ts.flatMap fun T => way b rows cols T e).foldl (fun cs s => addC cs (cel s)) cs = (Ts.flatMap fun T => evens (way b rows cols T e)).foldl (fun cs s => addC cs (cel s)) cs
  | [], _ => rfl
  | T :: Ts, cs => by
    rw [List.flatMap_cons, List.flatMap_cons, List.foldl_append, List.foldl_append, seen_flat e Ts]
    unfold way
    rw [seen_wayL]
end
theorem evens_len : ∀ W : List Side, (evens W).length ≤ W.length
  | [] => Nat.le_refl _
  | [_] => Nat.le_refl _
  | a :: b :: r => by rw [evens]; simp only [List.length_cons]; have := evens_len r; omega
theorem evens_range : ∀ W : List Side, evens W = (List.range ((W.length + 1) / 2)).map fun k => W.getD (2 * k) (0, 0, 0)
  | [] => rfl
  | [a] => by simp [evens]
  | a :: b :: r => by
    rw [evens, evens_range r]
    have : ((a :: b :: r).length + 1) / 2 = (r.length + 1) / 2 + 1 := by simp only [List.length_cons]; omega
    rw [this, List.range_succ_eq_map, List.map_cons, List.map_map]
    congr 1
theorem met_ok {k : Nat} (hk : 1 ≤ k) {W : List Side} (hW : W.length ≤ 700) {μ : Store} {l : Nat} (hl : μ[l]? = some (.lst (W.map sdD))) : cF k 26 [.loc l] μ = .ok (.loc μ.length) (μ ++ [.lst ((evens W).map fun s => celD (cel s))]) := by
  obtain ⟨k, rfl⟩ : ∃ j, k = j + 1 := ⟨k - 1, by omega⟩
  rw [call_loc (fn := f_met_by_way) rfl rfl rfl]
  have e0 : bfF .len (.loc l) μ = .ok (.int W.length) μ := by rw [len_lst (l := l) _ hl, List.length_map]
  have hn : stepN 0 (W.length : Int) 2 = (W.length + 1) / 2 := by
    unfold stepN
    rw [if_pos (by decide)]
    split
    · omega
    · omega
  have er3 : ∀ ρ : Env, ρ[0]? = some (some (.loc l)) → evI prog.cst (cF k) (.rng3 (.int 0) (.bf .len (.v 0)) (.int 2)) ρ μ = .ok (.row ((List.range ((W.length + 1) / 2)).map fun (j : Nat) => D.int ((j : Int) * 2))) μ := by
    intro ρ hρ
    show ((ev prog.cst (cF k) (.int 0) ρ μ).bind fun x μ => (ev prog.cst (cF k) (.bf .len (.v 0)) ρ μ).bind fun y μ => (ev prog.cst (cF k) (.int 2) ρ μ).bind fun z μ => match x, y, z with
      | .int i, .int j, .int k => rngF3 i j k μ
      | _, _, _ => .stuck) = _
    simp -implicitDefEqProofs only [ev_int, bind_ok, ev_bf, ev_v, hρ, getV_some, e0]
    unfold rngF3
    rw [if_pos ⟨by decide, by decide, by omega, by omega, .inr ⟨by decide, by decide⟩⟩, hn]
    simp only [Int.zero_add]
  have key : okR (callB prog N0 (cF k) f_met_by_way [.loc l] μ) (fun d μ' => d = .loc μ.length ∧ μ' = μ ++ [.lst ((evens W).map fun s => celD (cel s))]) := by
    simp -implicitDefEqProofs [callB, f_met_by_way, startE, er3]
    refine comp_fm_wp (List.range ((W.length + 1) / 2)) (fun (j : Nat) => D.int ((j : Int) * 2)) (fun _ => true) (fun j => celD (cel (W.getD (2 * j) (0, 0, 0)))) μ rfl rfl rfl (by simp) ?_ (fun _ => trivial) ?_ ?_
    · rw [List.length_range, mostLen_eq]; omega
    · intro j hj acc
      have hj' : 2 * j < W.length := by have := List.mem_range.mp hj; omega
      have hl' : (μ ++ [Obj.lst acc])[l]? = some (.lst (W.map sdD)) := by
        have : l < μ.length := (List.getElem?_eq_some_iff.mp hl).1
        rw [List.getElem?_append_left this, hl]
      have e1 : ixF prog.cst (.loc l) (.int ((j : Int) * 2)) (μ ++ [Obj.lst acc]) = .ok (sdD (W.getD (2 * j) (0, 0, 0))) (μ ++ [Obj.lst acc]) := by
        rw [ix_lst (l := l) (xs := W.map sdD) _ _ hl', atIx_nat (by omega) (by rw [List.length_map]; omega)]
        have : ((j : Int) * 2).toNat = 2 * j := by omega
        rw [this, List.getElem?_map, List.getElem?_eq_getElem hj', List.getD_eq_getElem?_getD, List.getElem?_eq_getElem hj']
        rfl
      have e2 : ∀ s : Side, ∀ μ, ixF prog.cst (sdD s) (.int 0) μ = .ok (.int s.1) μ := fun _ _ => rfl
      have e3 : ∀ s : Side, ∀ μ, ixF prog.cst (sdD s) (.int 1) μ = .ok (.int s.2.1) μ := fun _ _ => rfl
      have h2 : (2 : Nat) ≤ mostLen := by decide
      simp -implicitDefEqProofs only [wipeE, asgT_nm, bind_ok, evC_yes, if_true, ev_tup, evs_cons, evs_nil, ev_ix, ev_v, List.set_cons_succ, List.set_cons_zero, List.getElem?_cons_zero, List.getElem?_cons_succ, getV_some, ev_int, e1, e2, e3, List.length_cons, List.length_nil, Nat.zero_add, Nat.reduceAdd, if_pos h2]
      rfl
    · rw [evens_range, List.filter_eq_self.mpr (fun _ _ => rfl), List.map_map]
      simp -implicitDefEqProofs
  obtain ⟨d, μ', e, rfl, rfl⟩ := okR_ex.mp key
  exact e
end K82
end
section
set_option Elab.async false
set_option linter.all false
set_option autoImplicit false
set_option maxRecDepth 100000
set_option maxHeartbeats 1000000
namespace K82
open PL
/-! ever lit -/
section
variable {b : Board} {rows cols : Nat} {S : Setting}
def litD (b : Board) (rows cols : Nat) (S : Setting) (ds : List Side) (e : Side) : D := .tup (sortD ((seen ((runL S ds).flatMap fun T => way b rows cols T e)).map celD))
theorem dataL_all : ∀ {xs : List D}, (∀ x ∈ xs, D.data x = true) → D.dataL xs = true
  | [], _ => rfl
  | x :: xs, h => by rw [D.dataL, h x (List.mem_cons_self ..), dataL_all fun y hy => h y (List.mem_cons_of_mem _ hy)]; rfl
theorem mem_sortD {xs : List D} {x : D} (h : x ∈ sortD xs) : x ∈ xs := by
  unfold sortD at h
  exact List.mem_mergeSort.mp h
theorem cel_of_sort {cs : List Cel} {x : D} (h : x ∈ sortD (cs.map celD)) : ∃ c ∈ cs, x = celD c := by
  obtain ⟨c, hc, e⟩ := List.mem_map.mp (mem_sortD h)
  exact ⟨c, hc, e.symm⟩
theorem data_lit (ds : List Side) (e : Side) : D.data (litD b rows cols S ds e) = true :=
  dataL_all fun x hx => by obtain ⟨c, _, rfl⟩ := cel_of_sort hx; rfl
theorem sortOk_cels (cs : List Cel) : sortOk (cs.map celD) = true := by
  have h1 : ((cs.map celD).all fun a => D.eqOk a) = true := by
    rw [List.all_eq_true]
    intro x hx
    obtain ⟨c, _, rfl⟩ := List.mem_map.mp hx
    rfl
  have h2 : allAlk (cs.map celD) = true := by
    unfold allAlk
    rw [List.all_eq_true]
    intro x hx
    rw [List.all_eq_true]
    intro y hy
    obtain ⟨c, _, rfl⟩ := List.mem_map.mp hx
    obtain ⟨d, _, rfl⟩ := List.mem_map.mp hy
    rfl
  unfold sortOk
  rw [h1, h2, Bool.and_eq_true, Bool.or_eq_true]
  refine ⟨rfl, .inl ?_⟩
  rw [List.all_eq_true]
  intro x hx
  obtain ⟨c, _, rfl⟩ := List.mem_map.mp hx
  rfl
theorem sorted_kvC {cs : List Cel} (h : cs.length ≤ 64) (l : Nat) (μ : Store) (hl : μ[l]? = some (.dT false (kvC cs))) : bfF .sorted (.loc l) μ = .ok (.loc μ.length) (μ ++ [.lst (sortD (cs.map celD))]) := by
  have e1 : listF (.loc l) μ = none := by unfold listF; simp only [hl]
  have e2 : keysT (.loc l) μ = some (cs.map celD) := by
    unfold keysT
    simp only [hl]
    unfold kvC
    rw [List.map_map]
    rfl
  unfold bfF
  simp only [e1, e2]
  rw [sortOk_cels, if_pos (by rw [List.length_map, mostLen_eq]; simp; omega)]
  rfl
theorem setC {cs : List Cel} {c : Cel} (h : cs.length ≤ 64) (l : Nat) (μ : Store) (hl : μ[l]? = some (.dT false (kvC cs))) : setF (.loc l) (celD c) (.bl true) μ = .ok () (μ.set l (.dT false (kvC (addC cs c)))) := by
  unfold setF
  simp only [hl]
  show (if (kvC cs).length < mostLen then Res.ok () (μ.set l (.dT false (put (kvC cs) (ckey c) (.bl true)))) else .stuck) = _
  rw [if_pos (by unfold kvC; rw [List.length_map, mostLen_eq]; omega), put_kvC]
theorem evens_mem : ∀ {W : List Side} {s : Side}, s ∈ evens W → s ∈ W
  | [], _, h => h
  | [_], _, h => h
  | a :: b :: r, s, h => by
    rw [evens] at h
    rcases List.mem_cons.mp h with rfl | h
    · exact List.mem_cons_self ..
    · exact List.mem_cons_of_mem _ (List.mem_cons_of_mem _ (evens_mem h))
theorem way_mem' (O : Sok b rows cols S) {e : Side} (he : e ∈ ends b rows cols) : ∀ x ∈ way b rows cols S e, x ∈ sides b rows cols := wayL_mem O _ _ (List.mem_filter.mp he).1
theorem way_len (e : Side) : (way b rows cols S e).length ≤ 600 := wayL_len _ _
theorem lit_ok {k : Nat} (hk : 6 ≤ k) (B : Bok b rows cols) (O : Sok b rows cols S) {ds : List Side} (hd : ∀ d ∈ ds, Dok b rows cols d) (hl : ds.length ≤ 500) {e : Side} (he : e ∈ ends b rows cols) (μ : Store) :
    cF k 29 [bD b, sD S, dsD ds, sdD e] μ = .ok (litD b rows cols S ds e) μ := by
  obtain ⟨k, rfl⟩ : ∃ j, k = j + 1 := ⟨k - 1, by omega⟩
  refine call_D (fn := f_ever_lit) rfl rfl (by simp [D.dataL, data_b, data_s, data_ds, D.data, sdD]) (data_lit _ _) ?_
  have e1 := fun μ => look_end (k := k) (by omega) B he μ
  have e2 := fun μ => run_deeds_ok (k := k) (by omega) B O hd hl μ
  simp -implicitDefEqProofs [callB, f_ever_lit, startE, e1, e2, new_eq, unlock_row]
  refine for_fmT (w := .row ((runL S ds).map sD)) (acc0 := ([] : List Side)) (runL S ds) sD (fun T => evens (way b rows cols T e)) (fun ρ => ∃ x y, ρ = [some (bD b), some (sD S), some (dsD ds), some (sdD e), some (.loc 0), x, y]) (fun acc μ => (∀ s ∈ acc, s ∈ sides b rows cols) ∧ ∃ junk, μ = .dT false (kvC (seen acc)) :: junk) rfl rfl ⟨(by simp), [], rfl⟩ ⟨none, none, rfl⟩ (fun _ _ _ => trivial) ?_ ?_
  · rintro T hT ρ acc μ ⟨x, y, rfl⟩ ⟨hacc, junk, rfl⟩ _
    have OT := runL_sok O hd T hT
    have e3 := run_way_ok (k := k) (by omega) B OT he (.dT false (kvC (seen acc)) :: junk)
    have hWl := way_len (b := b) (rows := rows) (cols := cols) (S := T) e
    have hWm := way_mem' OT he
    have e4 := met_ok (k := k) (by omega) (W := way b rows cols T e) (by omega) (μ := (.dT false (kvC (seen acc)) :: junk) ++ [.lst ((way b rows cols T e).map sdD)]) (l := junk.length + 1) (by simp)
    rw [List.length_cons] at e3
    generalize hE : evens (way b rows cols T e) = E at e4
    have hEm : ∀ s ∈ E, s ∈ sides b rows cols := fun s hs => hWm s (evens_mem (hE ▸ hs))
    have hlen : ((Obj.dT false (kvC (seen acc)) :: junk) ++ [Obj.lst ((way b rows cols T e).map sdD)]).length = junk.length + 2 := by simp
    rw [hlen] at e4
    have wl : walkF (.loc (junk.length + 2)) ((Obj.dT false (kvC (seen acc)) :: junk) ++ [Obj.lst ((way b rows cols T e).map sdD)] ++ [Obj.lst (E.map fun s => celD (cel s))]) = some (.lst (junk.length + 2) (E.map fun s => celD (cel s))) := walk_lst _ (by simp)
    have ul : ∀ (l : Nat) (xs : List D) (r : SRes), unlock (.lst l xs) r = r := fun l xs r => by cases r <;> rfl
    simp -implicitDefEqProofs only [asgT_nm, okR_ok, List.set_cons_succ, List.set_cons_zero, exs_cons, exs_nil, ex_fr, evI_val, ev_call, evs_cons, evs_nil, ev_v, List.getElem?_cons_succ, List.getElem?_cons_zero, getV_some, bind_ok, e3, e4, wl, okI_some, of_ok, ul, okS_next]
    refine for_fmT (w := .lst (junk.length + 2) (E.map fun s => celD (cel s))) (acc0 := acc) E (fun s => celD (cel s)) (fun s => [s]) (fun ρ => ∃ y, ρ = [some (bD b), some (sD S), some (dsD ds), some (sdD e), some (.loc 0), some (sD T), y]) (fun acc μ => (∀ s ∈ acc, s ∈ sides b rows cols) ∧ μ = .dT false (kvC (seen acc)) :: (junk ++ [Obj.lst ((way b rows cols T e).map sdD)] ++ [Obj.lst (E.map fun s => celD (cel s))])) rfl rfl ⟨hacc, by simp⟩ ⟨y, rfl⟩ ?_ ?_ ?_
    · rintro acc μ ⟨_, rfl⟩
      show _ = _
      simp
    · rintro s hs ρ acc μ ⟨y, rfl⟩ ⟨hacc, rfl⟩ _
      have hsm := seen_small B hacc
      have es := setC (c := cel s) hsm 0 (.dT false (kvC (seen acc)) :: (junk ++ [Obj.lst ((way b rows cols T e).map sdD)] ++ [Obj.lst (E.map fun s => celD (cel s))])) rfl
      simp -implicitDefEqProofs only [asgT_nm, okR_ok, List.set_cons_succ, List.set_cons_zero, exs_cons, exs_nil, ex_asg, ev_bl, asgT_sb, ev_v, List.getElem?_cons_succ, List.getElem?_cons_zero, getV_some, bind_ok, es, of_ok, next_nx, okS_go, goS_nx]
      refine ⟨⟨_, rfl⟩, ?_, ?_⟩
      · intro t ht
        rcases List.mem_append.mp ht with h | h
        · exact hacc t h
        · rw [List.mem_singleton.mp h]; exact hEm s hs
      · rw [seen_snoc]
    · rintro ρ μ ⟨y, rfl⟩ ⟨hacc, rfl⟩
      have fm : E.flatMap (fun s => [s]) = E := by simp
      rw [fm] at hacc ⊢
      exact ⟨⟨_, _, rfl⟩, hacc, _, rfl⟩
  · rintro ρ μ ⟨x, y, rfl⟩ ⟨hacc, junk, rfl⟩
    rw [List.nil_append] at hacc ⊢
    have es := sorted_kvC (seen_small B hacc) 0 (.dT false (kvC (seen ((runL S ds).flatMap fun T => evens (way b rows cols T e)))) :: junk) rfl
    have : seen ((runL S ds).flatMap fun T => evens (way b rows cols T e)) = seen ((runL S ds).flatMap fun T => way b rows cols T e) := by unfold seen; rw [seen_flat]
    rw [this] at es
    rw [this]
    simp -implicitDefEqProofs [es]
    rw [tuple_lst (l := junk.length + 1) (xs := sortD ((seen ((runL S ds).flatMap fun T => way b rows cols T e)).map celD)) _ (by simp)]
    rfl
theorem lit_no {k : Nat} (hk : 6 ≤ k) (B : Bok b rows cols) {ds : List Side} {d : D} {μ : Store} (h : NoEnd b rows cols d μ) :
    cF k 29 [bD b, sD S, dsD ds, d] μ = .exc XE μ := by
  obtain ⟨k, rfl⟩ : ∃ j, k = j + 1 := ⟨k - 1, by omega⟩
  rcases h with h | ⟨l, xs, rfl, hl⟩
  · have e1 : cF k 25 [bD b, d] [] = .exc XE [] := look_no (by omega) B (.inl h)
    refine call_exc (fn := f_ever_lit) (μ' := []) rfl rfl ?_ rfl (by simp [D.dataL, data_b, data_s, data_ds, h.2.2.1])
    simp -implicitDefEqProofs [callB, f_ever_lit, startE, e1, of_exc, next_exc, handed_exc]
  · have e1 : cF k 25 [bD b, .loc l] μ = .exc XE μ := look_no (by omega) B (.inr ⟨l, xs, rfl, hl⟩)
    rw [call_loc (fn := f_ever_lit) rfl rfl (by simp [D.dataL, data_b, data_s, data_ds, D.data])]
    simp -implicitDefEqProofs [callB, f_ever_lit, startE, e1, of_exc, next_exc, handed_exc]
end
end K82
end
section
set_option Elab.async false
set_option linter.all false
set_option autoImplicit false
set_option maxRecDepth 100000
set_option maxHeartbeats 1000000
namespace K82
open PL
/-! the law's own run; what is told -/
section
variable {b : Board} {rows cols : Nat} {S : Setting}
theorem law_run_ok {k : Nat} (hk : 1 ≤ k) (B : Bok b rows cols) (O : Sok b rows cols S) {ds : List Side} (hd : ∀ d ∈ ds, Dok b rows cols d) (hl : ds.length ≤ 500) (μ : Store) : cF k 1011 [sD S, dsD ds] μ = .ok (.loc μ.length) (μ ++ [.lst ((runL S ds).map sD)]) := by
  obtain ⟨k, rfl⟩ : ∃ j, k = j + 1 := ⟨k - 1, by omega⟩
  refine call_L (fn := f_law_run) rfl rfl (by simp [D.dataL, data_b, data_s, data_ds, D.data]) (data_ss _) ?_
  have h1 : (1 : Nat) ≤ mostLen := by decide
  have wd : ∀ μ, walkF (dsD ds) μ = some (.row (ds.map sdD)) := fun _ => rfl
  simp -implicitDefEqProofs [callB, f_law_run, startE, new_eq, h1, wd, unlock_row]
  refine for_wp (w := .row (ds.map sdD)) (xs := ds.map sdD) (fun i ρ μ => (∃ x y z u, ρ = [some (sD S), some (dsD ds), some (.loc 0), x, y, z, u]) ∧ ∃ junk, μ = .lst ((runL S (ds.take i)).map sD) :: junk) rfl ⟨⟨none, none, none, none, rfl⟩, [], by simp [runL]⟩ (fun _ _ _ _ => trivial) ?_ ?_
  · rintro i z ρ μ hz ⟨⟨x, y, w, u, rfl⟩, junk, rfl⟩
    rw [List.getElem?_map] at hz
    cases ee : ds[i]? with
    | none => rw [ee] at hz; cases hz
    | some d =>
      rw [ee] at hz
      have : sdD d = z := Option.some.inj hz
      subst this
      have hdm : d ∈ ds := List.mem_of_getElem? ee
      have ht : ds.take (i + 1) = ds.take i ++ [d] := by rw [List.take_add_one, ee]; rfl
      have hil : i < ds.length := (List.getElem?_eq_some_iff.mp ee).1
      obtain ⟨ini, hini⟩ := runL_last S (ds.take i)
      have O2 := (fin_sok O (fun d hd' => hd d (List.mem_of_mem_take hd')) (ds := ds.take i)).shp
      have hsz : (runL S (ds.take i)).length < 1000000 := by rw [runL_len, List.length_take]; omega
      rw [ht, runL_snoc]
      generalize hR : runL S (ds.take i) = R at hini hsz
      generalize fin S (ds.take i) = T at hini O2
      have hlast : ∀ μ, ixF prog.cst (.loc 0) (.int (-1)) (.lst (R.map sD) :: μ) = .ok (sD T) (.lst (R.map sD) :: μ) := by
        intro μ
        rw [ix0, hini, List.map_append, List.map_cons, List.map_nil, atIx_last]
        rfl
      have h1 := (hd d hdm).r
      have h2 := (hd d hdm).c
      obtain ⟨r, c, l⟩ := d
      simp only at h1 h2
      have hlen := O2.row h1
      have lsT : ∀ μ, bfF .list (sD T) μ = .ok (.loc μ.length) (μ ++ [.lst (T.map D.str)]) := fun _ => rfl
      have hc := B.cs
      have hr := B.rs
      generalize hμ : Obj.lst (R.map sD) :: (junk ++ [Obj.lst (T.map D.str)]) = M
      have hM : M[junk.length + 1]? = some (.lst (T.map D.str)) := by rw [← hμ]; simp
      have hM0 : M[0]? = some (.lst (R.map sD)) := by rw [← hμ]; simp
      have i1 : ixF prog.cst (.loc (junk.length + 1)) (.int r) M = .ok (.str (rowS T r)) M := by
        rw [ix_lst (xs := T.map D.str) _ _ hM, s_row O2.r h1]; rfl
      have s1 : ∀ μ, slF (.str (rowS T r)) none (some (c : Int)) μ = .ok (.str ((rowS T r).take c)) μ := fun μ => by
        show (if (rowS T r).length ≤ mostLen then Res.ok (D.str (cut (rowS T r) none (some (c : Int)))) μ else .stuck) = _
        rw [if_pos (by rw [hlen, mostLen_eq]; omega), cut_to]
      have s2 : ∀ μ, slF (.str (rowS T r)) (some ((c : Int) + 1)) none μ = .ok (.str ((rowS T r).drop (c + 1))) μ := fun μ => by
        show (if (rowS T r).length ≤ mostLen then Res.ok (D.str (cut (rowS T r) (some ((c : Int) + 1)) none)) μ else .stuck) = _
        rw [if_pos (by rw [hlen, mostLen_eq]; omega), cut_from1]
      have a1 : ∀ μ, binF .add (.str ((rowS T r).take c)) (.str [l]) μ = .ok (.str ((rowS T r).take c ++ [l])) μ := fun μ => by
        rw [add_str, if_pos]
        rw [List.length_take, hlen, mostLen_eq]; simp; omega
      have a2 : ∀ μ, binF .add (.str ((rowS T r).take c ++ [l])) (.str ((rowS T r).drop (c + 1))) μ = .ok (.str (setL (rowS T r) c l)) μ := fun μ => by
        rw [add_str, if_pos]
        · rfl
        · rw [List.length_append, List.length_take, List.length_drop, hlen, mostLen_eq]; simp; omega
      have se : setF (.loc (junk.length + 1)) (.int r) (.str (setL (rowS T r) c l)) M = .ok () (M.set (junk.length + 1) (.lst ((apply T (r, c, l)).map D.str))) := by
        unfold setF
        simp only [hM]
        have px : pyIx (T.map D.str).length (r : Int) = some r := by
          rw [List.length_map, O2.r]
          unfold pyIx
          rw [if_pos (by omega), if_pos (by omega)]
          simp
        rw [px]
        simp only
        have : (apply T (r, c, l)).map D.str = (T.map D.str).set r (.str (setL (rowS T r) c l)) := by
          unfold apply
          rw [map_setL, setL_eq _ (by rw [List.length_map, O2.r]; exact h1)]
        rw [this]
      have hM2 : (M.set (junk.length + 1) (.lst ((apply T (r, c, l)).map D.str))) = Obj.lst (R.map sD) :: (junk ++ [Obj.lst ((apply T (r, c, l)).map D.str)]) := by
        rw [← hμ]; simp
      have tp : ∀ (xs : List D), bfF .tuple (.loc (junk.length + 1)) (Obj.lst xs :: (junk ++ [Obj.lst ((apply T (r, c, l)).map D.str)])) = .ok (sD (apply T (r, c, l))) (Obj.lst xs :: (junk ++ [Obj.lst ((apply T (r, c, l)).map D.str)])) := fun xs => by
        rw [tuple_lst (l := junk.length + 1) (xs := (apply T (r, c, l)).map D.str) _ (by simp)]; rfl
      simp -implicitDefEqProofs only [sdD, asgT_tp, unpack_3, okR_ok, List.set_cons_succ, List.set_cons_zero, exs_cons, exs_nil, ex_asg, ev_bf, ev_ix, ev_v, List.getElem?_cons_succ, List.getElem?_cons_zero, getV_some, bind_ok, ev_neg, hlast, lsT, of_ok, asgT_nm, next_nx, List.cons_append, List.length_cons, hμ, ev_bin, ev_slU, ev_slL, i1, sl1_int, sl2_int, s1, s2, a1, a2, ev_int, add_int, asgT_sb, se, hM2, ex_ex, ev_meth, mfOk_append, isLst0, if_true, evs_cons, evs_nil, tp, append0 _ _ _ (show (R.map sD).length < 1000000 by rw [List.length_map]; exact hsz), okS_go, goS_nx]
      exact ⟨⟨_, _, _, _, rfl⟩, _, by simp; rfl⟩
  · rintro ρ μ ⟨⟨x, y, z, u, rfl⟩, junk, rfl⟩
    rw [List.length_map, List.take_of_length_le (Nat.le_refl _)]
    simp -implicitDefEqProofs
end
end K82
end
section
set_option Elab.async false
set_option linter.all false
set_option autoImplicit false
set_option maxRecDepth 100000
set_option maxHeartbeats 1000000
namespace K82
open PL
/-! what is told -/
def trF (r : SRes) (f : Exc → Env → Store → SRes) : SRes := match r with
  | .exc x ρ μ => f x ρ μ
  | r => r
theorem ex_tr {cf : CF} {N : Nat} (b : Ss) (hs : Hs) (ρ : Env) (μ : Store) : ex prog.cst cf N (.tr b hs) ρ μ = trF (exs prog.cst cf N b ρ μ) (exh prog.cst cf N hs) := rfl
theorem trF_go (f : Flow) (ρ : Env) (μ : Store) (g : Exc → Env → Store → SRes) : trF (.go f ρ μ) g = .go f ρ μ := rfl
theorem trF_exc (x : Exc) (ρ : Env) (μ : Store) (g : Exc → Env → Store → SRes) : trF (.exc x ρ μ) g = g x ρ μ := rfl
theorem exh_XE {cf : CF} {N : Nat} (i : Nat) (b : Ss) (hs : Hs) (ρ : Env) (μ : Store) : exh prog.cst cf N (.cons 2 (some i) b hs) XE ρ μ = unset i (exs prog.cst cf N b (ρ.set i (some (.err [2, 1, 0] [0] [.str [101, 110, 100]]))) μ) := rfl
theorem unset_rt (i : Nat) (d : D) (ρ : Env) (μ : Store) : unset i (.go (.rt d) ρ μ) = .go (.rt d) ρ μ := rfl
abbrev tMates : Txt := [109, 97, 116, 101, 115]
abbrev tLit : Txt := [108, 105, 116]
abbrev tFirst : Txt := [102, 105, 114, 115, 116]
abbrev tTold : Txt := [116, 111, 108, 100]
def stepEnd : D := .tup [.str [115, 116, 101, 112], .str [101, 110, 100]]
def toldD (d : D) : D := .tup [.str tTold, d]
section
variable {b : Board} {rows cols : Nat} {S : Setting}
theorem told_mates {k : Nat} (hk : 7 ≤ k) (B : Bok b rows cols) (O : Sok b rows cols S) {ds : List Side} (hd : ∀ d ∈ ds, Dok b rows cols d) (hl : ds.length ≤ 500) {e : Side} (he : e ∈ ends b rows cols) (μ : Store) :
    cF k 1012 [.str tMates, bD b, sD S, dsD ds, sdD e, .non] μ = .ok (toldD (.ftup ((mates b rows cols S ds e).map sdD))) μ := by
  obtain ⟨k, rfl⟩ : ∃ j, k = j + 1 := ⟨k - 1, by omega⟩
  have e1 := fun μ => mates_ok (k := k) (by omega) B O hd hl he μ
  have h2 : (2 : Nat) ≤ mostLen := by decide
  refine call_data (fn := f_law_told) (μ' := []) rfl rfl (by simp [D.dataL, data_b, data_s, data_ds, D.data, sdD]) ?_ (by simp [toldD, D.data, D.dataL, data_sides])
  simp -implicitDefEqProofs [callB, f_law_told, startE, ex_tr, e1, h2, trF_go]
  rfl
theorem told_lit {k : Nat} (hk : 7 ≤ k) (B : Bok b rows cols) (O : Sok b rows cols S) {ds : List Side} (hd : ∀ d ∈ ds, Dok b rows cols d) (hl : ds.length ≤ 500) {e : Side} (he : e ∈ ends b rows cols) (μ : Store) :
    cF k 1012 [.str tLit, bD b, sD S, dsD ds, sdD e, .non] μ = .ok (toldD (litD b rows cols S ds e)) μ := by
  obtain ⟨k, rfl⟩ : ∃ j, k = j + 1 := ⟨k - 1, by omega⟩
  have e1 := fun μ => lit_ok (k := k) (by omega) B O hd hl he μ
  have h2 : (2 : Nat) ≤ mostLen := by decide
  refine call_data (fn := f_law_told) (μ' := []) rfl rfl (by simp [D.dataL, data_b, data_s, data_ds, D.data, sdD]) ?_ (by simp [toldD, D.data, D.dataL, data_lit])
  simp -implicitDefEqProofs [callB, f_law_told, startE, ex_tr, e1, h2, trF_go]
  rfl
theorem told_first {k : Nat} (hk : 8 ≤ k) (B : Bok b rows cols) (O : Sok b rows cols S) {ds : List Side} (hd : ∀ d ∈ ds, Dok b rows cols d) (hl : ds.length ≤ 500) {e o : Side} (he : e ∈ ends b rows cols) (ho : o ∈ ends b rows cols) (μ : Store) :
    cF k 1012 [.str tFirst, bD b, sD S, dsD ds, sdD e, sdD o] μ = .ok (toldD (firstD (mates b rows cols S ds e) o)) μ := by
  obtain ⟨k, rfl⟩ : ∃ j, k = j + 1 := ⟨k - 1, by omega⟩
  have e1 := fun μ => first_ok (k := k) (by omega) B O hd hl he ho μ
  have h2 : (2 : Nat) ≤ mostLen := by decide
  refine call_data (fn := f_law_told) (μ' := []) rfl rfl (by simp [D.dataL, data_b, data_s, data_ds, D.data, sdD]) ?_ (by simp [toldD, D.data, D.dataL, data_first])
  simp -implicitDefEqProofs [callB, f_law_told, startE, ex_tr, e1, h2, trF_go]
  rfl
theorem errF_ev {cf : CF} (ρ : Env) (μ : Store) (h : ρ[6]? = some (some (.err [2, 1, 0] [0] [.str [101, 110, 100]]))) : ev prog.cst cf (.errF 6 0) ρ μ = .ok (.str [101, 110, 100]) μ := by
  show (match ρ[6]? with
    | some (some (.err _ ks fs)) => okI ((ks.findIdx? fun k => k == 0).bind fun j => fs[j]?) μ
    | _ => .stuck) = _
  rw [h]
  rfl
/-- the refusal, where the call within tells the word end -/
theorem told_no {k : Nat} {w : Txt} {one other : D} {ds : List Side} {μ : Store} (hw : (w = tMates ∧ (∀ μ', μ' = μ ∨ (μ' = [] ∧ D.dataL [one, other] = true) → cF k 27 [bD b, sD S, dsD ds, one] μ' = .exc XE μ')) ∨ (w = tLit ∧ (∀ μ', μ' = μ ∨ (μ' = [] ∧ D.dataL [one, other] = true) → cF k 29 [bD b, sD S, dsD ds, one] μ' = .exc XE μ')) ∨ (w = tFirst ∧ (∀ μ', μ' = μ ∨ (μ' = [] ∧ D.dataL [one, other] = true) → cF k 28 [bD b, sD S, dsD ds, one, other] μ' = .exc XE μ'))) :
    cF (k + 1) 1012 [.str w, bD b, sD S, dsD ds, one, other] μ = .ok stepEnd μ := by
  have h2 : (2 : Nat) ≤ mostLen := by decide
  have key : ∀ μ', μ' = μ ∨ (μ' = [] ∧ D.dataL [one, other] = true) → callB prog N0 (cF k) f_law_told [.str w, bD b, sD S, dsD ds, one, other] μ' = .ok stepEnd μ' := by
    intro μ' hμ
    rcases hw with ⟨rfl, h⟩ | ⟨rfl, h⟩ | ⟨rfl, h⟩
    · have e := h μ' hμ
      simp -implicitDefEqProofs [callB, f_law_told, startE, ex_tr, e, bind_exc, of_exc, next_exc, trF_exc, exh_XE, errF_ev, h2, unset_rt]
      rfl
    · have e := h μ' hμ
      simp -implicitDefEqProofs [callB, f_law_told, startE, ex_tr, e, bind_exc, of_exc, next_exc, trF_exc, exh_XE, errF_ev, h2, unset_rt]
      rfl
    · have e := h μ' hμ
      simp -implicitDefEqProofs [callB, f_law_told, startE, ex_tr, e, bind_exc, of_exc, next_exc, trF_exc, exh_XE, errF_ev, h2, unset_rt]
      rfl
  by_cases hd : D.dataL [one, other] = true
  · have hd0 := hd
    simp only [D.dataL, Bool.and_eq_true, Bool.and_true] at hd
    exact call_data (fn := f_law_told) (μ' := []) rfl rfl (by simp [D.dataL, data_b, data_s, data_ds, D.data, hd.1, hd.2]) (key [] (.inr ⟨rfl, hd0⟩)) rfl
  · rw [call_loc (fn := f_law_told) rfl rfl]
    · exact key μ (.inl rfl)
    · have : D.dataL [one, other] = false := by simpa using hd
      simp only [D.dataL, Bool.and_true] at this
      simp [D.dataL, data_b, data_s, data_ds, D.data, this]
end
end K82
end
section
set_option Elab.async false
set_option linter.all false
set_option autoImplicit false
set_option maxRecDepth 100000
set_option maxHeartbeats 1000000
namespace K82
open PL
/-! law_end_right -/
section
variable {b : Board} {rows cols : Nat} {S : Setting}
theorem er_side (s : Side) : er (sdD s) = sdD s := rfl
theorem erL_sides : ∀ ms : List Side, erL (ms.map sdD) = ms.map sdD
  | [] => rfl
  | m :: ms => by rw [List.map_cons, erL, erL_sides ms]; rfl
theorem nice2_sides : ∀ ms : List Side, nice2L (ms.map sdD) = true ∧ nod2L (ms.map sdD) = 4 * ms.length
  | [] => ⟨rfl, rfl⟩
  | m :: ms => by
    obtain ⟨h1, h2⟩ := nice2_sides ms
    rw [List.map_cons, nice2L, nod2L, h1, h2]
    refine ⟨rfl, ?_⟩
    have : nod2 (sdD m) = 4 := rfl
    rw [this, List.length_cons]; omega
theorem same_mates {k : Nat} (hk : 1 ≤ k) {ms : List Side} (h : ms.length ≤ 5000) (μ : Store) : cF k 1009 [toldD (.ftup (ms.map sdD)), .tup [.str tTold, .tup (ms.map sdD)]] μ = .ok (.bl true) μ := by
  obtain ⟨h1, h2⟩ := nice2_sides ms
  have := law_same2 (k := k) hk (d := toldD (.ftup (ms.map sdD))) (by simp [toldD, nice2, nice2L, h1]) (by simp [toldD, nod2, nod2L, h2]; omega) μ
  have e : er (toldD (.ftup (ms.map sdD))) = .tup [.str tTold, .tup (ms.map sdD)] := by
    simp [toldD, er, erL, erL_sides]
  rw [e] at this
  exact this
theorem nice2_cels : ∀ {xs : List D}, (∀ x ∈ xs, ∃ c, x = celD c) → nice2L xs = true ∧ nod2L xs = 3 * xs.length ∧ erL xs = xs
  | [], _ => ⟨rfl, rfl, rfl⟩
  | x :: xs, h => by
    obtain ⟨h1, h2, h3⟩ := nice2_cels fun y hy => h y (List.mem_cons_of_mem _ hy)
    obtain ⟨c, rfl⟩ := h x (List.mem_cons_self ..)
    rw [nice2L, nod2L, erL, h1, h2, h3]
    refine ⟨rfl, ?_, rfl⟩
    have : nod2 (celD c) = 3 := rfl
    rw [this, List.length_cons]; omega
theorem same_cels {k : Nat} (hk : 1 ≤ k) {cs : List Cel} (h : cs.length ≤ 5000) (μ : Store) : cF k 1009 [toldD (.tup (sortD (cs.map celD))), .tup [.str tTold, .tup (sortD (cs.map celD))]] μ = .ok (.bl true) μ := by
  have hl : (sortD (cs.map celD)).length = cs.length := by unfold sortD; rw [List.length_mergeSort, List.length_map]
  obtain ⟨h1, h2, h3⟩ := nice2_cels (xs := sortD (cs.map celD)) fun x hx => by obtain ⟨c, _, e⟩ := cel_of_sort hx; exact ⟨c, e⟩
  have := law_same2 (k := k) hk (d := toldD (.tup (sortD (cs.map celD)))) (by simp [toldD, nice2, nice2L, h1]) (by simp [toldD, nod2, nod2L, h2, hl]; omega) μ
  have e : er (toldD (.tup (sortD (cs.map celD)))) = .tup [.str tTold, .tup (sortD (cs.map celD))] := by
    simp [toldD, er, erL, h3]
  rw [e] at this
  exact this
theorem same_first {k : Nat} (hk : 1 ≤ k) (ms : List Side) (o : Side) (μ : Store) : cF k 1009 [toldD (firstD ms o), .tup [.str tTold, firstD ms o]] μ = .ok (.bl true) μ := by
  have e : er (toldD (firstD ms o)) = .tup [.str tTold, firstD ms o] := by
    unfold firstD
    cases ms.findIdx? _ <;> rfl
  have := law_same2 (k := k) hk (d := toldD (firstD ms o)) (by unfold firstD; cases ms.findIdx? _ <;> rfl) (by unfold firstD; cases ms.findIdx? _ <;> simp [toldD, nod2, nod2L]) μ
  rw [e] at this
  exact this
theorem same_step {k : Nat} (hk : 1 ≤ k) (μ : Store) : cF k 1009 [stepEnd, stepEnd] μ = .ok (.bl true) μ := law_same2 (k := k) hk (d := stepEnd) rfl (by decide) μ
/-- two ends meet both ways -/
theorem first_sym (B : Bok b rows cols) (O : Sok b rows cols S) {ds : List Side} (hd : ∀ d ∈ ds, Dok b rows cols d) {e o : Side} (he : e ∈ ends b rows cols) (ho : o ∈ ends b rows cols) : firstD (mates b rows cols S ds e) o = firstD (mates b rows cols S ds o) e := by
  have key : ∀ Ts : List Setting, (∀ T ∈ Ts, Sok b rows cols T) → (Ts.map fun T => mate b rows cols T e).findIdx? (fun m => decide (m = o)) = (Ts.map fun T => mate b rows cols T o).findIdx? (fun m => decide (m = e)) := by
    intro Ts
    induction Ts with
    | nil => intro _; rfl
    | cons T Ts ih =>
      intro h
      have OT := h T (List.mem_cons_self ..)
      rw [List.map_cons, List.map_cons, List.findIdx?_cons, List.findIdx?_cons, ih fun U hU => h U (List.mem_cons_of_mem _ hU)]
      have : decide (mate b rows cols T e = o) = decide (mate b rows cols T o = e) := by
        rw [decide_eq_decide]
        constructor
        · rintro rfl; exact mate_mate B OT he
        · rintro rfl; exact mate_mate B OT ho
      rw [this]
  unfold firstD mates
  rw [key _ (runL_sok O hd)]
def wayObjs (b : Board) (rows cols : Nat) (e : Side) (Ts : List Setting) : Store := Ts.map fun T => .lst ((way b rows cols T e).map sdD)
def wayLocs (n k : Nat) : List D := (List.range k).map fun j => .loc (n + j)
end
end K82
end
section
set_option Elab.async false
set_option linter.all false
set_option autoImplicit false
set_option maxRecDepth 100000
set_option maxHeartbeats 1000000
namespace K82
open PL
section
variable {b : Board} {rows cols : Nat} {S : Setting}
theorem ul_lst (l : Nat) (xs : List D) (r : SRes) : unlock (.lst l xs) r = r := by cases r <;> rfl
theorem nin_lst {ms : List Side} (h : ∀ m ∈ ms, isPt m.2.2) {o : Side} (ho : isPt o.2.2) {μ : Store} {l : Nat} (hl : μ[l]? = some (.lst (ms.map sdD))) : cmpF prog.cst .nin (sdD o) (.loc l) μ = .ok (!(ms.findIdx? (fun m => decide (m = o))).isSome) μ := by
  have h1 : inF prog.cst (sdD o) (.loc l) μ = .ok (ms.findIdx? (fun m => decide (m = o))).isSome μ := in_lst h ho hl
  show ((inF prog.cst (sdD o) (.loc l) μ).bind fun b μ => .ok (!b) μ) = _
  rw [h1]; rfl
theorem ne_side {s t : Side} (h1 : isPt s.2.2) (h2 : isPt t.2.2) (μ : Store) : cmpF prog.cst .ne (sdD s) (sdD t) μ = .ok (!decide (s = t)) μ := by
  show (if eqOk2 (sdD s) (sdD t) then Res.ok (!deq (sdD s) (sdD t)) μ else .stuck) = _
  rw [if_pos (by unfold eqOk2; rw [eqOk_side h1, eqOk_side h2]; simp), deq_side]
def meetBody : Ss := (.cons (.asg (.nm 14) (.ite (.cmp .inn (.v 13) (.v 7)) (.meth .indexL (.v 7) (.cons (.v 13) .nil)) .non)) (.cons (.ite (.not (.call 1009 (.cons (.call 1012 (.cons (.str [102, 105, 114, 115, 116]) (.cons (.v 1) (.cons (.v 2) (.cons (.v 3) (.cons (.v 5) (.cons (.v 13) .nil))))))) (.cons (.tup (.cons (.str [116, 111, 108, 100]) (.cons (.v 14) .nil))) .nil)))) (.cons (.ret (.bl false)) .nil) .nil) (.cons (.ite (.not (.call 1009 (.cons (.call 1012 (.cons (.str [102, 105, 114, 115, 116]) (.cons (.v 1) (.cons (.v 2) (.cons (.v 3) (.cons (.v 13) (.cons (.v 5) .nil))))))) (.cons (.tup (.cons (.str [116, 111, 108, 100]) (.cons (.v 14) .nil))) .nil)))) (.cons (.ret (.bl false)) .nil) .nil) .nil)))
theorem meet_loop {k : Nat} (hk : 8 ≤ k) (B : Bok b rows cols) (O : Sok b rows cols S) {ds : List Side} (hd : ∀ d ∈ ds, Dok b rows cols d) (hl : ds.length ≤ 400) {e : Side} (he : e ∈ ends b rows cols) {M : Store} {lm lk : Nat} {As : List Side}
    (hm : M[lm]? = some (.lst ((mates b rows cols S ds e).map sdD))) (hk2 : M[lk]? = some (.lst (As.map sdD))) (hA : ∀ a ∈ As, a ∈ ends b rows cols) (x0 x4 x6 x8 x9 x10 x11 y13 y14 x15 : Option D) {Q : Flow → Env → Store → Prop}
    (hQ : ∀ y13 y14, Q .nx [x0, some (bD b), some (sD S), some (dsD ds), x4, some (sdD e), x6, some (.loc lm), x8, x9, x10, x11, some (.loc lk), y13, y14, x15] M) :
    okS (PL.ex prog.cst (cF k) N0 (.fr (.nm 13) (.val (.v 12)) meetBody) [x0, some (bD b), some (sD S), some (dsD ds), x4, some (sdD e), x6, some (.loc lm), x8, x9, x10, x11, some (.loc lk), y13, y14, x15] M) Q := by
  have wk := walk_lst M hk2
  simp -implicitDefEqProofs only [ex_fr, evI_val, ev_v, List.getElem?_cons_succ, List.getElem?_cons_zero, getV_some, bind_ok, wk, okI_some, of_ok, ul_lst, items_lst, start_lst]
  refine for_wp (xs := As.map sdD) (fun i ρ μ => (∃ y13 y14, ρ = [x0, some (bD b), some (sD S), some (dsD ds), x4, some (sdD e), x6, some (.loc lm), x8, x9, x10, x11, some (.loc lk), y13, y14, x15]) ∧ μ = M) rfl ⟨⟨_, _, rfl⟩, rfl⟩ ?_ ?_ ?_
  · rintro i ρ μ ⟨_, rfl⟩
    exact hk2
  · rintro i x ρ μ hx ⟨⟨y13, y14, rfl⟩, rfl⟩
    rw [List.getElem?_map] at hx
    cases ea : As[i]? with
    | none => rw [ea] at hx; cases hx
    | some a =>
      rw [ea] at hx
      have : sdD a = x := Option.some.inj hx
      subst this
      have ha := hA a (List.mem_of_getElem? ea)
      have h2 : (2 : Nat) ≤ mostLen := by decide
      have hms : ∀ m ∈ mates b rows cols S ds e, isPt m.2.2 := fun m hm => end_pt (mates_end B O hd he m hm)
      have e1 := in_lst hms (end_pt ha) hm
      have t1 := fun μ => told_first (k := k) hk B O hd (by omega) he ha μ
      have t2 := fun μ => told_first (k := k) hk B O hd (by omega) ha he μ
      have s1 := fun μ => same_first (k := k) (by omega) (mates b rows cols S ds e) a μ
      rw [← first_sym B O hd he ha] at t2
      have mk : mfOk .indexL (.loc lm) μ = true := by
        show isLstD (.loc lm) μ = true
        exact mfOk_lst _ hm
      unfold meetBody
      cases hf : (mates b rows cols S ds e).findIdx? (fun m => decide (m = a)) with
      | none =>
        rw [hf] at e1
        have ef : firstD (mates b rows cols S ds e) a = .non := by unfold firstD; rw [hf]
        rw [ef] at t1 t2 s1
        have s1' : ∀ μ, cF k 1009 [toldD .non, .tup [.str [116, 111, 108, 100], .non]] μ = .ok (.bl true) μ := s1
        simp -implicitDefEqProofs only [asgT_nm, okR_ok, List.set_cons_succ, List.set_cons_zero, exs_cons, exs_nil, ex_asg, ev_ite, evT_cmp, ev_v, List.getElem?_cons_succ, List.getElem?_cons_zero, getV_some, bind_ok, e1, Option.isSome_none, Bool.false_eq_true, if_false, ev_non, of_ok, next_nx, ex_ite, evT_not, evT_call, evs_cons, evs_nil, ev_call, ev_str, t1, t2, ev_tup, List.length_cons, List.length_nil, Nat.zero_add, Nat.reduceAdd, if_pos h2, s1', truth_bl, Bool.not_true, okS_go, goS_nx]
        exact ⟨⟨_, _, rfl⟩, trivial⟩
      | some i =>
        rw [hf] at e1
        have ef : firstD (mates b rows cols S ds e) a = .int i := by unfold firstD; rw [hf]
        have e2 := index_lst hms (end_pt ha) hf hm
        rw [ef] at t1 t2 s1
        have s1' : ∀ μ, cF k 1009 [toldD (.int i), .tup [.str [116, 111, 108, 100], .int i]] μ = .ok (.bl true) μ := s1
        simp -implicitDefEqProofs only [asgT_nm, okR_ok, List.set_cons_succ, List.set_cons_zero, exs_cons, exs_nil, ex_asg, ev_ite, evT_cmp, ev_v, List.getElem?_cons_succ, List.getElem?_cons_zero, getV_some, bind_ok, e1, Option.isSome_some, if_true, ev_meth, mk, e2, Bool.false_eq_true, if_false, of_ok, next_nx, ex_ite, evT_not, evT_call, evs_cons, evs_nil, ev_call, ev_str, t1, t2, ev_tup, List.length_cons, List.length_nil, Nat.zero_add, Nat.reduceAdd, if_pos h2, s1', truth_bl, Bool.not_true, okS_go, goS_nx]
        exact ⟨⟨_, _, rfl⟩, trivial⟩
  · rintro ρ μ ⟨⟨y13, y14, rfl⟩, rfl⟩
    exact hQ _ _
/-- lists of places walked: the ways -/
theorem law_end_right_run {k : Nat} (hk : 8 ≤ k) (B : Bok b rows cols) (O : Sok b rows cols S) {ds : List Side} (hd : ∀ d ∈ ds, Dok b rows cols d) (hl : ds.length ≤ 400) {e : Side} (he : e ∈ ends b rows cols) {m : Int} {g : List Int} {ex : List (Txt × Nat)} {rest : Store} (U : UOk m g ex rest) {le : Nat} (hle : rest[le]? = some (.lst ((ends b rows cols).map sdD))) :
    ∃ d μ, callB prog N0 (cF k) f_law_end_right [.loc 0, bD b, sD S, dsD ds, .loc (le + 2), sdD e] (uS m g ex rest) = .ok d μ ∧ ∃ m' g' rest', d = .bl true ∧ μ = uS m' g' ex rest' ∧ Aft rest m' g' ex rest' := by
  refine okR_ex.mp ?_
  have e1 : cF k 1011 [sD S, dsD ds] (uS m g ex rest) = .ok (.loc (rest.length + 2)) (uS m g ex (rest ++ [.lst ((runL S ds).map sD)])) := law_run_ok (k := k) (by omega) B O hd (by omega) _
  have OT := runL_sok O hd
  generalize hn : runL S ds = Ts at *
  have hTs : Ts.length ≤ 401 := by rw [← hn, runL_len]; omega
  have w1 : walkF (.loc (rest.length + 2)) (uS m g ex (rest ++ [.lst (Ts.map sD)])) = some (.lst (rest.length + 2) (Ts.map sD)) := walk_lst _ (by rw [uS_at]; simp)
  simp -implicitDefEqProofs only [callB, f_law_end_right, startE, okR_handed, exs_cons, okS_next, List.map, List.replicate, List.cons_append, List.nil_append, ex_asg, okS_of, ev_comp, evI_val, ev_call, evs_cons, evs_nil, ev_v, List.getElem?_cons_succ, List.getElem?_cons_zero, getV_some, bind_ok, e1, w1, okI_some, items_lst, start_lst, stop_lst, okR_bind, wipeE, List.set_cons_succ, List.set_cons_zero, uS_len, uS_snoc, List.append_assoc, List.length_append, List.length_cons, List.length_nil, Nat.zero_add]
  refine comp_wp (xs := Ts.map sD) (l := rest.length + 1 + 2) (fun i μ => μ = uS m g ex (rest ++ .lst (Ts.map sD) :: .lst (wayLocs (rest.length + 4) i) :: wayObjs b rows cols e (Ts.take i))) rfl (by rfl) ?_ ?_ ?_
  · rintro i μ rfl
    show _ = _
    rw [uS_at]; simp
  · rintro i x μ hx rfl
    rw [List.getElem?_map] at hx
    cases ea : Ts[i]? with
    | none => rw [ea] at hx; cases hx
    | some T =>
      rw [ea] at hx
      have : sD T = x := Option.some.inj hx
      subst this
      have hi : i < Ts.length := (List.getElem?_eq_some_iff.mp ea).1
      have ht : Ts.take (i + 1) = Ts.take i ++ [T] := by rw [List.take_add_one, ea]; rfl
      have e2 := fun μ => law_way_list (k := k) (by omega) B (OT T (List.mem_of_getElem? ea)) he μ
      simp -implicitDefEqProofs only [asgT_nm, bind_ok, List.set_cons_succ, List.set_cons_zero, evC_yes, if_true, ev_call, evs_cons, evs_nil, ev_v, List.getElem?_cons_succ, List.getElem?_cons_zero, getV_some, e2, okR_ok, uS_snoc, uS_len]
      refine ⟨wayLocs (rest.length + 4) i, by rw [uS_at]; simp, by unfold wayLocs; rw [List.length_map, List.length_range, mostLen_eq]; omega, ?_⟩
      have hw : (wayObjs b rows cols e (Ts.take i)).length = i := by unfold wayObjs; rw [List.length_map, List.length_take]; omega
      rw [uS_set, ht]
      have a1 : wayLocs (rest.length + 4) (i + 1) = wayLocs (rest.length + 4) i ++ [.loc (rest.length + 4 + i)] := by unfold wayLocs; rw [List.range_succ, List.map_append]; rfl
      have a2 : wayObjs b rows cols e (Ts.take i ++ [T]) = wayObjs b rows cols e (Ts.take i) ++ [.lst ((way b rows cols T e).map sdD)] := by unfold wayObjs; rw [List.map_append]; rfl
      rw [a1, a2]
      have a3 : (rest ++ Obj.lst (Ts.map sD) :: Obj.lst (wayLocs (rest.length + 4) i) :: wayObjs b rows cols e (Ts.take i)).length + 2 = rest.length + 4 + i := by simp [hw]; omega
      rw [a3]
      simp
  · rintro μ rfl
    rw [List.length_map, List.take_of_length_le (Nat.le_refl _)]
    have hwl : ∀ j (T : Setting), Ts[j]? = some T → (rest ++ Obj.lst (Ts.map sD) :: Obj.lst (wayLocs (rest.length + 4) Ts.length) :: wayObjs b rows cols e Ts)[rest.length + 2 + j]? = some (.lst ((way b rows cols T e).map sdD)) := by
      intro j T hj
      rw [List.getElem?_append_right (by omega), show rest.length + 2 + j - rest.length = j + 1 + 1 from by omega, List.getElem?_cons_succ, List.getElem?_cons_succ]
      unfold wayObjs
      rw [List.getElem?_map, hj]; rfl
    have hR1 : (rest ++ Obj.lst (Ts.map sD) :: Obj.lst (wayLocs (rest.length + 4) Ts.length) :: wayObjs b rows cols e Ts)[rest.length + 1]? = some (.lst (wayLocs (rest.length + 4) Ts.length)) := by simp
    have hRle : (rest ++ Obj.lst (Ts.map sD) :: Obj.lst (wayLocs (rest.length + 4) Ts.length) :: wayObjs b rows cols e Ts)[le]? = some (.lst ((ends b rows cols).map sdD)) := by
      rw [List.getElem?_append_left (List.getElem?_eq_some_iff.mp hle).1, hle]
    have hpre : rest <+: (rest ++ Obj.lst (Ts.map sD) :: Obj.lst (wayLocs (rest.length + 4) Ts.length) :: wayObjs b rows cols e Ts) := ⟨_, rfl⟩
    generalize (rest ++ Obj.lst (Ts.map sD) :: Obj.lst (wayLocs (rest.length + 4) Ts.length) :: wayObjs b rows cols e Ts) = R at hwl hR1 hRle hpre
    have UR := U.grow hpre
    have h0 : (0 : Nat) ≤ mostLen := by decide
    have h2 : (2 : Nat) ≤ mostLen := by decide
    have h3 : (3 : Nat) ≤ mostLen := by decide
    have nw : ∀ m g ex (pre : Store) o, PL.new o (uS m g ex pre) = .ok (.loc (pre.length + 2)) (uS m g ex (pre ++ [o])) := fun _ _ _ _ _ => rfl
    have w2 : ∀ m g R', R <+: R' → walkF (.loc (rest.length + 1 + 2)) (uS m g ex R') = some (.lst (rest.length + 1 + 2) (wayLocs (rest.length + 4) Ts.length)) := by
      rintro m g R' ⟨t, rfl⟩
      exact walk_lst _ (by rw [uS_at, List.getElem?_append_left (List.getElem?_eq_some_iff.mp hR1).1, hR1])
    have hwlen : (wayLocs (rest.length + 4) Ts.length).length = Ts.length := by simp [wayLocs]
    have hwat : ∀ (j : Nat) (x : D), (wayLocs (rest.length + 4) Ts.length)[j]? = some x → ∃ T, Ts[j]? = some T ∧ x = .loc (rest.length + 2 + j + 2) := by
      intro j x hx
      have hj : j < Ts.length := by rw [← hwlen]; exact (List.getElem?_eq_some_iff.mp hx).1
      refine ⟨Ts[j], List.getElem?_eq_getElem hj, ?_⟩
      unfold wayLocs at hx
      rw [List.getElem?_map, List.getElem?_range hj] at hx
      have := Option.some.inj hx
      rw [← this]
      show D.loc _ = D.loc _
      rw [show rest.length + 4 + j = rest.length + 2 + j + 2 from by omega]
    simp -implicitDefEqProofs only [okR_ok, asgT_nm, List.set_cons_succ, List.set_cons_zero, okS_go, thenS_nx, exs_cons, okS_next, ex_asg, okS_of, ev_tup, evs_cons, evs_nil, okR_bind, ev_comp, evI_val, ev_v, List.getElem?_cons_succ, List.getElem?_cons_zero, getV_some, bind_ok, w2 m g R (List.prefix_rfl), okI_some, items_lst, start_lst, stop_lst, wipeE, uS_snoc, uS_len]
    refine comp_wp (xs := wayLocs (rest.length + 4) Ts.length) (l := R.length + 2) (fun i μ => μ = uS m g ex (R ++ [.lst (((Ts.take i).map fun T => mate b rows cols T e).map sdD)])) rfl (by rfl) ?_ ?_ ?_
    · rintro i μ rfl
      show _ = _
      rw [uS_at, List.getElem?_append_left (List.getElem?_eq_some_iff.mp hR1).1, hR1]
    · rintro i x μ hx rfl
      obtain ⟨T, ea, rfl⟩ := hwat i x hx
      have hi : i < Ts.length := (List.getElem?_eq_some_iff.mp ea).1
      have ht : Ts.take (i + 1) = Ts.take i ++ [T] := by rw [List.take_add_one, ea]; rfl
      obtain ⟨L, hL⟩ := way_last B (OT T (List.mem_of_getElem? ea)) he
      have hw := hwl i T ea
      have e4 : ∀ xs, ixF prog.cst (.loc (rest.length + 2 + i + 2)) (.int (-1)) (uS m g ex (R ++ [.lst xs])) = .ok (sdD (mate b rows cols T e)) (uS m g ex (R ++ [.lst xs])) := by
        intro xs
        rw [ix_lst (xs := (way b rows cols T e).map sdD) _ _ (by rw [uS_at, List.getElem?_append_left (List.getElem?_eq_some_iff.mp hw).1, hw]), hL, List.map_append, List.map_cons, List.map_nil, atIx_last]
        rfl
      simp -implicitDefEqProofs only [asgT_nm, bind_ok, List.set_cons_succ, List.set_cons_zero, evC_yes, if_true, ev_ix, ev_v, List.getElem?_cons_succ, List.getElem?_cons_zero, getV_some, ev_neg, e4, okR_ok]
      refine ⟨((Ts.take i).map fun T => mate b rows cols T e).map sdD, by rw [uS_at]; simp, by rw [List.length_map, List.length_map, List.length_take, mostLen_eq]; omega, ?_⟩
      rw [uS_set, ht]
      simp
    · rintro μ rfl
      rw [hwlen, List.take_of_length_le (Nat.le_refl _)]
      have hms : mates b rows cols S ds e = Ts.map fun T => mate b rows cols T e := by unfold mates; rw [hn]
      rw [← hms]
      simp -implicitDefEqProofs only [okR_ok, ev_dnT, nw, bind_ok, List.length_cons, List.length_nil, Nat.zero_add, Nat.reduceAdd, if_pos h2, asgT_tp, unpack_2, List.set_cons_succ, List.set_cons_zero, okS_go, thenS_nx, exs_cons, okS_next, ex_fr, okS_of, evI_val, ev_v, List.getElem?_cons_succ, List.getElem?_cons_zero, getV_some, List.append_assoc, List.cons_append, List.nil_append, List.length_append, w2 m g (R ++ [.lst ((mates b rows cols S ds e).map sdD), .dT false []]) ⟨_, rfl⟩, okI_some, ul_lst, items_lst, start_lst]
      have hmsl : (mates b rows cols S ds e).length = Ts.length := by rw [hms, List.length_map]
      have hmm := mates_end B O hd he
      have hmp : ∀ m ∈ mates b rows cols S ds e, isPt m.2.2 := fun m hm => end_pt (hmm m hm)
      have t1 := fun μ => told_mates (k := k) (by omega) B O hd (by omega) he μ
      have t2 := fun μ => told_lit (k := k) (by omega) B O hd (by omega) he μ
      generalize hMs : mates b rows cols S ds e = Ms at hmsl hmm hmp t1
      refine for_wp (xs := wayLocs (rest.length + 4) Ts.length) (fun i ρ μ => (∃ x y, ρ = [some (D.loc 0), some (bD b), some (sD S), some (dsD ds), some (D.loc (le + 2)), some (sdD e),
        some (D.loc (List.length rest + 1 + 2)), some (D.loc (List.length R + 2)), some (D.loc (List.length R + 1 + 2)), x, y, none, none, none, none, none]) ∧ μ = uS m g ex (R ++ [.lst (Ms.map sdD), .dT false (kvC (seen ((Ts.take i).flatMap fun T => way b rows cols T e)))])) rfl ⟨⟨_, _, rfl⟩, rfl⟩ ?_ ?_ ?_
      · rintro i ρ μ ⟨_, rfl⟩
        show _ = _
        rw [uS_at, List.getElem?_append_left (List.getElem?_eq_some_iff.mp hR1).1, hR1]
      · rintro i x ρ μ hx ⟨⟨x9, x10, rfl⟩, rfl⟩
        obtain ⟨T, ea, rfl⟩ := hwat i x hx
        have hi : i < Ts.length := (List.getElem?_eq_some_iff.mp ea).1
        have ht : Ts.take (i + 1) = Ts.take i ++ [T] := by rw [List.take_add_one, ea]; rfl
        have hw := hwl i T ea
        have w3 : ∀ X : List Obj, walkF (.loc (rest.length + 2 + i + 2)) (uS m g ex (R ++ X)) = some (.lst (rest.length + 2 + i + 2) ((way b rows cols T e).map sdD)) := fun X => walk_lst _ (by rw [uS_at, List.getElem?_append_left (List.getElem?_eq_some_iff.mp hw).1, hw])
        simp -implicitDefEqProofs only [asgT_nm, okR_ok, List.set_cons_succ, List.set_cons_zero, exs_cons, exs_nil, ex_fr, evI_val, ev_v, List.getElem?_cons_succ, List.getElem?_cons_zero, getV_some, bind_ok, w3, okI_some, of_ok, ul_lst, items_lst, start_lst, okS_next]
        refine for_fmT (acc0 := (Ts.take i).flatMap fun T => way b rows cols T e) (way b rows cols T e) sdD (fun s => [s]) (fun ρ => ∃ y, ρ = [some (D.loc 0), some (bD b), some (sD S), some (dsD ds), some (D.loc (le + 2)), some (sdD e),
          some (D.loc (List.length rest + 1 + 2)), some (D.loc (List.length R + 2)), some (D.loc (List.length R + 1 + 2)), some (.loc (rest.length + 2 + i + 2)), y, none, none, none, none, none]) (fun acc μ => (∀ s ∈ acc, s ∈ sides b rows cols) ∧ μ = uS m g ex (R ++ [.lst (Ms.map sdD), .dT false (kvC (seen acc))])) rfl rfl ⟨?_, rfl⟩ ⟨_, rfl⟩ ?_ ?_ ?_
        · intro s hs
          obtain ⟨T', hT', hs'⟩ := List.mem_flatMap.mp hs
          exact way_mem' (OT T' (List.mem_of_mem_take hT')) he s hs'
        · rintro acc μ ⟨_, rfl⟩
          show _ = _
          rw [uS_at, List.getElem?_append_left (List.getElem?_eq_some_iff.mp hw).1, hw]
        · rintro s hs ρ acc μ ⟨y, rfl⟩ ⟨hacc, rfl⟩ _
          have hsm := seen_small B hacc
          have es := setC (c := cel s) hsm (R.length + 1 + 2) (uS m g ex (R ++ [.lst (Ms.map sdD), .dT false (kvC (seen acc))])) (by rw [uS_at]; simp)
          have sl : ∀ μ, slF (sdD s) none (some 2) μ = .ok (celD (cel s)) μ := fun _ => rfl
          simp -implicitDefEqProofs only [asgT_nm, okR_ok, List.set_cons_succ, List.set_cons_zero, exs_cons, exs_nil, ex_asg, ev_bl, asgT_sb, ev_v, List.getElem?_cons_succ, List.getElem?_cons_zero, getV_some, bind_ok, ev_slU, ev_int, sl2_int, sl, es, of_ok, next_nx, okS_go, goS_nx]
          refine ⟨⟨_, rfl⟩, ?_, ?_⟩
          · intro t ht
            rcases List.mem_append.mp ht with h | h
            · exact hacc t h
            · rw [List.mem_singleton.mp h]; exact way_mem' (OT T (List.mem_of_getElem? ea)) he s hs
          · rw [seen_snoc, uS_set]
            simp
        · rintro ρ μ ⟨y, rfl⟩ ⟨hacc, rfl⟩
          have fm : (way b rows cols T e).flatMap (fun s => [s]) = way b rows cols T e := by simp
          rw [fm]
          refine ⟨⟨_, _, rfl⟩, ?_⟩
          rw [ht, List.flatMap_append]
          simp
      · rintro ρ μ ⟨⟨x9, x10, rfl⟩, rfl⟩
        rw [hwlen, List.take_of_length_le (Nat.le_refl _)]
        have hWm : ∀ s ∈ (Ts.flatMap fun T => way b rows cols T e), s ∈ sides b rows cols := by
          intro s hs
          obtain ⟨T', hT', hs'⟩ := List.mem_flatMap.mp hs
          exact way_mem' (OT T' hT') he s hs'
        have hlit : litD b rows cols S ds e = .tup (sortD ((seen (Ts.flatMap fun T => way b rows cols T e)).map celD)) := by unfold litD; rw [hn]
        rw [hlit] at t2
        have hsm := seen_small B hWm
        generalize seen (Ts.flatMap fun T => way b rows cols T e) = cs at t2 hsm
        have es := sorted_kvC hsm (R.length + 1 + 2) (uS m g ex (R ++ [.lst (Ms.map sdD), .dT false (kvC cs)])) (by rw [uS_at]; simp)
        rw [uS_snoc, uS_len] at es
        have tl1 : ∀ X : List Obj, bfF .tuple (.loc (R.length + 2)) (uS m g ex (R ++ .lst (Ms.map sdD) :: X)) = .ok (.tup (Ms.map sdD)) (uS m g ex (R ++ .lst (Ms.map sdD) :: X)) := fun X => tuple_lst _ (by rw [uS_at]; simp)
        have tl2 : bfF .tuple (.loc ((R ++ [Obj.lst (Ms.map sdD), Obj.dT false (kvC cs)]).length + 2)) (uS m g ex (R ++ [Obj.lst (Ms.map sdD), Obj.dT false (kvC cs)] ++ [Obj.lst (sortD (cs.map celD))])) = .ok (.tup (sortD (cs.map celD))) (uS m g ex (R ++ [Obj.lst (Ms.map sdD), Obj.dT false (kvC cs)] ++ [Obj.lst (sortD (cs.map celD))])) := tuple_lst _ (by rw [uS_at]; simp)
        have s1 := fun μ => same_mates (k := k) (by omega) (ms := Ms) (by omega) μ
        have s2 := fun μ => same_cels (k := k) (by omega) (cs := cs) (by omega) μ
        simp -implicitDefEqProofs only [thenS_nx, okS_next, exs_cons, ex_ite, okS_of, evT_not, evT_call, evs_cons, evs_nil, ev_call, ev_str, ev_v, ev_non, List.getElem?_cons_succ, List.getElem?_cons_zero, getV_some, bind_ok, t1, t2, ev_tup, ev_bf, tl1, es, tl2, List.length_cons, List.length_nil, Nat.zero_add, Nat.reduceAdd, if_pos h2, s1, s2, truth_bl, Bool.not_true, Bool.false_eq_true, if_false, okR_ok, okS_go, exs_nil]
        have hRm : (R ++ [Obj.lst (Ms.map sdD), Obj.dT false (kvC cs)] ++ [Obj.lst (sortD (cs.map celD))])[R.length]? = some (.lst (Ms.map sdD)) := by simp
        have hRe : (R ++ [Obj.lst (Ms.map sdD), Obj.dT false (kvC cs)] ++ [Obj.lst (sortD (cs.map celD))])[le]? = some (.lst ((ends b rows cols).map sdD)) := by
          rw [List.append_assoc, List.getElem?_append_left (List.getElem?_eq_some_iff.mp hRle).1, hRle]
        have hp2 : rest <+: (R ++ [Obj.lst (Ms.map sdD), Obj.dT false (kvC cs)] ++ [Obj.lst (sortD (cs.map celD))]) := by
          obtain ⟨t, rfl⟩ := hpre
          exact ⟨_, by rw [List.append_assoc, List.append_assoc]⟩
        generalize R ++ [Obj.lst (Ms.map sdD), Obj.dT false (kvC cs)] ++ [Obj.lst (sortD (cs.map celD))] = R2 at hRm hRe hp2
        have U2 := U.grow hp2
        have w4 : walkF (.loc (le + 2)) (uS m g ex R2) = some (.lst (le + 2) ((ends b rows cols).map sdD)) := walk_lst _ (by rw [uS_at, hRe])
        simp -implicitDefEqProofs only [thenS_nx, okS_next, okS_of, List.getElem?_cons_succ, List.getElem?_cons_zero, getV_some, bind_ok, w4, okI_some, okR_bind, items_lst, start_lst, stop_lst, okR_ok, uS_snoc, uS_len]
        refine comp_fm_wp (ends b rows cols) sdD (fun o => !decide (o = e) && !(Ms.findIdx? (fun m => decide (m = o))).isSome) sdD (uS m g ex R2) rfl rfl rfl rfl (by have := ends_small B; rw [mostLen_eq]; omega) ?_ ?_ ?_
        · intro acc
          show _ = _
          rw [uS_snoc, uS_at, List.getElem?_append_left (List.getElem?_eq_some_iff.mp hRe).1, hRe]
        · intro o ho acc
          have e5 := fun μ => ne_side (end_pt ho) (end_pt he) μ
          have e6 := nin_lst (μ := uS m g ex (R2 ++ [Obj.lst acc])) (l := R.length + 2) hmp (end_pt ho) (by rw [uS_at, List.getElem?_append_left (List.getElem?_eq_some_iff.mp hRm).1, hRm])
          by_cases hoe : o = e
          · rw [hoe] at e5 ⊢
            simp -implicitDefEqProofs only [List.set_cons_succ, List.set_cons_zero, evC_test, evT_and, evT_cmp, ev_v, List.getElem?_cons_succ, List.getElem?_cons_zero, getV_some, bind_ok, e5, decide_true, Bool.not_true, Bool.false_eq_true, if_false, Bool.false_and, uS_snoc]
          · simp -implicitDefEqProofs only [List.set_cons_succ, List.set_cons_zero, evC_test, evT_and, evT_cmp, ev_v, List.getElem?_cons_succ, List.getElem?_cons_zero, getV_some, bind_ok, e5, hoe, decide_false, Bool.not_false, if_true, uS_snoc, e6, Bool.true_and]
            split <;> rfl
        · have haw : ∀ o ∈ (ends b rows cols).filter (fun o => !decide (o = e) && !(Ms.findIdx? (fun m => decide (m = o))).isSome), o ∈ ends b rows cols := fun o h => (List.mem_filter.mp h).1
          have hal : ((ends b rows cols).filter (fun o => !decide (o = e) && !(Ms.findIdx? (fun m => decide (m = o))).isSome)).length ≤ 256 := Nat.le_trans (List.length_filter_le _ _) (ends_small B)
          generalize (ends b rows cols).filter (fun o => !decide (o = e) && !(Ms.findIdx? (fun m => decide (m = o))).isSome) = Aw at haw hal
          have hMl : Ms.length = Ts.length := hmsl
          have hTl : Ts.length = ds.length + 1 := by rw [← hn, runL_len]
          obtain ⟨ini, lst, hini⟩ : ∃ ini lst, Ms = ini ++ [lst] := by
            rcases List.eq_nil_or_concat Ms with rfl | ⟨i, x, rfl⟩
            · simp at hMl; omega
            · exact ⟨i, x, List.concat_eq_append⟩
          have U3 := U2.grow (rest' := R2 ++ [Obj.lst (Aw.map sdD)]) ⟨_, rfl⟩
          obtain ⟨r1, m1, g1, k1, a1, a2, U4⟩ := take_ok (k := k) (by omega) U3 (many := (Ms.length : Int)) (by omega) (by omega)
          have hm3 : ∀ m g X, (uS m g ex (R2 ++ X))[R.length + 2]? = some (.lst (Ms.map sdD)) := fun m g X => by rw [uS_at, List.getElem?_append_left (List.getElem?_eq_some_iff.mp hRm).1, hRm]
          have ln : ∀ m g X, bfF .len (.loc (R.length + 2)) (uS m g ex (R2 ++ X)) = .ok (.int Ms.length) (uS m g ex (R2 ++ X)) := fun m g X => by rw [len_lst (l := R.length + 2) _ (hm3 m g X), List.length_map]
          have i1 : ∀ m g X, ixF prog.cst (.loc (R.length + 2)) (.int (-1)) (uS m g ex (R2 ++ X)) = .ok (sdD lst) (uS m g ex (R2 ++ X)) := fun m g X => by
            rw [ix_lst (l := R.length + 2) (xs := Ms.map sdD) _ _ (hm3 m g X), hini, List.map_append, List.map_cons, List.map_nil, atIx_last]
            rfl
          have i2 : ∀ m g X, ixF prog.cst (.loc (R.length + 2)) (.int r1) (uS m g ex (R2 ++ X)) = .ok (sdD (Ms.getD r1.toNat lst)) (uS m g ex (R2 ++ X)) := fun m g X => by
            rw [ix_lst (l := R.length + 2) (xs := Ms.map sdD) _ _ (hm3 m g X), atIx_nat a1 (by rw [List.length_map]; exact a2), List.getElem?_map, List.getD_eq_getElem?_getD, List.getElem?_eq_getElem (by omega)]
            rfl
          have hq1 : lst ∈ ends b rows cols := hmm lst (by rw [hini]; simp)
          have hq2 : Ms.getD r1.toNat lst ∈ ends b rows cols := by
            rw [List.getD_eq_getElem?_getD, List.getElem?_eq_getElem (by omega)]
            exact hmm _ (List.getElem_mem _)
          generalize Ms.getD r1.toNat lst = q2 at i2 hq2
          have la : ∀ m g X, (uS m g ex (R2 ++ Obj.lst (Aw.map sdD) :: X))[R2.length + 2]? = some (.lst (Aw.map sdD)) := fun m g X => by rw [uS_at]; simp
          have ln2 : ∀ m g X, bfF .len (.loc (R2.length + 2)) (uS m g ex (R2 ++ Obj.lst (Aw.map sdD) :: X)) = .ok (.int Aw.length) (uS m g ex (R2 ++ Obj.lst (Aw.map sdD) :: X)) := fun m g X => by rw [len_lst (l := R2.length + 2) _ (la m g X), List.length_map]
          simp -implicitDefEqProofs only [okS_next, okS_of, List.set_cons_succ, List.set_cons_zero, okS_go, okR_ok, thenS_nx, ev_lst, evs_cons, evs_nil, ev_ix, ev_v, List.getElem?_cons_succ, List.getElem?_cons_zero, getV_some, bind_ok, ev_neg, i1, i2, ev_call, ev_bf, ln, uS_snoc, k1, List.length_cons, List.length_nil, Nat.zero_add, Nat.reduceAdd, if_pos h2, nw, List.append_assoc, List.cons_append, List.nil_append, evT_cmp, ln2, ev_int, gt_int, List.length_append]
          have fin : ∀ (As : List Side) m2 g2 (x6 x8 x9 x10 x11 x13 x14 x15 : Option D), (∀ a ∈ As, a ∈ ends b rows cols) → UOk m2 g2 ex (R2 ++ [Obj.lst (Aw.map sdD)]) → okS (PL.ex prog.cst (cF k) N0 (.fr (.nm 13) (.val (.v 12)) meetBody) [some (D.loc 0), some (bD b), some (sD S), some (dsD ds), some (D.loc (le + 2)), some (sdD e), x6, some (D.loc (R.length + 2)), x8, x9, x10, x11, some (D.loc (R2.length + 1 + 2)), x13, x14, x15] (uS m2 g2 ex (R2 ++ [Obj.lst (Aw.map sdD), Obj.lst (As.map sdD)])))
              (thenS (fun ρ μ => (PL.ex prog.cst (cF k) N0 (.ret (.bl true)) ρ μ).next fun ρ μ => exs prog.cst (cF k) N0 .nil ρ μ) (handQ fun d μ => ∃ m' g' rest', d = .bl true ∧ μ = uS m' g' ex rest' ∧ Aft rest m' g' ex rest')) := by
            intro As m2 g2 x6 x8 x9 x10 x11 x13 x14 x15 hA UU
            refine meet_loop hk B O hd hl he (As := As) (by rw [hMs]; exact hm3 m2 g2 _) (by rw [uS_at]; simp) hA _ _ _ _ _ _ _ _ _ _ fun y13 y14 => ?_
            simp -implicitDefEqProofs only [thenS_nx, ex_ret, ev_bl, of_ok, next_rt, okS_go, handQ_rt]
            obtain ⟨t, ht⟩ := hp2
            exact ⟨m2, g2, _, trivial, rfl, UU.grow ⟨[Obj.lst (As.map sdD)], by simp⟩, ⟨t ++ [Obj.lst (Aw.map sdD), Obj.lst (As.map sdD)], by rw [← List.append_assoc, ht]⟩⟩
          by_cases hpos : (0 : Int) < Aw.length
          · obtain ⟨r2, m2, g2, k2, c1, c2, U5⟩ := take_ok (k := k) (by omega) (U4.grow (rest' := R2 ++ [Obj.lst (Aw.map sdD), Obj.lst [sdD lst, sdD q2]]) ⟨[Obj.lst [sdD lst, sdD q2]], by simp⟩) (many := (Aw.length : Int)) (by omega) (by omega)
            have i3 : ∀ m g X, ixF prog.cst (.loc (R2.length + 2)) (.int r2) (uS m g ex (R2 ++ Obj.lst (Aw.map sdD) :: X)) = .ok (sdD (Aw.getD r2.toNat lst)) (uS m g ex (R2 ++ Obj.lst (Aw.map sdD) :: X)) := fun m g X => by
              rw [ix_lst (l := R2.length + 2) (xs := Aw.map sdD) _ _ (la m g X), atIx_nat c1 (by rw [List.length_map]; exact c2), List.getElem?_map, List.getD_eq_getElem?_getD, List.getElem?_eq_getElem (by omega)]
              rfl
            have hq3 : Aw.getD r2.toNat lst ∈ ends b rows cols := by
              rw [List.getD_eq_getElem?_getD, List.getElem?_eq_getElem (by omega)]
              exact haw _ (List.getElem_mem _)
            generalize Aw.getD r2.toNat lst = q3 at i3 hq3
            have l3 : ∀ m g, (uS m g ex (R2 ++ [Obj.lst (Aw.map sdD), Obj.lst [sdD lst, sdD q2]]))[R2.length + 1 + 2]? = some (.lst [sdD lst, sdD q2]) := fun m g => by rw [uS_at]; simp
            have ap := append_lst (C := prog.cst) (d := sdD q3) _ (l3 m2 g2) (by rw [mostLen_eq]; simp)
            rw [uS_set] at ap
            have es : (R2 ++ [Obj.lst (Aw.map sdD), Obj.lst [sdD lst, sdD q2]]).set (R2.length + 1) (.lst ([sdD lst, sdD q2] ++ [sdD q3])) = R2 ++ [Obj.lst (Aw.map sdD), Obj.lst ([lst, q2, q3].map sdD)] := by simp
            rw [es] at ap
            have mk := mfOk_lst _ (l3 m1 g1)
            simp -implicitDefEqProofs only [hpos, decide_true, if_true, ex_ex, ev_meth, ev_v, List.getElem?_cons_succ, List.getElem?_cons_zero, getV_some, bind_ok, mfOk_append, mk, evs_cons, evs_nil, ev_ix, ev_call, ev_bf, ln2, k2, i3, ap, of_ok, next_nx, okS_go, thenS_nx, okS_next]
            refine fin [lst, q2, q3] m2 g2 _ _ _ _ _ _ _ _ (fun a ha => ?_) ⟨U5.m0, U5.g0, U5.gl, U5.nm, U4.at_, U5.el, U5.nd⟩
            simp at ha
            rcases ha with rfl | rfl | rfl
            · exact hq1
            · exact hq2
            · exact hq3
          · simp -implicitDefEqProofs only [hpos, decide_false, Bool.false_eq_true, if_false, okS_go, thenS_nx, okS_next]
            refine fin [lst, q2] m1 g1 _ _ _ _ _ _ _ _ (fun a ha => ?_) U4
            simp at ha
            rcases ha with rfl | rfl
            · exact hq1
            · exact hq2
theorem law_end_right_ok {k : Nat} (hk : 9 ≤ k) (B : Bok b rows cols) (O : Sok b rows cols S) {ds : List Side} (hd : ∀ d ∈ ds, Dok b rows cols d) (hl : ds.length ≤ 400) {e : Side} (he : e ∈ ends b rows cols) {m : Int} {g : List Int} {ex : List (Txt × Nat)} {rest : Store} (U : UOk m g ex rest) {le : Nat} (hle : rest[le]? = some (.lst ((ends b rows cols).map sdD))) :
    ∃ m' g' rest', cF k 1013 [.loc 0, bD b, sD S, dsD ds, .loc (le + 2), sdD e] (uS m g ex rest) = .ok (.bl true) (uS m' g' ex rest') ∧ Aft rest m' g' ex rest' := by
  obtain ⟨k, rfl⟩ : ∃ j, k = j + 1 := ⟨k - 1, by omega⟩
  have hx := @law_end_right_run b rows cols S k (by omega) B O ds hd hl e he m g ex rest U le hle
  obtain ⟨d, μ, e1, m', g', rest', rfl, rfl, h1⟩ := hx
  exact ⟨m', g', rest', by rw [call_loc (fn := f_law_end_right) rfl rfl rfl, e1], h1⟩
end
end K82
end
section
set_option Elab.async false
set_option linter.all false
set_option autoImplicit false
set_option maxRecDepth 100000
set_option maxHeartbeats 1000000
namespace K82
open PL
section
variable {b : Board} {rows cols : Nat}
def oddLoop : S := (.fr (.nm 9) (.rng (.bf .len (.v 1))) (.cons (.fr (.nm 10) (.rng (.bf .len (.ix (.v 1) (.int 0)))) (.cons (.asg (.nm 11) (.comp (.nm 17) (.val (.str [101, 110, 115, 119])) (.test (.cmp .ne (.ix (.ix (.v 1) (.v 9)) (.v 10)) (.str []))) (.tup (.cons (.v 9) (.cons (.v 10) (.cons (.v 17) .nil)))) [17])) (.cons (.ex (.meth .extend (.v 8) (.cons (.comp (.nm 18) (.val (.v 11)) (.test (.cmp .isn (.call 1006 (.cons (.v 1) (.cons (.v 18) .nil))) .non)) (.v 18) [18]) .nil))) .nil))) .nil))
def lnAt (b : Board) (rows cols r c : Nat) : List Side := (if (cell b r c).isEmpty = false then pts.map fun p => ((r, c, p) : Side) else []).filter fun s => (after b rows cols s).isSome
theorem lnAt_len (r c : Nat) : (lnAt b rows cols r c).length ≤ 4 := by
  unfold lnAt
  refine Nat.le_trans (List.length_filter_le _ _) ?_
  split <;> simp [pts]
theorem lnAt_good {r c : Nat} (h1 : r < rows) (h2 : c < cols) : ∀ s ∈ lnAt b rows cols r c, s ∈ sides b rows cols ∧ (after b rows cols s).isSome = true := by
  intro s hs
  unfold lnAt at hs
  obtain ⟨h3, h4⟩ := List.mem_filter.mp hs
  refine ⟨?_, h4⟩
  split at h3
  · rename_i ho
    obtain ⟨p, hp, rfl⟩ := List.mem_map.mp h3
    exact mem_sides.mpr ⟨h1, h2, ho, mem_pts.mp hp⟩
  · cases h3
theorem odd_lines {k : Nat} (hk : 1 ≤ k) (B : Bok b rows cols) {m : Int} {g : List Int} {ex : List (Txt × Nat)} {rest : Store} (x0 x2 x3 x4 x5 x6 x7 x9 x10 x11 x12 x13 x14 x15 x16 : Option D) {Q : Flow → Env → Store → Prop}
    (hQ : ∀ x9 x10 x11 (Ls : List Side) (junk : Store), (∀ s ∈ Ls, s ∈ sides b rows cols ∧ (after b rows cols s).isSome = true) → Ls.length ≤ 256 → Q .nx [x0, some (bD b), x2, x3, x4, x5, x6, x7, some (.loc (rest.length + 2)), x9, x10, x11, x12, x13, x14, x15, x16, none, none] (uS m g ex (rest ++ .lst (Ls.map sdD) :: junk))) :
    ∃ f ρ μ, PL.ex prog.cst (cF k) N0 oddLoop [x0, some (bD b), x2, x3, x4, x5, x6, x7, some (.loc (rest.length + 2)), x9, x10, x11, x12, x13, x14, x15, x16, none, none] (uS m g ex (rest ++ [.lst []])) = .go f ρ μ ∧ Q f ρ μ := by
  refine okS_ex.mp ?_
  have hr := B.rs
  have hc := B.cs
  have h3 : (3 : Nat) ≤ mostLen := by decide
  have e0 := b_row B (r := 0) (by omega) (by have := B.r0; omega)
  have e0' : ∀ μ, ixF prog.cst (bD b) (.int 0) μ = .ok (rowD (rowAt b 0)) μ := fun μ => by
    show okI (atIx (b.map rowD) 0) μ = _
    rw [e0]; rfl
  have l0 : ∀ μ, bfF .len (rowD (rowAt b 0)) μ = .ok (.int cols) μ := fun μ => by
    show Res.ok (D.int ((rowAt b 0).map D.str).length) μ = _
    rw [List.length_map, b_len B B.r0]
  have lb : ∀ μ, bfF .len (bD b) μ = .ok (.int rows) μ := fun μ => by
    show Res.ok (D.int (b.map rowD).length) μ = _
    rw [List.length_map, B.r]
  have cx : ∀ r c : Nat, r < rows → c < cols → (∀ μ, ixF prog.cst (bD b) (.int r) μ = .ok (rowD (rowAt b r)) μ) ∧ ∀ μ, ixF prog.cst (rowD (rowAt b r)) (.int c) μ = .ok (.str (cell b r c)) μ := by
    intro r c h1 h2
    obtain ⟨c1, c2⟩ := cell_ok B (inB_nat h1 h2)
    constructor
    · intro μ
      show okI (atIx (b.map rowD) (r : Int)) μ = _
      rw [c1]; rfl
    · intro μ
      show okI (atIx ((rowAt b r).map D.str) (c : Int)) μ = _
      have c2' : atIx ((rowAt b r).map D.str) c = some (.str (cell b r c)) := by simpa using c2
      rw [c2']; rfl
  have hfl : ∀ (l : List Nat) (r : Nat), (l.flatMap (lnAt b rows cols r)).length ≤ 4 * l.length := by
    intro l r
    induction l with
    | nil => simp
    | cons x l ih => rw [List.flatMap_cons, List.length_append, List.length_cons]; have := lnAt_len (b := b) (rows := rows) (cols := cols) r x; omega
  have hfl2 : ∀ (l : List Nat), (l.flatMap fun r => (List.range cols).flatMap (lnAt b rows cols r)).length ≤ 32 * l.length := by
    intro l
    induction l with
    | nil => simp
    | cons x l ih => rw [List.flatMap_cons, List.length_append, List.length_cons]; have := hfl (List.range cols) x; rw [List.length_range] at this; omega
  let T : List Side → Store → Prop := fun acc μ => (∀ s ∈ acc, s ∈ sides b rows cols ∧ (after b rows cols s).isSome = true) ∧ ∃ junk, μ = uS m g ex (rest ++ Obj.lst (acc.map sdD) :: junk)
  unfold oddLoop
  simp -implicitDefEqProofs only [ex_fr, evI_rng, ev_bf, ev_v, List.getElem?_cons_succ, List.getElem?_cons_zero, getV_some, bind_ok, lb, small_rng (n := rows) (by omega), of_ok, rngW_start, rngW_stop]
  refine for_fmT (w := rngW (rows : Int)) (acc0 := ([] : List Side)) (List.range rows) (fun (r : Nat) => D.int r) (fun r => (List.range cols).flatMap (lnAt b rows cols r)) (fun ρ => ∃ x9 x10 x11, ρ = [x0, some (bD b), x2, x3, x4, x5, x6, x7, some (.loc (rest.length + 2)), x9, x10, x11, x12, x13, x14, x15, x16, none, none]) T rfl (by simp [rngW]) ⟨by simp, [], rfl⟩ ⟨x9, x10, x11, rfl⟩ (fun _ _ _ => trivial) ?_ ?_
  · rintro r hr' ρ acc μ ⟨x9, x10, x11, rfl⟩ ⟨hacc, junk, rfl⟩ hb
    have hrr : r < rows := List.mem_range.mp hr'
    have hb0 : acc.length + ((List.range cols).flatMap (lnAt b rows cols r)).length ≤ 256 := by
      have := hfl2 (List.range rows)
      rw [List.length_range] at this
      simp only [List.length_nil, Nat.zero_add] at hb
      omega
    simp -implicitDefEqProofs only [asgT_nm, okR_ok, List.set_cons_succ, List.set_cons_zero, exs_cons, exs_nil, ex_fr, okS_next, evI_rng, ev_bf, ev_ix, ev_int, ev_v, List.getElem?_cons_succ, List.getElem?_cons_zero, getV_some, bind_ok, e0', l0, small_rng (n := cols) (by omega), of_ok, rngW_start, rngW_stop]
    refine for_fmT (w := rngW (cols : Int)) (acc0 := acc) (List.range cols) (fun (c : Nat) => D.int c) (lnAt b rows cols r) (fun ρ => ∃ x10 x11, ρ = [x0, some (bD b), x2, x3, x4, x5, x6, x7, some (.loc (rest.length + 2)), some (.int r), x10, x11, x12, x13, x14, x15, x16, none, none]) T rfl (by simp [rngW]) ⟨hacc, junk, rfl⟩ ⟨x10, x11, rfl⟩ (fun _ _ _ => trivial) ?_ ?_
    · rintro c hc' ρ acc2 μ ⟨x10, x11, rfl⟩ ⟨hacc, junk, rfl⟩ hb
      have hcc : c < cols := List.mem_range.mp hc'
      obtain ⟨c1, c2⟩ := cx r c hrr hcc
      have hb2 : acc2.length + (lnAt b rows cols r c).length ≤ 256 := Nat.le_trans hb hb0
      simp -implicitDefEqProofs only [asgT_nm, okR_ok, okR_bind, List.set_cons_succ, List.set_cons_zero, exs_cons, exs_nil, ex_asg, okS_next, okS_of, ev_comp, evI_val, ev_str, ev_v, List.getElem?_cons_succ, List.getElem?_cons_zero, getV_some, bind_ok, walk_pts, start_row, stop_row, items_row, wipeE, uS_snoc, uS_len]
      have hcs := K82.walk_pts
      generalize hP : (rest ++ Obj.lst (acc2.map sdD) :: junk) = P
      have hP0 : P[rest.length]? = some (.lst (acc2.map sdD)) := by rw [← hP]; simp
      refine comp_fm_wp (w := .row [.str [101], .str [110], .str [115], .str [119]]) pts (fun p => .str [p]) (fun _ => !(cell b (r : Nat) (c : Nat)).isEmpty) (fun p => sdD (r, c, p)) (uS m g ex P) rfl rfl rfl rfl (by decide) (fun _ => trivial) ?_ ?_
      · intro p _ acc
        simp -implicitDefEqProofs only [List.set_cons_succ, List.set_cons_zero, evC_test, evT_cmp, ev_ix, ev_v, List.getElem?_cons_succ, List.getElem?_cons_zero, getV_some, bind_ok, c1, c2, ev_str, ne_str, ev_tup, evs_cons, evs_nil, List.length_cons, List.length_nil, Nat.zero_add, Nat.reduceAdd, if_pos h3]
        cases cell b (r : Nat) (c : Nat) <;> rfl
      · have hsd : ((pts.filter fun _ => !(cell b (r : Nat) (c : Nat)).isEmpty).map fun p => sdD (r, c, p)) = (if (cell b (r : Nat) (c : Nat)).isEmpty = false then pts.map fun p => ((r, c, p) : Side) else []).map sdD := by
          cases cell b (r : Nat) (c : Nat) <;> rfl
        rw [hsd, uS_snoc]
        have hLn : lnAt b rows cols r c = (if (cell b (r : Nat) (c : Nat)).isEmpty = false then pts.map fun p => ((r, c, p) : Side) else []).filter fun s => (after b rows cols s).isSome := rfl
        have hps : ∀ s ∈ (if (cell b (r : Nat) (c : Nat)).isEmpty = false then pts.map fun p => ((r, c, p) : Side) else []), isPt s.2.2 := by
          intro s hs
          split at hs
          · obtain ⟨p, hp, rfl⟩ := List.mem_map.mp hs
            exact mem_pts.mp hp
          · cases hs
        have hsl : (if (cell b (r : Nat) (c : Nat)).isEmpty = false then pts.map fun p => ((r, c, p) : Side) else []).length ≤ 4 := by split <;> simp [pts]
        generalize (if (cell b (r : Nat) (c : Nat)).isEmpty = false then pts.map fun p => ((r, c, p) : Side) else []) = Sd at hLn hps hsl
        have q3 : (uS m g ex (P ++ [Obj.lst (Sd.map sdD)]))[P.length + 2]? = some (.lst (Sd.map sdD)) := by rw [uS_at]; simp
        have q4 : (uS m g ex (P ++ [Obj.lst (Sd.map sdD)]))[rest.length + 2]? = some (.lst (acc2.map sdD)) := by rw [uS_at, List.getElem?_append_left (List.getElem?_eq_some_iff.mp hP0).1, hP0]
        have w3 := walk_lst _ q3
        have i0 := mfOk_lst _ q4
        simp -implicitDefEqProofs only [okR_ok, List.set_cons_succ, List.set_cons_zero, okS_go, thenS_nx, okS_next, okS_of, ex_ex, ev_meth, ev_v, List.getElem?_cons_succ, List.getElem?_cons_zero, getV_some, bind_ok, mfOk_extend, i0, if_true, evs_cons, evs_nil, ev_comp, evI_val, w3, okI_some, okR_bind, items_lst, start_lst, stop_lst, wipeE, uS_snoc, uS_len]
        refine comp_fm_wp Sd sdD (fun s => (after b rows cols s).isSome) sdD (uS m g ex (P ++ [Obj.lst (Sd.map sdD)])) rfl rfl rfl rfl (by rw [mostLen_eq]; omega) ?_ ?_ ?_
        · intro acc
          show _ = _
          rw [uS_snoc, uS_at]; simp
        · intro s hs acc
          have e6 := law_beyond_ok (k := k) (by omega) B (hps s hs) (uS m g ex (P ++ [Obj.lst (Sd.map sdD)] ++ [Obj.lst acc]))
          simp -implicitDefEqProofs only [asgT_nm, bind_ok, List.set_cons_succ, List.set_cons_zero, evC_test, evT_cmp, ev_call, evs_cons, evs_nil, ev_v, List.getElem?_cons_succ, List.getElem?_cons_zero, getV_some, ev_non, e6, isn_non, isNon_oD, uS_snoc]
          cases after b rows cols s <;> rfl
        · rw [← hLn, uS_snoc]
          have l0 : (uS m g ex (P ++ [Obj.lst (Sd.map sdD)] ++ [Obj.lst ((lnAt b rows cols r c).map sdD)]))[rest.length + 2]? = some (.lst (acc2.map sdD)) := by
            rw [uS_at, List.append_assoc, List.getElem?_append_left (List.getElem?_eq_some_iff.mp hP0).1, hP0]
          have l1 : (uS m g ex (P ++ [Obj.lst (Sd.map sdD)] ++ [Obj.lst ((lnAt b rows cols r c).map sdD)]))[(P ++ [Obj.lst (Sd.map sdD)]).length + 2]? = some (.lst ((lnAt b rows cols r c).map sdD)) := by rw [uS_at]; simp
          have hPl := (List.getElem?_eq_some_iff.mp hP0).1
          rw [extend_lst l0 l1 (by rw [List.length_map, List.length_map, mostLen_eq]; omega) (by simp; omega), uS_set]
          simp -implicitDefEqProofs only [okR_ok, okS_go, thenS_nx, goS_nx]
          refine ⟨⟨_, _, rfl⟩, fun s hs => ?_, ?_⟩
          · rcases List.mem_append.mp hs with h | h
            · exact hacc s h
            · exact lnAt_good hrr hcc s h
          · rw [← hP]
            exact ⟨junk ++ [Obj.lst (Sd.map sdD), Obj.lst ((lnAt b rows cols r c).map sdD)], by simp⟩
    · rintro ρ μ ⟨x10, x11, rfl⟩ hT
      exact ⟨⟨_, _, _, rfl⟩, hT⟩
  · rintro ρ μ ⟨x9, x10, x11, rfl⟩ ⟨hacc, junk, rfl⟩
    refine hQ _ _ _ _ _ hacc ?_
    rw [List.nil_append]
    have := hfl2 (List.range rows)
    rw [List.length_range] at this
    omega
structure RunTo (k : Nat) (s : S) (ρ : Env) (μ : Store) (ρ' : Env) (μ' : Store) : Prop where
  e : PL.ex prog.cst (cF k) N0 s ρ μ = .go .nx ρ' μ'
theorem odd_lines' {k : Nat} (hk : 1 ≤ k) (B : Bok b rows cols) (m : Int) (g : List Int) (ex : List (Txt × Nat)) (rest : Store) (x0 x2 x3 x4 x5 x6 x7 : Option D) :
    ∃ (x9 x10 x11 : Option D) (Ls : List Side) (junk : Store), RunTo k oddLoop [x0, some (bD b), x2, x3, x4, x5, x6, x7, some (.loc (rest.length + 2)), none, none, none, none, none, none, none, none, none, none] (uS m g ex (rest ++ [.lst []])) [x0, some (bD b), x2, x3, x4, x5, x6, x7, some (.loc (rest.length + 2)), x9, x10, x11, none, none, none, none, none, none, none] (uS m g ex (rest ++ .lst (Ls.map sdD) :: junk)) ∧ (∀ s ∈ Ls, s ∈ sides b rows cols ∧ (after b rows cols s).isSome = true) ∧ Ls.length ≤ 256 := by
  have hx := @odd_lines b rows cols k hk B m g ex rest x0 x2 x3 x4 x5 x6 x7 none none none none none none none none (fun f ρ μ => ∃ (x9 x10 x11 : Option D) (Ls : List Side) (junk : Store), f = .nx ∧ ρ = [x0, some (bD b), x2, x3, x4, x5, x6, x7, some (.loc (rest.length + 2)), x9, x10, x11, none, none, none, none, none, none, none] ∧ μ = (uS m g ex (rest ++ .lst (Ls.map sdD) :: junk)) ∧ (∀ s ∈ Ls, s ∈ sides b rows cols ∧ (after b rows cols s).isSome = true) ∧ Ls.length ≤ 256) (fun x9 x10 x11 Ls junk h1 h2 => ⟨x9, x10, x11, Ls, junk, rfl, rfl, rfl, h1, h2⟩)
  obtain ⟨f, ρ, μ, e, h⟩ := hx
  obtain ⟨x9, x10, x11, Ls, junk, rfl, rfl, rfl, h1, h2⟩ := h
  exact ⟨x9, x10, x11, Ls, junk, ⟨e⟩, h1, h2⟩
end
end K82
end
section
set_option Elab.async false
set_option linter.all false
set_option autoImplicit false
set_option maxRecDepth 100000
set_option maxHeartbeats 1000000
namespace K82
open PL
section
variable {b : Board} {rows cols : Nat} {S : Setting}
theorem NoEnd.nil {d : D} {μ : Store} (h : NoEnd b rows cols d μ) (hd : D.data d = true) : NoEnd b rows cols d [] := by
  rcases h with h | ⟨l, xs, rfl, _⟩
  · exact .inl h
  · cases hd
theorem NoEnd.at {d : D} {one other : D} {μ μ' : Store} (h : NoEnd b rows cols d μ) (hm : d = one ∨ d = other) (e : μ' = μ ∨ (μ' = [] ∧ D.dataL [one, other] = true)) : NoEnd b rows cols d μ' := by
  rcases e with rfl | ⟨rfl, hd⟩
  · exact h
  · simp only [D.dataL, Bool.and_eq_true, Bool.and_true] at hd
    rcases hm with rfl | rfl
    · exact h.nil hd.1
    · exact h.nil hd.2
theorem odd_told {k : Nat} (hk : 8 ≤ k) (B : Bok b rows cols) {ds : List Side} {e : Side} (he : e ∈ ends b rows cols) {d : D} {μ : Store} (h : NoEnd b rows cols d μ) :
    cF k 1012 [.str tMates, bD b, sD S, dsD ds, d, .non] μ = .ok stepEnd μ ∧ cF k 1012 [.str tLit, bD b, sD S, dsD ds, d, .non] μ = .ok stepEnd μ ∧ cF k 1012 [.str tFirst, bD b, sD S, dsD ds, d, sdD e] μ = .ok stepEnd μ ∧ cF k 1012 [.str tFirst, bD b, sD S, dsD ds, sdD e, d] μ = .ok stepEnd μ := by
  obtain ⟨k, rfl⟩ : ∃ j, k = j + 1 := ⟨k - 1, by omega⟩
  refine ⟨told_no (.inl ⟨rfl, fun μ' e => mates_no (by omega) B (h.at (.inl rfl) e)⟩), told_no (.inr (.inl ⟨rfl, fun μ' e => lit_no (by omega) B (h.at (.inl rfl) e)⟩)), told_no (.inr (.inr ⟨rfl, fun μ' e => first_no1 (by omega) B (h.at (.inl rfl) e)⟩)), told_no (.inr (.inr ⟨rfl, fun μ' e => first_no2 (by omega) B he (h.at (.inr rfl) e)⟩))⟩
/-- what the law asks for ends and is none -/
def oddsD (s : Side) (A : D) (Ls : List Side) : List D := ([.non, .bl true, .tup [.int s.1, .int s.2.1], A, .tup [.int s.1, .int s.2.1, .str [120]], .tup [.int (s.1 + 9), .int s.2.1, .str [s.2.2]], .tup [.int (-1), .int s.2.1, .str [s.2.2]]] ++ [.tup [.bl ((s.1 : Int) == 1), .int s.2.1, .str [s.2.2]], .tup [.int s.1, .bl ((s.2.1 : Int) == 1), .str [s.2.2]], .tup [.str (intT s.1), .int s.2.1, .str [s.2.2]], .int (10 ^ 59), .tup [], .tup [sdD s]]) ++ [.tup [.int s.1, .int s.2.1, .non], .str [48, 48, 110], .tup ([.int s.1, .int s.2.1, .str [s.2.2]] ++ [.int 0])] ++ cut (Ls.map sdD) none (some 1) ++ cut (Ls.map sdD) (some (-1)) none
theorem mem_cut {α : Type} {xs : List α} {lo hi : Option Int} {x : α} (h : x ∈ cut xs lo hi) : x ∈ xs := by
  unfold cut at h
  exact List.mem_of_mem_drop (List.mem_of_mem_take h)
theorem intT_small : ∀ r : Nat, r < 8 → (intT (r : Int)).length ≤ 1000 := by
  intro r hr
  have : r = 0 ∨ r = 1 ∨ r = 2 ∨ r = 3 ∨ r = 4 ∨ r = 5 ∨ r = 6 ∨ r = 7 := by omega
  rcases this with rfl | rfl | rfl | rfl | rfl | rfl | rfl | rfl <;> decide
theorem odd_no (B : Bok b rows cols) {e : Side} (he : e ∈ ends b rows cols) {la : Nat} {xs : List D} {Ls : List Side} (hL : ∀ s ∈ Ls, s ∈ sides b rows cols ∧ (after b rows cols s).isSome = true) {μ : Store} (hA : μ[la]? = some (.lst xs)) {d : D} (hd : d ∈ oddsD e (.loc la) Ls) : NoEnd b rows cols d μ := by
  have he' := List.mem_filter.mp he
  obtain ⟨h1, h2, h3, h4⟩ := mem_sides.mp he'.1
  have hr := B.rs
  have hc := B.cs
  have ln : ∀ s ∈ Ls, NoEnd b rows cols (sdD s) μ := by
    intro s hs
    obtain ⟨i1, i2⟩ := hL s hs
    obtain ⟨j1, j2, j3, j4⟩ := mem_sides.mp i1
    obtain ⟨k1, k2, k3⟩ := kindOk_side s
    refine .inl ⟨k1, k2, k3, ?_⟩
    obtain ⟨r, c, p⟩ := s
    have hp : p ∈ pts := mem_pts.mpr j4
    unfold isEndB sideV sdD
    simp only [hp, if_true, Int.toNat_natCast]
    cases hx : after b rows cols (r, c, p) with
    | none => rw [hx] at i2; cases i2
    | some _ => simp
  unfold oddsD at hd
  rcases List.mem_append.mp hd with hd | hd
  rotate_left
  · obtain ⟨s, hs, rfl⟩ := List.mem_map.mp (mem_cut hd)
    exact ln s hs
  rcases List.mem_append.mp hd with hd | hd
  rotate_left
  · obtain ⟨s, hs, rfl⟩ := List.mem_map.mp (mem_cut hd)
    exact ln s hs
  obtain ⟨r, c, p⟩ := e
  simp only at h1 h2 h3 h4
  have hit := intT_small r (by omega)
  simp only [List.cons_append, List.nil_append, List.mem_cons, List.not_mem_nil, or_false] at hd
  rcases hd with rfl | rfl | rfl | rfl | rfl | rfl | rfl | rfl | rfl | rfl | rfl | rfl | rfl | rfl | rfl | rfl
  · exact .inl ⟨rfl, (by simp), rfl, rfl⟩
  · exact .inl ⟨rfl, (by simp), rfl, rfl⟩
  · exact .inl ⟨rfl, fun xs h x hx => by cases h; simp at hx; rcases hx with rfl | rfl <;> rfl, rfl, rfl⟩
  · exact .inr ⟨la, xs, rfl, hA⟩
  · exact .inl ⟨rfl, fun xs h x hx => by cases h; simp at hx; rcases hx with rfl | rfl | rfl <;> rfl, rfl, rfl⟩
  · refine .inl ⟨rfl, fun xs h x hx => by cases h; simp at hx; rcases hx with rfl | rfl | rfl <;> rfl, rfl, ?_⟩
    have hp : p ∈ pts := mem_pts.mpr h4
    unfold isEndB sideV
    simp only [hp, if_true]
    have : opn b rows cols ((r : Int) + 9) c = false := by unfold opn inB; simp; omega
    rw [this]; rfl
  · refine .inl ⟨rfl, fun xs h x hx => by cases h; simp at hx; rcases hx with rfl | rfl | rfl <;> rfl, rfl, ?_⟩
    have hp : p ∈ pts := mem_pts.mpr h4
    unfold isEndB sideV
    simp only [hp, if_true]
    have : opn b rows cols (-1) c = false := by unfold opn inB; simp
    rw [this]; rfl
  · exact .inl ⟨rfl, fun xs h x hx => by cases h; simp at hx; rcases hx with rfl | rfl | rfl <;> rfl, rfl, rfl⟩
  · exact .inl ⟨rfl, fun xs h x hx => by cases h; simp at hx; rcases hx with rfl | rfl | rfl <;> rfl, rfl, rfl⟩
  · refine .inl ⟨rfl, fun xs h x hx => ?_, rfl, rfl⟩
    cases h
    simp at hx
    rcases hx with rfl | rfl | rfl
    · show decide _ = true
      exact decide_eq_true hit
    · rfl
    · rfl
  · exact .inl ⟨rfl, (by simp), rfl, rfl⟩
  · exact .inl ⟨rfl, (by simp), rfl, rfl⟩
  · exact .inl ⟨rfl, fun xs h x hx => by cases h; simp at hx; rcases hx with rfl; rfl, rfl, rfl⟩
  · exact .inl ⟨rfl, fun xs h x hx => by cases h; simp at hx; rcases hx with rfl | rfl | rfl <;> rfl, rfl, rfl⟩
  · exact .inl ⟨rfl, (by simp), rfl, rfl⟩
  · exact .inl ⟨rfl, fun xs h x hx => by cases h; simp at hx; rcases hx with rfl | rfl | rfl | rfl <;> rfl, rfl, rfl⟩
theorem add_lst {μ : Store} {l r : Nat} {xs ys : List D} (h1 : μ[l]? = some (.lst xs)) (h2 : μ[r]? = some (.lst ys)) (h3 : xs.length + ys.length ≤ mostLen) : binF .add (.loc l) (.loc r) μ = .ok (.loc μ.length) (μ ++ [.lst (xs ++ ys)]) := by
  unfold binF
  simp only [h1, h2]
  rw [if_pos h3]; rfl
theorem sl_lst {μ : Store} {l : Nat} {xs : List D} (h1 : μ[l]? = some (.lst xs)) (lo hi : Option Int) : slF (.loc l) lo hi μ = .ok (.loc μ.length) (μ ++ [.lst (cut xs lo hi)]) := by
  unfold slF
  simp only [h1]
  rfl
theorem cut_len {α : Type} (xs : List α) (lo hi : Option Int) : (cut xs lo hi).length ≤ xs.length := by
  unfold cut
  rw [List.length_take, List.length_drop]
  omega
end
end K82
end
section
set_option Elab.async false
set_option linter.all false
set_option autoImplicit false
set_option maxRecDepth 100000
set_option maxHeartbeats 1000000
namespace K82
open PL
section
variable {b : Board} {rows cols : Nat} {S : Setting}
def odd7 (e : Side) (A : D) : List D := [D.non, D.bl true, D.tup [D.int e.1, D.int e.2.1], A,
                D.tup [D.int e.1, D.int e.2.1, D.str [120]],
                D.tup [D.int ((e.1 : Int) + 9), D.int e.2.1, D.str [e.2.2]],
                D.tup [D.int (-1), D.int e.2.1, D.str [e.2.2]]]
def odd6 (e : Side) : List D := [D.tup [D.bl ((e.1 : Int) == 1), D.int e.2.1, D.str [e.2.2]],
                D.tup [D.int e.1, D.bl ((e.2.1 : Int) == 1), D.str [e.2.2]],
                D.tup [D.str (intT e.1), D.int e.2.1, D.str [e.2.2]], D.int (10 ^ 59), D.tup [],
                D.tup [sdD e]]
def odd3 (e : Side) : List D := [D.tup [D.int e.1, D.int e.2.1, D.non], D.str [48, 48, 110],
                        D.tup [D.int e.1, D.int e.2.1, D.str [e.2.2], D.int 0]]
theorem oddsD_eq (e : Side) (A : D) (Ls : List Side) : oddsD e A Ls = odd7 e A ++ odd6 e ++ odd3 e ++ cut (Ls.map sdD) none (some 1) ++ cut (Ls.map sdD) (some (-1)) none := rfl
theorem addU {m : Int} {g : List Int} {ex : List (Txt × Nat)} {R X : Store} {i j : Nat} {xs ys : List D} (h1 : X[i]? = some (.lst xs)) (h2 : X[j]? = some (.lst ys)) (h3 : xs.length + ys.length ≤ 1000) : binF .add (.loc (R.length + i + 2)) (.loc (R.length + j + 2)) (uS m g ex (R ++ X)) = .ok (.loc (R.length + X.length + 2)) (uS m g ex (R ++ (X ++ [.lst (xs ++ ys)]))) := by
  rw [add_lst (xs := xs) (ys := ys) (by rw [uS_at, List.getElem?_append_right (by omega), show R.length + i - R.length = i from by omega, h1]) (by rw [uS_at, List.getElem?_append_right (by omega), show R.length + j - R.length = j from by omega, h2]) (by rw [mostLen_eq]; omega), uS_len, uS_snoc]
  simp
theorem slU' {m : Int} {g : List Int} {ex : List (Txt × Nat)} {R X : Store} {l : Nat} {xs : List D} (h1 : R[l]? = some (.lst xs)) (lo hi : Option Int) : slF (.loc (l + 2)) lo hi (uS m g ex (R ++ X)) = .ok (.loc (R.length + X.length + 2)) (uS m g ex (R ++ (X ++ [.lst (cut xs lo hi)]))) := by
  rw [sl_lst (xs := xs) (by rw [uS_at, List.getElem?_append_left (List.getElem?_eq_some_iff.mp h1).1, h1]), uS_len, uS_snoc]
  simp
theorem law_odd_right_run {k : Nat} (hk : 8 ≤ k) (B : Bok b rows cols) {ds : List Side} {e : Side} (he : e ∈ ends b rows cols) {m : Int} {g : List Int} {ex : List (Txt × Nat)} {rest : Store} (U : UOk m g ex rest) :
    ∃ d μ, callB prog N0 (cF k) f_law_odd_right [.loc 0, bD b, sD S, dsD ds, sdD e] (uS m g ex rest) = .ok d μ ∧ ∃ m' g' rest', d = .bl true ∧ μ = uS m' g' ex rest' ∧ Aft rest m' g' ex rest' := by
  have hx := @odd_lines' b rows cols k (by omega) B m g ex rest (some (D.loc 0)) (some (sD S)) (some (dsD ds)) (some (sdD e)) (some (D.int e.1)) (some (D.int e.2.1)) (some (D.str [e.2.2]))
  obtain ⟨x9, x10, x11, Ls, junk, eL, hL, hLl⟩ := hx
  unfold oddLoop at eL
  refine okR_ex.mp ?_
  have h0 : (0 : Nat) ≤ mostLen := by decide
  have h1 : (1 : Nat) ≤ mostLen := by decide
  have h2 : (2 : Nat) ≤ mostLen := by decide
  have h3 : (3 : Nat) ≤ mostLen := by decide
  have h4 : (4 : Nat) ≤ mostLen := by decide
  have h6 : (6 : Nat) ≤ mostLen := by decide
  have h7 : (7 : Nat) ≤ mostLen := by decide
  have un : ∀ ρ μ, unpackF [5, 6, 7] (sdD e) ρ μ = .ok (((ρ.set 5 (some (.int e.1))).set 6 (some (.int e.2.1))).set 7 (some (.str [e.2.2]))) μ := fun _ _ => rfl
  have nw : ∀ m g ex (pre : Store) o, PL.new o (uS m g ex pre) = .ok (.loc (pre.length + 2)) (uS m g ex (pre ++ [o])) := fun _ _ _ _ _ => rfl
  simp -implicitDefEqProofs only [callB, f_law_odd_right, startE, okR_handed, exs_cons, okS_next, List.map, List.replicate, List.cons_append, List.nil_append, ex_asg, okS_of, ev_v, List.getElem?_cons_succ, List.getElem?_cons_zero, getV_some, bind_ok, okR_ok, asgT_tp, un, List.set_cons_succ, List.set_cons_zero, okS_go, thenS_nx, ev_lst, evs_nil, List.length_nil, if_pos h0, nw, asgT_nm]
  rw [eL.e]
  have hpre : rest <+: (rest ++ Obj.lst (Ls.map sdD) :: junk) := ⟨_, rfl⟩
  have hR : (rest ++ Obj.lst (Ls.map sdD) :: junk)[rest.length]? = some (.lst (Ls.map sdD)) := by simp
  generalize rest ++ Obj.lst (Ls.map sdD) :: junk = R at hpre hR
  have he' := List.mem_filter.mp he
  obtain ⟨q1, q2, q3, q4⟩ := mem_sides.mp he'.1
  have hr := B.rs
  have lsE : ∀ μ, bfF .list (sdD e) μ = .ok (.loc μ.length) (μ ++ [.lst [.int e.1, .int e.2.1, .str [e.2.2]]]) := fun _ => rfl
  have stE : ∀ μ, bfF .str (.int e.1) μ = .ok (.str (intT e.1)) μ := fun μ => by
    show (if (e.1 : Int).natAbs < 2 ^ 1000 then Res.ok (D.str (intT e.1)) μ else .stuck) = _
    rw [if_pos]
    have : (e.1 : Int).natAbs < 2 ^ 3 := by omega
    exact Nat.lt_trans this (by decide)
  have pw : ∀ μ, binF .pow (.int 10) (.int 59) μ = .ok (.int (10 ^ 59)) μ := fun _ => rfl
  have ad : ∀ μ, binF .add (sdD e) (.tup [.int 0]) μ = .ok (.tup ([.int e.1, .int e.2.1, .str [e.2.2]] ++ [.int 0])) μ := fun _ => rfl
  simp -implicitDefEqProofs only [thenS_nx, okS_next, exs_cons, ex_asg, okS_of, ev_lst, evs_cons, evs_nil, ev_non, ev_bl, ev_v, List.getElem?_cons_succ, List.getElem?_cons_zero, getV_some, bind_ok, ev_tup, ev_bf, lsE, uS_len, uS_snoc, ev_str, ev_bin, ev_int, add_int, ev_neg, List.length_cons, List.length_nil, Nat.zero_add, Nat.reduceAdd, if_pos h0, if_pos h1, if_pos h2, if_pos h3, if_pos h4, if_pos h6, if_pos h7, nw, okR_ok, asgT_nm, List.set_cons_succ, List.set_cons_zero, okS_go, ev_cmp, eq_int, stE, pw, ad, List.append_assoc, List.cons_append, List.nil_append, List.length_append]
  have g7 : [D.non, D.bl true, D.tup [D.int e.1, D.int e.2.1], D.loc (R.length + 2), D.tup [D.int e.1, D.int e.2.1, D.str [120]], D.tup [D.int ((e.1 : Int) + 9), D.int e.2.1, D.str [e.2.2]], D.tup [D.int (-1), D.int e.2.1, D.str [e.2.2]]] = odd7 e (.loc (R.length + 2)) := rfl
  have g6 : [D.tup [D.bl ((e.1 : Int) == 1), D.int e.2.1, D.str [e.2.2]], D.tup [D.int e.1, D.bl ((e.2.1 : Int) == 1), D.str [e.2.2]], D.tup [D.str (intT e.1), D.int e.2.1, D.str [e.2.2]], D.int (10 ^ 59), D.tup [], D.tup [sdD e]] = odd6 e := rfl
  have g3 : [D.tup [D.int e.1, D.int e.2.1, D.non], D.str [48, 48, 110], D.tup [D.int e.1, D.int e.2.1, D.str [e.2.2], D.int 0]] = odd3 e := rfl
  have o6 : (odd6 e).length = 6 := rfl
  have o3 : (odd3 e).length = 3 := rfl
  have hall := oddsD_eq e (.loc (R.length + 2)) Ls
  rw [g7, g6, g3]
  generalize ho7 : odd7 e (.loc (R.length + 2)) = l7 at *
  generalize odd6 e = l6 at *
  generalize odd3 e = l3 at *
  have hA : (uS m g ex (R ++ [Obj.lst [D.int e.1, D.int e.2.1, D.str [e.2.2]]]))[R.length + 2]? = some (.lst [D.int e.1, D.int e.2.1, D.str [e.2.2]]) := by rw [uS_at]; simp
  generalize hxs : [D.int e.1, D.int e.2.1, D.str [e.2.2]] = l1 at hA
  have c1l : (cut (Ls.map sdD) none (some 1)).length ≤ 256 := Nat.le_trans (cut_len _ _ _) (by rw [List.length_map]; exact hLl)
  have c2l : (cut (Ls.map sdD) (some (-1)) none).length ≤ 256 := Nat.le_trans (cut_len _ _ _) (by rw [List.length_map]; exact hLl)
  have s1 := fun (X : Store) => slU' (m := m) (g := g) (ex := ex) (X := X) hR none (some 1)
  have s2 := fun (X : Store) => slU' (m := m) (g := g) (ex := ex) (X := X) hR (some (-1)) none
  generalize cut (Ls.map sdD) none (some 1) = k1 at *
  generalize cut (Ls.map sdD) (some (-1)) none = k2 at *
  have o7' : l7.length = 7 := by rw [← ho7]; rfl
  have a1 : binF .add (.loc (R.length + 1 + 2)) (.loc (R.length + 2 + 2)) (uS m g ex (R ++ [.lst l1, .lst l7, .lst l6])) = .ok (.loc (R.length + 3 + 2)) (uS m g ex (R ++ [.lst l1, .lst l7, .lst l6, .lst (l7 ++ l6)])) := addU (X := [.lst l1, .lst l7, .lst l6]) rfl rfl (by omega)
  have a2 : binF .add (.loc (R.length + 3 + 2)) (.loc (R.length + 4 + 2)) (uS m g ex (R ++ [.lst l1, .lst l7, .lst l6, .lst (l7 ++ l6), .lst l3])) = .ok (.loc (R.length + 5 + 2)) (uS m g ex (R ++ [.lst l1, .lst l7, .lst l6, .lst (l7 ++ l6), .lst l3, .lst (l7 ++ l6 ++ l3)])) := addU (X := [.lst l1, .lst l7, .lst l6, .lst (l7 ++ l6), .lst l3]) rfl rfl (by rw [List.length_append]; omega)
  have a3 : binF .add (.loc (R.length + 5 + 2)) (.loc (R.length + 6 + 2)) (uS m g ex (R ++ [.lst l1, .lst l7, .lst l6, .lst (l7 ++ l6), .lst l3, .lst (l7 ++ l6 ++ l3), .lst k1])) = .ok (.loc (R.length + 7 + 2)) (uS m g ex (R ++ [.lst l1, .lst l7, .lst l6, .lst (l7 ++ l6), .lst l3, .lst (l7 ++ l6 ++ l3), .lst k1, .lst (l7 ++ l6 ++ l3 ++ k1)])) := addU (X := [.lst l1, .lst l7, .lst l6, .lst (l7 ++ l6), .lst l3, .lst (l7 ++ l6 ++ l3), .lst k1]) rfl rfl (by rw [List.length_append, List.length_append]; omega)
  have a4 : binF .add (.loc (R.length + 7 + 2)) (.loc (R.length + 8 + 2)) (uS m g ex (R ++ [.lst l1, .lst l7, .lst l6, .lst (l7 ++ l6), .lst l3, .lst (l7 ++ l6 ++ l3), .lst k1, .lst (l7 ++ l6 ++ l3 ++ k1), .lst k2])) = .ok (.loc (R.length + 9 + 2)) (uS m g ex (R ++ [.lst l1, .lst l7, .lst l6, .lst (l7 ++ l6), .lst l3, .lst (l7 ++ l6 ++ l3), .lst k1, .lst (l7 ++ l6 ++ l3 ++ k1), .lst k2, .lst (l7 ++ l6 ++ l3 ++ k1 ++ k2)])) := addU (X := [.lst l1, .lst l7, .lst l6, .lst (l7 ++ l6), .lst l3, .lst (l7 ++ l6 ++ l3), .lst k1, .lst (l7 ++ l6 ++ l3 ++ k1), .lst k2]) rfl rfl (by rw [List.length_append, List.length_append, List.length_append]; omega)
  have b1 : slF (.loc (rest.length + 2)) none (some 1) (uS m g ex (R ++ [.lst l1, .lst l7, .lst l6, .lst (l7 ++ l6), .lst l3, .lst (l7 ++ l6 ++ l3)])) = .ok (.loc (R.length + 6 + 2)) (uS m g ex (R ++ [.lst l1, .lst l7, .lst l6, .lst (l7 ++ l6), .lst l3, .lst (l7 ++ l6 ++ l3), .lst k1])) := s1 [.lst l1, .lst l7, .lst l6, .lst (l7 ++ l6), .lst l3, .lst (l7 ++ l6 ++ l3)]
  have b2 : slF (.loc (rest.length + 2)) (some (-1)) none (uS m g ex (R ++ [.lst l1, .lst l7, .lst l6, .lst (l7 ++ l6), .lst l3, .lst (l7 ++ l6 ++ l3), .lst k1, .lst (l7 ++ l6 ++ l3 ++ k1)])) = .ok (.loc (R.length + 8 + 2)) (uS m g ex (R ++ [.lst l1, .lst l7, .lst l6, .lst (l7 ++ l6), .lst l3, .lst (l7 ++ l6 ++ l3), .lst k1, .lst (l7 ++ l6 ++ l3 ++ k1), .lst k2])) := s2 [.lst l1, .lst l7, .lst l6, .lst (l7 ++ l6), .lst l3, .lst (l7 ++ l6 ++ l3), .lst k1, .lst (l7 ++ l6 ++ l3 ++ k1)]
  have n1 : PL.new (.lst l3) (uS m g ex (R ++ [.lst l1, .lst l7, .lst l6, .lst (l7 ++ l6)])) = .ok (.loc (R.length + 4 + 2)) (uS m g ex (R ++ [.lst l1, .lst l7, .lst l6, .lst (l7 ++ l6), .lst l3])) := by rw [nw]; simp
  simp -implicitDefEqProofs only [a1, okR_ok, n1, bind_ok, a2, ev_slU, ev_slL, ev_v, List.getElem?_cons_succ, List.getElem?_cons_zero, getV_some, ev_int, ev_neg, sl1_int, sl2_int, b1, a3, b2, a4]
  rw [← hall]
  have hal : (oddsD e (.loc (R.length + 2)) Ls).length ≤ 1000 := by rw [hall]; simp only [List.length_append]; omega
  have hal0 : 1 ≤ (oddsD e (.loc (R.length + 2)) Ls).length := by rw [hall]; simp only [List.length_append]; omega
  have hodd : ∀ m g X d, d ∈ oddsD e (.loc (R.length + 2)) Ls → NoEnd b rows cols d (uS m g ex (R ++ Obj.lst l1 :: X)) := fun m g X d hd => odd_no B he hL (la := R.length + 2) (xs := l1) (by rw [uS_at]; simp) hd
  generalize oddsD e (.loc (R.length + 2)) Ls = la at hal hal0 hodd ⊢
  have hRX : R <+: (R ++ [Obj.lst l1, Obj.lst l7, Obj.lst l6, Obj.lst (l7 ++ l6), Obj.lst l3, Obj.lst (l7 ++ l6 ++ l3), Obj.lst k1, Obj.lst (l7 ++ l6 ++ l3 ++ k1), Obj.lst k2, Obj.lst la]) := ⟨_, rfl⟩
  have UX := U.grow (hpre.trans hRX)
  have hx := @take_ok k (by omega) m g ex _ UX (la.length : Int) (by omega) (by omega)
  obtain ⟨r, m1, g1, e1, r0, r1, U1⟩ := hx
  have lat : ∀ m g (X : List Obj), (uS m g ex (R ++ Obj.lst l1 :: Obj.lst l7 :: Obj.lst l6 :: Obj.lst (l7 ++ l6) :: Obj.lst l3 :: Obj.lst (l7 ++ l6 ++ l3) :: Obj.lst k1 :: Obj.lst (l7 ++ l6 ++ l3 ++ k1) :: Obj.lst k2 :: Obj.lst la :: X))[R.length + 9 + 2]? = some (.lst la) := fun m g X => by rw [uS_at, List.getElem?_append_right (by omega), show R.length + 9 - R.length = 9 from by omega]; rfl
  have ln : ∀ m g (X : List Obj), bfF .len (.loc (R.length + 9 + 2)) (uS m g ex (R ++ Obj.lst l1 :: Obj.lst l7 :: Obj.lst l6 :: Obj.lst (l7 ++ l6) :: Obj.lst l3 :: Obj.lst (l7 ++ l6 ++ l3) :: Obj.lst k1 :: Obj.lst (l7 ++ l6 ++ l3 ++ k1) :: Obj.lst k2 :: Obj.lst la :: X)) = .ok (.int la.length) (uS m g ex (R ++ Obj.lst l1 :: Obj.lst l7 :: Obj.lst l6 :: Obj.lst (l7 ++ l6) :: Obj.lst l3 :: Obj.lst (l7 ++ l6 ++ l3) :: Obj.lst k1 :: Obj.lst (l7 ++ l6 ++ l3 ++ k1) :: Obj.lst k2 :: Obj.lst la :: X)) := fun m g X => len_lst _ (lat m g X)
  have ix : ∀ m g (X : List Obj), ixF prog.cst (.loc (R.length + 9 + 2)) (.int r) (uS m g ex (R ++ Obj.lst l1 :: Obj.lst l7 :: Obj.lst l6 :: Obj.lst (l7 ++ l6) :: Obj.lst l3 :: Obj.lst (l7 ++ l6 ++ l3) :: Obj.lst k1 :: Obj.lst (l7 ++ l6 ++ l3 ++ k1) :: Obj.lst k2 :: Obj.lst la :: X)) = .ok (la.getD r.toNat .non) (uS m g ex (R ++ Obj.lst l1 :: Obj.lst l7 :: Obj.lst l6 :: Obj.lst (l7 ++ l6) :: Obj.lst l3 :: Obj.lst (l7 ++ l6 ++ l3) :: Obj.lst k1 :: Obj.lst (l7 ++ l6 ++ l3 ++ k1) :: Obj.lst k2 :: Obj.lst la :: X)) := fun m g X => by
    rw [ix_lst _ _ (lat m g X), atIx_nat r0 r1, List.getD_eq_getElem?_getD, List.getElem?_eq_getElem (by omega)]
    rfl
  have hq : la.getD r.toNat .non ∈ la := getD_mem (by omega)
  generalize la.getD r.toNat .non = q at ix hq
  have hno := fun X => hodd m1 g1 X q hq
  simp -implicitDefEqProofs only [ev_ix, ev_v, List.getElem?_cons_succ, List.getElem?_cons_zero, getV_some, bind_ok, ev_call, evs_cons, evs_nil, ev_bf, ln, e1, ix, okR_ok, nw]
  generalize hM : R ++ [Obj.lst l1, Obj.lst l7, Obj.lst l6, Obj.lst (l7 ++ l6), Obj.lst l3, Obj.lst (l7 ++ l6 ++ l3), Obj.lst k1, Obj.lst (l7 ++ l6 ++ l3 ++ k1), Obj.lst k2, Obj.lst la] = M at U1
  have hMX : ∀ X, NoEnd b rows cols q (uS m1 g1 ex (M ++ X)) := fun X => by
    rw [← hM, List.append_assoc]
    exact hno _
  have hpM : rest <+: M := by rw [← hM]; exact hpre.trans ⟨_, rfl⟩
  have hw : walkF (.loc (M.length + 2)) (uS m1 g1 ex (M ++ [.lst [.tup [.str [109, 97, 116, 101, 115], q, .non], .tup [.str [108, 105, 116], q, .non], .tup [.str [102, 105, 114, 115, 116], q, sdD e], .tup [.str [102, 105, 114, 115, 116], sdD e, q]]])) = some (.lst (M.length + 2) [.tup [.str [109, 97, 116, 101, 115], q, .non], .tup [.str [108, 105, 116], q, .non], .tup [.str [102, 105, 114, 115, 116], q, sdD e], .tup [.str [102, 105, 114, 115, 116], sdD e, q]]) := walk_lst _ (by rw [uS_at]; simp)
  have hno := hMX [.lst [.tup [.str [109, 97, 116, 101, 115], q, .non], .tup [.str [108, 105, 116], q, .non], .tup [.str [102, 105, 114, 115, 116], q, sdD e], .tup [.str [102, 105, 114, 115, 116], sdD e, q]]]
  generalize hN : M ++ [.lst [.tup [.str [109, 97, 116, 101, 115], q, .non], .tup [.str [108, 105, 116], q, .non], .tup [.str [102, 105, 114, 115, 116], q, sdD e], .tup [.str [102, 105, 114, 115, 116], sdD e, q]]] = N at hno hw ⊢
  have hpN : rest <+: N := by rw [← hN]; exact hpM.trans ⟨_, rfl⟩
  have UN := U1.grow (rest' := N) (by rw [← hN]; exact ⟨_, rfl⟩)
  have hT := odd_told (k := k) hk B (S := S) (ds := ds) he hno
  have hs := same_step (k := k) (by omega) (uS m1 g1 ex N)
  simp -implicitDefEqProofs only [ex_fr, evI_val, ev_v, List.getElem?_cons_succ, List.getElem?_cons_zero, getV_some, bind_ok, hw, okI_some, of_ok, ul_lst, items_lst, start_lst]
  refine for_wp (xs := [.tup [.str [109, 97, 116, 101, 115], q, .non], .tup [.str [108, 105, 116], q, .non], .tup [.str [102, 105, 114, 115, 116], q, sdD e], .tup [.str [102, 105, 114, 115, 116], sdD e, q]]) (fun i ρ μ => (∃ y9 y15 y16, ρ = [some (D.loc 0), some (bD b), some (sD S), some (dsD ds), some (sdD e), some (D.int e.1),
            some (D.int e.2.1), some (D.str [e.2.2]), some (D.loc (List.length rest + 2)), y9, x10, x11,
            some (D.loc (List.length R + 9 + 2)), some q, some (.loc (M.length + 2)), y15, y16, none, none]) ∧ μ = uS m1 g1 ex N) rfl ⟨⟨_, _, _, rfl⟩, rfl⟩ ?_ ?_ ?_
  · rintro i ρ μ ⟨_, rfl⟩
    show _ = _
    rw [uS_at, ← hN]; simp
  · rintro i x ρ μ hx ⟨⟨y9, y15, y16, rfl⟩, rfl⟩
    have hcase : ∀ (w : Txt) (one other : D), cF k 1012 [.str w, bD b, sD S, dsD ds, one, other] (uS m1 g1 ex N) = .ok stepEnd (uS m1 g1 ex N) → x = .tup [.str w, one, other] → okR (asgT prog.cst (cF k) (.tp [15, 9, 16]) x [some (D.loc 0), some (bD b), some (sD S), some (dsD ds), some (sdD e), some (D.int e.1),
            some (D.int e.2.1), some (D.str [e.2.2]), some (D.loc (List.length rest + 2)), y9, x10, x11,
            some (D.loc (List.length R + 9 + 2)), some q, some (.loc (M.length + 2)), y15, y16, none, none] (uS m1 g1 ex N)) fun ρ1 μ1 => okS (exs prog.cst (cF k) N0 (.cons (.ite (.not (.call 1009 (.cons (.call 1012 (.cons (.v 15) (.cons (.v 1) (.cons (.v 2) (.cons (.v 3) (.cons (.v 9) (.cons (.v 16) .nil))))))) (.cons (.tup (.cons (.str [115, 116, 101, 112]) (.cons (.str [101, 110, 100]) .nil))) .nil)))) (.cons (.ret (.bl false)) .nil) .nil) .nil) ρ1 μ1) (goS fun ρ μ => (∃ y9 y15 y16, ρ = [some (D.loc 0), some (bD b), some (sD S), some (dsD ds), some (sdD e), some (D.int e.1),
            some (D.int e.2.1), some (D.str [e.2.2]), some (D.loc (List.length rest + 2)), y9, x10, x11,
            some (D.loc (List.length R + 9 + 2)), some q, some (.loc (M.length + 2)), y15, y16, none, none]) ∧ μ = uS m1 g1 ex N) := by
      rintro w one other ht rfl
      have hs' : cF k 1009 [stepEnd, .tup [.str [115, 116, 101, 112], .str [101, 110, 100]]] (uS m1 g1 ex N) = .ok (.bl true) (uS m1 g1 ex N) := hs
      simp -implicitDefEqProofs only [asgT_tp, unpack_3, okR_ok, List.set_cons_succ, List.set_cons_zero, exs_cons, exs_nil, ex_ite, evT_not, evT_call, evs_cons, evs_nil, ev_call, ev_v, List.getElem?_cons_succ, List.getElem?_cons_zero, getV_some, bind_ok, ht, ev_tup, ev_str, List.length_cons, List.length_nil, Nat.zero_add, Nat.reduceAdd, if_pos h2, hs', truth_bl, Bool.not_true, Bool.false_eq_true, if_false, of_ok, next_nx, okS_go, goS_nx]
      exact ⟨⟨_, _, _, rfl⟩, trivial⟩
    match i, hx with
    | 0, hx => cases hx; exact hcase _ _ _ hT.1 rfl
    | 1, hx => cases hx; exact hcase _ _ _ hT.2.1 rfl
    | 2, hx => cases hx; exact hcase _ _ _ hT.2.2.1 rfl
    | 3, hx => cases hx; exact hcase _ _ _ hT.2.2.2 rfl
    | n + 4, hx => cases hx
  · rintro ρ μ ⟨⟨y9, y15, y16, rfl⟩, rfl⟩
    simp -implicitDefEqProofs only [thenS_nx, ex_ret, ev_bl, of_ok, next_rt, okS_go, handQ_rt]
    exact ⟨m1, g1, N, trivial, rfl, UN, hpN⟩
theorem law_odd_right_ok {k : Nat} (hk : 9 ≤ k) (B : Bok b rows cols) {ds : List Side} {e : Side} (he : e ∈ ends b rows cols) {m : Int} {g : List Int} {ex : List (Txt × Nat)} {rest : Store} (U : UOk m g ex rest) :
    ∃ m' g' rest', cF k 1014 [.loc 0, bD b, sD S, dsD ds, sdD e] (uS m g ex rest) = .ok (.bl true) (uS m' g' ex rest') ∧ Aft rest m' g' ex rest' := by
  obtain ⟨k, rfl⟩ : ∃ j, k = j + 1 := ⟨k - 1, by omega⟩
  have hx := @law_odd_right_run b rows cols S k (by omega) B ds e he m g ex rest U
  obtain ⟨d, μ, e1, m', g', rest', rfl, rfl, h1⟩ := hx
  exact ⟨m', g', rest', by rw [call_loc (fn := f_law_odd_right) rfl rfl rfl, e1], h1⟩
end
end K82
end
section
set_option Elab.async false
set_option linter.all false
set_option autoImplicit false
set_option maxRecDepth 100000
set_option maxHeartbeats 1000000
namespace K82
open PL
theorem law_deeds_ok {k : Nat} (hk : 3 ≤ k) {b : Board} {rows cols : Nat} (B : Bok b rows cols) (K : Kok b) (hop : 0 < (opens b rows cols).length) {m : Int} {g : List Int} {ex : List (Txt × Nat)} {rest : Store} (U : UOk m g ex rest) {many : Nat} (hm : many ≤ 400) :
    ∃ L m' g' ex' rest', cF k 1010 [.loc 0, bD b, .int many] (uS m g ex rest) = .ok (dsD L) (uS m' g' ex' rest') ∧ Aft rest m' g' ex' rest' ∧ L.length = many ∧ ∀ d ∈ L, Dok b rows cols d := by
  cases k with
  | zero => exact absurd hk (by decide)
  | succ k =>
  have hrun := @deeds_drawn_run k (Nat.le_of_succ_le_succ hk) b rows cols B K hop m g ex rest U many hm
  obtain ⟨d, μ, e, hx⟩ := hrun
  obtain ⟨L, m', g', ex', rest', hd, hμ, h1, h2, h3⟩ := hx
  rw [hd, hμ] at e
  exact ⟨L, m', g', ex', rest', by rw [call_loc (fn := f_law_deeds) rfl rfl rfl, e], h1, h2, h3⟩
section
variable {b : Board} {rows cols : Nat}
/-- a board with an open cell has an end -/
theorem ends_pos (B : Bok b rows cols) (hop : 0 < (opens b rows cols).length) : 0 < (ends b rows cols).length := by
  -- the first open cell's north side in its topmost row
  have key : ∀ r c : Nat, r < rows → c < cols → (cell b r c).isEmpty = false → ∃ e, e ∈ ends b rows cols := by
    intro r
    induction r with
    | zero =>
      intro c h1 h2 h3
      refine ⟨(0, c, 110), List.mem_filter.mpr ⟨mem_sides.mpr ⟨h1, h2, h3, .inr (.inl rfl)⟩, ?_⟩⟩
      have : opn b rows cols (-1) c = false := by unfold opn inB; simp
      unfold after
      simp [stp, this]
    | succ r ih =>
      intro c h1 h2 h3
      by_cases h : (cell b (r : Nat) (c : Nat)).isEmpty = false
      · exact ih c (by omega) h2 h
      · refine ⟨(r + 1, c, 110), List.mem_filter.mpr ⟨mem_sides.mpr ⟨h1, h2, h3, .inr (.inl rfl)⟩, ?_⟩⟩
        have h' : (cell b (r : Nat) (c : Nat)).isEmpty = true := by simpa using h
        have e : ((r + 1 : Nat) : Int) + -1 = (r : Nat) := by omega
        have : opn b rows cols (r : Nat) (c : Nat) = false := by unfold opn; rw [h']; simp
        unfold after
        simp only [stp, e, Int.add_zero, this]
        rfl
  obtain ⟨q, hq⟩ := List.exists_mem_of_length_pos hop
  obtain ⟨h1, h2⟩ := List.mem_filter.mp hq
  obtain ⟨h3, h4⟩ := mem_grid.mp h1
  obtain ⟨e, he⟩ := key q.1 q.2 h3 h4 (by simpa using h2)
  exact List.length_pos_of_mem he
end
end K82
end
section
set_option Elab.async false
set_option linter.all false
set_option autoImplicit false
set_option maxRecDepth 100000
set_option maxHeartbeats 1000000
namespace K82
open PL
theorem pre_at {R R' : Store} {j : Nat} {o : Obj} (h : R <+: R') (e : R[j]? = some o) : R'[j]? = some o := by
  obtain ⟨t, rfl⟩ := h
  rw [List.getElem?_append_left (List.getElem?_eq_some_iff.mp e).1]
  exact e
theorem law_asked_run {k : Nat} (hk : 11 ≤ k) {b : Board} {rows cols : Nat} (B : Bok b rows cols) (K : Kok b) (hop : 0 < (opens b rows cols).length) {ds : List Side} (hd : ∀ d ∈ ds, Dok b rows cols d) (hl : ds.length ≤ 400) {many : Nat} (hm : many ≤ 10) {m : Int} {g : List Int} {ex : List (Txt × Nat)} {rest : Store} (U : UOk m g ex rest) :
    ∃ d μ, callB prog N0 (cF k) f_law_asked [.loc 0, bD b, dsD ds, .int many] (uS m g ex rest) = .ok d μ ∧ ∃ m' g' ex' rest', d = .bl true ∧ μ = uS m' g' ex' rest' ∧ Aft rest m' g' ex' rest' := by
  have hx := law_setting_ok (k := k) (by omega) B K U
  obtain ⟨S, m1, g1, R1, e1, A1, hS⟩ := hx
  have O := hS.sok B K
  have e2 : cF k 1007 [bD b] (uS m1 g1 ex R1) = .ok (.loc (R1.length + 2)) (uS m1 g1 ex (R1 ++ [.lst ((ends b rows cols).map sdD)])) := law_ends_ok (k := k) (by omega) B _
  have hel := ends_small B
  have hep := ends_pos B hop
  refine okR_ex.mp ?_
  simp -implicitDefEqProofs only [callB, f_law_asked, startE, okR_handed, exs_cons, okS_next, List.map, List.replicate, List.cons_append, List.nil_append, ex_asg, okS_of, ev_call, evs_cons, evs_nil, ev_v, List.getElem?_cons_succ, List.getElem?_cons_zero, getV_some, bind_ok, e1, e2, okR_ok, asgT_nm, List.set_cons_succ, List.set_cons_zero, okS_go, thenS_nx, ex_fr, evI_rng, small_rng (n := many) (by omega), rngW_start, rngW_stop]
  refine for_wp (w := rngW (many : Int)) (fun i ρ μ => (∃ x, ρ = [some (D.loc 0), some (bD b), some (dsD ds), some (.int many), some (sD S), some (.loc (R1.length + 2)), x]) ∧ ∃ m g ex R, μ = uS m g ex R ∧ UOk m g ex R ∧ R[R1.length]? = some (.lst ((ends b rows cols).map sdD)) ∧ rest <+: R) rfl ⟨⟨_, rfl⟩, m1, g1, ex, _, rfl, A1.ok.grow ⟨_, rfl⟩, by simp, A1.pre.trans ⟨_, rfl⟩⟩ (fun _ _ _ _ => rngW_stands _ _) ?_ ?_
  · rintro i x ρ μ hx ⟨⟨y, rfl⟩, m, g, ex, R, rfl, UR, hR, hp⟩
    have ln : bfF .len (.loc (R1.length + 2)) (uS m g ex R) = .ok (.int (ends b rows cols).length) (uS m g ex R) := by rw [len_lst (l := R1.length + 2) _ (by rw [uS_at]; exact hR), List.length_map]
    have hx2 := habit_ok (k := k) (by omega) UR (t := tEnd) (.inr (.inr rfl)) (many := ((ends b rows cols).length : Int)) (by omega) (by omega)
    obtain ⟨r, m2, g2, ex2, R2, e3, r0, r1, A2⟩ := hx2
    have hR2 := pre_at A2.pre hR
    have e3' : cF k 1002 [.loc 0, .str [101, 110, 100], .int (ends b rows cols).length] (uS m g ex R) = .ok (.int r) (uS m2 g2 ex2 R2) := e3
    have hq : (ends b rows cols).getD r.toNat (0, 0, 0) ∈ ends b rows cols := getD_mem (by omega)
    have ix : ixF prog.cst (.loc (R1.length + 2)) (.int r) (uS m2 g2 ex2 R2) = .ok (sdD ((ends b rows cols).getD r.toNat (0, 0, 0))) (uS m2 g2 ex2 R2) := by
      rw [ix_lst (l := R1.length + 2) (xs := (ends b rows cols).map sdD) _ _ (by rw [uS_at]; exact hR2), atIx_nat r0 (by rw [List.length_map]; exact r1), List.getElem?_map, List.getD_eq_getElem?_getD, List.getElem?_eq_getElem (by omega)]
      rfl
    generalize (ends b rows cols).getD r.toNat (0, 0, 0) = q at hq ix
    have hx3 := law_end_right_ok (k := k) (by omega) B O hd hl hq A2.ok hR2
    obtain ⟨m3, g3, R3, e4, A3⟩ := hx3
    simp -implicitDefEqProofs only [asgT_nm, okR_ok, List.set_cons_succ, List.set_cons_zero, exs_cons, exs_nil, ex_ite, evT_not, evT_call, evs_cons, evs_nil, ev_ix, ev_call, ev_bf, ev_str, ev_v, List.getElem?_cons_succ, List.getElem?_cons_zero, getV_some, bind_ok, ln, e3', ix, e4, truth_bl, Bool.not_true, Bool.false_eq_true, if_false, of_ok, next_nx, okS_go, goS_nx]
    exact ⟨⟨_, rfl⟩, m3, g3, ex2, R3, rfl, A3.ok, pre_at A3.pre hR2, hp.trans (A2.pre.trans A3.pre)⟩
  · rintro ρ μ ⟨⟨y, rfl⟩, m, g, ex, R, rfl, UR, hR, hp⟩
    have ln : bfF .len (.loc (R1.length + 2)) (uS m g ex R) = .ok (.int (ends b rows cols).length) (uS m g ex R) := by rw [len_lst (l := R1.length + 2) _ (by rw [uS_at]; exact hR), List.length_map]
    have hx2 := take_ok (k := k) (by omega) UR (many := ((ends b rows cols).length : Int)) (by omega) (by omega)
    obtain ⟨r, m2, g2, e3, r0, r1, U2⟩ := hx2
    have hq : (ends b rows cols).getD r.toNat (0, 0, 0) ∈ ends b rows cols := getD_mem (by omega)
    have ix : ixF prog.cst (.loc (R1.length + 2)) (.int r) (uS m2 g2 ex R) = .ok (sdD ((ends b rows cols).getD r.toNat (0, 0, 0))) (uS m2 g2 ex R) := by
      rw [ix_lst (l := R1.length + 2) (xs := (ends b rows cols).map sdD) _ _ (by rw [uS_at]; exact hR), atIx_nat r0 (by rw [List.length_map]; exact r1), List.getElem?_map, List.getD_eq_getElem?_getD, List.getElem?_eq_getElem (by omega)]
      rfl
    generalize (ends b rows cols).getD r.toNat (0, 0, 0) = q at hq ix
    have hx3 := law_odd_right_ok (k := k) (by omega) B (S := S) (ds := ds) hq U2
    obtain ⟨m3, g3, R3, e4, A3⟩ := hx3
    simp -implicitDefEqProofs only [thenS_nx, okS_next, exs_cons, ex_ret, okS_of, evs_cons, evs_nil, ev_ix, ev_call, ev_bf, ev_v, List.getElem?_cons_succ, List.getElem?_cons_zero, getV_some, bind_ok, ln, e3, ix, e4, okR_ok, okS_go, thenS_rt, handQ_rt]
    exact ⟨m3, g3, ex, R3, trivial, rfl, A3.ok, hp.trans A3.pre⟩
theorem law_asked_ok {k : Nat} (hk : 12 ≤ k) {b : Board} {rows cols : Nat} (B : Bok b rows cols) (K : Kok b) (hop : 0 < (opens b rows cols).length) {ds : List Side} (hd : ∀ d ∈ ds, Dok b rows cols d) (hl : ds.length ≤ 400) {many : Nat} (hm : many ≤ 10) {m : Int} {g : List Int} {ex : List (Txt × Nat)} {rest : Store} (U : UOk m g ex rest) :
    ∃ m' g' ex' rest', cF k 1015 [.loc 0, bD b, dsD ds, .int many] (uS m g ex rest) = .ok (.bl true) (uS m' g' ex' rest') ∧ Aft rest m' g' ex' rest' := by
  obtain ⟨k, rfl⟩ : ∃ j, k = j + 1 := ⟨k - 1, by omega⟩
  have hx := @law_asked_run k (by omega) b rows cols B K hop ds hd hl many hm m g ex rest U
  obtain ⟨d, μ, e1, m', g', ex', rest', rfl, rfl, h1⟩ := hx
  exact ⟨m', g', ex', rest', by rw [call_loc (fn := f_law_asked) rfl rfl rfl, e1], h1⟩
end K82
end
section
set_option Elab.async false
set_option linter.all false
set_option autoImplicit false
set_option maxRecDepth 100000
set_option maxHeartbeats 1000000
namespace K82
open PL
/-! the row of crossings -/
def xB (n : Nat) : Board := [List.replicate n [100, 115, 117]]
def xS (n : Nat) : Setting := [List.replicate n 115]
def xD (a : Nat) : List Side := [(0, a, 117), (0, a, 117), (0, a, 100), (0, a, 115), (0, a, 117)]
def xM (n a : Nat) : List Side := [(0, n - 1, 101), (0, a, 110), (0, a, 110), (0, a, 115), (0, n - 1, 101), (0, a, 110)]
def xSeen (n a : Nat) : List Cel := seen ((runL (xS n) ((xD a).take 2)).flatMap fun T => way (xB n) 1 n T (0, a, 110))
def xOk (n a : Nat) : Bool := decide (mates (xB n) 1 n (xS n) (xD a) (0, 0, 119) = xM n a) && decide (mates (xB n) 1 n (xS n) ((xD a).take 1) (0, a, 115) = [(0, a, 110), (0, n - 1, 101)]) && decide (firstD (xM n a) (0, n - 1, 101) = .int 0) && decide (firstD (xM n a) (0, a, 110) = .int 1) && decide (firstD (xM n a) (0, a, 115) = .int 3) &&
  decide ((0, 0, 119) ∈ ends (xB n) 1 n) && decide ((0, n - 1, 101) ∈ ends (xB n) 1 n) && decide ((0, a, 110) ∈ ends (xB n) 1 n) && decide ((0, a, 115) ∈ ends (xB n) 1 n) && decide (xSeen n a = ((List.range (a + 1)).map fun k => ((0, k) : Cel)).reverse)
theorem x_all : ∀ n, n < 9 → ∀ a, a < n → xOk n a = true := by decide +kernel
theorem dlt_cel (k j : Nat) : dlt (celD (0, k)) (celD (0, j)) = decide (k < j) := by
  show dltL [.int (0 : Nat), .int k] [.int (0 : Nat), .int j] = _
  rw [dltL, if_pos (by simp [deq]), dltL]
  by_cases h : (k : Int) = j
  · have : k = j := by omega
    subst this
    simp [deq, dltL]
  · have h' : k ≠ j := by omega
    simp [deq, h, h', dlt]
theorem x_sort (a : Nat) : sortD (((List.range (a + 1)).map fun k => ((0, k) : Cel)).reverse.map celD) = (List.range (a + 1)).map fun k => celD (0, k) := by
  have e : ((List.range (a + 1)).map fun k => ((0, k) : Cel)).reverse.map celD = ((List.range (a + 1)).reverse).map fun k => celD (0, k) := by
    rw [← List.map_reverse, List.map_map]; rfl
  rw [e]
  let le : Nat → Nat → Bool := fun a c => !decide (c < a)
  have h1 : (((List.range (a + 1)).reverse).mergeSort le).map (fun k => celD (0, k)) = sortD (((List.range (a + 1)).reverse).map fun k => celD (0, k)) := by
    unfold sortD
    refine List.map_mergeSort fun a _ c _ => ?_
    rw [dlt_cel]
  rw [← h1]
  congr 1
  refine sorted_eq (r := fun a c => le a c = true) ((List.mergeSort_perm _ le).trans (List.reverse_perm _)) (fun a _ c _ h1 h2 => ?_) (List.pairwise_mergeSort (fun a c d h1 h2 => ?_) (fun a c => ?_) _) (List.pairwise_lt_range.imp fun {a c} h => ?_)
  · simp [le] at h1 h2; omega
  · simp [le] at h1 h2 ⊢; omega
  · simp [le]; omega
  · simp [le]; omega
theorem x_bok {n : Nat} (h1 : 1 ≤ n) (h8 : n ≤ 8) : Bok (xB n) 1 n := ⟨rfl, fun x hx => by rw [List.mem_singleton.mp hx, List.length_replicate], by omega, by omega, by omega, by omega⟩
theorem x_sok {n : Nat} (h8 : n ≤ 8) : Sok (xB n) 1 n (xS n) := by
  refine ⟨rfl, fun x hx => by rw [List.mem_singleton.mp hx, List.length_replicate], fun r c h1 h2 _ => ?_⟩
  have : r = 0 := by omega
  subst this
  have : letter (xS n) 0 c = 115 := by
    show (List.replicate n 115).getD c 0 = 115
    rw [List.getD_eq_getElem?_getD, List.getElem?_replicate, if_pos h2]; rfl
  rw [this]
  exact .inr (.inl rfl)
theorem x_dok {n a : Nat} (ha : a < n) : ∀ d ∈ xD a, Dok (xB n) 1 n d := by
  have hc : (cell (xB n) 0 (a : Nat)).isEmpty = false := by
    show ((List.replicate n [100, 115, 117]).getD a []).isEmpty = false
    rw [List.getD_eq_getElem?_getD, List.getElem?_replicate, if_pos ha]; rfl
  intro d hd
  simp only [xD, List.mem_cons, List.not_mem_nil, or_false] at hd
  rcases hd with rfl | rfl | rfl | rfl | rfl
  · exact ⟨by simp, ha, hc, .inr (.inr rfl)⟩
  · exact ⟨by simp, ha, hc, .inr (.inr rfl)⟩
  · exact ⟨by simp, ha, hc, .inl rfl⟩
  · exact ⟨by simp, ha, hc, .inr (.inl rfl)⟩
  · exact ⟨by simp, ha, hc, .inr (.inr rfl)⟩
end K82
end
section
set_option Elab.async false
set_option linter.all false
set_option autoImplicit false
set_option maxRecDepth 100000
set_option maxHeartbeats 1000000
namespace K82
open PL
abbrev xBD (n : Nat) : D := .tup [.tup (List.replicate n (.str [100, 115, 117]))]
abbrev xSD (n : Nat) : D := .tup [.str (List.replicate n 115)]
abbrev xDD (a : Nat) : D := .tup [.tup [.int 0, .int a, .str [117]], .tup [.int 0, .int a, .str [117]], .tup [.int 0, .int a, .str [100]], .tup [.int 0, .int a, .str [115]], .tup [.int 0, .int a, .str [117]]]
abbrev xW : D := .tup [.int 0, .int 0, .str [119]]
abbrev xE (n : Nat) : D := .tup [.int 0, .int ((n : Int) - 1), .str [101]]
abbrev xN (a : Nat) : D := .tup [.int 0, .int a, .str [110]]
abbrev xSo (a : Nat) : D := .tup [.int 0, .int a, .str [115]]
theorem xB_eq (n : Nat) : bD (xB n) = xBD n := by
  show D.tup [.tup ((List.replicate n [100, 115, 117]).map D.str)] = _
  rw [List.map_replicate]
theorem xE_eq {n : Nat} (h : 1 ≤ n) : sdD (0, n - 1, 101) = xE n := by
  show D.tup [.int 0, .int ((n - 1 : Nat) : Int), .str [101]] = _
  rw [show ((n - 1 : Nat) : Int) = (n : Int) - 1 from by omega]
structure XOut (k n a : Nat) : Prop where
  t1 : ∀ μ, cF k 1012 [.str [109, 97, 116, 101, 115], xBD n, xSD n, xDD a, xW, .non] μ = .ok (toldD (.ftup [xE n, xN a, xN a, xSo a, xE n, xN a])) μ
  s1 : ∀ μ, cF k 1009 [toldD (.ftup [xE n, xN a, xN a, xSo a, xE n, xN a]), .tup [.str [116, 111, 108, 100], .tup [xE n, xN a, xN a, xSo a, xE n, xN a]]] μ = .ok (.bl true) μ
  t2 : ∀ μ, cF k 1012 [.str [102, 105, 114, 115, 116], xBD n, xSD n, xDD a, xW, xE n] μ = .ok (toldD (.int 0)) μ
  t3 : ∀ μ, cF k 1012 [.str [102, 105, 114, 115, 116], xBD n, xSD n, xDD a, xW, xN a] μ = .ok (toldD (.int 1)) μ
  t4 : ∀ μ, cF k 1012 [.str [102, 105, 114, 115, 116], xBD n, xSD n, xDD a, xW, xSo a] μ = .ok (toldD (.int 3)) μ
  t5 : ∀ μ, cF k 1012 [.str [108, 105, 116], xBD n, xSD n, .tup [.tup [.int 0, .int a, .str [117]], .tup [.int 0, .int a, .str [117]]], xN a, .non] μ = .ok (toldD (.tup ((List.range (a + 1)).map fun k => celD (0, k)))) μ
  s5 : ∀ μ, cF k 1009 [toldD (.tup ((List.range (a + 1)).map fun k => celD (0, k))), .tup [.str [116, 111, 108, 100], .tup ((List.range (a + 1)).map fun k => celD (0, k))]] μ = .ok (.bl true) μ
  t6 : ∀ μ, cF k 1012 [.str [102, 105, 114, 115, 116], xBD n, xSD n, .tup [.tup [.int 0, .int a, .str [117]]], xSo a, xN a] μ = .ok (toldD (.int 0)) μ
theorem x_out {k : Nat} (hk : 8 ≤ k) {n a : Nat} (h1 : 1 ≤ n) (h8 : n ≤ 8) (ha : a < n) : XOut k n a := by
  have hx := x_all n (by omega) a ha
  unfold xOk at hx
  simp only [Bool.and_eq_true, decide_eq_true_eq] at hx
  obtain ⟨⟨⟨⟨⟨⟨⟨⟨⟨c1, c2⟩, c3⟩, c4⟩, c5⟩, e1⟩, e2⟩, e3⟩, e4⟩, c6⟩ := hx
  have B := x_bok h1 h8
  have O := x_sok (n := n) h8
  have hd := x_dok (n := n) ha
  have hd2 : ∀ d ∈ (xD a).take 2, Dok (xB n) 1 n d := fun d h => hd d (List.mem_of_mem_take h)
  have hd1 : ∀ d ∈ (xD a).take 1, Dok (xB n) 1 n d := fun d h => hd d (List.mem_of_mem_take h)
  have l5 : (xD a).length ≤ 500 := by simp [xD]
  have l2 : ((xD a).take 2).length ≤ 500 := by simp [xD]
  have l1 : ((xD a).take 1).length ≤ 500 := by simp [xD]
  have u1 := fun μ => told_mates (k := k) (by omega) B O hd l5 e1 μ
  have u2 := fun μ => told_first (k := k) (by omega) B O hd l5 e1 e2 μ
  have u3 := fun μ => told_first (k := k) (by omega) B O hd l5 e1 e3 μ
  have u4 := fun μ => told_first (k := k) (by omega) B O hd l5 e1 e4 μ
  have u5 := fun μ => told_lit (k := k) (by omega) B O hd2 l2 e3 μ
  have u6 := fun μ => told_first (k := k) (by omega) B O hd1 l1 e4 e3 μ
  have hlit : litD (xB n) 1 n (xS n) ((xD a).take 2) (0, a, 110) = .tup ((List.range (a + 1)).map fun k => celD (0, k)) := by
    show D.tup (sortD ((xSeen n a).map celD)) = _
    rw [c6, x_sort]
  have hf6 : firstD (mates (xB n) 1 n (xS n) ((xD a).take 1) (0, a, 115)) (0, a, 110) = .int 0 := by
    rw [c2]
    unfold firstD
    rw [List.findIdx?_cons]
    simp
  have hM : (xM n a).map sdD = [xE n, xN a, xN a, xSo a, xE n, xN a] := by
    rw [← xE_eq h1]; rfl
  have v1 := fun μ => same_mates (k := k) (by omega) (ms := xM n a) (by simp [xM]) μ
  rw [hM] at v1
  rw [c1, hM, xB_eq] at u1
  rw [c1, c3, xB_eq, xE_eq h1] at u2
  rw [c1, c4, xB_eq] at u3
  rw [c1, c5, xB_eq] at u4
  rw [hlit, xB_eq] at u5
  rw [hf6, xB_eq] at u6
  have v5 := fun μ => same_cels (k := k) (by omega) (cs := ((List.range (a + 1)).map fun k => ((0, k) : Cel)).reverse) (by simp; omega) μ
  rw [x_sort] at v5
  exact ⟨u1, v1, u2, u3, u4, u5, v5, u6⟩
theorem mul_tup1 {n : Nat} (h1 : 1 ≤ n) (h8 : n ≤ 8) (x : D) (μ : Store) : binF .mul (.tup [x]) (.int n) μ = .ok (.tup (List.replicate n x)) μ := by
  show (if 2 ≤ (n : Int) ∧ (n : Int) ≤ 1000 ∧ [x] ≠ [] ∧ [x].length ≤ 1000 then Res.ok (D.tup (List.replicate (n : Int).toNat [x]).flatten) μ else if (n : Int) = 1 then .ok (.tup [x]) μ else .stuck) = _
  by_cases h : n = 1
  · subst h; simp
  · rw [if_pos ⟨by omega, by omega, by simp, by simp⟩, Int.toNat_natCast, List.flatten_replicate_singleton]
theorem mul_str1 {n : Nat} (h1 : 1 ≤ n) (h8 : n ≤ 8) (x : Nat) (μ : Store) : binF .mul (.str [x]) (.int n) μ = .ok (.str (List.replicate n x)) μ := by
  show (if 2 ≤ (n : Int) ∧ (n : Int) ≤ 1000 ∧ [x] ≠ [] ∧ [x].length ≤ 1000 then Res.ok (D.str (List.replicate (n : Int).toNat [x]).flatten) μ else if (n : Int) = 1 then .ok (.str [x]) μ else .stuck) = _
  by_cases h : n = 1
  · subst h; simp
  · rw [if_pos ⟨by omega, by omega, by simp, by simp⟩, Int.toNat_natCast, List.flatten_replicate_singleton]
theorem law_crossings_run {k : Nat} (hk : 8 ≤ k) {m : Int} {g : List Int} {ex : List (Txt × Nat)} {rest : Store} (U : UOk m g ex rest) :
    ∃ d μ, callB prog N0 (cF k) f_law_crossings [.loc 0] (uS m g ex rest) = .ok d μ ∧ d = .bl true := by
  have hx := take_ok (k := k) (by omega) U (many := 8) (by omega) (by omega)
  obtain ⟨r1, m1, g1, e1, a1, a2, U1⟩ := hx
  obtain ⟨n, hn⟩ : ∃ n : Nat, (n : Int) = 1 + r1 := ⟨(1 + r1).toNat, by omega⟩
  have hx := take_ok (k := k) (by omega) U1 (many := (n : Int)) (by omega) (by omega)
  obtain ⟨r2, m2, g2, e2, b1, b2, U2⟩ := hx
  obtain ⟨a, ha⟩ : ∃ a : Nat, (a : Int) = r2 := ⟨r2.toNat, by omega⟩
  subst ha
  have X := x_out (k := k) hk (n := n) (a := a) (by omega) (by omega) (by omega)
  have t1 := X.t1
  have s1 := X.s1
  have t5 := X.t5
  have s5 := X.s5
  have t6 := X.t6
  have h0 : (0 : Nat) ≤ mostLen := by decide
  have h1 : (1 : Nat) ≤ mostLen := by decide
  have h2 : (2 : Nat) ≤ mostLen := by decide
  have h3 : (3 : Nat) ≤ mostLen := by decide
  have h5 : (5 : Nat) ≤ mostLen := by decide
  have h6 : (6 : Nat) ≤ mostLen := by decide
  have mt := fun μ => mul_tup1 (n := n) (by omega) (by omega) (.str [100, 115, 117]) μ
  have ms := fun μ => mul_str1 (n := n) (by omega) (by omega) 115 μ
  refine okR_ex.mp ?_
  simp -implicitDefEqProofs only [callB, f_law_crossings, startE, okR_handed, exs_cons, okS_next, List.map, List.replicate, List.cons_append, List.nil_append, ex_asg, okS_of, ev_bin, ev_call, evs_cons, evs_nil, ev_v, ev_int, List.getElem?_cons_succ, List.getElem?_cons_zero, getV_some, bind_ok, e1, add_int, ← hn, okR_ok, asgT_nm, List.set_cons_succ, List.set_cons_zero, okS_go, thenS_nx, ex_par, ev_tup, ev_str, mt, ms, List.length_cons, List.length_nil, Nat.zero_add, Nat.reduceAdd, if_pos h1, if_pos h2, if_pos h3, if_pos h5, if_pos h6, e2, sub_int, ex_ite, evT_not, evT_call, ev_non, t1, s1, truth_bl, Bool.not_true, Bool.false_eq_true, if_false, exs_nil]
  have t2 := X.t2
  have t3 := X.t3
  have t4 := X.t4
  have r0 : ∀ μ, cF k 1009 [toldD (.int 0), .tup [.str [116, 111, 108, 100], .int 0]] μ = .ok (.bl true) μ := fun μ => law_same2 (d := toldD (.int 0)) (by omega) rfl (by decide) μ
  have r1 : ∀ μ, cF k 1009 [toldD (.int 1), .tup [.str [116, 111, 108, 100], .int 1]] μ = .ok (.bl true) μ := fun μ => law_same2 (d := toldD (.int 1)) (by omega) rfl (by decide) μ
  have r3 : ∀ μ, cF k 1009 [toldD (.int 3), .tup [.str [116, 111, 108, 100], .int 3]] μ = .ok (.bl true) μ := fun μ => law_same2 (d := toldD (.int 3)) (by omega) rfl (by decide) μ
  have un : ∀ (p q : D) (ρ : Env) μ, unpackF [11, 10] (.tup [p, q]) ρ μ = .ok ((ρ.set 11 (some p)).set 10 (some q)) μ := fun _ _ _ _ => rfl
  simp -implicitDefEqProofs only [ex_fr, evI_val, ev_tup, evs_cons, evs_nil, ev_v, ev_int, List.getElem?_cons_succ, List.getElem?_cons_zero, getV_some, bind_ok, List.length_cons, List.length_nil, Nat.zero_add, Nat.reduceAdd, if_pos h2, if_pos h3, walk_tup, okI_some, of_ok, unlock_row, items_row, start_row]
  refine for_wp (w := .row [.tup [xE n, .int 0], .tup [xN a, .int 1], .tup [xSo a, .int 3]]) (xs := [.tup [xE n, .int 0], .tup [xN a, .int 1], .tup [xSo a, .int 3]]) (fun i ρ μ => (∃ y10 y11, ρ = [some (D.loc 0), some (D.int n), some (xBD n), some (xSD n), some (D.int a), some (xDD a), some xW, some (xE n), some (xN a), some (xSo a), y10, y11, none, none]) ∧ μ = uS m2 g2 ex rest) rfl ⟨⟨_, _, rfl⟩, rfl⟩ (fun _ _ _ _ => trivial) ?_ ?_
  · rintro i x ρ μ hx ⟨⟨y10, y11, rfl⟩, rfl⟩
    match i, hx with
    | 0, hx =>
      cases hx
      simp -implicitDefEqProofs only [asgT_tp, un, okR_ok, List.set_cons_succ, List.set_cons_zero, exs_cons, exs_nil, ex_ite, evT_not, evT_call, evs_cons, evs_nil, ev_call, ev_str, ev_v, List.getElem?_cons_succ, List.getElem?_cons_zero, getV_some, bind_ok, t2, ev_tup, List.length_cons, List.length_nil, Nat.zero_add, Nat.reduceAdd, if_pos h2, r0, truth_bl, Bool.not_true, Bool.false_eq_true, if_false, of_ok, next_nx, okS_go, goS_nx]
      exact ⟨⟨_, _, rfl⟩, trivial⟩
    | 1, hx =>
      cases hx
      simp -implicitDefEqProofs only [asgT_tp, un, okR_ok, List.set_cons_succ, List.set_cons_zero, exs_cons, exs_nil, ex_ite, evT_not, evT_call, evs_cons, evs_nil, ev_call, ev_str, ev_v, List.getElem?_cons_succ, List.getElem?_cons_zero, getV_some, bind_ok, t3, ev_tup, List.length_cons, List.length_nil, Nat.zero_add, Nat.reduceAdd, if_pos h2, r1, truth_bl, Bool.not_true, Bool.false_eq_true, if_false, of_ok, next_nx, okS_go, goS_nx]
      exact ⟨⟨_, _, rfl⟩, trivial⟩
    | 2, hx =>
      cases hx
      simp -implicitDefEqProofs only [asgT_tp, un, okR_ok, List.set_cons_succ, List.set_cons_zero, exs_cons, exs_nil, ex_ite, evT_not, evT_call, evs_cons, evs_nil, ev_call, ev_str, ev_v, List.getElem?_cons_succ, List.getElem?_cons_zero, getV_some, bind_ok, t4, ev_tup, List.length_cons, List.length_nil, Nat.zero_add, Nat.reduceAdd, if_pos h2, r3, truth_bl, Bool.not_true, Bool.false_eq_true, if_false, of_ok, next_nx, okS_go, goS_nx]
      exact ⟨⟨_, _, rfl⟩, trivial⟩
    | n + 3, hx => cases hx
  · rintro ρ μ ⟨⟨y10, y11, rfl⟩, rfl⟩
    have er : (a : Int) + 1 = ((a + 1 : Nat) : Int) := by omega
    simp -implicitDefEqProofs only [thenS_nx, okS_next, okS_of, ev_bf, ev_comp, evI_rng, ev_bin, ev_v, ev_int, List.getElem?_cons_succ, List.getElem?_cons_zero, getV_some, bind_ok, add_int, er, small_rng (n := a + 1) (by omega), okR_bind, rngW_start, rngW_stop, wipeE, List.set_cons_succ, List.set_cons_zero, uS_len, uS_snoc]
    refine comp_fm_wp (w := rngW ((a + 1 : Nat) : Int)) (List.range (a + 1)) (fun (j : Nat) => D.int j) (fun _ => true) (fun j => celD (0, j)) (uS m2 g2 ex rest) rfl (by simp [rngW]) rfl rfl (by rw [List.length_range, mostLen_eq]; omega) (fun _ => rngW_stands _ _) ?_ ?_
    · intro j _ acc
      simp -implicitDefEqProofs only [asgT_nm, bind_ok, List.set_cons_succ, List.set_cons_zero, evC_yes, if_true, ev_tup, evs_cons, evs_nil, ev_int, ev_v, List.getElem?_cons_succ, List.getElem?_cons_zero, getV_some, List.length_cons, List.length_nil, Nat.zero_add, Nat.reduceAdd, if_pos h2]
      rfl
    · rw [List.filter_eq_self.mpr (fun _ _ => rfl), uS_snoc]
      have hst : ∀ μ, (rngW ((a + 1 : Nat) : Int)).stop μ = μ := fun _ => rfl
      have tl := tuple_lst (l := rest.length + 2) (xs := (List.range (a + 1)).map fun k => celD (0, k)) (uS m2 g2 ex (rest ++ [.lst ((List.range (a + 1)).map fun k => celD (0, k))])) (by rw [uS_at]; simp)
      have sl2 : ∀ μ, slF (xDD a) none (some 2) μ = .ok (.tup [.tup [.int 0, .int a, .str [117]], .tup [.int 0, .int a, .str [117]]]) μ := fun _ => rfl
      have sl1 : ∀ μ, slF (xDD a) none (some 1) μ = .ok (.tup [.tup [.int 0, .int a, .str [117]]]) μ := fun _ => rfl
      simp -implicitDefEqProofs only [hst, tl, okR_ok, List.set_cons_succ, List.set_cons_zero, okS_go, thenS_nx, okS_next, okS_of, List.getElem?_cons_succ, List.getElem?_cons_zero, getV_some, bind_ok, ev_slU, ev_v, ev_int, sl2_int, sl2, sl1, t5, List.length_cons, List.length_nil, Nat.zero_add, Nat.reduceAdd, if_pos h2, s5, truth_bl, Bool.not_true, Bool.false_eq_true, if_false, ex_ret, ev_call, evs_cons, evs_nil, ev_str, ev_tup, t6, r0, thenS_rt, handQ_rt, exs_cons, exs_nil]
theorem law_crossings_ok {k : Nat} (hk : 9 ≤ k) {m : Int} {g : List Int} {ex : List (Txt × Nat)} {rest : Store} (U : UOk m g ex rest) : ∃ μ, cF k 1016 [.loc 0] (uS m g ex rest) = .ok (.bl true) μ := by
  obtain ⟨k, rfl⟩ : ∃ j, k = j + 1 := ⟨k - 1, by omega⟩
  have hx := @law_crossings_run k (by omega) m g ex rest U
  obtain ⟨d, μ, e1, rfl⟩ := hx
  exact ⟨μ, by rw [call_loc (fn := f_law_crossings) rfl rfl rfl, e1]⟩
end K82
end
section
set_option Elab.async false
set_option linter.all false
set_option autoImplicit false
set_option maxRecDepth 100000
set_option maxHeartbeats 1000000
namespace K82
open PL
theorem at5 {i : Int} (h0 : 0 ≤ i) (h4 : i < 5) (a b c d e : D) : atIx [a, b, c, d, e] i = some (if i = 0 then a else if i = 1 then b else if i = 2 then c else if i = 3 then d else e) := by
  have : i = 0 ∨ i = 1 ∨ i = 2 ∨ i = 3 ∨ i = 4 := by omega
  rcases this with rfl | rfl | rfl | rfl | rfl <;> rfl
/-- board, deeds drawn, asked -/
theorem drawn_ok {k : Nat} (hk : 12 ≤ k) {m : Int} {g : List Int} {ex : List (Txt × Nat)} {rest : Store} (U : UOk m g ex rest) {rows cols : Nat} (hr : rows ≤ 8) (hc : cols ≤ 8) (hr0 : 0 < rows) (hc0 : 0 < cols) :
    ∃ b m1 g1 rest1, cF k 1003 [.loc 0, .int rows, .int cols] (uS m g ex rest) = .ok (bD b) (uS m1 g1 ex rest1) ∧ UOk m1 g1 ex rest1 ∧
    ∀ m3 g3 ex3 rest3 (many laps : Nat), UOk m3 g3 ex3 rest3 → many ≤ 400 → laps ≤ 10 → ∃ L m4 g4 ex4 rest4, cF k 1010 [.loc 0, bD b, .int many] (uS m3 g3 ex3 rest3) = .ok (dsD L) (uS m4 g4 ex4 rest4) ∧ UOk m4 g4 ex4 rest4 ∧
    ∃ m5 g5 ex5 rest5, cF k 1015 [.loc 0, bD b, dsD L, .int laps] (uS m4 g4 ex4 rest4) = .ok (.bl true) (uS m5 g5 ex5 rest5) ∧ UOk m5 g5 ex5 rest5 := by
  obtain ⟨b, m1, g1, rest1, e1, A1, R, hne⟩ := law_board_ok (k := k) (by omega) U hr hc hr0 hc0
  refine ⟨b, m1, g1, rest1, e1, A1.ok, ?_⟩
  have B := R.bok hr hc hr0 hc0
  have K := R.kok
  intro m3 g3 ex3 rest3 many laps U3 hm hlp
  have hx := @law_deeds_ok k (by omega) b rows cols B K (opens_pos B hne) m3 g3 ex3 rest3 U3 many hm
  obtain ⟨L, m4, g4, ex4, rest4, e4, A4, hL, hD⟩ := hx
  refine ⟨L, m4, g4, ex4, rest4, e4, A4.ok, ?_⟩
  have hx := @law_asked_ok k hk b rows cols B K (opens_pos B hne) L hD (by omega) laps hlp m4 g4 ex4 rest4 A4.ok
  obtain ⟨m5, g5, ex5, rest5, e5, A5⟩ := hx
  exact ⟨m5, g5, ex5, rest5, e5, A5.ok⟩
theorem law_run_all {k : Nat} (hk : 12 ≤ k) (ns : List Int) : ∃ d μ, callB prog N0 (cF k) f_law [scrD ns] [] = .ok d μ ∧ d = .bl true := by
  obtain ⟨m, g, rest, e0, U⟩ := law_urn_ok (k := k) (by omega) ns
  have h5 : (5 : Nat) ≤ mostLen := by decide
  have nw : ∀ m g ex (pre : Store) o, PL.new o (uS m g ex pre) = .ok (.loc (pre.length + 2)) (uS m g ex (pre ++ [o])) := fun _ _ _ _ _ => rfl
  have sr : ∀ μ, rng1 (.int 2) μ = .ok (rngW ((2 : Nat) : Int)) μ := fun μ => small_rng (n := 2) (by omega) μ
  refine okR_ex.mp ?_
  simp -implicitDefEqProofs only [callB, f_law, startE, okR_handed, exs_cons, okS_next, List.map, List.replicate, List.cons_append, List.nil_append, ex_asg, okS_of, ev_call, evs_cons, evs_nil, ev_v, List.getElem?_cons_succ, List.getElem?_cons_zero, getV_some, bind_ok, e0, okR_ok, asgT_nm, List.set_cons_succ, List.set_cons_zero, okS_go, thenS_nx, ex_fr, evI_rng, ev_int]
  simp -implicitDefEqProofs only [sr, okR_ok, rngW_start, rngW_stop]
  refine for_wp (w := rngW ((2 : Nat) : Int)) (fun i ρ μ => (∃ x y, ρ = [some (scrD ns), some (.loc 0), x, y]) ∧ ∃ m g ex R, μ = uS m g ex R ∧ UOk m g ex R) rfl ⟨⟨_, _, rfl⟩, m, g, [], rest, rfl, U⟩ (fun _ _ _ _ => rngW_stands _ _) ?_ ?_
  · rintro i x ρ μ hx ⟨⟨y, z, rfl⟩, m, g, ex, R, rfl, U⟩
    have q1 := take_ok (k := k) (by omega) U (many := 4) (by omega) (by omega)
    obtain ⟨r1, m1, g1, e1, a1, a2, U1⟩ := q1
    have q2 := take_ok (k := k) (by omega) U1 (many := 4) (by omega) (by omega)
    obtain ⟨r2, m2, g2, e2, b1, b2, U2⟩ := q2
    obtain ⟨rows, hrows⟩ : ∃ n : Nat, (n : Int) = 1 + r1 := ⟨(1 + r1).toNat, by omega⟩
    obtain ⟨cols, hcols⟩ : ∃ n : Nat, (n : Int) = 1 + r2 := ⟨(1 + r2).toNat, by omega⟩
    have q3 := drawn_ok (k := k) (by omega) U2 (rows := rows) (cols := cols) (by omega) (by omega) (by omega) (by omega)
    obtain ⟨b, m3, g3, rest3, e3, U3, more⟩ := q3
    have q5 := take_ok (k := k) (by omega) (U3.grow (rest' := rest3 ++ [.lst [.int 0, .int 1, .int 4, .int 9, .int 16]]) ⟨_, rfl⟩) (many := 5) (by omega) (by omega)
    obtain ⟨r5, m5, g5, e5, c1, c2, U5⟩ := q5
    obtain ⟨many, hm4, hmany⟩ : ∃ n : Nat, n ≤ 400 ∧ (if r5 = 0 then D.int 0 else if r5 = 1 then D.int 1 else if r5 = 2 then D.int 4 else if r5 = 3 then D.int 9 else D.int 16) = .int (n : Nat) := by
      split
      · exact ⟨0, by omega, rfl⟩
      · split
        · exact ⟨1, by omega, rfl⟩
        · split
          · exact ⟨4, by omega, rfl⟩
          · split
            · exact ⟨9, by omega, rfl⟩
            · exact ⟨16, by omega, rfl⟩
    have am : ixF prog.cst (.loc (rest3.length + 2)) (.int r5) (uS m5 g5 ex (rest3 ++ [.lst [.int 0, .int 1, .int 4, .int 9, .int 16]])) = .ok (.int many) (uS m5 g5 ex (rest3 ++ [.lst [.int 0, .int 1, .int 4, .int 9, .int 16]])) := by
      rw [ix_lst (xs := [.int 0, .int 1, .int 4, .int 9, .int 16]) _ _ (by rw [uS_at]; simp), at5 c1 c2, hmany]
      rfl
    have q6 := more _ _ _ _ many 2 U5 hm4 (by omega)
    obtain ⟨L, m6, g6, ex6, rest6, e6, U6, m7, g7, ex7, rest7, e7, U7⟩ := q6
    have e7' : cF k 1015 [.loc 0, bD b, dsD L, .int 2] (uS m6 g6 ex6 rest6) = .ok (.bl true) (uS m7 g7 ex7 rest7) := e7
    simp -implicitDefEqProofs only [asgT_nm, okR_ok, List.set_cons_succ, List.set_cons_zero, exs_cons, exs_nil, ex_asg, ev_call, evs_cons, evs_nil, ev_v, List.getElem?_cons_succ, List.getElem?_cons_zero, getV_some, bind_ok, ev_bin, ev_int, e1, add_int, ← hrows, e2, ← hcols, e3, of_ok, next_nx, ex_ite, evT_not, evT_call, ev_ix, ev_lst, List.length_cons, List.length_nil, Nat.zero_add, Nat.reduceAdd, if_pos h5, nw, e5, am, e6, e7', truth_bl, Bool.not_true, Bool.false_eq_true, if_false, okS_go, goS_nx]
    exact ⟨⟨_, _, rfl⟩, m7, g7, ex7, rest7, rfl, U7⟩
  · rintro ρ μ ⟨⟨y, z, rfl⟩, m, g, ex, R, rfl, U⟩
    have q1 := take_ok (k := k) (by omega) U (many := 13) (by omega) (by omega)
    obtain ⟨r10, m10, g10, e10, t1, t2, U10⟩ := q1
    simp -implicitDefEqProofs only [thenS_nx, okS_next, ex_ite, okS_of, evT_cmp, ev_call, evs_cons, evs_nil, ev_v, ev_int, List.getElem?_cons_succ, List.getElem?_cons_zero, getV_some, bind_ok, e10, eq_int, okR_ok]
    by_cases hq : r10 = 7
    · subst hq
      have q2 := drawn_ok (k := k) (by omega) U10 (rows := 8) (cols := 8) (by omega) (by omega) (by omega) (by omega)
      obtain ⟨b, m13, g13, rest13, e13, U13, more⟩ := q2
      have q3 := more _ _ _ _ 400 1 U13 (by omega) (by omega)
      obtain ⟨L, m15, g15, ex15, rest15, e15, U15, m16, g16, ex16, rest16, e16, U16⟩ := q3
      have e13' : cF k 1003 [.loc 0, .int 8, .int 8] (uS m10 g10 ex R) = .ok (bD b) (uS m13 g13 ex rest13) := e13
      have e15' : cF k 1010 [.loc 0, bD b, .int 400] (uS m13 g13 ex rest13) = .ok (dsD L) (uS m15 g15 ex15 rest15) := e15
      have e16' : cF k 1015 [.loc 0, bD b, dsD L, .int 1] (uS m15 g15 ex15 rest15) = .ok (.bl true) (uS m16 g16 ex16 rest16) := e16
      have q4 := law_crossings_ok (k := k) (by omega) U16
      obtain ⟨μ, e17⟩ := q4
      simp -implicitDefEqProofs only [beq_self_eq_true, if_true, exs_cons, ex_asg, ev_call, evs_cons, evs_nil, ev_v, ev_int, List.set_cons_succ, List.set_cons_zero, List.getElem?_cons_succ, List.getElem?_cons_zero, getV_some, bind_ok, of_ok, next_nx, asgT_nm, e13', e15', e16', ex_ite, evT_not, evT_call, truth_bl, Bool.not_true, Bool.false_eq_true, if_false, exs_nil, okS_go, thenS_nx, okS_next, ex_ret, okS_of, e17, okR_ok, thenS_rt, handQ_rt]
    · have hq' : (r10 == 7) = false := by simpa using hq
      have q4 := law_crossings_ok (k := k) (by omega) U10
      obtain ⟨μ, e17⟩ := q4
      simp -implicitDefEqProofs only [hq', Bool.false_eq_true, if_false, okS_go, thenS_nx, exs_cons, evs_cons, evs_nil, ev_v, List.getElem?_cons_succ, List.getElem?_cons_zero, getV_some, bind_ok, of_ok, exs_nil, okS_next, ex_ret, ev_call, okS_of, e17, okR_ok, thenS_rt, handQ_rt]
theorem law_all {k : Nat} (hk : 13 ≤ k) (ns : List Int) : ∃ μ, cF k 1017 [scrD ns] [] = .ok (.bl true) μ := by
  obtain ⟨k, rfl⟩ : ∃ j, k = j + 1 := ⟨k - 1, by omega⟩
  obtain ⟨d, μ, e, rfl⟩ := law_run_all (k := k) (by omega) ns
  exact ⟨_, call_data (fn := f_law) rfl rfl (by simp [D.dataL, scrD, D.data, data_ints2]) e rfl⟩
end K82
end
set_option Elab.async false
set_option linter.all false
set_option maxRecDepth 100000
set_option maxHeartbeats 0
theorem K82.hit (ns : List Int) (h : ns.length ≤ 63) : ∃ μ, PL.callF K82.tab.P 100000 60 K82.d_law.id [PL.scriptD ns] [] = .ok (.bl true) μ := K82.law_all (by decide) ns
namespace K82
open PL
open PySem PySem.Spec PyProof.Rows L2
abbrev Rw : PySem.W.OpenRow := PySem.W.OpenLaw.row PySem.Challenge.rw_lightled_k82_whole_first_meeting_lit
def loose0 : List PySem.Str := ["LightError", "CallError", "BadStep", "POINTS", "JOINS", "is_point", "STEPS", "OPPOSITE", "next_cell", "has_cell", "is_open", "is_whole", "is_row", "is_side", "other_side", "is_end", "look_for_end", "partner_of", "run_from", "met_by_way", "put_sign", "run_deeds", "mates_along", "first_meeting", "ever_lit", "_law_urn", "_law_take", "_law_habit", "_law_board", "_law_setting"]
def loose1 : List PySem.Str := ["_law_joined", "_law_beyond", "_law_ends", "_law_way", "_law_same", "_law_deeds", "_law_run", "_law_told", "_law_end_right", "_law_odd_right", "_law_asked", "_law_crossings"]
def loose : List PySem.Str := loose0 ++ loose1
def hk : PySem.W.Hook := tab.hook 4
def ob (s : PySem.W.SharedT) : He.AlT × Bool := tab.obs 4 (HandSHeadRun.getT s)
theorem ob_eq (s : PySem.W.SharedT) : ob s = hk.obs s.abs := by
  have e : HandSHeadRun.getT s = s.abs.heap.get? := funext (HandSHeadRun.getT_eq s)
  show tab.obs 4 (HandSHeadRun.getT s) = tab.obs 4 s.abs.heap.get?
  rw [e]
theorem run (w : World) : HandSHeadRun.RunEq Rw (PySem.W.view Rw.prog [54]) hk ob 4000 loose w := by
  refine PySem.W.byRow2 "special-get-raises" (P := fun w => HandSHeadRun.RunEq Rw (PySem.W.view Rw.prog [54]) hk ob 4000 loose w) (fun w => ?_) (fun w => ?_) w
  · intro os
    kernel_rfl
  · intro os
    kernel_rfl
end K82
open PySem PySem.W PySem.Calls PyProof.Rows
theorem PySem.Challenge.cw_lightled_k82_whole_first_meeting_lit_holds : PySem.Challenge.rw_lightled_k82_whole_first_meeting_lit.Holds := by
  w_on; o_law
  refine HandSHeadRun.head_any (r := K82.Rw) (q := view K82.Rw.prog [54]) (H := K82.hk) (ob := K82.ob) (M := 4000) (loose := K82.loose) (d := HandSHeadRun.topDef K82.Rw.prog 54) (kwd := []) K82.ob_eq
    (by kernel_rfl) (fun s => by kernel_rfl) K82.run (by kernel_rfl) (by kernel_rfl) (by kernel_rfl) (by rfl) (by first | assumption | decide +kernel) (by decide +kernel) ⟨rfl, rfl, rfl, rfl, rfl, by decide +kernel⟩ ?hw ?hc
  case hw => w_witness2
  case hc =>
    exact PL.law_walk (L := K82.tab) (l := PySem.Challenge.rw_lightled_k82_whole_first_meeting_lit) (n := 63) (k := 60) (M := 100000) (m := 4) (x := "script") K82.d_law rfl (by decide) (by kernel_rfl) ⟨rfl, by decide, by decide⟩ (by simp [K82.tab, K82.ds]) (by kernel_rfl) (by rfl) (fun d hd => List.all_eq_true.mp K82.chk_all d hd) K82.bnd_all K82.bnd2_all K82.okT_all (fun ns hl => K82.hit ns hl)
