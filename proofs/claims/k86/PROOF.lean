import PyProof.Rows.All
import Wide.All
import OpenK.AllK
import Wide.FinOn
import HandS.ForMost
import HandS.TryOnly
import HandS.TryMany
import HandS.IsInst
import HandS.Zip
import HandS.TupAny
import HandS.TupMul
import HandS.StrMore
import HandS.Replace
import HandS.CallSlots
import HandS.Deep
import HandS.Small
import HandS.Wide
import HandS.NoneIn
import HandS.More
import KE.SortData
import KE.IntBitsLaws
import PyProof.StrOps2
import PyProof.Rows.BitMore
import HandS.Style
import PyProof.StrLawsFirst
import HandS.Conv
import HandS.Strs
import KE.DataMinMax
import PyProof.ListStr
import PyProof.TupleOfStr
import HandS.Hot
import HandS.HotCalls
import KE.KRevSl
import HandS.ExcInit
import HandS.ExcField
import HandS.ExcCtx
import HandS.ExcInitHot
import HandS.ExcIs
import HandS.ReplaceLit
import HandS.Comp
import HandS.ReplaceList
import HandS.Defaults
import HandS.Head0
import HandS.Head1
import HandS.Head2
import HandS.HeadEnd
import HandS.HeadHook1
import HandS.HeadHook2
import HandS.HeadHook3
import KE.KStateDown
import HandS.Base
import HandS.Call
import HandS.Ends
import HandS.Words
import HandS.WordsExc
import PySem.Challenge.RW_lightled_k86_whole_spoilt_settings
set_option Elab.async false
set_option linter.all false
section
/-! Mini: a small language of tuples, texts, ints, lists, dicts, with an evaluator in plain Lean. -/
set_option autoImplicit false
namespace PL

abbrev Txt := List Nat
/-- values: data, or places of the store -/
inductive D where
  | non | bl (b : Bool) | int (i : Int) | str (s : Txt) | tup (xs : List D) | rol (xs : List D) | ktp (xs : List D) | loc (l : Nat) | cst (c : Nat) | err (ms ks : List Nat) (fs : List D) | ftup (xs : List D)
  deriving Inhabited

abbrev Key := Sum Int Txt
def Key.d : Key → D
  | .inl i => .int i
  | .inr s => .str s

mutual
def D.same : D → D → Bool
  | .non, .non => true
  | .bl a, .bl b => a == b
  | .int i, .int j => i == j
  | .str x, .str y => x == y
  | .tup xs, .tup ys => D.sameL xs ys
  | .rol xs, .rol ys => D.sameL xs ys
  | .ktp xs, .ktp ys => D.sameL xs ys
  | .ftup xs, .ftup ys => D.sameL xs ys
  | .loc l, .loc k => l == k
  | .cst l, .cst k => l == k
  | .err a j xs, .err b k ys => a == b && (j == k && D.sameL xs ys)
  | _, _ => false
def D.sameL : List D → List D → Bool
  | [], [] => true
  | x :: xs, y :: ys => D.same x y && D.sameL xs ys
  | _, _ => false
end
mutual
theorem D.same_eq : ∀ x y : D, D.same x y = true → x = y
  | .non, y, h => by cases y <;> simp_all [D.same]
  | .bl _, y, h => by cases y <;> simp_all [D.same]
  | .int _, y, h => by cases y <;> simp_all [D.same]
  | .str _, y, h => by cases y <;> simp_all [D.same]
  | .loc _, y, h => by cases y <;> simp_all [D.same]
  | .cst _, y, h => by cases y <;> simp_all [D.same]
  | .tup xs, y, h => by
    cases y with
    | tup ys => rw [D.same] at h; rw [D.sameL_eq xs ys h]
    | _ => simp [D.same] at h
  | .rol xs, y, h => by
    cases y with
    | rol ys => rw [D.same] at h; rw [D.sameL_eq xs ys h]
    | _ => simp [D.same] at h
  | .ktp xs, y, h => by
    cases y with
    | ktp ys => rw [D.same] at h; rw [D.sameL_eq xs ys h]
    | _ => simp [D.same] at h
  | .ftup xs, y, h => by
    cases y with
    | ftup ys => rw [D.same] at h; rw [D.sameL_eq xs ys h]
    | _ => simp [D.same] at h
  | .err a j xs, y, h => by
    cases y with
    | err b k ys =>
      rw [D.same, Bool.and_eq_true, Bool.and_eq_true] at h
      rw [D.sameL_eq xs ys h.2.2, show a = b from by simpa using h.1, show j = k from by simpa using h.2.1]
    | _ => simp [D.same] at h
theorem D.sameL_eq : ∀ xs ys : List D, D.sameL xs ys = true → xs = ys
  | [], ys, h => by cases ys <;> simp_all [D.sameL]
  | x :: xs, ys, h => by
    cases ys with
    | nil => simp [D.sameL] at h
    | cons y ys =>
      rw [D.sameL, Bool.and_eq_true] at h
      rw [D.same_eq x y h.1, D.sameL_eq xs ys h.2]
end
mutual
theorem D.same_rfl : ∀ x : D, D.same x x = true
  | .non => rfl
  | .bl _ => by simp [D.same]
  | .int _ => by simp [D.same]
  | .str _ => by simp [D.same]
  | .loc _ => by simp [D.same]
  | .cst _ => by simp [D.same]
  | .tup xs => by rw [D.same]; exact D.sameL_rfl xs
  | .rol xs => by rw [D.same]; exact D.sameL_rfl xs
  | .ktp xs => by rw [D.same]; exact D.sameL_rfl xs
  | .ftup xs => by rw [D.same]; exact D.sameL_rfl xs
  | .err a j xs => by rw [D.same, D.sameL_rfl xs]; simp
theorem D.sameL_rfl : ∀ xs : List D, D.sameL xs xs = true
  | [] => rfl
  | x :: xs => by rw [D.sameL, D.same_rfl x, D.sameL_rfl xs]; rfl
end
instance : DecidableEq D := fun x y => if h : D.same x y = true then .isTrue (D.same_eq x y h) else .isFalse fun e => h (by rw [e]; exact D.same_rfl y)

/-- what stands at a place of the store; lk: walked just now -/
inductive Obj where
  | lst (xs : List D)
  | dK (lk : Bool) (kvs : List (Key × D))
  | dT (lk : Bool) (kvs : List (List Key × D))
  deriving Inhabited, DecidableEq
abbrev Store := List Obj
abbrev Env := List (Option D)

/-- the most elements, signs that this evaluator lets be -/
def mostLen : Nat := 1000000

mutual
def D.data : D → Bool
  | .tup xs => D.dataL xs
  | .rol xs => D.dataL xs
  | .ktp xs => D.dataL xs
  | .ftup xs => D.dataL xs
  | .loc _ => false
  | .err _ _ _ => false
  | _ => true
def D.dataL : List D → Bool
  | [] => true
  | x :: xs => D.data x && D.dataL xs
end

/-- an error: its class and those it is of, its fields -/
structure Exc where
  ms : List Nat
  ks : List Nat
  fs : List D
inductive Res (α : Type) where
  | ok (a : α) (μ : Store)
  | exc (x : Exc) (μ : Store)
  | stuck
def Res.bind {α β : Type} (r : Res α) (f : α → Store → Res β) : Res β :=
  match r with
  | .ok a μ => f a μ
  | .exc x μ => .exc x μ
  | .stuck => .stuck
theorem Res.bind_ok {α β : Type} (a : α) (μ : Store) (f : α → Store → Res β) : (Res.ok a μ).bind f = f a μ := rfl
theorem Res.bind_exc {α β : Type} (x : Exc) (μ : Store) (f : α → Store → Res β) : (Res.exc x μ : Res α).bind f = .exc x μ := rfl
theorem Res.bind_stuck {α β : Type} (f : α → Store → Res β) : (Res.stuck : Res α).bind f = .stuck := rfl

/-! ### data compared -/
mutual
/-- == of data -/
def deq : D → D → Bool
  | .non, .non => true
  | .bl a, .bl b => a == b
  | .bl a, .int j => (if a then 1 else 0) == j
  | .int i, .bl b => i == (if b then 1 else 0)
  | .int i, .int j => i == j
  | .str x, .str y => x == y
  | .tup xs, .tup ys => deqL xs ys
  | .rol xs, .rol ys => deqL xs ys
  | _, _ => false
def deqL : List D → List D → Bool
  | [], [] => true
  | x :: xs, y :: ys => deq x y && deqL xs ys
  | _, _ => false
end
mutual
/-- can the two be compared by <, place by place -/
def alk : D → D → Bool
  | .int _, .int _ => true
  | .str _, .str _ => true
  | .tup xs, .tup ys => alkL xs ys
  | _, _ => false
def alkL : List D → List D → Bool
  | x :: xs, y :: ys => alk x y && alkL xs ys
  | [], _ => true
  | _ :: _, [] => true
end
mutual
/-- < of data that can be compared -/
def dlt : D → D → Bool
  | .int a, .int b => decide (a < b)
  | .str a, .str b => decide (a < b)
  | .tup xs, .tup ys => dltL xs ys
  | _, _ => false
def dltL : List D → List D → Bool
  | x :: xs, y :: ys => if deq x y then dltL xs ys else dlt x y
  | [], [] => false
  | [], _ :: _ => true
  | _ :: _, [] => false
end
mutual
/-- how deep tuples lie -/
def D.depth : D → Nat
  | .tup xs => D.depthL xs + 1
  | .rol xs => D.depthL xs + 1
  | .ktp xs => D.depthL xs + 1
  | _ => 0
def D.depthL : List D → Nat
  | [] => 0
  | x :: xs => max (D.depth x) (D.depthL xs)
end
mutual
/-- plain data: no constant tables, no places; texts of true signs -/
def D.plain : D → Bool
  | .tup xs => D.plainL xs
  | .rol _ => false
  | .ktp _ => false
  | .loc _ => false
  | .cst _ => false
  | .err _ _ _ => false
  | .ftup _ => false
  | .str s => s.all fun c => decide (c < 1114112)
  | _ => true
def D.plainL : List D → Bool
  | [] => true
  | x :: xs => D.plain x && D.plainL xs
end
/-- data that == takes -/
def D.eqOk (d : D) : Bool := D.plain d && decide (D.depth d ≤ 60)
/-- what is neither a row nor a place -/
def D.scal : D → Bool
  | .non => true
  | .bl _ => true
  | .int _ => true
  | .str _ => true
  | _ => false

/-! ### places in a row -/
def pyIx (n : Nat) (i : Int) : Option Nat :=
  if 0 ≤ i then (if i < n then some i.toNat else none) else if -(n : Int) ≤ i then some (i + n).toNat else none
def atIx {α : Type} (xs : List α) (i : Int) : Option α := (pyIx xs.length i).bind fun j => xs[j]?
/-- a slice's end, clipped -/
def clip (n d : Nat) : Option Int → Nat
  | none => d
  | some i => if i < 0 then (i + n).toNat else min i.toNat n
def cut {α : Type} (xs : List α) (lo hi : Option Int) : List α := (xs.drop (clip xs.length 0 lo)).take (clip xs.length xs.length hi - clip xs.length 0 lo)

/-! ### dicts -/
def look {κ : Type} [DecidableEq κ] (kvs : List (κ × D)) (k : κ) : Option D := (kvs.find? fun p => decide (p.1 = k)).map (·.2)
def put {κ : Type} [DecidableEq κ] (kvs : List (κ × D)) (k : κ) (v : D) : List (κ × D) :=
  if (kvs.any fun p => decide (p.1 = k)) = true then kvs.map (fun p => if p.1 = k then (p.1, v) else p) else kvs ++ [(k, v)]
def D.key : D → Option Key
  | .int i => some (.inl i)
  | .str s => some (.inr s)
  | _ => none
def D.keys : List D → Option (List Key)
  | [] => some []
  | x :: xs => match D.key x, D.keys xs with
    | some k, some ks => some (k :: ks)
    | _, _ => none

/-! ### the syntax -/
inductive Op where | add | sub | mul | fdiv | mod | pow | shl | shr | band
  deriving DecidableEq, Repr
inductive Cm where | eq | ne | lt | le | gt | ge | is | isn | inn | nin
  deriving DecidableEq, Repr
inductive Ty where | int | str | bool | tuple | list
  deriving DecidableEq, Repr
/-- built-in functions of one argument -/
inductive Bf where | len | abs | int | str | tuple | list | sorted | bool | tupleF | max | tupleS | listS
  deriving DecidableEq, Repr
/-- built-in functions of two arguments -/
inductive B2 where | max2 | min2
  deriving DecidableEq, Repr
/-- methods of built-in things -/
inductive Mf where | append | pop | popAt | extend | join | index | get | get2 | indexL | indexT | upper | repl
  deriving DecidableEq, Repr

mutual
inductive E where
  | v (i : Nat) | non | bl (b : Bool) | int (i : Int) | str (s : Txt)
  | glS (x : Nat) (s : Txt) | glC (x : Nat) (c : Nat) | glI (x : Nat) (i : Int)
  | tup (es : Es) | lst (es : Es) | dnK | dnT | disp (ks : List Key) (es : Es)
  | call (f : Nat) (es : Es)
  | callK (f : Nat) (pm : List Nat) (es : Es)
  | bf2 (b : B2) (a c : E)
  | bf (b : Bf) (e : E)
  | isi (e : E) (t : Ty)
  | meth (m : Mf) (o : E) (es : Es)
  | bin (op : Op) (a b : E)
  | neg (a : E)
  | cmp (c : Cm) (a b : E)
  | chain (c d : Cm) (a b e : E)
  | and (a b : E) | or (a b : E) | not (a : E)
  | ite (c a b : E)
  | ix (a b : E)
  | slL (a lo : E) | slU (a hi : E) | slB (a lo hi : E)
  | comp (t : T) (it : It) (c : Ec) (e : E) (own : List Nat)
  | errF (n i : Nat) | errIs (n : Nat) (cs : List Nat)
  | rv (a : E)
inductive Es where | nil | cons (e : E) (es : Es)
/-- a comprehension's test: none, one -/
inductive Ec where | yes | test (e : E)
/-- what a loop walks -/
inductive It where | val (e : E) | rng (e : E) | rng2 (a b : E) | rng3 (a b c : E) | keys (i : Nat) | rev (e : E)
/-- where a value is stored -/
inductive T where | nm (i : Nat) | tp (is : List Nat) | sb (o i : E)
end

mutual
inductive S where
  | asg (t : T) (e : E)
  | par (i j : Nat) (a b : E)
  | aug (i : Nat) (op : Op) (e : E)
  | ex (e : E)
  | ret (e : E) | retN
  | ite (c : E) (a b : Ss)
  | whl (c : E) (b : Ss)
  | fr (t : T) (it : It) (b : Ss)
  | brk | cont | pass
  | rse (ms ks : List Nat) (es : Es)
  | tr (b : Ss) (hs : Hs)
inductive Ss where | nil | cons (s : S) (ss : Ss)
/-- except clauses: the class, the name's slot, the suite -/
inductive Hs where | nil | cons (c : Nat) (n : Option Nat) (b : Ss) (hs : Hs)
end

/-! ### what operations do -/
section
variable (C : Nat → List (Key × D))
def okI {α : Type} (a : Option α) (μ : Store) : Res α := match a with
  | some a => .ok a μ
  | none => .stuck
/-- a new object -/
def new (o : Obj) (μ : Store) : Res D := .ok (.loc μ.length) (μ ++ [o])

def truthF (d : D) (μ : Store) : Res Bool := match d with
  | .non => .ok false μ
  | .bl b => .ok b μ
  | .int i => .ok (i != 0) μ
  | .str s => if s.length ≤ mostLen then .ok (!s.isEmpty) μ else .stuck
  | .tup xs => .ok (!xs.isEmpty) μ
  | .loc l => match μ[l]? with
    | some (.lst xs) => .ok (!xs.isEmpty) μ
    | _ => .stuck
  | _ => .stuck

def small (i : Int) : Bool := decide (-(2 ^ 64) < i ∧ i < 2 ^ 64)
def mulF (i j : Int) (μ : Store) : Res D := if small i || small j || (decide (i.natAbs < 2 ^ 2000) && decide (j.natAbs < 2 ^ 2000)) then .ok (.int (i * j)) μ else .stuck
def binF (op : Op) (x y : D) (μ : Store) : Res D := match op, x, y with
  | .add, .int i, .int j => .ok (.int (i + j)) μ
  | .sub, .int i, .int j => .ok (.int (i - j)) μ
  | .mul, .int i, .int j => mulF i j μ
  | .fdiv, .int i, .int j => if 0 < j ∧ j < 1073741824 then .ok (.int (i / j)) μ else .stuck
  | .mod, .int i, .int j => if 0 < j then .ok (.int (i % j)) μ else .stuck
  | .pow, .int i, .int j => if 0 ≤ j ∧ j ≤ 1000 ∧ 0 ≤ i ∧ i < 2 ^ 256 then .ok (.int (i ^ j.toNat)) μ else .stuck
  | .shl, .int i, .int j => if 0 ≤ j ∧ j ≤ 100000 ∧ i.natAbs < 2 ^ 64 then .ok (.int (i * 2 ^ j.toNat)) μ else .stuck
  | .shr, .int i, .int j => if 0 ≤ j then .ok (.int (i / 2 ^ j.toNat)) μ else .stuck
  | .band, .int i, .int j => if 0 ≤ i ∧ 0 ≤ j then .ok (.int ((i.toNat &&& j.toNat : Nat) : Int)) μ else .stuck
  | .add, .str a, .str b => if a.length + b.length ≤ mostLen then .ok (.str (a ++ b)) μ else .stuck
  | .add, .tup a, .tup b => if a.length + b.length ≤ mostLen then .ok (.tup (a ++ b)) μ else .stuck
  | .mul, .tup a, .int k => if 2 ≤ k ∧ k ≤ 1000 ∧ a ≠ [] ∧ a.length ≤ 1000 then .ok (.tup (List.replicate k.toNat a).flatten) μ else if k = 1 then .ok (.tup a) μ else .stuck
  | .mul, .str a, .int k => if 2 ≤ k ∧ k ≤ 1000 ∧ a ≠ [] ∧ a.length ≤ 1000 then .ok (.str (List.replicate k.toNat a).flatten) μ else if k = 1 then .ok (.str a) μ else .stuck
  | .add, .loc a, .loc b => match μ[a]?, μ[b]? with
    | some (.lst xs), some (.lst ys) => if xs.length + ys.length ≤ mostLen then new (.lst (xs ++ ys)) μ else .stuck
    | _, _ => .stuck
  | _, _, _ => .stuck

/-- whether a key is there, its value -/
def findF (d k : D) (μ : Store) : Option (Option D) := match d with
  | .cst c => match k with
    | .str s => some (look (C c) (.inr s))
    | _ => none
  | .loc l => match μ[l]? with
    | some (.dK _ kvs) => match D.key k with
      | some q => some (look kvs q)
      | none => none
    | some (.dT _ kvs) => match k with
      | .tup ks => match D.keys ks with
        | some q => some (look kvs q)
        | none => none
      | _ => none
    | _ => none
  | _ => none
def inF (x y : D) (μ : Store) : Res Bool := match y with
  | .str b => match x with
    | .str [c] => .ok (decide (c ∈ b)) μ
    | _ => .stuck
  | .tup ys => if D.eqOk x && D.eqOk (.tup ys) then .ok (ys.any fun z => deq z x) μ else .stuck
  | .ftup ys => if D.eqOk x && D.eqOk (.tup ys) then .ok (ys.any fun z => deq z x) μ else .stuck
  | .cst _ => match findF C y x μ with
    | some o => .ok o.isSome μ
    | none => .stuck
  | .loc l => match μ[l]? with
    | some (.lst ys) => if D.eqOk x && D.eqOk (.tup ys) then .ok (ys.any fun z => deq z x) μ else .stuck
    | _ => match findF C y x μ with
      | some o => .ok o.isSome μ
      | none => .stuck
  | _ => .stuck
def D.isNon : D → Bool
  | .non => true
  | _ => false
def scalEq (x y : D) : Bool := match x, y with
  | .int _, .int _ => true
  | .bl _, .bl _ => true
  | .str _, .str _ => true
  | .int _, .str _ => true
  | .str _, .int _ => true
  | .non, .non => true
  | _, _ => false
def eqOk2 (x y : D) : Bool := scalEq x y || (D.eqOk x && D.eqOk y)
/-- two lists of data that == takes -/
def rows2 (x y : D) (μ : Store) : Option (List D × List D) := match x, y with
  | .loc a, .loc b => match μ[a]?, μ[b]? with
    | some (.lst xs), some (.lst ys) => if D.eqOk (.tup xs) && D.eqOk (.tup ys) then some (xs, ys) else none
    | _, _ => none
  | _, _ => none
def cmpF (c : Cm) (x y : D) (μ : Store) : Res Bool := match c with
  | .eq => if eqOk2 x y then .ok (deq x y) μ else match rows2 x y μ with
    | some (xs, ys) => .ok (deqL xs ys) μ
    | none => .stuck
  | .ne => if eqOk2 x y then .ok (!deq x y) μ else match rows2 x y μ with
    | some (xs, ys) => .ok (!deqL xs ys) μ
    | none => .stuck
  | .is => match y with
    | .non => .ok x.isNon μ
    | .bl b => match x with
      | .bl c => .ok (c == b) μ
      | _ => .stuck
    | _ => .stuck
  | .isn => match y with
    | .non => .ok (!x.isNon) μ
    | .bl b => match x with
      | .bl c => .ok (!(c == b)) μ
      | _ => .stuck
    | _ => .stuck
  | .inn => inF C x y μ
  | .nin => (inF C x y μ).bind fun b μ => .ok (!b) μ
  | .lt => if alk x y && D.eqOk x && D.eqOk y then .ok (dlt x y) μ else .stuck
  | .gt => match x, y with
    | .int i, .int j => .ok (decide (j < i)) μ
    | .str i, .str j => .ok (decide (j < i)) μ
    | _, _ => .stuck
  | .le => match x, y with
    | .int i, .int j => .ok (decide (i ≤ j)) μ
    | .str i, .str j => .ok (!decide (j < i)) μ
    | _, _ => .stuck
  | .ge => match x, y with
    | .int i, .int j => .ok (decide (j ≤ i)) μ
    | .str i, .str j => .ok (!decide (i < j)) μ
    | _, _ => .stuck

def ixF (d i : D) (μ : Store) : Res D := match d with
  | .tup xs => match i with
    | .int i => okI (atIx xs i) μ
    | _ => .stuck
  | .rol xs => match i with
    | .int i => okI (atIx xs i) μ
    | _ => .stuck
  | .ftup xs => match i with
    | .int i => okI (atIx xs i) μ
    | _ => .stuck
  | .ktp xs => match i with
    | .int i => okI (atIx xs i) μ
    | _ => .stuck
  | .str s => match i with
    | .int i => if s.length ≤ mostLen then okI ((atIx s i).map fun c => D.str [c]) μ else .stuck
    | _ => .stuck
  | .cst _ => match findF C d i μ with
    | some (some v) => .ok v μ
    | _ => .stuck
  | .loc l => match μ[l]? with
    | some (.lst xs) => match i with
      | .int i => okI (atIx xs i) μ
      | _ => .stuck
    | some _ => match findF C d i μ with
      | some (some v) => .ok v μ
      | _ => .stuck
    | none => .stuck
  | _ => .stuck
def slF (d : D) (lo hi : Option Int) (μ : Store) : Res D := match d with
  | .tup xs => .ok (.tup (cut xs lo hi)) μ
  | .rol xs => new (.lst (cut xs lo hi)) μ
  | .str s => if s.length ≤ mostLen then .ok (.str (cut s lo hi)) μ else .stuck
  | .loc l => match μ[l]? with
    | some (.lst xs) => new (.lst (cut xs lo hi)) μ
    | _ => .stuck
  | _ => .stuck
def isiF (d : D) (t : Ty) (μ : Store) : Res Bool := match d with
  | .non => .ok false μ
  | .bl _ => .ok (t == .bool || t == .int) μ
  | .int _ => .ok (t == .int) μ
  | .str _ => .ok (t == .str) μ
  | .tup _ => .ok (t == .tuple) μ
  | .rol _ => .ok (t == .list) μ
  | .ftup _ => .ok (t == .tuple) μ
  | .loc l => match μ[l]? with
    | some (.lst _) => .ok (t == .list) μ
    | _ => .stuck
  | _ => .stuck

def allAlk (xs : List D) : Bool := xs.all fun a => xs.all fun b => alk a b
def sortOk (xs : List D) : Bool := (xs.all fun a => D.eqOk a) && allAlk xs && ((xs.all fun a => match a with | .tup (_ :: _) => true | _ => false) || xs.all fun a => match a with | .tup _ => false | _ => true)
def sortD (xs : List D) : List D := xs.mergeSort fun a b => !dlt b a
/-- what stands in a row: a tuple's, a list's items -/
def rowF (d : D) (μ : Store) : Option (List D) := match d with
  | .tup xs => some xs
  | .rol xs => some xs
  | .ktp xs => some xs
  | .loc l => match μ[l]? with
    | some (.lst xs) => some xs
    | _ => none
  | _ => none
/-- a list's items -/
def listF (d : D) (μ : Store) : Option (List D) := match d with
  | .rol xs => some xs
  | .loc l => match μ[l]? with
    | some (.lst xs) => some xs
    | _ => none
  | _ => none
/-- a dict's keys: tuples -/
def keysT (d : D) (μ : Store) : Option (List D) := match d with
  | .loc l => match μ[l]? with
    | some (.dT false kvs) => some (kvs.map fun p => .tup (p.1.map Key.d))
    | _ => none
  | _ => none
/-- a whole number's text -/
def intT (i : Int) : Txt := (toString i).toList.map Char.toNat
/-- the greatest of what < orders -/
def maxDD (x : D) (xs : List D) : D := xs.foldl (fun a y => if dlt a y then y else a) x
def flatOk (xs : List D) : Bool := (xs.all fun d => match d with
  | .int _ => true
  | _ => false) || xs.all fun d => match d with
  | .str s => s.all fun c => decide (c < 1114112)
  | _ => false
/-- a tuple's, a list's items, the other way round -/
def rvF (d : D) (μ : Store) : Res D := match d with
  | .tup xs => .ok (.tup xs.reverse) μ
  | .str s => if s.length ≤ mostLen then .ok (.str s.reverse) μ else .stuck
  | .loc l => match μ[l]? with
    | some (.lst xs) => new (.lst xs.reverse) μ
    | _ => .stuck
  | _ => .stuck
/-- a sign's great letter -/
def upC (c : Nat) : Nat := if 97 ≤ c ∧ c ≤ 122 then c - 32 else c
def bfF (b : Bf) (d : D) (μ : Store) : Res D := match b with
  | .len => match d with
    | .tup xs => .ok (.int xs.length) μ
    | .rol xs => .ok (.int xs.length) μ
    | .ftup xs => .ok (.int xs.length) μ
    | .str s => if s.length ≤ mostLen then .ok (.int s.length) μ else .stuck
    | .loc l => match μ[l]? with
      | some (.lst xs) => .ok (.int xs.length) μ
      | some (.dK _ kvs) => .ok (.int kvs.length) μ
      | _ => .stuck
    | _ => .stuck
  | .abs => match d with
    | .int i => .ok (.int (if i < 0 then -i else i)) μ
    | _ => .stuck
  | .int => match d with
    | .int i => .ok (.int i) μ
    | .bl b => .ok (.int (if b then 1 else 0)) μ
    | _ => .stuck
  | .bool => match d with
    | .int i => .ok (.bl (i != 0)) μ
    | .bl b => .ok (.bl b) μ
    | _ => .stuck
  | .tuple => match d with
    | .ktp _ => .stuck
    | _ => match rowF d μ with
      | some xs => .ok (.tup xs) μ
      | none => .stuck
  | .tupleF => match listF d μ with
    | some xs => .ok (.ftup xs) μ
    | none => .stuck
  | .list => match rowF d μ with
    | some xs => new (.lst xs) μ
    | none => match keysT d μ with
      | some xs => new (.lst xs) μ
      | none => .stuck
  | .sorted => match listF d μ with
    | some xs => if sortOk xs && decide (xs.length ≤ mostLen) then new (.lst (sortD xs)) μ else .stuck
    | none => match keysT d μ with
      | some xs => if sortOk xs && decide (xs.length ≤ mostLen) then new (.lst (sortD xs)) μ else .stuck
      | none => .stuck
  | .tupleS => match d with
    | .str s => if s.length ≤ mostLen then .ok (.tup (s.map fun c => .str [c])) μ else .stuck
    | _ => .stuck
  | .listS => match d with
    | .str s => if s.length ≤ mostLen then new (.lst (s.map fun c => .str [c])) μ else .stuck
    | _ => .stuck
  | .max => match rowF d μ with
    | some (x :: xs) => if flatOk (x :: xs) then .ok (maxDD x xs) μ else .stuck
    | _ => .stuck
  | .str => match d with
    | .int i => if i.natAbs < 2 ^ 1000 then .ok (.str (intT i)) μ else .stuck
    | _ => .stuck

/-- rows that < orders, not empty -/
def srtT (x y : D) : Bool := match x, y with
  | .tup (_ :: _), .tup (_ :: _) => D.eqOk x && D.eqOk y && alk x y && alk y x && alk x x && alk y y
  | _, _ => false
def bf2F (b : B2) (x y : D) (μ : Store) : Res D := match b with
  | .max2 => match x, y with
    | .int i, .int j => .ok (.int (if j > i then j else i)) μ
    | _, _ => if srtT x y then .ok (if dlt x y then y else x) μ else .stuck
  | .min2 => match x, y with
    | .int i, .int j => .ok (.int (if j < i then j else i)) μ
    | _, _ => if srtT x y then .ok (if dlt y x then y else x) μ else .stuck
/-- keywords' values in the parameters' order -/
def permD (pm : List Nat) (ds : List D) : Option (List D) := if decide (pm.length = ds.length) && pm.all (fun i => decide (i < ds.length)) then some (pm.map fun i => ds.getD i .non) else none
def strsOf : List D → Option (List Txt)
  | [] => some []
  | .str s :: r => (strsOf r).map (s :: ·)
  | _ :: _ => none
def joinT (sep : Txt) : List Txt → Txt
  | [] => []
  | [a] => a
  | a :: r => a ++ (sep ++ joinT sep r)
def sumLen (sep : Txt) (ts : List Txt) : Nat := ts.foldr (fun t n => t.length + sep.length + n) 0
/-- where a sign stands first -/
def signAt (c : Nat) (s : Txt) : Option Nat := s.findIdx? (· == c)
def isLstD (d : D) (μ : Store) : Bool := match d with
  | .rol _ => true
  | .loc l => match μ[l]? with
    | some (.lst _) => true
    | _ => false
  | _ => false
def isStrD : D → Bool
  | .str _ => true
  | _ => false
def isTupD : D → Bool
  | .ftup _ => true
  | _ => false
def isDctD (d : D) (μ : Store) : Bool := match d with
  | .loc l => match μ[l]? with
    | some (.dK _ _) => true
    | some (.dT _ _) => true
    | _ => false
  | _ => false
/-- a method's receiver is of its type -/
def mfOk (m : Mf) (d : D) (μ : Store) : Bool := match m with
  | .append => isLstD d μ
  | .pop => isLstD d μ
  | .popAt => isLstD d μ
  | .extend => isLstD d μ
  | .join => isStrD d
  | .index => isStrD d
  | .upper => isStrD d
  | .repl => isStrD d
  | .get => isDctD d μ
  | .get2 => isDctD d μ
  | .indexL => isLstD d μ
  | .indexT => isTupD d
def methF (m : Mf) (o : D) (as : List D) (μ : Store) : Res D := match m with
  | .append => match o, as with
    | .loc l, [d] => match μ[l]? with
      | some (.lst xs) => if xs.length < mostLen then .ok .non (μ.set l (.lst (xs ++ [d]))) else .stuck
      | _ => .stuck
    | _, _ => .stuck
  | .pop => match o, as with
    | .loc l, [] => match μ[l]? with
      | some (.lst xs) => match xs[xs.length - 1]? with
        | some y => .ok y (μ.set l (.lst xs.dropLast))
        | none => .stuck
      | _ => .stuck
    | _, _ => .stuck
  | .popAt => match o, as with
    | .loc l, [.int i] => match μ[l]? with
      | some (.lst xs) => match pyIx xs.length i with
        | some k => match xs[k]? with
          | some y => if -(2 ^ 62) ≤ i ∧ i < 2 ^ 62 then .ok y (μ.set l (.lst (xs.eraseIdx k))) else .stuck
          | none => .stuck
        | none => .stuck
      | _ => .stuck
    | _, _ => .stuck
  | .extend => match o, as with
    | .loc l, [.loc r] => match μ[l]?, μ[r]? with
      | some (.lst xs), some (.lst ys) => if xs.length + ys.length ≤ mostLen ∧ l ≠ r then .ok .non (μ.set l (.lst (xs ++ ys))) else .stuck
      | _, _ => .stuck
    | _, _ => .stuck
  | .join => match o, as with
    | .str sep, [d] => match rowF d μ with
      | some xs => match strsOf xs with
        | some ts => if sumLen sep ts ≤ mostLen then .ok (.str (joinT sep ts)) μ else .stuck
        | none => .stuck
      | none => .stuck
    | _, _ => .stuck
  | .index => match o, as with
    | .str s, [.str [c]] => match signAt c s with
      | some i => if s.length ≤ mostLen then .ok (.int i) μ else .stuck
      | none => .stuck
    | _, _ => .stuck
  | .repl => match o, as with
    | .str s, [.str [a], .str [b]] => if a ≠ b ∧ s.length ≤ mostLen then .ok (.str (s.map fun c => if c = a then b else c)) μ else .stuck
    | _, _ => .stuck
  | .upper => match o, as with
    | .str s, [] => if s.length ≤ mostLen ∧ (s.all fun c => decide (c < 128)) = true then .ok (.str (s.map upC)) μ else .stuck
    | _, _ => .stuck
  | .indexL => match as with
    | [d] => match listF o μ with
      | some xs => if D.eqOk d && D.eqOk (.tup xs) then (match xs.findIdx? fun z => deq z d with
        | some i => .ok (.int i) μ
        | none => .stuck) else .stuck
      | none => .stuck
    | _ => .stuck
  | .indexT => match o, as with
    | .ftup xs, [d] => if D.eqOk d && D.eqOk (.tup xs) then (match xs.findIdx? fun z => deq z d with
      | some i => .ok (.int i) μ
      | none => .stuck) else .stuck
    | _, _ => .stuck
  | .get => match as with
    | [k] => match findF C o k μ with
      | some r => .ok (r.getD .non) μ
      | none => .stuck
    | _ => .stuck
  | .get2 => match as with
    | [k, x] => match findF C o k μ with
      | some r => .ok (r.getD x) μ
      | none => .stuck
    | _ => .stuck
/-- o[i] = v -/
def setF (o i v : D) (μ : Store) : Res Unit := match o with
  | .loc l => match μ[l]? with
    | some (.lst xs) => match i with
      | .int i => match pyIx xs.length i with
        | some k => .ok () (μ.set l (.lst (xs.set k v)))
        | none => .stuck
      | _ => .stuck
    | some (.dK false kvs) => match D.key i with
      | some k => if kvs.length < mostLen then .ok () (μ.set l (.dK false (put kvs k v))) else .stuck
      | none => .stuck
    | some (.dT false kvs) => match i with
      | .tup ks => match D.keys ks with
        | some k => if kvs.length < mostLen then .ok () (μ.set l (.dT false (put kvs k v))) else .stuck
        | none => .stuck
      | _ => .stuck
    | _ => .stuck
  | _ => .stuck
/-! ### walks -/
/-- what a loop walks: its items; the place of a list that must stand still; of a dict that is locked -/
inductive Wk where
  | row (xs : List D)
  | lst (l : Nat) (xs : List D)
  | dct (l : Nat) (xs : List D)
  | rev (l : Nat) (xs : List D)
def walkF (d : D) (μ : Store) : Option Wk := match d with
  | .tup xs => some (.row xs)
  | .rol xs => some (.row xs)
  | .ktp xs => some (.row xs)
  | .str s => if s.length ≤ mostLen then some (.row (s.map fun c => .str [c])) else none
  | .loc l => match μ[l]? with
    | some (.lst xs) => some (.lst l xs)
    | _ => none
  | _ => none
def revF (d : D) (μ : Store) : Option Wk := match d with
  | .loc l => match μ[l]? with
    | some (.lst xs) => some (.rev l xs)
    | _ => none
  | _ => none
def keysF (d : D) (μ : Store) : Option Wk := match d with
  | .loc l => match μ[l]? with
    | some (.dK false kvs) => some (.dct l (kvs.map fun p => p.1.d))
    | some (.dT false kvs) => some (.dct l (kvs.map fun p => .tup (p.1.map Key.d)))
    | _ => none
  | _ => none
def setLk (b : Bool) : Obj → Obj
  | .dK _ k => .dK b k
  | .dT _ k => .dT b k
  | o => o
def Wk.items : Wk → List D
  | .row xs => xs
  | .lst _ xs => xs
  | .dct _ xs => xs
  | .rev _ xs => xs.reverse
/-- ahead of a walk -/
def Wk.start (w : Wk) (μ : Store) : Store := match w with
  | .dct l _ => μ.modify l (setLk true)
  | _ => μ
/-- behind a walk -/
def Wk.stop (w : Wk) (μ : Store) : Store := match w with
  | .dct l _ => μ.modify l (setLk false)
  | _ => μ
/-- a list that is walked stands still -/
def Wk.stands (w : Wk) (μ : Store) : Prop := match w with
  | .lst l xs => μ[l]? = some (.lst xs)
  | .rev l xs => μ[l]? = some (.lst xs)
  | _ => True
instance (w : Wk) (μ : Store) : Decidable (w.stands μ) := by
  unfold Wk.stands
  split <;> infer_instance
end

/-! ### expressions -/
inductive Flow where | nx | rt (d : D) | bk | ct
inductive SRes where
  | go (f : Flow) (ρ : Env) (μ : Store)
  | exc (x : Exc) (ρ : Env) (μ : Store)
  | stuck
def SRes.of {α : Type} (ρ : Env) (r : Res α) (f : α → Store → SRes) : SRes := match r with
  | .ok a μ => f a μ
  | .exc x μ => .exc x ρ μ
  | .stuck => .stuck
theorem SRes.of_ok {α : Type} (ρ : Env) (a : α) (μ : Store) (f : α → Store → SRes) : SRes.of ρ (.ok a μ) f = f a μ := rfl
/-- what follows where a statement went on -/
def SRes.next (r : SRes) (f : Env → Store → SRes) : SRes := match r with
  | .go .nx ρ μ => f ρ μ
  | r => r
theorem SRes.next_nx (ρ : Env) (μ : Store) (f : Env → Store → SRes) : (SRes.go .nx ρ μ).next f = f ρ μ := rfl
theorem SRes.next_rt (d : D) (ρ : Env) (μ : Store) (f : Env → Store → SRes) : (SRes.go (.rt d) ρ μ).next f = .go (.rt d) ρ μ := rfl
theorem SRes.next_bk (ρ : Env) (μ : Store) (f : Env → Store → SRes) : (SRes.go .bk ρ μ).next f = .go .bk ρ μ := rfl
theorem SRes.next_ct (ρ : Env) (μ : Store) (f : Env → Store → SRes) : (SRes.go .ct ρ μ).next f = .go .ct ρ μ := rfl
theorem SRes.next_exc (x : Exc) (ρ : Env) (μ : Store) (f : Env → Store → SRes) : (SRes.exc x ρ μ).next f = .exc x ρ μ := rfl

/-- a value's items go to slots, one after another -/
def setAll : List Nat → List D → Env → Env
  | i :: is, d :: ds, ρ => setAll is ds (ρ.set i (some d))
  | _, _, ρ => ρ
def unpackF (is : List Nat) (d : D) (ρ : Env) (μ : Store) : Res Env := match rowF d μ with
  | some xs => if xs.length = is.length then .ok (setAll is xs ρ) μ else .stuck
  | none => .stuck
def wipeE (ρ : Env) : List Nat → Env
  | [] => ρ
  | v :: vs => (wipeE ρ vs).set v none
/-- the turns of a comprehension whose list is at l -/
def compL (w : Wk) (l : Nat) (turn : D → Store → Res (Option D)) : List D → Store → Res Unit
  | [], μ => if w.stands μ then .ok () μ else .stuck
  | x :: xs, μ => if w.stands μ then match turn x μ with
    | .ok none μ' => compL w l turn xs μ'
    | .ok (some d) μ' => match μ'[l]? with
      | some (.lst acc) => if acc.length < mostLen then compL w l turn xs (μ'.set l (.lst (acc ++ [d]))) else .stuck
      | _ => .stuck
    | _ => .stuck
    else .stuck
/-- the turns of a for -/
def forL (w : Wk) (asg : D → Env → Store → Res Env) (body : Env → Store → SRes) : List D → Env → Store → SRes
  | [], ρ, μ => if w.stands μ then .go .nx ρ μ else .stuck
  | x :: xs, ρ, μ => if w.stands μ then SRes.of ρ (asg x ρ μ) fun ρ' μ' => match body ρ' μ' with
    | .go .nx ρ2 μ2 => forL w asg body xs ρ2 μ2
    | .go .ct ρ2 μ2 => forL w asg body xs ρ2 μ2
    | .go .bk ρ2 μ2 => .go .nx ρ2 μ2
    | r => r
    else .stuck
/-- the turns of a while -/
def whlL (test : Env → Store → Res Bool) (body : Env → Store → SRes) : Nat → Env → Store → SRes
  | 0, _, _ => .stuck
  | n + 1, ρ, μ => SRes.of ρ (test ρ μ) fun b μ' => if b then match body ρ μ' with
    | .go .nx ρ2 μ2 => whlL test body n ρ2 μ2
    | .go .ct ρ2 μ2 => whlL test body n ρ2 μ2
    | .go .bk ρ2 μ2 => .go .nx ρ2 μ2
    | r => r
    else .go .nx ρ μ'
def Wk.lk : Wk → Bool
  | .dct _ _ => true
  | _ => false
def unlock (w : Wk) (r : SRes) : SRes := match r with
  | .go f ρ μ => .go f ρ (w.stop μ)
  | .exc x ρ μ => if w.lk then .stuck else .exc x ρ μ
  | .stuck => .stuck
def rngF (lo : Int) (hi : Int) (μ : Store) : Res Wk := if -(2 ^ 61) ≤ lo ∧ lo < 2 ^ 61 ∧ -(2 ^ 61) ≤ hi ∧ hi < 2 ^ 61 then
  .ok (.row ((List.range (hi - lo).toNat).map fun (k : Nat) => D.int (lo + (k : Int)))) μ else .stuck
/-- behind a suite with a name: the name goes -/
def unset (i : Nat) : SRes → SRes
  | .go (.rt d) ρ μ => .go (.rt d) ρ μ
  | .go f ρ μ => .go f (ρ.set i none) μ
  | _ => .stuck
/-- behind a suite without -/
def noExc : SRes → SRes
  | .exc _ _ _ => .stuck
  | r => r
/-- how many numbers a range with a step has -/
def stepN (i j c : Int) : Nat := if 0 < c then (if i < j then ((j - i - 1) / c + 1).toNat else 0) else (i - j).toNat
def rngF3 (i j c : Int) (μ : Store) : Res Wk := if -(2 ^ 61) ≤ i ∧ i < 2 ^ 61 ∧ -(2 ^ 61) ≤ j ∧ j < 2 ^ 61 ∧ (c = -1 ∨ 0 < c ∧ c < 1000) then
  .ok (.row ((List.range (stepN i j c)).map fun (k : Nat) => D.int (i + (k : Int) * c))) μ else .stuck
abbrev CF := Nat → List D → Store → Res D

section
variable (C : Nat → List (Key × D)) (cf : CF) (N : Nat)
mutual
def ev : E → Env → Store → Res D
  | .v i, ρ, μ => match ρ[i]? with
    | some (some d) => .ok d μ
    | _ => .stuck
  | .non, _, μ => .ok .non μ
  | .bl b, _, μ => .ok (.bl b) μ
  | .int i, _, μ => .ok (.int i) μ
  | .str s, _, μ => .ok (.str s) μ
  | .glS _ s, _, μ => .ok (.str s) μ
  | .glC _ c, _, μ => .ok (.cst c) μ
  | .glI _ i, _, μ => .ok (.int i) μ
  | .tup es, ρ, μ => (evs es ρ μ).bind fun ds μ => if ds.length ≤ mostLen then .ok (.tup ds) μ else .stuck
  | .lst es, ρ, μ => (evs es ρ μ).bind fun ds μ => if ds.length ≤ mostLen then new (.lst ds) μ else .stuck
  | .dnK, _, μ => new (.dK false []) μ
  | .dnT, _, μ => new (.dT false []) μ
  | .disp ks es, ρ, μ => (evs es ρ (μ ++ [.dK false []])).bind fun ds μ' => match μ'[μ.length]? with
    | some (.dK false []) => if ds.length = ks.length ∧ ks.length ≤ 15 then .ok (.loc μ.length) (μ'.set μ.length (.dK false ((ks.zip ds).foldl (fun acc p => put acc p.1 p.2) []))) else .stuck
    | _ => .stuck
  | .call f es, ρ, μ => (evs es ρ μ).bind fun ds μ => cf f ds μ
  | .callK f pm es, ρ, μ => (evs es ρ μ).bind fun ds μ => (okI (permD pm ds) μ).bind fun ds μ => cf f ds μ
  | .bf2 b a c, ρ, μ => (ev a ρ μ).bind fun x μ => (ev c ρ μ).bind fun y μ => bf2F b x y μ
  | .bf b e, ρ, μ => (ev e ρ μ).bind fun d μ => bfF b d μ
  | .isi e t, ρ, μ => (ev e ρ μ).bind fun d μ => (isiF d t μ).bind fun b μ => .ok (.bl b) μ
  | .meth m o es, ρ, μ => (ev o ρ μ).bind fun d μ => if mfOk m d μ then (evs es ρ μ).bind fun ds μ => methF C m d ds μ else .stuck
  | .bin op a b, ρ, μ => (ev a ρ μ).bind fun x μ => (ev b ρ μ).bind fun y μ => binF op x y μ
  | .neg a, ρ, μ => (ev a ρ μ).bind fun x μ => match x with
    | .int i => .ok (.int (-i)) μ
    | _ => .stuck
  | .cmp c a b, ρ, μ => (ev a ρ μ).bind fun x μ => (ev b ρ μ).bind fun y μ => (cmpF C c x y μ).bind fun k μ => .ok (.bl k) μ
  | .chain c d a b e, ρ, μ => (ev a ρ μ).bind fun x μ => (ev b ρ μ).bind fun y μ => (cmpF C c x y μ).bind fun k μ =>
    if k then (ev e ρ μ).bind fun z μ => (cmpF C d y z μ).bind fun k μ => .ok (.bl k) μ else .ok (.bl false) μ
  | .and a b, ρ, μ => (ev a ρ μ).bind fun x μ => match x with
    | .bl k => if k then ev b ρ μ else .ok (.bl false) μ
    | _ => .stuck
  | .or a b, ρ, μ => (ev a ρ μ).bind fun x μ => match x with
    | .bl k => if k then .ok (.bl true) μ else ev b ρ μ
    | _ => .stuck
  | .not a, ρ, μ => (ev a ρ μ).bind fun x μ => match x with
    | .bl k => .ok (.bl (!k)) μ
    | _ => .stuck
  | .ite c a b, ρ, μ => (evT c ρ μ).bind fun k μ => if k then ev a ρ μ else ev b ρ μ
  | .ix a b, ρ, μ => (ev a ρ μ).bind fun x μ => (ev b ρ μ).bind fun y μ => ixF C x y μ
  | .slL a lo, ρ, μ => (ev a ρ μ).bind fun x μ => (ev lo ρ μ).bind fun y μ => match y with
    | .int i => slF x (some i) none μ
    | _ => .stuck
  | .slU a hi, ρ, μ => (ev a ρ μ).bind fun x μ => (ev hi ρ μ).bind fun y μ => match y with
    | .int i => slF x none (some i) μ
    | _ => .stuck
  | .slB a lo hi, ρ, μ => (ev a ρ μ).bind fun x μ => (ev lo ρ μ).bind fun y μ => match y with
    | .int i => (ev hi ρ μ).bind fun z μ => match z with
      | .int j => slF x (some i) (some j) μ
      | _ => .stuck
    | _ => .stuck
  | .comp t it c e own, ρ, μ => (evI it ρ μ).bind fun w μ1 =>
    (compL w μ1.length (fun x μ => (asgT t x (wipeE ρ own) μ).bind fun ρ2 μ => (evC c ρ2 μ).bind fun k μ =>
      if k then (ev e ρ2 μ).bind fun d μ => .ok (some d) μ else .ok none μ) w.items (w.start μ1 ++ [.lst []])).bind fun _ μ2 => .ok (.loc μ1.length) (w.stop μ2)
  | .rv a, ρ, μ => (ev a ρ μ).bind fun x μ => rvF x μ
  | .errF n i, ρ, μ => match ρ[n]? with
    | some (some (.err _ ks fs)) => okI ((ks.findIdx? fun k => k == i).bind fun j => fs[j]?) μ
    | _ => .stuck
  | .errIs n cs, ρ, μ => match ρ[n]? with
    | some (some (.err ms _ _)) => .ok (.bl (cs.any fun c => ms.contains c)) μ
    | _ => .stuck
def evT : E → Env → Store → Res Bool
  | .and a b, ρ, μ => (evT a ρ μ).bind fun k μ => if k then evT b ρ μ else .ok false μ
  | .or a b, ρ, μ => (evT a ρ μ).bind fun k μ => if k then .ok true μ else evT b ρ μ
  | .not a, ρ, μ => (evT a ρ μ).bind fun k μ => .ok (!k) μ
  | .cmp c a b, ρ, μ => (ev a ρ μ).bind fun x μ => (ev b ρ μ).bind fun y μ => cmpF C c x y μ
  | .chain c d a b e, ρ, μ => (ev a ρ μ).bind fun x μ => (ev b ρ μ).bind fun y μ => (cmpF C c x y μ).bind fun k μ =>
    if k then (ev e ρ μ).bind fun z μ => cmpF C d y z μ else .ok false μ
  | .bl b, _, μ => .ok b μ
  | .bf b e, ρ, μ => ((ev e ρ μ).bind fun d μ => bfF b d μ).bind truthF
  | .isi e t, ρ, μ => (ev e ρ μ).bind fun d μ => isiF d t μ
  | .call f es, ρ, μ => ((evs es ρ μ).bind fun ds μ => cf f ds μ).bind truthF
  | .callK f pm es, ρ, μ => ((evs es ρ μ).bind fun ds μ => (okI (permD pm ds) μ).bind fun ds μ => cf f ds μ).bind truthF
  | .meth m o es, ρ, μ => ((ev o ρ μ).bind fun d μ => if mfOk m d μ then (evs es ρ μ).bind fun ds μ => methF C m d ds μ else .stuck).bind truthF
  | .ix a b, ρ, μ => ((ev a ρ μ).bind fun x μ => (ev b ρ μ).bind fun y μ => ixF C x y μ).bind truthF
  | .v i, ρ, μ => match ρ[i]? with
    | some (some d) => truthF d μ
    | _ => .stuck
  | .errIs n cs, ρ, μ => match ρ[n]? with
    | some (some (.err ms _ _)) => .ok (cs.any fun c => ms.contains c) μ
    | _ => .stuck
  | _, _, _ => .stuck
def evs : Es → Env → Store → Res (List D)
  | .nil, _, μ => .ok [] μ
  | .cons e es, ρ, μ => (ev e ρ μ).bind fun d μ => (evs es ρ μ).bind fun ds μ => .ok (d :: ds) μ
def evC : Ec → Env → Store → Res Bool
  | .yes, _, μ => .ok true μ
  | .test e, ρ, μ => evT e ρ μ
def evI : It → Env → Store → Res Wk
  | .val e, ρ, μ => (ev e ρ μ).bind fun d μ => okI (walkF d μ) μ
  | .rng e, ρ, μ => (ev e ρ μ).bind fun d μ => match d with
    | .int n => rngF 0 n μ
    | _ => .stuck
  | .rng2 a b, ρ, μ => (ev a ρ μ).bind fun x μ => (ev b ρ μ).bind fun y μ => match x, y with
    | .int i, .int j => rngF i j μ
    | _, _ => .stuck
  | .rng3 a b c, ρ, μ => (ev a ρ μ).bind fun x μ => (ev b ρ μ).bind fun y μ => (ev c ρ μ).bind fun z μ => match x, y, z with
    | .int i, .int j, .int k => rngF3 i j k μ
    | _, _, _ => .stuck
  | .keys i, ρ, μ => match ρ[i]? with
    | some (some d) => okI (keysF d μ) μ
    | _ => .stuck
  | .rev e, ρ, μ => (ev e ρ μ).bind fun d μ => okI (revF d μ) μ
def asgT : T → D → Env → Store → Res Env
  | .nm i, d, ρ, μ => .ok (ρ.set i (some d)) μ
  | .tp is, d, ρ, μ => unpackF is d ρ μ
  | .sb o i, d, ρ, μ => (ev o ρ μ).bind fun x μ => (ev i ρ μ).bind fun y μ => (setF x y d μ).bind fun _ μ => .ok ρ μ
end

/-! ### statements -/
mutual
def ex : S → Env → Store → SRes
  | .asg t e, ρ, μ => SRes.of ρ (ev C cf e ρ μ) fun d μ => SRes.of ρ (asgT C cf t d ρ μ) fun ρ μ => .go .nx ρ μ
  | .par i j a b, ρ, μ => SRes.of ρ (ev C cf a ρ μ) fun x μ => SRes.of ρ (ev C cf b ρ μ) fun y μ => .go .nx ((ρ.set i (some x)).set j (some y)) μ
  | .aug i op e, ρ, μ => match ρ[i]? with
    | some (some x) => SRes.of ρ (ev C cf e ρ μ) fun y μ => match x, y with
      | .int a, .int b => SRes.of ρ (binF op (.int a) (.int b) μ) fun z μ => .go .nx (ρ.set i (some z)) μ
      | _, _ => .stuck
    | _ => .stuck
  | .ex e, ρ, μ => SRes.of ρ (ev C cf e ρ μ) fun _ μ => .go .nx ρ μ
  | .ret e, ρ, μ => SRes.of ρ (ev C cf e ρ μ) fun d μ => .go (.rt d) ρ μ
  | .retN, ρ, μ => .go (.rt .non) ρ μ
  | .ite c a b, ρ, μ => SRes.of ρ (evT C cf c ρ μ) fun k μ => if k then exs a ρ μ else exs b ρ μ
  | .whl c b, ρ, μ => whlL (evT C cf c) (exs b) N ρ μ
  | .fr t it b, ρ, μ => SRes.of ρ (evI C cf it ρ μ) fun w μ => unlock w (forL w (asgT C cf t) (exs b) w.items ρ (w.start μ))
  | .brk, ρ, μ => .go .bk ρ μ
  | .cont, ρ, μ => .go .ct ρ μ
  | .pass, ρ, μ => .go .nx ρ μ
  | .rse ms ks es, ρ, μ => SRes.of ρ (evs C cf es ρ μ) fun ds μ => if ds.length = ks.length ∧ ks.length ≤ 900 then .exc ⟨ms, ks, ds⟩ ρ μ else .stuck
  | .tr b hs, ρ, μ => match exs b ρ μ with
    | .exc x ρ' μ' => exh hs x ρ' μ'
    | r => r
def exs : Ss → Env → Store → SRes
  | .nil, ρ, μ => .go .nx ρ μ
  | .cons s ss, ρ, μ => (ex s ρ μ).next fun ρ μ => exs ss ρ μ
def exh : Hs → Exc → Env → Store → SRes
  | .nil, x, ρ, μ => .exc x ρ μ
  | .cons c n b hs, x, ρ, μ => if x.ms.contains c then match n with
    | none => noExc (exs b ρ μ)
    | some i => unset i (exs b (ρ.set i (some (.err x.ms x.ks x.fs))) μ)
    else exh hs x ρ μ
end
end

/-! ### defs, calls -/
structure Fn where
  np : Nat
  ns : Nat
  body : Ss
structure Prog where
  fns : Nat → Option Fn
  cst : Nat → List (Key × D)
def startE (np ns : Nat) (ds : List D) : Env := ds.map some ++ List.replicate (ns - np) none
/-- what a body hands back -/
def handed (r : SRes) : Res D := match r with
  | .go .nx _ μ => .ok .non μ
  | .go (.rt d) _ μ => .ok d μ
  | .exc x _ μ => .exc x μ
  | _ => .stuck
mutual
/-- places moved up by n -/
def D.shift (n : Nat) : D → D
  | .tup xs => .tup (D.shiftL n xs)
  | .rol xs => .rol (D.shiftL n xs)
  | .ktp xs => .ktp (D.shiftL n xs)
  | .ftup xs => .ftup (D.shiftL n xs)
  | .loc l => .loc (n + l)
  | d => d
def D.shiftL (n : Nat) : List D → List D
  | [] => []
  | x :: xs => D.shift n x :: D.shiftL n xs
end
def Obj.shift (n : Nat) : Obj → Obj
  | .lst xs => .lst (D.shiftL n xs)
  | .dK b kvs => .dK b (kvs.map fun p => (p.1, p.2.shift n))
  | .dT b kvs => .dT b (kvs.map fun p => (p.1, p.2.shift n))
/-- behind a call of data alone: the callee's store is dropped but for a list of data that is handed back -/
def graft (r : Res D) (μ : Store) : Res D := match r with
  | .ok d μ' => if d.data then .ok d μ else match d with
    | .loc l => match μ'[l]? with
      | some (.lst xs) => if D.dataL xs then new (.lst xs) μ else .ok (d.shift μ.length) (μ ++ μ'.map (Obj.shift μ.length))
      | _ => .ok (d.shift μ.length) (μ ++ μ'.map (Obj.shift μ.length))
    | _ => .ok (d.shift μ.length) (μ ++ μ'.map (Obj.shift μ.length))
  | .exc x _ => if D.dataL x.fs then .exc x μ else .stuck
  | .stuck => .stuck
def callB (P : Prog) (N : Nat) (cf : CF) (fn : Fn) (ds : List D) (μ : Store) : Res D := handed (exs P.cst cf N fn.body (startE fn.np fn.ns ds) μ)
def callF (P : Prog) (N : Nat) : Nat → CF
  | 0 => fun _ _ _ => .stuck
  | k + 1 => fun f ds μ => match P.fns f with
    | some fn => if ds.length = fn.np then (if D.dataL ds then graft (callB P N (callF P N k) fn ds []) μ else callB P N (callF P N k) fn ds μ) else .stuck
    | none => .stuck
end PL
end
section
set_option Elab.async false
set_option linter.all false
set_option autoImplicit false
set_option maxRecDepth 100000
set_option maxHeartbeats 4000000
/-! Sound1: Mini's values and store against the abstract heap of the hand layer. -/
namespace PL
open PySem PySem.Spec PyProof.Rows L2

def S2 (s : Txt) : PySem.Str := ⟨s.toArray⟩
theorem S2_len (s : Txt) : (S2 s).length = s.length := by simp [S2, Str.length]
theorem S2_cps (s : Txt) : (S2 s).cps.toList = s := by simp [S2]
theorem S2_inj {a b : Txt} : S2 a = S2 b ↔ a = b := by
  constructor
  · intro h
    have := congrArg (fun z : PySem.Str => z.cps.toList) h
    simpa [S2] using this
  · intro h; rw [h]
theorem S2_app (a b : Txt) : S2 a ++ S2 b = S2 (a ++ b) := by
  show Str.append (S2 a) (S2 b) = _
  simp [Str.append, S2]
theorem S2_of (x : PySem.Str) : ∃ s, x = S2 s := ⟨x.cps.toList, by cases x; simp [S2]⟩
def K2 : PL.Key → L2.Key
  | .inl i => .inl i
  | .inr s => .inr (S2 s)
theorem K2_inj {a b : PL.Key} : K2 a = K2 b ↔ a = b := by
  cases a <;> cases b <;> simp [K2, S2_inj]
def Ks2 (ks : List PL.Key) : List L2.Key := ks.map K2
theorem Ks2_inj {a b : List PL.Key} : Ks2 a = Ks2 b ↔ a = b := by
  constructor
  · intro h
    exact List.map_inj_right (fun _ _ => K2_inj.mp) |>.mp h
  · intro h; rw [h]

theorem line_most : mostLen ≤ sizeLine := by rw [sizeLine_eq]; decide

/-- what stands fast through a law: the written part, where its tables stand -/
structure Gb where
  P : Program
  w : World
  K : PySem.W.Frag
  C : Nat → List (PL.Key × D)
  cA : Nat → Addr
  clsA : Nat → Addr
  mros : List (List Nat)
  fld : Nat → PySem.Str

/-- a list of the written part -/
def KLst (K : PySem.W.Frag) (a : Addr) (xs : List V) : Prop :=
  ∃ (o : PySem.Obj) (its : Array Value) (n : Nat), K.lookup a = some o ∧ o.cls = .type "list" ∧ o.dict = none ∧ o.data = .seq its n ∧ its.size ≤ sizeLine ∧ Vals xs its.toList
/-- a tuple of the written part -/
def KTup (K : PySem.W.Frag) (a : Addr) (xs : List V) : Prop :=
  ∃ (o : PySem.Obj) (its : Array Value) (n : Nat), K.lookup a = some o ∧ o.cls = .type "tuple" ∧ o.data = .seq its n ∧ its.size ≤ sizeLine ∧ Vals xs its.toList
theorem KTup.sq {K : PySem.W.Frag} {a : Addr} {xs : List V} (h : KTup K a xs) (H : Hp) : SqT K H a xs := .inr h
mutual
/-- a constant of the written part -/
def RepK (K : PySem.W.Frag) : D → V → Prop
  | .non, v => v = .non
  | .bl b, v => v = .bl b
  | .int i, v => v = .int i
  | .str s, v => v = .str (S2 s)
  | .ktp ds, v => ∃ a vs, v = .ref a ∧ KTup K a vs ∧ RepKL K ds vs
  | _, _ => False
def RepKL (K : PySem.W.Frag) : List D → List V → Prop
  | [], vs => vs = []
  | d :: ds, vs => ∃ v r, vs = v :: r ∧ RepK K d v ∧ RepKL K ds r
end
/-- a table with text keys of the written part -/
structure CstAt (K : PySem.W.Frag) (w : World) (a : Addr) (kvs : List (PL.Key × D)) : Prop where
  kd : ∃ es n, KDict K w a es n
  get : ∀ s : Txt, (look kvs (.inr s) = none ∧ PySem.W.nsIn K a (S2 s) = some none) ∨ ∃ d u v, look kvs (.inr s) = some d ∧ PySem.W.nsIn K a (S2 s) = some (some u) ∧ RelV v u ∧ RepK K d v
section
variable (g : Gb)
mutual
/-- v stands for d; ι: where the places of the store stand -/
def Rep (ι : List Addr) (H : Hp) : D → V → Prop
  | .non, v => v = .non
  | .bl b, v => v = .bl b
  | .int i, v => v = .int i
  | .str s, v => v = .str (S2 s)
  | .tup ds, v => ∃ a vs, v = .ref a ∧ H a = some (.tup vs) ∧ RepL ι H ds vs
  | .ktp ds, v => ∃ a vs, v = .ref a ∧ KTup g.K a vs ∧ RepL ι H ds vs
  | .rol ds, v => ∃ a vs, v = .ref a ∧ ((∃ o, H a = some (.frz o (.lst vs)) ∧ a ∉ ι) ∨ KLst g.K a vs) ∧ RepL ι H ds vs
  | .loc l, v => ∃ a, v = .ref a ∧ ι[l]? = some a
  | .cst c, v => v = .ref (g.cA c) ∧ CstAt g.K g.w (g.cA c) (g.C c)
  | .err _ _ _, _ => False
  | .ftup ds, v => ∃ a vs o, v = .ref a ∧ H a = some (.frz o (.tup vs)) ∧ (o.cls = .type "tuple" ∧ o.dict = none ∧ a ∉ ι) ∧ RepL ι H ds vs
def RepL (ι : List Addr) (H : Hp) : List D → List V → Prop
  | [], vs => vs = []
  | d :: ds, vs => ∃ v r, vs = v :: r ∧ Rep ι H d v ∧ RepL ι H ds r
end
/-- the entries of a dict, the keys by f -/
def RepKV {κ κ' : Type} (f : κ → κ') (ι : List Addr) (H : Hp) : List (κ × D) → List (κ' × V) → Prop
  | [], r => r = []
  | p :: t, r => ∃ v r', r = (f p.1, v) :: r' ∧ Rep g ι H p.2 v ∧ RepKV f ι H t r'
/-- o stands at a -/
def ObjR (ι : List Addr) (H : Hp) : PL.Obj → Addr → Prop
  | .lst ds, a => ∃ vs, H a = some (.lst vs) ∧ RepL g ι H ds vs
  | .dK false kvs, a => ∃ vs, H a = some (.dK vs) ∧ RepKV g K2 ι H kvs vs
  | .dK true kvs, a => ∃ o vs, H a = some (.frz o (.dK vs)) ∧ RepKV g K2 ι H kvs vs
  | .dT false kvs, a => ∃ vs, H a = some (.dT vs) ∧ RepKV g Ks2 ι H kvs vs
  | .dT true kvs, a => ∃ o vs, H a = some (.frz o (.dT vs)) ∧ RepKV g Ks2 ι H kvs vs
structure Sim (ι : List Addr) (μ : Store) (H : Hp) : Prop where
  nd : ι.Nodup
  len : ι.length = μ.length
  ob : ∀ (l : Nat) o a, μ[l]? = some o → ι[l]? = some a → ObjR g ι H o a
end
/-- what may have become of a heap: places more, the rest as it was -/
structure Ext0 (ι : List Addr) (H : Hp) (ι' : List Addr) (H' : Hp) : Prop where
  pre : ι <+: ι'
  keep : ∀ a o, H a = some o → a ∉ ι → H' a = some o
  fresh : ∀ a, a ∈ ι' → a ∉ ι → H a = none
  tup : ∀ a vs, H a = some (.tup vs) → H' a = some (.tup vs)
  nn : ∀ a, H a ≠ none → H' a ≠ none
/-- what is locked stays so -/
structure Ext (ι : List Addr) (H : Hp) (ι' : List Addr) (H' : Hp) : Prop extends Ext0 ι H ι' H' where
  fz : ∀ a o u, H a = some (.frz o u) → H' a = some (.frz o u)
/-- not locked -/
def NFz (H : Hp) (a : Addr) : Prop := ∀ o u, H a ≠ some (.frz o u)
theorem NFz.lst {H : Hp} {a : Addr} {xs : List V} (h : H a = some (.lst xs)) : NFz H a := fun o u e => by rw [h] at e; cases e
theorem NFz.dK {H : Hp} {a : Addr} {xs : List (L2.Key × V)} (h : H a = some (.dK xs)) : NFz H a := fun o u e => by rw [h] at e; cases e
theorem NFz.dT {H : Hp} {a : Addr} {xs : List (List L2.Key × V)} (h : H a = some (.dT xs)) : NFz H a := fun o u e => by rw [h] at e; cases e

theorem Ext.refl (ι : List Addr) (H : Hp) : Ext ι H ι H := ⟨⟨List.prefix_refl _, fun _ _ h _ => h, fun _ h n => absurd h n, fun _ _ h => h, fun _ h => h⟩, fun _ _ _ h => h⟩
theorem Ext.trans {ι ι1 ι2 : List Addr} {H H1 H2 : Hp} (a : Ext ι H ι1 H1) (b : Ext ι1 H1 ι2 H2) : Ext ι H ι2 H2 where
  pre := a.pre.trans b.pre
  keep := fun x o h n => b.keep x o (a.keep x o h n) fun m => by rw [a.fresh x m n] at h; cases h
  fresh := fun x m n => by
    by_cases h : x ∈ ι1
    · exact a.fresh x h n
    · have := b.fresh x m h
      cases e : H x with
      | none => rfl
      | some o => exact absurd this (a.nn x (by rw [e]; simp))
  tup := fun x vs h => b.tup x vs (a.tup x vs h)
  nn := fun x h => b.nn x (a.nn x h)
  fz := fun x o u h => b.fz x o u (a.fz x o u h)
theorem Ext0.ix {ι ι' : List Addr} {H H' : Hp} (e : Ext0 ι H ι' H') {l : Nat} {a : Addr} (h : ι[l]? = some a) : ι'[l]? = some a := by
  obtain ⟨t, rfl⟩ := e.pre
  rw [List.getElem?_append_left (List.getElem?_eq_some_iff.mp h).1]
  exact h
section
variable {g : Gb} {ι ι' : List Addr} {H H' : Hp}
mutual
theorem Ext0.rep (e : Ext0 ι H ι' H') : ∀ (d : D) (v : V), Rep g ι H d v → Rep g ι' H' d v
  | .non, _, h => h
  | .bl _, _, h => h
  | .int _, _, h => h
  | .str _, _, h => h
  | .tup ds, _, h => by
    obtain ⟨a, vs, rfl, ha, hr⟩ := h
    exact ⟨a, vs, rfl, e.tup _ _ ha, Ext0.repL e ds vs hr⟩
  | .ktp ds, _, h => by
    obtain ⟨a, vs, rfl, ha, hr⟩ := h
    exact ⟨a, vs, rfl, ha, Ext0.repL e ds vs hr⟩
  | .rol ds, _, h => by
    obtain ⟨a, vs, rfl, ha, hr⟩ := h
    refine ⟨a, vs, rfl, ?_, Ext0.repL e ds vs hr⟩
    rcases ha with ⟨o, ha, hn⟩ | ha
    · refine .inl ⟨o, e.keep _ _ ha hn, fun m => ?_⟩
      rw [e.fresh a m hn] at ha
      cases ha
    · exact .inr ha
  | .loc l, _, h => by
    obtain ⟨a, rfl, ha⟩ := h
    exact ⟨a, rfl, e.ix ha⟩
  | .cst _, _, h => h
  | .err _ _ _, _, h => h
  | .ftup ds, _, h => by
    obtain ⟨a, vs, o, rfl, ha, ⟨hc, hd, hn⟩, hr⟩ := h
    refine ⟨a, vs, o, rfl, e.keep _ _ ha hn, ⟨hc, hd, fun m => ?_⟩, Ext0.repL e ds vs hr⟩
    rw [e.fresh a m hn] at ha
    cases ha
theorem Ext0.repL (e : Ext0 ι H ι' H') : ∀ (ds : List D) (vs : List V), RepL g ι H ds vs → RepL g ι' H' ds vs
  | [], _, h => h
  | d :: ds, _, h => by
    obtain ⟨v, r, rfl, h1, h2⟩ := h
    exact ⟨v, r, rfl, Ext0.rep e d v h1, Ext0.repL e ds r h2⟩
end

theorem Ext0.repKV {κ κ' : Type} {f : κ → κ'} (e : Ext0 ι H ι' H') : ∀ (kvs : List (κ × D)) (vs : List (κ' × V)), RepKV g f ι H kvs vs → RepKV g f ι' H' kvs vs
  | [], _, h => h
  | p :: t, _, h => by
    obtain ⟨v, r, rfl, h1, h2⟩ := h
    exact ⟨v, r, rfl, e.rep _ _ h1, Ext0.repKV e t r h2⟩
mutual
theorem RepK.rep : ∀ (d : D) (v : V), RepK g.K d v → Rep g ι H d v
  | .non, _, h => h
  | .bl _, _, h => h
  | .int _, _, h => h
  | .str _, _, h => h
  | .ktp ds, _, h => by
    obtain ⟨a, vs, rfl, ha, hr⟩ := h
    exact ⟨a, vs, rfl, ha, RepK.repL ds vs hr⟩
  | .tup _, _, h => h.elim
  | .rol _, _, h => h.elim
  | .loc _, _, h => h.elim
  | .cst _, _, h => h.elim
  | .err _ _ _, _, h => h.elim
  | .ftup _, _, h => h.elim
theorem RepK.repL : ∀ (ds : List D) (vs : List V), RepKL g.K ds vs → RepL g ι H ds vs
  | [], _, h => h
  | d :: ds, _, h => by
    obtain ⟨v, r, rfl, h1, h2⟩ := h
    exact ⟨v, r, rfl, RepK.rep d v h1, RepK.repL ds r h2⟩
end
theorem ObjR.mono {o : PL.Obj} {a : Addr} (e : Ext0 ι H ι' H') (h : ObjR g ι H o a) (k : H' a = H a) : ObjR g ι' H' o a := by
  cases o with
  | lst ds =>
    obtain ⟨vs, h1, h2⟩ := h
    exact ⟨vs, k.trans h1, e.repL _ _ h2⟩
  | dK b kvs =>
    cases b with
    | false =>
      obtain ⟨vs, h1, h2⟩ := h
      exact ⟨vs, k.trans h1, e.repKV _ _ h2⟩
    | true =>
      obtain ⟨o, vs, h1, h2⟩ := h
      exact ⟨o, vs, k.trans h1, e.repKV _ _ h2⟩
  | dT b kvs =>
    cases b with
    | false =>
      obtain ⟨vs, h1, h2⟩ := h
      exact ⟨vs, k.trans h1, e.repKV _ _ h2⟩
    | true =>
      obtain ⟨o, vs, h1, h2⟩ := h
      exact ⟨o, vs, k.trans h1, e.repKV _ _ h2⟩
theorem ObjR.there {o : PL.Obj} {a : Addr} (h : ObjR g ι H o a) : ∃ u, H a = some u ∧ ∀ vs, u ≠ .tup vs := by
  cases o with
  | lst ds =>
    obtain ⟨vs, h1, h2⟩ := h
    exact ⟨_, h1, fun _ z => by cases z⟩
  | dK b kvs =>
    cases b with
    | false =>
      obtain ⟨vs, h1, h2⟩ := h
      exact ⟨_, h1, fun _ z => by cases z⟩
    | true =>
      obtain ⟨o, vs, h1, h2⟩ := h
      exact ⟨_, h1, fun _ z => by cases z⟩
  | dT b kvs =>
    cases b with
    | false =>
      obtain ⟨vs, h1, h2⟩ := h
      exact ⟨_, h1, fun _ z => by cases z⟩
    | true =>
      obtain ⟨o, vs, h1, h2⟩ := h
      exact ⟨_, h1, fun _ z => by cases z⟩
variable {μ : Store}
theorem Sim.there (S : Sim g ι μ H) {a : Addr} (h : a ∈ ι) : ∃ u, H a = some u ∧ ∀ vs, u ≠ .tup vs := by
  obtain ⟨l, hl⟩ := List.getElem?_of_mem h
  have hl' : l < μ.length := by rw [← S.len]; exact (List.getElem?_eq_some_iff.mp hl).1
  exact (S.ob l μ[l] a (by simp [hl']) hl).there
theorem Sim.notin (S : Sim g ι μ H) {a : Addr} (h : H a = none) : a ∉ ι := fun m => by
  obtain ⟨u, hu, _⟩ := S.there m
  rw [h] at hu; cases hu
theorem Sim.at (S : Sim g ι μ H) {l : Nat} {o : PL.Obj} (h : μ[l]? = some o) : ∃ a, ι[l]? = some a ∧ ObjR g ι H o a := by
  have hl : l < ι.length := by rw [S.len]; exact (List.getElem?_eq_some_iff.mp h).1
  exact ⟨ι[l], by simp [hl], S.ob l o _ h (by simp [hl])⟩
theorem Sim.of (S : Sim g ι μ H) (e : Ext0 ι H ι H') (k : ∀ a, a ∈ ι → H' a = H a) : Sim g ι μ H' :=
  ⟨S.nd, S.len, fun l o a h1 h2 => (S.ob l o a h1 h2).mono e (k a (List.mem_of_getElem? h2))⟩
/-- a new tuple -/
theorem ext_tup (S : Sim g ι μ H) {p : Addr} (hp : H p = none) (o : HO) : Ext ι H ι (upd H p o) :=
  ⟨⟨List.prefix_refl _, fun a u h _ => by rw [upd_ne (ne_of_none h hp)]; exact h, fun _ h n => absurd h n, fun a vs h => by rw [upd_ne (ne_of_none h hp)]; exact h, fun a h => by
    unfold upd; split
    · simp
    · exact h⟩, fun a vs u h => by rw [upd_ne (ne_of_none h hp)]; exact h⟩
theorem Sim.tup (S : Sim g ι μ H) {p : Addr} (hp : H p = none) (o : HO) : Sim g ι μ (upd H p o) :=
  S.of (ext_tup S hp o).toExt0 fun a h => upd_ne fun e => S.notin hp (e ▸ h)
/-- a new object -/
theorem ext_new (S : Sim g ι μ H) {p : Addr} (hp : H p = none) (u : HO) : Ext ι H (ι ++ [p]) (upd H p u) :=
  ⟨⟨⟨[p], rfl⟩, fun a u' h _ => by rw [upd_ne (ne_of_none h hp)]; exact h, fun a h n => by
    rcases List.mem_append.mp h with h | h
    · exact absurd h n
    · rw [List.mem_singleton.mp h]; exact hp, fun a vs h => by rw [upd_ne (ne_of_none h hp)]; exact h, fun a h => by
    unfold upd; split
    · simp
    · exact h⟩, fun a vs u h => by rw [upd_ne (ne_of_none h hp)]; exact h⟩
theorem Sim.new (S : Sim g ι μ H) {p : Addr} {u : HO} {o : PL.Obj} (hp : H p = none) (h : ObjR g (ι ++ [p]) (upd H p u) o p) : Sim g (ι ++ [p]) (μ ++ [o]) (upd H p u) := by
  have e := ext_new S hp u
  refine ⟨?_, by simp [S.len], fun l x a h1 h2 => ?_⟩
  · rw [List.nodup_append]
    refine ⟨S.nd, by simp, fun a ha b hb => ?_⟩
    rw [List.mem_singleton.mp hb]
    exact fun z => S.notin hp (z ▸ ha)
  · by_cases hl : l < μ.length
    · rw [List.getElem?_append_left hl] at h1
      rw [List.getElem?_append_left (by rw [S.len]; exact hl)] at h2
      exact (S.ob l x a h1 h2).mono e.toExt0 (upd_ne fun z => S.notin hp (z ▸ List.mem_of_getElem? h2))
    · rw [List.getElem?_append_right (by omega)] at h1
      rw [List.getElem?_append_right (by rw [S.len]; omega)] at h2
      have hz : l - μ.length = 0 := by
        have := (List.getElem?_eq_some_iff.mp h1).1
        simp at this; omega
      rw [S.len] at h2
      rw [hz] at h1 h2
      simp at h1 h2
      rw [← h1, ← h2]; exact h
/-- an object is changed -/
theorem ext_set (S : Sim g ι μ H) {l : Nat} {a : Addr} (ha : ι[l]? = some a) (nf : NFz H a) (u : HO) : Ext ι H ι (upd H a u) := by
  have hm := List.mem_of_getElem? ha
  obtain ⟨w, hw, nt⟩ := S.there hm
  refine ⟨⟨List.prefix_refl _, fun b o h n => ?_, fun _ h n => absurd h n, fun b vs h => ?_, fun b h => ?_⟩, fun b o x h => ?_⟩
  · rw [upd_ne fun (e : b = a) => n (by rw [e]; exact hm)]; exact h
  · rw [upd_ne fun e => ?_]
    · exact h
    · rw [e, hw] at h
      exact nt vs (Option.some.inj h)
  · unfold upd; split
    · simp
    · exact h
  · rw [upd_ne fun e => nf o x (by rw [← e]; exact h)]
    exact h
theorem Sim.set (S : Sim g ι μ H) {l : Nat} {a : Addr} {u : HO} {o : PL.Obj} (ha : ι[l]? = some a) (nf : NFz H a) (h : ObjR g ι (upd H a u) o a) : Sim g ι (μ.set l o) (upd H a u) := by
  have e := ext_set S ha nf u
  refine ⟨S.nd, by simp [S.len], fun k x b h1 h2 => ?_⟩
  by_cases hk : l = k
  · subst hk
    rw [ha] at h2; cases h2
    have hl : l < μ.length := by rw [← S.len]; exact (List.getElem?_eq_some_iff.mp ha).1
    rw [List.getElem?_set_self hl] at h1; cases h1
    exact h
  · rw [List.getElem?_set_ne hk] at h1
    refine (S.ob k x b h1 h2).mono e.toExt0 (upd_ne fun z => hk ?_)
    rw [z] at h2
    obtain ⟨i1, e1⟩ := List.getElem?_eq_some_iff.mp ha
    obtain ⟨i2, e2⟩ := List.getElem?_eq_some_iff.mp h2
    exact (List.getElem_inj S.nd).mp (e1.trans e2.symm)

/-- a locked dict is let go -/
theorem ext_unlock {ι ι' : List Addr} {H H' : Hp} {a : Addr} {o : PySem.Obj} {u : HO} (hm : a ∈ ι) (hu : H a = some u) (nt : ∀ vs, u ≠ .tup vs) (nf : ∀ o w, u ≠ .frz o w) (e : Ext ι (upd H a (.frz o u)) ι' H') : Ext ι H ι' (upd H' a u) := by
  refine ⟨⟨e.pre, fun b x h n => ?_, fun b m n => ?_, fun b vs h => ?_, fun b h => ?_⟩, fun b x w h => ?_⟩
  · have hb : b ≠ a := fun z => n (z ▸ hm)
    rw [upd_ne hb]
    exact e.keep b x (by rw [upd_ne hb]; exact h) n
  · have hb : b ≠ a := fun z => n (z ▸ hm)
    have := e.fresh b m n
    rw [upd_ne hb] at this
    exact this
  · have hb : b ≠ a := fun z => by rw [z, hu] at h; exact nt vs (Option.some.inj h)
    rw [upd_ne hb]
    exact e.tup b vs (by rw [upd_ne hb]; exact h)
  · by_cases hb : b = a
    · rw [hb, upd_same]; simp
    · rw [upd_ne hb]
      exact e.nn b (by rw [upd_ne hb]; exact h)
  · have hb : b ≠ a := fun z => by rw [z, hu] at h; exact nf x w (Option.some.inj h)
    rw [upd_ne hb]
    exact e.fz b x w (by rw [upd_ne hb]; exact h)
theorem ext0_unlock {ι : List Addr} {H : Hp} {a : Addr} {o : PySem.Obj} {u : HO} (hm : a ∈ ι) (h : H a = some (.frz o u)) : Ext0 ι H ι (upd H a u) := by
  refine ⟨List.prefix_refl _, fun b x k n => ?_, fun _ m n => absurd m n, fun b vs k => ?_, fun b k => ?_⟩
  · rw [upd_ne fun z : b = a => n (z ▸ hm)]; exact k
  · rw [upd_ne fun z => by rw [z, h] at k; cases k]; exact k
  · by_cases hb : b = a
    · rw [hb, upd_same]; simp
    · rw [upd_ne hb]; exact k
theorem Sim.unlock {l : Nat} {a : Addr} {o : PySem.Obj} {u : HO} (S : Sim g ι μ H) (ha : ι[l]? = some a) (h : H a = some (.frz o u)) : Sim g ι (μ.modify l (setLk false)) (upd H a u) := by
  have e := ext0_unlock (List.mem_of_getElem? ha) h
  refine ⟨S.nd, by simp [S.len], fun k x b h1 h2 => ?_⟩
  rw [List.getElem?_modify] at h1
  by_cases hk : l = k
  · subst hk
    rw [ha] at h2; cases h2
    cases em : μ[l]? with
    | none => rw [em] at h1; simp at h1
    | some y =>
      rw [em] at h1
      simp at h1
      subst h1
      have := S.ob l y a em ha
      cases y with
      | lst xs => obtain ⟨vs, q, _⟩ := this; rw [h] at q; cases q
      | dK b kvs =>
        cases b with
        | false => obtain ⟨vs, q, _⟩ := this; rw [h] at q; cases q
        | true =>
          obtain ⟨o', vs, q, r⟩ := this
          rw [h] at q; cases q
          exact ⟨vs, upd_same, e.repKV _ _ r⟩
      | dT b kvs =>
        cases b with
        | false => obtain ⟨vs, q, _⟩ := this; rw [h] at q; cases q
        | true =>
          obtain ⟨o', vs, q, r⟩ := this
          rw [h] at q; cases q
          exact ⟨vs, upd_same, e.repKV _ _ r⟩
  · simp [hk] at h1
    refine (S.ob k x b h1 h2).mono e (upd_ne fun z => hk ?_)
    rw [z] at h2
    obtain ⟨i1, e1⟩ := List.getElem?_eq_some_iff.mp ha
    obtain ⟨i2, e2⟩ := List.getElem?_eq_some_iff.mp h2
    exact (List.getElem_inj S.nd).mp (e1.trans e2.symm)
/-- a dict is locked -/
theorem Sim.lock {l : Nat} {a : Addr} {o : PySem.Obj} {u : HO} (S : Sim g ι μ H) (ha : ι[l]? = some a) (hl : (∃ kvs, μ[l]? = some (.dK false kvs)) ∨ ∃ kvs, μ[l]? = some (.dT false kvs)) (h : H a = some u) : Sim g ι (μ.modify l (setLk true)) (upd H a (.frz o u)) ∧ Ext ι H ι (upd H a (.frz o u)) := by
  have nf : NFz H a := by
    rcases hl with ⟨kvs, e⟩ | ⟨kvs, e⟩
    · obtain ⟨vs, q, _⟩ := S.ob l _ a e ha; exact .dK q
    · obtain ⟨vs, q, _⟩ := S.ob l _ a e ha; exact .dT q
  have e := ext_set S ha nf (.frz o u)
  refine ⟨?_, e⟩
  have hm : ∀ y, μ[l]? = some y → μ.modify l (setLk true) = μ.set l (setLk true y) := fun y ey => by
    apply List.ext_getElem?
    intro k
    rw [List.getElem?_modify]
    by_cases hk : l = k
    · subst hk
      rw [List.getElem?_set_self (List.getElem?_eq_some_iff.mp ey).1, ey]; simp
    · rw [List.getElem?_set_ne hk]; simp [hk]
  rcases hl with ⟨kvs, ek⟩ | ⟨kvs, ek⟩
  · rw [hm _ ek]
    obtain ⟨vs, q, r⟩ := S.ob l _ a ek ha
    rw [h] at q; cases q
    exact S.set ha nf ⟨o, vs, upd_same, e.repKV _ _ r⟩
  · rw [hm _ ek]
    obtain ⟨vs, q, r⟩ := S.ob l _ a ek ha
    rw [h] at q; cases q
    exact S.set ha nf ⟨o, vs, upd_same, e.repKV _ _ r⟩

/-! ### rows of values -/
theorem RepL.length : ∀ {ds : List D} {vs : List V}, RepL g ι H ds vs → vs.length = ds.length
  | [], _, h => by rw [show _ = [] from h]; rfl
  | d :: ds, _, h => by
    obtain ⟨v, r, rfl, h1, h2⟩ := h
    simp [RepL.length h2]
theorem RepL.get : ∀ {ds : List D} {vs : List V} {i : Nat} {d : D}, RepL g ι H ds vs → ds[i]? = some d → ∃ v, vs[i]? = some v ∧ Rep g ι H d v
  | [], _, i, d, _, h => by simp at h
  | x :: ds, _, 0, d, h, e => by
    obtain ⟨v, r, rfl, h1, h2⟩ := h
    simp at e; subst e
    exact ⟨v, rfl, h1⟩
  | x :: ds, _, i + 1, d, h, e => by
    obtain ⟨v, r, rfl, h1, h2⟩ := h
    simpa using RepL.get h2 (by simpa using e)
theorem RepL.gets : ∀ {ds : List D} {vs : List V} {i : Nat} {v : V}, RepL g ι H ds vs → vs[i]? = some v → ∃ d, ds[i]? = some d ∧ Rep g ι H d v
  | [], _, i, d, h, e => by rw [show _ = [] from h] at e; simp at e
  | x :: ds, _, 0, d, h, e => by
    obtain ⟨v, r, rfl, h1, h2⟩ := h
    simp at e; subst e
    exact ⟨x, rfl, h1⟩
  | x :: ds, _, i + 1, d, h, e => by
    obtain ⟨v, r, rfl, h1, h2⟩ := h
    simpa using RepL.gets h2 (by simpa using e)
theorem RepL.append : ∀ {ds es : List D} {vs ws : List V}, RepL g ι H ds vs → RepL g ι H es ws → RepL g ι H (ds ++ es) (vs ++ ws)
  | [], _, _, _, h, k => by rw [show _ = [] from h]; exact k
  | x :: ds, _, _, _, h, k => by
    obtain ⟨v, r, rfl, h1, h2⟩ := h
    exact ⟨v, r ++ _, rfl, h1, RepL.append h2 k⟩
theorem RepL.take : ∀ {ds : List D} {vs : List V} (n : Nat), RepL g ι H ds vs → RepL g ι H (ds.take n) (vs.take n)
  | [], _, _, h => by rw [show _ = [] from h]; simp [RepL]
  | x :: ds, _, 0, h => by simp [RepL]
  | x :: ds, _, n + 1, h => by
    obtain ⟨v, r, rfl, h1, h2⟩ := h
    exact ⟨v, r.take n, rfl, h1, RepL.take n h2⟩
theorem RepL.drop : ∀ {ds : List D} {vs : List V} (n : Nat), RepL g ι H ds vs → RepL g ι H (ds.drop n) (vs.drop n)
  | [], _, _, h => by rw [show _ = [] from h]; simp [RepL]
  | x :: ds, _, 0, h => by simpa using h
  | x :: ds, _, n + 1, h => by
    obtain ⟨v, r, rfl, h1, h2⟩ := h
    simpa using RepL.drop n h2
theorem RepL.set : ∀ {ds : List D} {vs : List V} {d : D} {v : V} (n : Nat), RepL g ι H ds vs → Rep g ι H d v → RepL g ι H (ds.set n d) (vs.set n v)
  | [], _, _, _, _, h, _ => by rw [show _ = [] from h]; simp [RepL]
  | x :: ds, _, _, _, 0, h, k => by
    obtain ⟨v, r, rfl, h1, h2⟩ := h
    exact ⟨_, r, rfl, k, h2⟩
  | x :: ds, _, _, _, n + 1, h, k => by
    obtain ⟨v, r, rfl, h1, h2⟩ := h
    exact ⟨v, _, rfl, h1, RepL.set n h2 k⟩
theorem RepL.erase : ∀ {ds : List D} {vs : List V} (n : Nat), RepL g ι H ds vs → RepL g ι H (ds.eraseIdx n) (vs.eraseIdx n)
  | [], _, _, h => by rw [show _ = [] from h]; simp [RepL]
  | x :: ds, _, 0, h => by
    obtain ⟨v, r, rfl, h1, h2⟩ := h
    exact h2
  | x :: ds, _, n + 1, h => by
    obtain ⟨v, r, rfl, h1, h2⟩ := h
    exact ⟨v, _, rfl, h1, RepL.erase n h2⟩
theorem RepL.dropLast {ds : List D} {vs : List V} (h : RepL g ι H ds vs) : RepL g ι H ds.dropLast vs.dropLast := by
  rw [List.dropLast_eq_take, List.dropLast_eq_take, h.length]
  exact h.take _
theorem RepL.cons {d : D} {v : V} {ds : List D} {vs : List V} (h : Rep g ι H d v) (k : RepL g ι H ds vs) : RepL g ι H (d :: ds) (v :: vs) := ⟨v, vs, rfl, h, k⟩
theorem RepL.nil : RepL g ι H [] [] := rfl
theorem RepL.one {d : D} {v : V} (h : Rep g ι H d v) : RepL g ι H [d] [v] := ⟨v, [], rfl, h, rfl⟩
theorem RepL.rep {ds : List D} {vs : List V} (h : RepL g ι H ds vs) : ∀ k : Nat, RepL g ι H (List.replicate k ds).flatten (List.replicate k vs).flatten
  | 0 => rfl
  | k + 1 => by
    rw [List.replicate_succ, List.replicate_succ, List.flatten_cons, List.flatten_cons]
    exact h.append (RepL.rep h k)
theorem RepL.reverse : ∀ {ds : List D} {vs : List V}, RepL g ι H ds vs → RepL g ι H ds.reverse vs.reverse
  | [], _, h => by rw [show _ = [] from h]; exact RepL.nil
  | d :: ds, _, h => by
    obtain ⟨v, r, rfl, h1, h2⟩ := h
    rw [List.reverse_cons, List.reverse_cons]
    exact (RepL.reverse h2).append (RepL.one h1)
theorem RepL.all {P : D → Prop} {ds : List D} {vs : List V} (h : RepL g ι H ds vs) : vs.length = ds.length := h.length

/-! ### entries of dicts -/
section
variable {κ κ' : Type} [DecidableEq κ] [DecidableEq κ'] {f : κ → κ'}
theorem RepKV.length : ∀ {kvs : List (κ × D)} {vs : List (κ' × V)}, RepKV g f ι H kvs vs → vs.length = kvs.length
  | [], _, h => by rw [show _ = [] from h]; rfl
  | p :: t, _, h => by
    obtain ⟨v, r, rfl, h1, h2⟩ := h
    simp [RepKV.length h2]
theorem look_cons {p : κ × D} {t : List (κ × D)} {k : κ} : look (p :: t) k = if p.1 = k then some p.2 else look t k := by
  unfold look
  by_cases e : p.1 = k <;> simp [List.find?_cons, e]
theorem RepKV.look (inj : ∀ a b, f a = f b ↔ a = b) (k : κ) : ∀ {kvs : List (κ × D)} {vs : List (κ' × V)}, RepKV g f ι H kvs vs →
    (look kvs k = none ∧ valV vs (f k) = none) ∨ ∃ d v, PL.look kvs k = some d ∧ valV vs (f k) = some v ∧ Rep g ι H d v
  | [], _, h => by rw [show _ = [] from h]; exact .inl ⟨rfl, rfl⟩
  | p :: t, _, h => by
    obtain ⟨v, r, rfl, h1, h2⟩ := h
    rw [look_cons]
    by_cases e : p.1 = k
    · rw [if_pos e, valV_pos (by rw [e])]
      exact .inr ⟨_, _, rfl, rfl, h1⟩
    · rw [if_neg e, valV_neg (fun z => e ((inj _ _).mp z))]
      exact RepKV.look inj k h2
theorem RepKV.any (inj : ∀ a b, f a = f b ↔ a = b) (k : κ) : ∀ {kvs : List (κ × D)} {vs : List (κ' × V)}, RepKV g f ι H kvs vs →
    (vs.any fun kv => decide (kv.1 = f k)) = kvs.any fun p => decide (p.1 = k)
  | [], _, h => by rw [show _ = [] from h]; rfl
  | p :: t, _, h => by
    obtain ⟨v, r, rfl, h1, h2⟩ := h
    rw [List.any_cons, List.any_cons, RepKV.any inj k h2]
    congr 1
    exact decide_eq_decide.mpr (inj _ _)
theorem RepKV.app : ∀ {kvs : List (κ × D)} {vs : List (κ' × V)} {k : κ} {d : D} {v : V}, RepKV g f ι H kvs vs → Rep g ι H d v → RepKV g f ι H (kvs ++ [(k, d)]) (vs ++ [(f k, v)])
  | [], _, _, _, _, h, r => by rw [show _ = [] from h]; exact ⟨_, _, rfl, r, rfl⟩
  | p :: t, _, _, _, _, h, r => by
    obtain ⟨v, r', rfl, h1, h2⟩ := h
    exact ⟨v, _, rfl, h1, RepKV.app h2 r⟩
theorem RepKV.mapd (inj : ∀ a b, f a = f b ↔ a = b) : ∀ {kvs : List (κ × D)} {vs : List (κ' × V)} {k : κ} {d : D} {v : V}, RepKV g f ι H kvs vs → Rep g ι H d v →
    RepKV g f ι H (kvs.map fun p => if p.1 = k then (p.1, d) else p) (vs.map fun kv => if kv.1 = f k then (kv.1, v) else kv)
  | [], _, _, _, _, h, r => by rw [show _ = [] from h]; rfl
  | p :: t, _, k, d, w, h, r => by
    obtain ⟨v, r', rfl, h1, h2⟩ := h
    rw [List.map_cons, List.map_cons]
    by_cases e : p.1 = k
    · rw [if_pos e, if_pos (show f p.1 = f k by rw [e])]
      exact ⟨w, _, rfl, r, RepKV.mapd inj h2 r⟩
    · rw [if_neg e, if_neg (show ¬ f p.1 = f k from fun z => e ((inj _ _).mp z))]
      exact ⟨v, _, rfl, h1, RepKV.mapd inj h2 r⟩
theorem RepKV.put (inj : ∀ a b, f a = f b ↔ a = b) {kvs : List (κ × D)} {vs : List (κ' × V)} {k : κ} {d : D} {v : V} (h : RepKV g f ι H kvs vs) (r : Rep g ι H d v) :
    RepKV g f ι H (put kvs k d) (putK vs (f k) v) := by
  unfold PL.put putK
  rw [RepKV.any inj k h]
  split
  · exact RepKV.mapd inj h r
  · exact RepKV.app h r
end
end
end PL
end
section
set_option Elab.async false
set_option linter.all false
set_option autoImplicit false
set_option maxRecDepth 100000
set_option maxHeartbeats 4000000
/-! Sound2: what an evaluation's end promises; the operators. -/
namespace PL
open PySem PySem.Spec PyProof.Rows L2

def wpR {α : Type} (r : Res α) (Q : α → Store → Prop) (E : Exc → Store → Prop) : Prop := match r with
  | .ok a μ => Q a μ
  | .exc x μ => E x μ
  | .stuck => False
theorem wpR_bind {α β : Type} (r : Res α) (f : α → Store → Res β) (Q : β → Store → Prop) (E : Exc → Store → Prop) :
    wpR (r.bind f) Q E = wpR r (fun a μ => wpR (f a μ) Q E) E := by
  cases r <;> rfl
theorem wpR_mono {α : Type} {r : Res α} {Q Q' : α → Store → Prop} {E E' : Exc → Store → Prop} (h : wpR r Q E) (hq : ∀ a μ, Q a μ → Q' a μ) (he : ∀ x μ, E x μ → E' x μ) : wpR r Q' E' := by
  cases r with
  | ok a μ => exact hq a μ h
  | exc x μ => exact he x μ h
  | stuck => exact h

theorem wpR_ok {α : Type} (a : α) (μ : Store) (Q : α → Store → Prop) (E : Exc → Store → Prop) : wpR (.ok a μ) Q E = Q a μ := rfl
theorem wpR_stuck {α : Type} (Q : α → Store → Prop) (E : Exc → Store → Prop) : wpR .stuck Q E = False := rfl
section
variable (g : Gb)
def OkV (ι : List Addr) (H : Hp) (Q : VK) : D → Store → Prop := fun d μ => ∀ ι' H' v, Ext ι H ι' H' → Sim g ι' μ H' → Rep g ι' H' d v → Q v H'
def OkB (ι : List Addr) (H : Hp) (Q : Bool → Hp → Prop) : Bool → Store → Prop := fun b μ => ∀ ι' H', Ext ι H ι' H' → Sim g ι' μ H' → Q b H'
def OkL (ι : List Addr) (H : Hp) (Q : List V → Hp → Prop) : List D → Store → Prop := fun ds μ => ∀ ι' H' vs, Ext ι H ι' H' → Sim g ι' μ H' → RepL g ι' H' ds vs → Q vs H'
def OkU (ι : List Addr) (H : Hp) (Q : Hp → Prop) : Unit → Store → Prop := fun _ μ => ∀ ι' H', Ext ι H ι' H' → Sim g ι' μ H' → Q H'
/-- an error that flies -/
def ExcR (ι : List Addr) (H : Hp) (x : Exc) (cls : Value) (dd : Option Addr) : Prop :=
  cls = .ref (g.clsA (x.ms.headD 0)) ∧ x.ms ∈ g.mros ∧ ∃ d fs, dd = some d ∧ H d = some (.xd fs) ∧ d ∉ ι ∧ ∀ (i k : Nat) dv, x.ks[i]? = some k → (x.ks.findIdx? fun y => y == k) = some i → x.fs[i]? = some dv → ∃ v, fs.lookup (g.fld k) = some v ∧ Rep g ι H dv v
def ExW (ι : List Addr) (H : Hp) (W : Value → Option Addr → Hp → Prop) : Exc → Store → Prop := fun x μ => ∀ ι' H' c d, Ext ι H ι' H' → Sim g ι' μ H' → ExcR g ι' H' x c d → W c d H'
def anyE : Exc → Store → Prop := fun _ _ => True
end
section
variable {g : Gb} {ι ι1 : List Addr} {H H1 : Hp} {μ : Store}
theorem OkV.mono {Q : VK} {d : D} (e : Ext ι H ι1 H1) (h : OkV g ι H Q d μ) : OkV g ι1 H1 Q d μ := fun ι' H' v e' S R => h ι' H' v (e.trans e') S R
theorem OkB.mono {Q : Bool → Hp → Prop} {b : Bool} (e : Ext ι H ι1 H1) (h : OkB g ι H Q b μ) : OkB g ι1 H1 Q b μ := fun ι' H' e' S => h ι' H' (e.trans e') S
theorem OkL.mono {Q : List V → Hp → Prop} {d : List D} (e : Ext ι H ι1 H1) (h : OkL g ι H Q d μ) : OkL g ι1 H1 Q d μ := fun ι' H' v e' S R => h ι' H' v (e.trans e') S R
theorem OkU.mono {Q : Hp → Prop} (e : Ext ι H ι1 H1) (h : OkU g ι H Q () μ) : OkU g ι1 H1 Q () μ := fun ι' H' e' S => h ι' H' (e.trans e') S
theorem ExW.mono {W : Value → Option Addr → Hp → Prop} {x : Exc} (e : Ext ι H ι1 H1) (h : ExW g ι H W x μ) : ExW g ι1 H1 W x μ := fun ι' H' c d e' S R => h ι' H' c d (e.trans e') S R
theorem OkV.same {Q : VK} {d : D} {v : V} (S : Sim g ι μ H) (h : OkV g ι H Q d μ) (r : Rep g ι H d v) : Q v H := h ι H v (Ext.refl ι H) S r
theorem OkV.tup {Q : VK} {ds : List D} {vs : List V} {p : Addr} (S : Sim g ι μ H) (h : OkV g ι H Q (.tup ds) μ) (r : RepL g ι H ds vs) (hp : H p = none) : Q (.ref p) (upd H p (.tup vs)) :=
  have e := ext_tup S hp (.tup vs)
  h ι _ _ e (S.tup hp _) ⟨p, vs, rfl, upd_same, e.repL _ _ r⟩
theorem OkV.lst {Q : VK} {ds : List D} {vs : List V} {p : Addr} (S : Sim g ι μ H) (h : OkV g ι H Q (.loc μ.length) (μ ++ [.lst ds])) (r : RepL g ι H ds vs) (hp : H p = none) : Q (.ref p) (upd H p (.lst vs)) :=
  have e := ext_new S hp (.lst vs)
  h _ _ _ e (S.new hp ⟨vs, upd_same, e.repL _ _ r⟩) ⟨p, rfl, by rw [← S.len]; simp⟩
theorem RepL.sqL {l : Nat} {ds : List D} {v : V} (S : Sim g ι μ H) (r : Rep g ι H (.loc l) v) (h : μ[l]? = some (.lst ds)) : ∃ a vs, v = .ref a ∧ ι[l]? = some a ∧ H a = some (.lst vs) ∧ RepL g ι H ds vs := by
  obtain ⟨a, rfl, ha⟩ := r
  obtain ⟨vs, h1, h2⟩ := S.ob l _ a h ha
  exact ⟨a, vs, rfl, ha, h1, h2⟩
/-- what stands in a row, as the layer reads it -/
theorem rowF_at {d : D} {v : V} {xs : List D} (S : Sim g ι μ H) (r : Rep g ι H d v) (h : rowF d μ = some xs) :
    ∃ a vs, v = .ref a ∧ (SqL g.K H a vs ∨ SqT g.K H a vs) ∧ RepL g ι H xs vs ∧ (∀ ds, d = .tup ds → SqT g.K H a vs) ∧ ((∀ ds, d ≠ .tup ds) → (∀ ds, d ≠ .ktp ds) → SqL g.K H a vs) := by
  cases d with
  | tup ds =>
    cases h
    obtain ⟨a, vs, rfl, h1, h2⟩ := r
    exact ⟨a, vs, rfl, .inr (SqT.of h1), h2, fun _ _ => SqT.of h1, fun z => absurd rfl (z _)⟩
  | ktp ds =>
    cases h
    obtain ⟨a, vs, rfl, h1, h2⟩ := r
    exact ⟨a, vs, rfl, .inr (h1.sq H), h2, fun _ z => (by cases z), fun _ z => absurd rfl (z _)⟩
  | rol ds =>
    cases h
    obtain ⟨a, vs, rfl, h1, h2⟩ := r
    have q : SqL g.K H a vs := by
      rcases h1 with ⟨o, h1, _⟩ | h1
      · exact .inl (.inr ⟨o, h1⟩)
      · exact .inr h1
    exact ⟨a, vs, rfl, .inl q, h2, fun _ z => (by cases z), fun _ _ => q⟩
  | loc l =>
    unfold rowF at h
    cases e : μ[l]? with
    | none => simp [e] at h
    | some o =>
      cases o with
      | lst ys =>
        simp [e] at h
        subst h
        obtain ⟨a, vs, rfl, _, h1, h2⟩ := RepL.sqL S r e
        exact ⟨a, vs, rfl, .inl (SqL.of h1), h2, fun _ z => (by cases z), fun _ _ => SqL.of h1⟩
      | dK _ _ => simp [e] at h
      | dT _ _ => simp [e] at h
  | _ => cases h
end
/-- an operation of two values, of one -/
def rF (g : Gb) (f : D → D → Store → Res D) : R2 := fun x y H Q => ∃ ι μ d1 d2, Sim g ι μ H ∧ Rep g ι H d1 x ∧ Rep g ι H d2 y ∧ wpR (f d1 d2 μ) (OkV g ι H Q) anyE
def rB (g : Gb) (f : D → D → Store → Res Bool) : R2 := fun x y H Q => ∃ ι μ d1 d2, Sim g ι μ H ∧ Rep g ι H d1 x ∧ Rep g ι H d2 y ∧ wpR (f d1 d2 μ) (OkB g ι H fun b H' => Q (.bl b) H') anyE

section
open Builtin Builtin.Str Builtin.Int
theorem tuple_mul1 (l : Addr) (items : Array Value) (n : Nat) (dd : Option Addr) (sl : Array (Option Value)) (u : Tok) :
    Meets (Builtin.«tuple.__mul__» ⟨[.ref l, .int 1 u], []⟩) (fun _ R s => s.heap.get? l = some { cls := .type "tuple", dict := dd, data := .seq items n, slots := sl } ∧
      R (.ok (.ret (Value.ref l))) s) :=
  .of_wp fun prog w A R s h => by
    obtain ⟨hp, g, d, tk, os⟩ := s
    obtain ⟨hl, h⟩ := h
    have f1 := AutoSeq1.idx_int
    wp_walk using wpAny_loadPart' hl
    repeat (first
      | (refine wpAny_ite_false (by decide) ?_; wp_walk using wpAny_loadPart' hl)
      | (refine wpAny_ite_true (by simp) ?_; wp_walk using wpAny_loadPart' hl))
    exact ⟨_, rfl, h⟩
section
variable {X : Cx}
def rRepT1 (K : PySem.W.Frag) : R2 := fun x y H Q => ∃ l xs, x = .ref l ∧ y = .int 1 ∧ SqT K H l xs ∧ Q (.ref l) H
theorem op_repT1 : OpR X (binaryOp .Mult) (rRepT1 X.K) := by
  intro pins s σ H x y v u Q I rx ry h
  obtain ⟨l, xs, rfl, rfl, hT, q⟩ := h
  cases rx
  obtain ⟨t, rfl⟩ := ry
  obtain ⟨its, r, ⟨⟨cls, dd, data, sl⟩, ho, hc, n, hd⟩, hs⟩ := I.tuple hT
  simp only at hc hd
  subst hc hd
  refine wpAny_binaryOp_repeat_ref (T := "tuple") (U := "int") (by decide) ⟨_, ho, rfl⟩ (fun s' => typeIs_int s' 1 t) noFill_tuple_mul F.fills_int_mul F.slot_int_rmul repeat_tuple F.slot_int_index.lookup
    (call_meets F.slot_int_rmul (typeIs_int s 1 t) F.entry_int_rmul (F.args_int_rmul_2 _ _) (int_rmul_tuple 1 t l its.toArray n dd sl)
      ⟨ho, rfl, ⟨_, ho, rfl⟩, call_meets F.slot_tuple_mul ⟨_, ho, rfl⟩ F.entry_tuple_mul (F.args_tuple_mul_2 _ _) (tuple_mul1 l its.toArray n dd sl t) ⟨ho, ?_⟩⟩)
  exact ⟨.ref l, H, I, rfl, q⟩
end
theorem foldA_rep (its : Txt) (n : Nat) : (List.replicate n its.toArray).foldl (fun x1 x2 => x1 ++ x2) #[] = (List.replicate n its).flatten.toArray := by
  have key : ∀ (m : Nat) (acc : Txt), (List.replicate m its.toArray).foldl (fun x1 x2 => x1 ++ x2) acc.toArray = (acc ++ (List.replicate m its).flatten).toArray := by
    intro m
    induction m with
    | zero => intro acc; simp
    | succ m ih => intro acc; rw [List.replicate_succ, List.foldl_cons, List.append_toArray, ih]; simp [List.replicate_succ]
  have := key n []
  simpa using this
section
variable {X : Cx}
def rRepS : R2 := fun x y H Q => ∃ a k, x = .str (S2 a) ∧ y = .int k ∧ a ≠ [] ∧ 2 ≤ k ∧ k ≤ 1000 ∧ a.length ≤ 1000 ∧ Q (.str (S2 (List.replicate k.toNat a).flatten)) H
theorem op_repS : OpR X (binaryOp .Mult) rRepS := by
  intro pins s σ H x y v u Q I rx ry h
  obtain ⟨a, k, rfl, rfl, hne, h1, h2, hz, q⟩ := h
  obtain ⟨t, rfl⟩ := rx
  obtain ⟨t', rfl⟩ := ry
  have hl : (S2 a).length = a.length := S2_len a
  have hflen : (List.replicate k.toNat a).flatten.length ≤ 1000000 := by
    rw [PyProof.Rows.lm_len_rep_flat]
    have a1 : k.toNat * a.length ≤ 1000 * 1000 := Nat.mul_le_mul (by omega) hz
    omega
  have hpos : 0 < a.length := List.length_pos_iff.mpr hne
  refine P.mul_str (n := k) ?_ ?_ ?_ ?_
  · rw [decide_eq_false (by omega), decide_eq_false (by omega)] <;> rfl
  · intro _ _
    rw [hl]
    have : (1000 : Int) ≤ (2 ^ 63 - 1) / k := by
      refine (Int.le_ediv_iff_mul_le (by omega)).mpr ?_
      omega
    omega
  · intro _ _
    rw [hl]
    unfold tooLong
    rw [sizeLine_eq]
    have a1 : a.length * k.toNat ≤ 1000 * 1000 := Nat.mul_le_mul hz (by omega)
    exact decide_eq_false (by omega)
  · rw [if_neg (by omega), if_neg (by
      rw [hl]
      simp
      exact ⟨by omega, hne⟩)]
    have e : (⟨(List.replicate k.toNat (S2 a).cps).foldl (fun x1 x2 => x1 ++ x2) #[]⟩ : Str) = S2 (List.replicate k.toNat a).flatten := by
      unfold S2
      exact congrArg Str.mk (foldA_rep a k.toNat)
    refine ⟨?_, ?_⟩
    · rw [e, S2_len, sizeLine_eq]
      omega
    · rw [e]
      exact ⟨.str (S2 (List.replicate k.toNat a).flatten), H, I.tok _, ⟨_, rfl⟩, q⟩
def rRepS1 : R2 := fun x y H Q => ∃ a, x = .str a ∧ y = .int 1 ∧ Q (.str a) H
theorem op_repS1 : OpR X (binaryOp .Mult) rRepS1 := by
  intro pins s σ H x y v u Q I rx ry h
  obtain ⟨a, rfl, rfl, q⟩ := h
  obtain ⟨t, rfl⟩ := rx
  obtain ⟨t', rfl⟩ := ry
  refine P.mul_str (n := 1) (by decide) (fun _ h => by simp at h) (fun _ h => by simp at h) ?_
  rw [if_neg (by omega), if_pos (by simp)]
  exact ⟨.str a, H, I, ⟨_, rfl⟩, q⟩
end
end
section
variable {X : Cx} {g : Gb}
theorem op_addF (hK : X.K = g.K) : OpR X (binaryOp .Add) (rF g (binF .add)) := by
  intro pins s σ H x y v u Q I rx ry h
  obtain ⟨ι, μ, d1, d2, S, h1, h2, hw⟩ := h
  cases d1 <;> cases d2 <;> simp only [binF, wpR_stuck] at hw <;> try exact False.elim hw
  · obtain rfl := h1; obtain rfl := h2
    exact op_add pins s σ H _ _ v u Q I rx ry ⟨_, _, rfl, rfl, OkV.same S hw rfl⟩
  · obtain rfl := h1; obtain rfl := h2
    split at hw
    · rename_i hl
      refine op_add_str pins s σ H _ _ v u Q I rx ry ⟨_, _, rfl, rfl, ?_, ?_⟩
      · rw [S2_len, S2_len]; exact Nat.le_trans hl line_most
      · rw [S2_app]; exact OkV.same S hw rfl
    · exact False.elim hw
  · obtain ⟨a, vs, rfl, ha, r1⟩ := h1
    obtain ⟨b, ws, rfl, hb, r2⟩ := h2
    split at hw
    · rename_i hl
      refine op_catA pins s σ H _ _ v u Q I rx ry ⟨a, b, vs, ws, rfl, rfl, SqT.of ha, SqT.of hb, ?_, fun e => ?_, fun _ e => ?_, fun _ _ p hp => ?_⟩
      · rw [r1.length, r2.length]; exact Nat.le_trans hl line_most
      · subst e
        have e0 : _ = [] := List.length_eq_zero_iff.mp (r1.length.symm.trans rfl)
        rw [e0] at hw
        exact OkV.same S hw ⟨b, ws, rfl, hb, r2⟩
      · subst e
        have e0 := List.length_eq_zero_iff.mp (r2.length.symm.trans rfl)
        rw [e0, List.append_nil] at hw
        exact OkV.same S hw ⟨a, vs, rfl, ha, r1⟩
      · exact OkV.tup S hw (r1.append r2) hp
    · exact False.elim hw
  · rename_i l k
    split at hw
    · rename_i xs ys e1 e2
      split at hw
      · rename_i hl
        obtain ⟨a, vs, rfl, _, ha, r1⟩ := RepL.sqL S h1 e1
        obtain ⟨b, ws, rfl, _, hb, r2⟩ := RepL.sqL S h2 e2
        refine op_cat pins s σ H _ _ v u Q I rx ry ⟨a, b, vs, ws, rfl, rfl, ha, hb, ?_, fun p hp => OkV.lst S hw (r1.append r2) hp⟩
        rw [r1.length, r2.length]; exact Nat.le_trans hl line_most
      · exact False.elim hw
    · exact False.elim hw
theorem op_subF : OpR X (binaryOp .Sub) (rF g (binF .sub)) := by
  intro pins s σ H x y v u Q I rx ry h
  obtain ⟨ι, μ, d1, d2, S, h1, h2, hw⟩ := h
  cases d1 <;> cases d2 <;> simp only [binF, wpR_stuck] at hw <;> try exact False.elim hw
  obtain rfl := h1; obtain rfl := h2
  exact op_sub pins s σ H _ _ v u Q I rx ry ⟨_, _, rfl, rfl, OkV.same S hw rfl⟩
theorem op_mulF (hK : X.K = g.K) : OpR X (binaryOp .Mult) (rF g (binF .mul)) := by
  intro pins s σ H x y v u Q I rx ry h
  obtain ⟨ι, μ, d1, d2, S, h1, h2, hw⟩ := h
  cases d1 <;> cases d2 <;> simp only [binF, wpR_stuck] at hw <;> try exact False.elim hw
  · obtain rfl := h1; obtain rfl := h2
    unfold mulF at hw
    split at hw
    · rename_i hs
      simp only [small, Bool.or_eq_true, Bool.and_eq_true, decide_eq_true_eq] at hs
      rcases hs with hs | ⟨h1, h2⟩
      · exact op_mul pins s σ H _ _ v u Q I rx ry ⟨_, _, rfl, rfl, hs, OkV.same S hw rfl⟩
      · refine op_mulW pins s σ H _ _ v u Q I rx ry ⟨_, _, rfl, rfl, ?_, OkV.same S hw rfl⟩
        have l : ∀ n : Nat, n < 2 ^ 2000 → n.log2 < 2000 := fun n hn => by
          by_cases e : n = 0
          · subst e; decide
          · exact (Nat.log2_lt e).mpr hn
        have := l _ h1
        have := l _ h2
        show _ + _ < _
        omega
    · exact False.elim hw
  · obtain rfl := h1; obtain rfl := h2
    split at hw
    · rename_i hl
      obtain ⟨l1, l2, l3, l4⟩ := hl
      exact op_repS pins s σ H _ _ v u Q I rx ry ⟨_, _, rfl, rfl, l3, l1, l2, l4, OkV.same S hw rfl⟩
    · split at hw
      · rename_i hk
        subst hk
        exact op_repS1 pins s σ H _ _ v u Q I rx ry ⟨_, rfl, rfl, OkV.same S hw rfl⟩
      · exact False.elim hw
  · obtain ⟨a, vs, rfl, ha, r1⟩ := h1
    obtain rfl := h2
    split at hw
    · rename_i hl
      obtain ⟨l1, l2, l3, l4⟩ := hl
      refine op_repT pins s σ H _ _ v u Q I rx ry ⟨a, _, vs, rfl, rfl, SqT.of ha, ?_, l1, l2, by rw [r1.length]; exact l4, fun p hp => OkV.tup S hw (r1.rep _) hp⟩
      intro e
      subst e
      exact l3 (List.length_eq_zero_iff.mp (r1.length.symm.trans rfl))
    · split at hw
      · rename_i hk
        subst hk
        exact op_repT1 pins s σ H _ _ v u Q I rx ry ⟨a, vs, rfl, rfl, SqT.of ha, OkV.same S hw ⟨a, vs, rfl, ha, r1⟩⟩
      · exact False.elim hw
theorem op_fdivF : OpR X (binaryOp .FloorDiv) (rF g (binF .fdiv)) := by
  intro pins s σ H x y v u Q I rx ry h
  obtain ⟨ι, μ, d1, d2, S, h1, h2, hw⟩ := h
  cases d1 <;> cases d2 <;> simp only [binF, wpR_stuck] at hw <;> try exact False.elim hw
  obtain rfl := h1; obtain rfl := h2
  split at hw
  · rename_i hl
    exact op_fdiv pins s σ H _ _ v u Q I rx ry ⟨_, _, rfl, rfl, hl, OkV.same S hw rfl⟩
  · exact False.elim hw
theorem op_modF : OpR X (binaryOp .Mod) (rF g (binF .mod)) := by
  intro pins s σ H x y v u Q I rx ry h
  obtain ⟨ι, μ, d1, d2, S, h1, h2, hw⟩ := h
  cases d1 <;> cases d2 <;> simp only [binF, wpR_stuck] at hw <;> try exact False.elim hw
  obtain rfl := h1; obtain rfl := h2
  split at hw
  · rename_i hl
    exact op_mod pins s σ H _ _ v u Q I rx ry ⟨_, _, rfl, rfl, hl, OkV.same S hw rfl⟩
  · exact False.elim hw
theorem op_powF : OpR X (binaryOp .Pow) (rF g (binF .pow)) := by
  intro pins s σ H x y v u Q I rx ry h
  obtain ⟨ι, μ, d1, d2, S, h1, h2, hw⟩ := h
  cases d1 <;> cases d2 <;> simp only [binF, wpR_stuck] at hw <;> try exact False.elim hw
  obtain rfl := h1; obtain rfl := h2
  split at hw
  · rename_i i j hl
    obtain ⟨l1, l2, l3, l4⟩ := hl
    obtain ⟨t, rfl⟩ := rx
    obtain ⟨t', rfl⟩ := ry
    refine pow_int l1 ?_ ⟨.int _, H, I.tok _, ⟨_, rfl⟩, OkV.same S hw rfl⟩
    have hb : Builtin.Int.intBits i ≤ 256 := intBits_le (by omega)
    have : (Builtin.Int.intBits i : Int) * j ≤ 256 * 1000 := Int.mul_le_mul (by omega) l2 l1 (by decide)
    omega
  · exact False.elim hw
theorem op_shlF : OpR X (binaryOp .LShift) (rF g (binF .shl)) := by
  intro pins s σ H x y v u Q I rx ry h
  obtain ⟨ι, μ, d1, d2, S, h1, h2, hw⟩ := h
  cases d1 <;> cases d2 <;> simp only [binF, wpR_stuck] at hw <;> try exact False.elim hw
  obtain rfl := h1; obtain rfl := h2
  split at hw
  · rename_i hl
    exact op_shl pins s σ H _ _ v u Q I rx ry ⟨_, _, rfl, rfl, ⟨hl.1, by omega, hl.2.2⟩, OkV.same S hw rfl⟩
  · exact False.elim hw
theorem op_shrF : OpR X (binaryOp .RShift) (rF g (binF .shr)) := by
  intro pins s σ H x y v u Q I rx ry h
  obtain ⟨ι, μ, d1, d2, S, h1, h2, hw⟩ := h
  cases d1 <;> cases d2 <;> simp only [binF, wpR_stuck] at hw <;> try exact False.elim hw
  obtain rfl := h1; obtain rfl := h2
  split at hw
  · rename_i hl
    exact op_shr pins s σ H _ _ v u Q I rx ry ⟨_, _, rfl, rfl, hl, OkV.same S hw rfl⟩
  · exact False.elim hw
theorem op_bandF : OpR X (binaryOp .BitAnd) (rF g (binF .band)) := by
  intro pins s σ H x y v u Q I rx ry h
  obtain ⟨ι, μ, d1, d2, S, h1, h2, hw⟩ := h
  cases d1 <;> cases d2 <;> simp only [binF, wpR_stuck] at hw <;> try exact False.elim hw
  obtain rfl := h1; obtain rfl := h2
  split at hw
  · rename_i hl
    refine op_and pins s σ H _ _ v u Q I rx ry ⟨_, _, rfl, rfl, ?_⟩
    show Q (.int (Builtin.bitAnd _ _)) H
    rw [PyProof.Rows.bitAnd_pp hl.1 hl.2]
    exact OkV.same S hw rfl
  · exact False.elim hw
end
end PL
end
section
set_option Elab.async false
set_option linter.all false
set_option autoImplicit false
set_option maxRecDepth 100000
set_option maxHeartbeats 400000
/-! Sound3: comparisons. -/
namespace PL
open PySem PySem.Spec PyProof.Rows L2

mutual
def toPy : D → PyData
  | .bl b => .bool b
  | .int i => .int i
  | .str s => .str (S2 s)
  | .tup ds => .tuple (toPyL ds)
  | _ => .none
def toPyL : List D → List PyData
  | [] => []
  | d :: ds => toPy d :: toPyL ds
end
section
variable {g : Gb} {ι : List Addr} {H : Hp} {K : PySem.W.Frag}
mutual
theorem dp_of (hK : K = g.K) : ∀ (d : D) (v : V), D.plain d = true → Rep g ι H d v → Dp K H v (toPy d)
  | .non, _, _, h => by obtain rfl := h; exact .non
  | .bl _, _, _, h => by obtain rfl := h; exact .bl _
  | .int _, _, _, h => by obtain rfl := h; exact .int _
  | .str _, _, _, h => by obtain rfl := h; exact .str _
  | .tup ds, _, p, h => by
    obtain ⟨a, vs, rfl, ha, hr⟩ := h
    rw [toPy]
    exact .tup (SqT.of ha) (dpL_of hK ds vs (by rw [D.plain] at p; exact p) hr)
  | .rol _, _, p, _ => by simp [D.plain] at p
  | .ktp _, _, p, _ => by simp [D.plain] at p
  | .loc _, _, p, _ => by simp [D.plain] at p
  | .cst _, _, p, _ => by simp [D.plain] at p
theorem dpL_of (hK : K = g.K) : ∀ (ds : List D) (vs : List V), D.plainL ds = true → RepL g ι H ds vs → DpAll K H vs (toPyL ds)
  | [], _, _, h => by rw [show _ = [] from h]; exact .nil
  | d :: ds, _, p, h => by
    obtain ⟨v, r, rfl, h1, h2⟩ := h
    rw [D.plainL, Bool.and_eq_true] at p
    exact .cons (dp_of hK d v p.1 h1) (dpL_of hK ds r p.2 h2)
end
end
mutual
theorem deq_py : ∀ x y : D, D.plain x = true → D.plain y = true → deq x y = PyData.eqv (toPy x) (toPy y)
  | .non, y, _, q => by cases y <;> simp [D.plain] at q <;> simp [deq, toPy, PyData.eqv]
  | .bl _, y, _, q => by cases y <;> simp [D.plain] at q <;> simp [deq, toPy, PyData.eqv]
  | .int _, y, _, q => by cases y <;> simp [D.plain] at q <;> simp [deq, toPy, PyData.eqv]
  | .str s, y, _, q => by
    cases y <;> simp [D.plain] at q <;> simp [deq, toPy, PyData.eqv]
    rw [Bool.eq_iff_iff]
    simp [S2_inj]
  | .tup xs, y, p, q => by
    cases y with
    | tup ys =>
      rw [deq, toPy, toPy, PyData.eqv]
      exact deqL_py xs ys (by rw [D.plain] at p; exact p) (by rw [D.plain] at q; exact q)
    | _ => simp [D.plain] at q <;> simp [deq, toPy, PyData.eqv]
  | .rol _, _, p, _ => by simp [D.plain] at p
  | .ktp _, _, p, _ => by simp [D.plain] at p
  | .loc _, _, p, _ => by simp [D.plain] at p
  | .cst _, _, p, _ => by simp [D.plain] at p
theorem deqL_py : ∀ xs ys : List D, D.plainL xs = true → D.plainL ys = true → deqL xs ys = PyData.eqvAll (toPyL xs) (toPyL ys)
  | [], ys, _, _ => by cases ys <;> simp [deqL, toPyL, PyData.eqvAll]
  | x :: xs, ys, p, q => by
    cases ys with
    | nil => simp [deqL, toPyL, PyData.eqvAll]
    | cons y ys =>
      rw [D.plainL, Bool.and_eq_true] at p q
      rw [deqL, toPyL, toPyL, PyData.eqvAll, deq_py x y p.1 q.1, deqL_py xs ys p.2 q.2]
end
mutual
theorem py_lay : ∀ x : D, D.plain x = true → (toPy x).canLay0 = true ∧ (toPy x).depth = D.depth x
  | .non, _ => by simp [toPy, PyData.canLay0, PyData.depth, D.depth]
  | .bl _, _ => by simp [toPy, PyData.canLay0, PyData.depth, D.depth]
  | .int _, _ => by simp [toPy, PyData.canLay0, PyData.depth, D.depth]
  | .str s, p => by
    refine ⟨?_, by simp [toPy, PyData.depth, D.depth]⟩
    rw [D.plain] at p
    simp only [toPy, PyData.canLay0, PyData.strOk, S2]
    simpa using p
  | .tup xs, p => by
    rw [D.plain] at p
    obtain ⟨h1, h2⟩ := py_layL xs p
    rw [toPy, PyData.canLay0, PyData.depth, D.depth, h2]
    exact ⟨h1, rfl⟩
  | .rol _, p => by simp [D.plain] at p
  | .ktp _, p => by simp [D.plain] at p
  | .loc _, p => by simp [D.plain] at p
  | .cst _, p => by simp [D.plain] at p
theorem py_layL : ∀ xs : List D, D.plainL xs = true → PyData.canLayAll0 (toPyL xs) = true ∧ PyData.depthAll (toPyL xs) = D.depthL xs
  | [], _ => by simp [toPyL, PyData.canLayAll0, PyData.depthAll, D.depthL]
  | x :: xs, p => by
    rw [D.plainL, Bool.and_eq_true] at p
    obtain ⟨h1, h2⟩ := py_lay x p.1
    obtain ⟨h3, h4⟩ := py_layL xs p.2
    rw [toPyL, PyData.canLayAll0, PyData.depthAll, D.depthL, h1, h2, h3, h4]
    exact ⟨rfl, rfl⟩
end
theorem eqOk_plain {d : D} (h : D.eqOk d = true) : D.plain d = true ∧ D.depth d ≤ 60 := by
  rw [D.eqOk, Bool.and_eq_true, decide_eq_true_eq] at h
  exact h
theorem eqOk_shaped {d : D} (h : D.eqOk d = true) : SeqAt.shaped (toPy d) = true := by
  obtain ⟨h1, h2⟩ := eqOk_plain h
  obtain ⟨h3, h4⟩ := py_lay d h1
  rw [SeqAt.shaped, Bool.and_eq_true, decide_eq_true_eq, h4]
  exact ⟨h3, by omega⟩
mutual
theorem alk_py : ∀ x y : D, alk x y = true → PySem.W.alike (toPy x) (toPy y) = true
  | .int _, y, h => by cases y <;> simp [alk] at h <;> simp [toPy, PySem.W.alike]
  | .str _, y, h => by cases y <;> simp [alk] at h <;> simp [toPy, PySem.W.alike]
  | .tup xs, y, h => by
    cases y with
    | tup ys =>
      rw [alk] at h
      rw [toPy, toPy, PySem.W.alike]
      exact alkL_py xs ys h
    | _ => simp [alk] at h
  | .non, y, h => by cases y <;> simp [alk] at h
  | .bl _, y, h => by cases y <;> simp [alk] at h
  | .rol _, y, h => by cases y <;> simp [alk] at h
  | .ktp _, y, h => by cases y <;> simp [alk] at h
  | .loc _, y, h => by cases y <;> simp [alk] at h
  | .cst _, y, h => by cases y <;> simp [alk] at h
theorem alkL_py : ∀ xs ys : List D, alkL xs ys = true → PySem.W.alikeAll (toPyL xs) (toPyL ys) = true
  | [], ys, _ => by cases ys <;> simp [toPyL, PySem.W.alikeAll]
  | x :: xs, ys, h => by
    cases ys with
    | nil => simp [toPyL, PySem.W.alikeAll]
    | cons y ys =>
      rw [alkL, Bool.and_eq_true] at h
      rw [toPyL, toPyL, PySem.W.alikeAll, alk_py x y h.1, alkL_py xs ys h.2]
      rfl
end
mutual
theorem dlt_py : ∀ x y : D, alk x y = true → D.plain x = true → D.plain y = true → dlt x y = PySem.W.dataLt (toPy x) (toPy y)
  | .int _, y, h, _, _ => by
    cases y <;> simp [alk] at h
    rw [toPy, toPy, PySem.W.dataLt_int, dlt]
  | .str _, y, h, _, _ => by
    cases y <;> simp [alk] at h
    rw [toPy, toPy, PySem.W.dataLt_str, dlt, S2_cps, S2_cps]
  | .tup xs, y, h, p, q => by
    cases y with
    | tup ys =>
      rw [alk] at h
      rw [D.plain] at p q
      rw [toPy, toPy, dlt]
      exact dltL_py xs ys h p q
    | _ => simp [alk] at h
  | .non, y, h, _, _ => by cases y <;> simp [alk] at h
  | .bl _, y, h, _, _ => by cases y <;> simp [alk] at h
  | .rol _, y, h, _, _ => by cases y <;> simp [alk] at h
  | .ktp _, y, h, _, _ => by cases y <;> simp [alk] at h
  | .loc _, y, h, _, _ => by cases y <;> simp [alk] at h
  | .cst _, y, h, _, _ => by cases y <;> simp [alk] at h
theorem dltL_py : ∀ xs ys : List D, alkL xs ys = true → D.plainL xs = true → D.plainL ys = true → dltL xs ys = PyProof.Rows.lexLt itemOrd (PySem.W.keyToksAll (toPyL xs)) (PySem.W.keyToksAll (toPyL ys))
  | [], [], _, _, _ => by simp [toPyL, dltL, PySem.W.keyToksAll]; rfl
  | [], y :: ys, _, _, _ => by simp [toPyL, dltL, PySem.W.keyToksAll]; rfl
  | x :: xs, [], _, _, _ => by simp [toPyL, dltL, PySem.W.keyToksAll]; rfl
  | x :: xs, y :: ys, h, p, q => by
    rw [alkL, Bool.and_eq_true] at h
    rw [D.plainL, Bool.and_eq_true] at p q
    rw [toPyL, toPyL, PySem.W.dataLt_cons (alk_py x y h.1), dltL, deq_py x y p.1 q.1, dltL_py xs ys h.2 p.2 q.2, dlt_py x y h.1 p.1 q.1]
end

section
variable {X : Cx} {g : Gb}
theorem scal_eq {ι : List Addr} {H : Hp} {d1 d2 : D} {x y : V} (h1 : Rep g ι H d1 x) (h2 : Rep g ι H d2 y) (he : scalEq d1 d2 = true) : scal x y = true ∧ decide (x = y) = deq d1 d2 := by
  cases d1 with
  | non => cases d2 <;> simp [scalEq] at he; obtain rfl := h1; obtain rfl := h2; exact ⟨rfl, rfl⟩
  | bl a => cases d2 <;> simp [scalEq] at he; obtain rfl := h1; obtain rfl := h2; rename_i b; exact ⟨rfl, by cases a <;> cases b <;> rfl⟩
  | int a =>
    cases d2 with
    | int b =>
      obtain rfl := h1; obtain rfl := h2
      refine ⟨rfl, ?_⟩
      rw [deq, Bool.eq_iff_iff]; simp
    | str b => obtain rfl := h1; obtain rfl := h2; exact ⟨rfl, by simp [deq]⟩
    | _ => simp [scalEq] at he
  | str a =>
    cases d2 with
    | str b =>
      obtain rfl := h1; obtain rfl := h2
      refine ⟨rfl, ?_⟩
      rw [deq, Bool.eq_iff_iff]; simp [S2_inj]
    | int b => obtain rfl := h1; obtain rfl := h2; exact ⟨rfl, by simp [deq]⟩
    | _ => simp [scalEq] at he
  | _ => simp [scalEq] at he
theorem eqOk2_or {d1 d2 : D} (h : eqOk2 d1 d2 = true) : scalEq d1 d2 = true ∨ (D.eqOk d1 = true ∧ D.eqOk d2 = true) := by
  unfold eqOk2 at h
  rcases Bool.or_eq_true_iff.mp h with h | h
  · exact .inl h
  · exact .inr (Bool.and_eq_true_iff.mp h)
theorem rows2_at {x y : D} {μ : Store} {xs ys : List D} (h : rows2 x y μ = some (xs, ys)) : ∃ a b, x = .loc a ∧ y = .loc b ∧ μ[a]? = some (.lst xs) ∧ μ[b]? = some (.lst ys) ∧ D.eqOk (.tup xs) = true ∧ D.eqOk (.tup ys) = true := by
  unfold rows2 at h
  split at h
  · rename_i a b
    split at h
    · rename_i xs' ys' e1 e2
      split at h
      · rename_i hq
        cases h
        exact ⟨a, b, rfl, rfl, e1, e2, (Bool.and_eq_true_iff.mp hq).1, (Bool.and_eq_true_iff.mp hq).2⟩
      · cases h
    · cases h
  · cases h
theorem lst_dp {K : PySem.W.Frag} {ι : List Addr} {H : Hp} {μ : Store} {l : Nat} {xs : List D} {v : V} (hK : K = g.K) (S : Sim g ι μ H) (r : Rep g ι H (.loc l) v) (h : μ[l]? = some (.lst xs)) (he : D.eqOk (.tup xs) = true) : Dp K H v (.list (toPyL xs)) ∧ SeqAt.shaped (.list (toPyL xs)) = true ∧ D.plainL xs = true := by
  obtain ⟨a, vs, rfl, _, h1, h2⟩ := RepL.sqL S r h
  obtain ⟨p1, p2⟩ := eqOk_plain he
  have p1' : D.plainL xs = true := p1
  have hl := py_layL xs p1'
  refine ⟨.lst (SqL.of h1) (dpL_of hK _ _ p1' h2), ?_, p1'⟩
  show (PyData.canLayAll0 (toPyL xs) && decide (PyData.depthAll (toPyL xs) + 1 ≤ 64)) = true
  have p2' : D.depthL xs + 1 ≤ 60 := p2
  rw [hl.1, hl.2]
  simp
  omega
theorem rows2_py {K : PySem.W.Frag} {ι : List Addr} {H : Hp} {μ : Store} {x y : D} {v u : V} {xs ys : List D} (hK : K = g.K) (S : Sim g ι μ H) (h1 : Rep g ι H x v) (h2 : Rep g ι H y u) (h : rows2 x y μ = some (xs, ys)) :
    Dp K H v (.list (toPyL xs)) ∧ Dp K H u (.list (toPyL ys)) ∧ SeqAt.shaped (.list (toPyL xs)) = true ∧ SeqAt.shaped (.list (toPyL ys)) = true ∧ deqL xs ys = PyData.eqv (.list (toPyL xs)) (.list (toPyL ys)) := by
  obtain ⟨a, b, rfl, rfl, e1, e2, q1, q2⟩ := rows2_at h
  obtain ⟨d1, s1, p1⟩ := lst_dp hK S h1 e1 q1
  obtain ⟨d2, s2, p2⟩ := lst_dp hK S h2 e2 q2
  exact ⟨d1, d2, s1, s2, (deqL_py xs ys p1 p2).trans (by rw [PyData.eqv])⟩
theorem op_eqF (hK : X.K = g.K) (hu : X.A.units + 70 < cLine) : OpR X (compareOp .Eq) (rB g (cmpF g.C .eq)) := by
  intro pins s σ H x y v u Q I rx ry h
  obtain ⟨ι, μ, d1, d2, S, h1, h2, hw⟩ := h
  have hw : wpR (if eqOk2 d1 d2 = true then .ok (deq d1 d2) μ else match rows2 d1 d2 μ with
    | some (xs, ys) => .ok (deqL xs ys) μ
    | none => .stuck) (OkB g ι H fun b H' => Q (.bl b) H') anyE := hw
  split at hw
  · rename_i he
    have q : Q (.bl (deq d1 d2)) H := hw ι H (Ext.refl _ _) S
    rcases eqOk2_or he with he | ⟨e1, e2⟩
    · obtain ⟨s1, s2⟩ := scal_eq h1 h2 he
      refine op_eq pins s σ H _ _ v u Q I rx ry ⟨s1, ?_⟩
      rw [s2]; exact q
    · have p1 := eqOk_plain e1
      have p2 := eqOk_plain e2
      refine op_eqD (by omega) pins s σ H _ _ v u Q I rx ry ⟨_, _, dp_of hK _ _ p1.1 h1, dp_of hK _ _ p2.1 h2, eqOk_shaped e1, eqOk_shaped e2, ?_⟩
      rw [← deq_py _ _ p1.1 p2.1]
      exact q
  · split at hw
    · rename_i xs ys hr
      obtain ⟨q1, q2, s1, s2, e⟩ := rows2_py hK S h1 h2 hr
      refine op_eqD (by omega) pins s σ H _ _ v u Q I rx ry ⟨_, _, q1, q2, s1, s2, ?_⟩
      rw [← e]
      exact hw ι H (Ext.refl _ _) S
    · exact False.elim hw
theorem op_neF (hK : X.K = g.K) (hu : X.A.units + 70 < cLine) : OpR X (compareOp .NotEq) (rB g (cmpF g.C .ne)) := by
  intro pins s σ H x y v u Q I rx ry h
  obtain ⟨ι, μ, d1, d2, S, h1, h2, hw⟩ := h
  have hw : wpR (if eqOk2 d1 d2 = true then .ok (!deq d1 d2) μ else match rows2 d1 d2 μ with
    | some (xs, ys) => .ok (!deqL xs ys) μ
    | none => .stuck) (OkB g ι H fun b H' => Q (.bl b) H') anyE := hw
  split at hw
  · rename_i he
    have q : Q (.bl (!deq d1 d2)) H := hw ι H (Ext.refl _ _) S
    rcases eqOk2_or he with he | ⟨e1, e2⟩
    · obtain ⟨s1, s2⟩ := scal_eq h1 h2 he
      refine op_ne pins s σ H _ _ v u Q I rx ry ⟨s1, ?_⟩
      rw [s2]; exact q
    · have p1 := eqOk_plain e1
      have p2 := eqOk_plain e2
      refine op_neD (by omega) pins s σ H _ _ v u Q I rx ry ⟨_, _, dp_of hK _ _ p1.1 h1, dp_of hK _ _ p2.1 h2, eqOk_shaped e1, eqOk_shaped e2, ?_⟩
      rw [← deq_py _ _ p1.1 p2.1]
      exact q
  · split at hw
    · rename_i xs ys hr
      obtain ⟨q1, q2, s1, s2, e⟩ := rows2_py hK S h1 h2 hr
      refine op_neD (by omega) pins s σ H _ _ v u Q I rx ry ⟨_, _, q1, q2, s1, s2, ?_⟩
      rw [← e]
      exact hw ι H (Ext.refl _ _) S
    · exact False.elim hw
theorem op_ltF (hK : X.K = g.K) (hu : X.A.units + 70 < cLine) : OpR X (compareOp .Lt) (rB g (cmpF g.C .lt)) := by
  intro pins s σ H x y v u Q I rx ry h
  obtain ⟨ι, μ, d1, d2, S, h1, h2, hw⟩ := h
  have hw : wpR (if (alk d1 d2 && D.eqOk d1 && D.eqOk d2) = true then .ok (dlt d1 d2) μ else .stuck) (OkB g ι H fun b H' => Q (.bl b) H') anyE := hw
  split at hw
  · rename_i he
    have q : Q (.bl (dlt d1 d2)) H := hw ι H (Ext.refl _ _) S
    rw [Bool.and_eq_true, Bool.and_eq_true] at he
    obtain ⟨⟨e0, e1⟩, e2⟩ := he
    have p1 := eqOk_plain e1
    have p2 := eqOk_plain e2
    obtain ⟨as, r1⟩ := Dp.reads I _ _ _ (dp_of hK _ _ p1.1 h1) rx
    obtain ⟨bs, r2⟩ := Dp.reads I _ _ _ (dp_of hK _ _ p2.1 h2) ry
    have l1 := (py_lay d1 p1.1).2
    refine PySem.W.rcLt_alike (toPy d1) (toPy d2) X.A s v u as bs r1 r2 (alk_py _ _ e0) ?_ (by omega) X.prog X.w _ _ ⟨.bl _, H, I, rfl, ?_⟩
    · intro e
      cases d1 with
      | int _ => simp [toPy] at e
      | str _ => simp [toPy] at e
      | tup _ => simp [toPy] at e
      | _ => simp [alk] at e0
    · rw [← dlt_py _ _ e0 p1.1 p2.1]
      exact q
  · exact False.elim hw
theorem op_gtF : OpR X (compareOp .Gt) (rB g (cmpF g.C .gt)) := by
  intro pins s σ H x y v u Q I rx ry h
  obtain ⟨ι, μ, d1, d2, S, h1, h2, hw⟩ := h
  cases d1 <;> first | exact False.elim hw | skip
  all_goals cases d2 <;> first | exact False.elim hw | skip
  · obtain rfl := h1; obtain rfl := h2
    exact op_gt pins s σ H _ _ v u Q I rx ry ⟨_, _, rfl, rfl, hw ι H (Ext.refl _ _) S⟩
  · obtain rfl := h1; obtain rfl := h2
    refine op_gt_str pins s σ H _ _ v u Q I rx ry ⟨_, _, rfl, rfl, ?_⟩
    rw [S2_cps, S2_cps]
    exact hw ι H (Ext.refl _ _) S
theorem op_leF : OpR X (compareOp .LtE) (rB g (cmpF g.C .le)) := by
  intro pins s σ H x y v u Q I rx ry h
  obtain ⟨ι, μ, d1, d2, S, h1, h2, hw⟩ := h
  cases d1 <;> first | exact False.elim hw | skip
  all_goals cases d2 <;> first | exact False.elim hw | skip
  · obtain rfl := h1; obtain rfl := h2
    exact op_le pins s σ H _ _ v u Q I rx ry ⟨_, _, rfl, rfl, hw ι H (Ext.refl _ _) S⟩
  · obtain rfl := h1; obtain rfl := h2
    refine op_le_str pins s σ H _ _ v u Q I rx ry ⟨_, _, rfl, rfl, ?_⟩
    rw [S2_cps, S2_cps]
    exact hw ι H (Ext.refl _ _) S
theorem op_geF : OpR X (compareOp .GtE) (rB g (cmpF g.C .ge)) := by
  intro pins s σ H x y v u Q I rx ry h
  obtain ⟨ι, μ, d1, d2, S, h1, h2, hw⟩ := h
  cases d1 <;> first | exact False.elim hw | skip
  all_goals cases d2 <;> first | exact False.elim hw | skip
  · obtain rfl := h1; obtain rfl := h2
    exact op_ge pins s σ H _ _ v u Q I rx ry ⟨_, _, rfl, rfl, hw ι H (Ext.refl _ _) S⟩
  · obtain rfl := h1; obtain rfl := h2
    refine op_ge_str pins s σ H _ _ v u Q I rx ry ⟨_, _, rfl, rfl, ?_⟩
    rw [S2_cps, S2_cps]
    exact hw ι H (Ext.refl _ _) S
theorem rep_non {ι : List Addr} {H : Hp} {d : D} {v : V} (h : Rep g ι H d v) : decide (v = .non) = d.isNon := by
  cases d with
  | tup _ => obtain ⟨a, vs, rfl, _⟩ := h; rfl
  | ktp _ => obtain ⟨a, vs, rfl, _⟩ := h; rfl
  | rol _ => obtain ⟨a, vs, rfl, _⟩ := h; rfl
  | loc _ => obtain ⟨a, rfl, _⟩ := h; rfl
  | cst _ => obtain ⟨rfl, _⟩ := h; rfl
  | err _ _ _ => exact h.elim
  | ftup _ => obtain ⟨a, vs, o, rfl, _⟩ := h; rfl
  | _ => obtain rfl := h; rfl
theorem op_isF : OpR X (compareOp .Is) (rB g (cmpF g.C .is)) := by
  intro pins s σ H x y v u Q I rx ry h
  obtain ⟨ι, μ, d1, d2, S, h1, h2, hw⟩ := h
  cases d2 with
  | non =>
    refine op_isN pins s σ H _ _ v u Q I rx ry ⟨h2, ?_⟩
    rw [rep_non h1]
    exact hw ι H (Ext.refl _ _) S
  | bl b =>
    cases d1 with
    | bl c =>
      obtain rfl := h1; obtain rfl := h2
      refine op_isBl pins s σ H _ _ v u Q I rx ry ⟨c, b, rfl, rfl, ?_⟩
      have := hw ι H (Ext.refl _ _) S
      cases c <;> cases b <;> exact this
    | _ => exact False.elim hw
  | _ => exact False.elim hw
theorem op_isnF : OpR X (compareOp .IsNot) (rB g (cmpF g.C .isn)) := by
  intro pins s σ H x y v u Q I rx ry h
  obtain ⟨ι, μ, d1, d2, S, h1, h2, hw⟩ := h
  cases d2 with
  | non =>
    refine op_notN pins s σ H _ _ v u Q I rx ry ⟨h2, ?_⟩
    rw [rep_non h1]
    exact hw ι H (Ext.refl _ _) S
  | bl b =>
    cases d1 with
    | bl c =>
      obtain rfl := h1; obtain rfl := h2
      refine op_notBl pins s σ H _ _ v u Q I rx ry ⟨c, b, rfl, rfl, ?_⟩
      have := hw ι H (Ext.refl _ _) S
      cases c <;> cases b <;> exact this
    | _ => exact False.elim hw
  | _ => exact False.elim hw
/-- a key stands as the layer's key -/
theorem key_rep {ι : List Addr} {H : Hp} {d : D} {v : V} {k : PL.Key} (h : Rep g ι H d v) (e : D.key d = some k) : v = kV (K2 k) := by
  cases d <;> simp [D.key] at e <;> subst e <;> exact h
theorem keys_rep {ι : List Addr} {H : Hp} : ∀ {ds : List D} {vs : List V} {ks : List PL.Key}, RepL g ι H ds vs → D.keys ds = some ks → vs = (Ks2 ks).map kV
  | [], _, _, h, e => by cases e; rw [show _ = [] from h]; rfl
  | d :: ds, _, _, h, e => by
    obtain ⟨v, r, rfl, h1, h2⟩ := h
    rw [D.keys] at e
    cases e1 : D.key d with
    | none => simp [e1] at e
    | some k =>
      cases e2 : D.keys ds with
      | none => simp [e1, e2] at e
      | some ks =>
        simp [e1, e2] at e
        subst e
        rw [key_rep h1 e1, keys_rep h2 e2]
        rfl
/-- what a look into a dict of the store tells -/
theorem find_loc {ι : List Addr} {H : Hp} {μ : Store} {l : Nat} {k : D} {x y : V} {o : Option D} (S : Sim g ι μ H) (h1 : Rep g ι H (.loc l) x) (h2 : Rep g ι H k y) (e : findF g.C (.loc l) k μ = some o) :
    ∃ a ov, x = .ref a ∧ DGet H a y ov ∧ IsD H a ∧ ((o = none ∧ ov = none) ∨ ∃ d v, o = some d ∧ ov = some v ∧ Rep g ι H d v) := by
  obtain ⟨a, rfl, ha⟩ := h1
  unfold findF at e
  cases e1 : μ[l]? with
  | none => simp [e1] at e
  | some ob =>
    have ho := S.ob l ob a e1 ha
    cases ob with
    | lst _ => simp [e1] at e
    | dK b kvs =>
      simp only [e1] at e
      obtain ⟨vs, rd, rk⟩ : ∃ vs, Rd H a (.dK vs) ∧ RepKV g K2 ι H kvs vs := by
        cases b with
        | false => obtain ⟨vs, q1, q2⟩ := ho; exact ⟨vs, .inl q1, q2⟩
        | true => obtain ⟨o, vs, q1, q2⟩ := ho; exact ⟨vs, .inr ⟨o, q1⟩, q2⟩
      cases e2 : D.key k with
      | none => simp [e2] at e
      | some q =>
        simp [e2] at e
        subst e
        rw [key_rep h2 e2]
        refine ⟨a, valV vs (K2 q), rfl, .inl ⟨vs, K2 q, rd, rfl, rfl⟩, .inl ⟨vs, rd⟩, ?_⟩
        exact RepKV.look (fun _ _ => K2_inj) q rk
    | dT b kvs =>
      simp only [e1] at e
      obtain ⟨vs, rd, rk⟩ : ∃ vs, Rd H a (.dT vs) ∧ RepKV g Ks2 ι H kvs vs := by
        cases b with
        | false => obtain ⟨vs, q1, q2⟩ := ho; exact ⟨vs, .inl q1, q2⟩
        | true => obtain ⟨o, vs, q1, q2⟩ := ho; exact ⟨vs, .inr ⟨o, q1⟩, q2⟩
      cases k with
      | tup ks =>
        cases e2 : D.keys ks with
        | none => simp [e2] at e
        | some q =>
          simp [e2] at e
          subst e
          obtain ⟨b', ws, rfl, hb, rw'⟩ := h2
          rw [keys_rep rw' e2] at hb
          refine ⟨a, valV vs (Ks2 q), rfl, .inr ⟨vs, Ks2 q, b', rd, rfl, hb, rfl⟩, .inr ⟨vs, rd⟩, ?_⟩
          exact RepKV.look (fun _ _ => Ks2_inj) q rk
      | _ => simp at e
theorem any_py {d : D} (p : D.plain d = true) : ∀ {ys : List D}, D.plainL ys = true → (toPyL ys).any (fun z => PyData.eqv z (toPy d)) = ys.any fun z => deq z d
  | [], _ => rfl
  | z :: zs, h => by
    rw [D.plainL, Bool.and_eq_true] at h
    rw [toPyL, List.any_cons, List.any_cons, any_py p h.2, deq_py z d h.1 p]
theorem dp_ftup {X K : PySem.W.Frag} {g : Gb} {ι : List Addr} {H : Hp} (hK : K = g.K) {ds : List D} {v : V} (h : Rep g ι H (.ftup ds) v) (hp : D.plainL ds = true) : Dp K H v (.tuple (toPyL ds)) := by
  obtain ⟨a, vs, o, rfl, ha, _, hr⟩ := h
  exact .tup (.inl (.inr ⟨o, ha⟩)) (dpL_of hK ds vs hp hr)
theorem op_inF (hK : X.K = g.K) (hw' : X.w = g.w) (hu : X.A.units + 70 < cLine) : OpR X (compareOp .In) (rB g (inF g.C)) := by
  intro pins s σ H x y v u Q I rx ry h
  obtain ⟨ι, μ, d1, d2, S, h1, h2, hw⟩ := h
  cases d2 with
  | str b =>
    cases d1 with
    | str a =>
      match a, hw with
      | [], hw => exact False.elim hw
      | [c], hw =>
        obtain rfl := h1; obtain rfl := h2
        refine op_in_sign pins s σ H _ _ v u Q I rx ry ⟨c, S2 b, rfl, rfl, ?_⟩
        rw [S2_cps]
        exact hw ι H (Ext.refl _ _) S
      | _ :: _ :: _, hw => exact False.elim hw
    | _ => exact False.elim hw
  | tup ys =>
    unfold inF at hw
    simp only at hw
    split at hw
    · rename_i he
      rw [Bool.and_eq_true] at he
      obtain ⟨e1, e2⟩ := he
      have p1 := eqOk_plain e1
      have p2 := eqOk_plain e2
      have q : Q (.bl (ys.any fun z => deq z d1)) H := hw ι H (Ext.refl _ _) S
      obtain ⟨as, r1⟩ := Dp.reads I _ _ _ (dp_of hK _ _ p1.1 h1) rx
      obtain ⟨bs, r2⟩ := Dp.reads I _ _ _ (dp_of hK _ _ p2.1 h2) ry
      rw [toPy] at r2
      have l2 := eqOk_shaped e2
      rw [toPy] at l2
      refine SeqAt.in_tuple_reads r2 r1 (SeqAt.canLay_of_shaped l2) (SeqAt.canLay_of_shaped (eqOk_shaped e1)) (room_in_shaped (eqOk_shaped e1) (by omega)) ⟨.bl _, H, I, rfl, ?_⟩
      rw [any_py p1.1 (by have := p2.1; rw [D.plain] at this; exact this)]
      exact q
    · exact False.elim hw
  | ftup ys =>
    unfold inF at hw
    simp only at hw
    split at hw
    · rename_i he
      rw [Bool.and_eq_true] at he
      obtain ⟨e1, e2⟩ := he
      have p1 := eqOk_plain e1
      have p2 := eqOk_plain e2
      have q : Q (.bl (ys.any fun z => deq z d1)) H := hw ι H (Ext.refl _ _) S
      obtain ⟨as, r1⟩ := Dp.reads I _ _ _ (dp_of hK _ _ p1.1 h1) rx
      obtain ⟨bs, r2⟩ := Dp.reads I _ _ _ (dp_ftup (X := X.K) hK h2 (by have := p2.1; rw [D.plain] at this; exact this)) ry
      have l2 := eqOk_shaped e2
      rw [toPy] at l2
      refine SeqAt.in_tuple_reads r2 r1 (SeqAt.canLay_of_shaped l2) (SeqAt.canLay_of_shaped (eqOk_shaped e1)) (room_in_shaped (eqOk_shaped e1) (by omega)) ⟨.bl _, H, I, rfl, ?_⟩
      rw [any_py p1.1 (by have := p2.1; rw [D.plain] at this; exact this)]
      exact q
    · exact False.elim hw
  | cst c =>
    unfold inF at hw
    obtain ⟨rfl, cs⟩ := h2
    obtain ⟨es, n, kd⟩ := cs.kd
    cases d1 with
    | str a =>
      obtain rfl := h1
      simp only [findF] at hw
      have q : Q (.bl (look (g.C c) (.inr a)).isSome) H := hw ι H (Ext.refl _ _) S
      have kd' : KDict X.K X.w (g.cA c) es n := by rw [hK, hw']; exact kd
      rcases cs.get a with ⟨e1, e2⟩ | ⟨d, u', v', e1, e2, _, _⟩
      · refine op_in_kd kd' pins s σ H _ _ v u Q I rx ry ⟨_, _, rfl, rfl, by rw [hK]; exact e2, ?_⟩
        rw [e1] at q; exact q
      · refine op_in_kd kd' pins s σ H _ _ v u Q I rx ry ⟨_, _, rfl, rfl, by rw [hK]; exact e2, ?_⟩
        rw [e1] at q; exact q
    | _ => exact False.elim hw
  | loc l =>
    unfold inF at hw
    simp only at hw
    split at hw
    · rename_i ys e0
      split at hw
      · rename_i he
        rw [Bool.and_eq_true] at he
        obtain ⟨e1, e2⟩ := he
        have p1 := eqOk_plain e1
        have p2 := eqOk_plain e2
        have q : Q (.bl (ys.any fun z => deq z d1)) H := hw ι H (Ext.refl _ _) S
        obtain ⟨a, vs, rfl, _, ha, r2⟩ := RepL.sqL S h2 e0
        have p2' : D.plainL ys = true := by have := p2.1; rw [D.plain] at this; exact this
        refine op_inD (by omega) pins s σ H _ _ v u Q I rx ry ⟨_, _, dp_of hK _ _ p1.1 h1, .lst (SqL.of ha) (dpL_of hK _ _ p2' r2), eqOk_shaped e1, ?_, ?_⟩
        · have := eqOk_shaped e2
          rw [toPy, SeqAt.shaped, PyData.canLay0, PyData.depth] at this
          rw [SeqAt.shaped, PyData.canLay0, PyData.depth]
          exact this
        · rw [any_py p1.1 p2']
          exact q
      · exact False.elim hw
    · split at hw
      · rename_i o eo
        obtain ⟨a, ov, rfl, dg, _, hh⟩ := find_loc S h2 h1 eo
        have q : Q (.bl o.isSome) H := hw ι H (Ext.refl _ _) S
        obtain rfl : u = Value.ref a := ry
        refine d_in (by omega) I dg rx fun s' I' => ⟨.bl ov.isSome, H, I', rfl, ?_⟩
        rcases hh with ⟨e1, e2⟩ | ⟨d, v', e1, e2, _⟩
        · rw [e1] at q; rw [e2]; exact q
        · rw [e1] at q; rw [e2]; exact q
      · exact False.elim hw
  | _ => exact False.elim hw
theorem op_ninF (hK : X.K = g.K) (hw' : X.w = g.w) (hu : X.A.units + 70 < cLine) : OpR X (compareOp .NotIn) (rB g (cmpF g.C .nin)) := by
  intro pins s σ H x y v u Q I rx ry h
  obtain ⟨ι, μ, d1, d2, S, h1, h2, hw⟩ := h
  have hw : wpR (inF g.C d1 d2 μ) (OkB g ι H fun b H' => Q (.bl (!b)) H') anyE := by
    have hw : wpR ((inF g.C d1 d2 μ).bind fun b μ => .ok (!b) μ) (OkB g ι H fun b H' => Q (.bl b) H') anyE := hw
    rw [wpR_bind] at hw
    exact wpR_mono hw (fun _ _ z => z) (fun _ _ z => z)
  cases d2 with
  | str b =>
    cases d1 with
    | str a =>
      match a, hw with
      | [], hw => exact False.elim hw
      | [c], hw =>
        obtain rfl := h1; obtain rfl := h2
        refine op_notIn_sign pins s σ H _ _ v u Q I rx ry ⟨c, S2 b, rfl, rfl, ?_⟩
        rw [S2_cps]
        exact hw ι H (Ext.refl _ _) S
      | _ :: _ :: _, hw => exact False.elim hw
    | _ => exact False.elim hw
  | tup ys =>
    unfold inF at hw
    simp only at hw
    split at hw
    · rename_i he
      rw [Bool.and_eq_true] at he
      obtain ⟨e1, e2⟩ := he
      have p1 := eqOk_plain e1
      have p2 := eqOk_plain e2
      have q : Q (.bl (!(ys.any fun z => deq z d1))) H := hw ι H (Ext.refl _ _) S
      obtain ⟨as, r1⟩ := Dp.reads I _ _ _ (dp_of hK _ _ p1.1 h1) rx
      obtain ⟨bs, r2⟩ := Dp.reads I _ _ _ (dp_of hK _ _ p2.1 h2) ry
      rw [toPy] at r2
      have l2 := eqOk_shaped e2
      rw [toPy] at l2
      refine SeqAt.notIn_tuple_reads r2 r1 (SeqAt.canLay_of_shaped l2) (SeqAt.canLay_of_shaped (eqOk_shaped e1)) (room_in_shaped (eqOk_shaped e1) (by omega)) ⟨.bl _, H, I, rfl, ?_⟩
      rw [any_py p1.1 (by have := p2.1; rw [D.plain] at this; exact this)]
      exact q
    · exact False.elim hw
  | ftup ys =>
    unfold inF at hw
    simp only at hw
    split at hw
    · rename_i he
      rw [Bool.and_eq_true] at he
      obtain ⟨e1, e2⟩ := he
      have p1 := eqOk_plain e1
      have p2 := eqOk_plain e2
      have q : Q (.bl (!(ys.any fun z => deq z d1))) H := hw ι H (Ext.refl _ _) S
      obtain ⟨as, r1⟩ := Dp.reads I _ _ _ (dp_of hK _ _ p1.1 h1) rx
      obtain ⟨bs, r2⟩ := Dp.reads I _ _ _ (dp_ftup (X := X.K) hK h2 (by have := p2.1; rw [D.plain] at this; exact this)) ry
      have l2 := eqOk_shaped e2
      rw [toPy] at l2
      refine SeqAt.notIn_tuple_reads r2 r1 (SeqAt.canLay_of_shaped l2) (SeqAt.canLay_of_shaped (eqOk_shaped e1)) (room_in_shaped (eqOk_shaped e1) (by omega)) ⟨.bl _, H, I, rfl, ?_⟩
      rw [any_py p1.1 (by have := p2.1; rw [D.plain] at this; exact this)]
      exact q
    · exact False.elim hw
  | cst c =>
    unfold inF at hw
    obtain ⟨rfl, cs⟩ := h2
    obtain ⟨es, n, kd⟩ := cs.kd
    cases d1 with
    | str a =>
      obtain rfl := h1
      simp only [findF] at hw
      have q : Q (.bl (!(look (g.C c) (.inr a)).isSome)) H := hw ι H (Ext.refl _ _) S
      have kd' : KDict X.K X.w (g.cA c) es n := by rw [hK, hw']; exact kd
      rcases cs.get a with ⟨e1, e2⟩ | ⟨d, u', v', e1, e2, _, _⟩
      · refine op_notIn_kd kd' pins s σ H _ _ v u Q I rx ry ⟨_, _, rfl, rfl, by rw [hK]; exact e2, ?_⟩
        rw [e1] at q; exact q
      · refine op_notIn_kd kd' pins s σ H _ _ v u Q I rx ry ⟨_, _, rfl, rfl, by rw [hK]; exact e2, ?_⟩
        rw [e1] at q; exact q
    | _ => exact False.elim hw
  | loc l =>
    unfold inF at hw
    simp only at hw
    split at hw
    · rename_i ys e0
      split at hw
      · rename_i he
        rw [Bool.and_eq_true] at he
        obtain ⟨e1, e2⟩ := he
        have p1 := eqOk_plain e1
        have p2 := eqOk_plain e2
        have q : Q (.bl (!(ys.any fun z => deq z d1))) H := hw ι H (Ext.refl _ _) S
        obtain ⟨a, vs, rfl, _, ha, r2⟩ := RepL.sqL S h2 e0
        have p2' : D.plainL ys = true := by have := p2.1; rw [D.plain] at this; exact this
        refine op_notInD (by omega) pins s σ H _ _ v u Q I rx ry ⟨_, _, dp_of hK _ _ p1.1 h1, .lst (SqL.of ha) (dpL_of hK _ _ p2' r2), eqOk_shaped e1, ?_, ?_⟩
        · have := eqOk_shaped e2
          rw [toPy, SeqAt.shaped, PyData.canLay0, PyData.depth] at this
          rw [SeqAt.shaped, PyData.canLay0, PyData.depth]
          exact this
        · rw [any_py p1.1 p2']
          exact q
      · exact False.elim hw
    · split at hw
      · rename_i o eo
        obtain ⟨a, ov, rfl, dg, _, hh⟩ := find_loc S h2 h1 eo
        have q : Q (.bl (!o.isSome)) H := hw ι H (Ext.refl _ _) S
        obtain rfl : u = Value.ref a := ry
        refine d_notIn (by omega) I dg rx fun s' I' => ⟨.bl (!ov.isSome), H, I', rfl, ?_⟩
        rcases hh with ⟨e1, e2⟩ | ⟨d, v', e1, e2, _⟩
        · rw [e1] at q; rw [e2]; exact q
        · rw [e1] at q; rw [e2]; exact q
      · exact False.elim hw
  | _ => exact False.elim hw
end
end PL
end
section
set_option Elab.async false
set_option linter.all false
set_option autoImplicit false
set_option maxRecDepth 100000
set_option maxHeartbeats 400000
/-! SoundS: sorted of what is walked by keys. -/
namespace PL
open PySem PySem.Spec PyProof.Rows L2
section
variable {X : Cx} {g : Gb}
theorem each_rep' {ι : List Addr} {H : Hp} : ∀ {us : List Value} {ds : List D}, us.length = ds.length → (∀ (j : Nat) u d, us[j]? = some u → ds[j]? = some d → ∃ x, RelV x u ∧ Rep g ι H d x) → PySem.W.EachIs (fun u d => ∃ x, RelV x u ∧ Rep g ι H d x) us ds
  | [], [], _, _ => .nil
  | [], _ :: _, h, _ => by cases h
  | _ :: _, [], h, _ => by cases h
  | u :: us, d :: ds, hl, h => .cons (h 0 u d rfl rfl) (each_rep' (by simpa using hl) fun j u' d' e1 e2 => h (j + 1) u' d' e1 e2)
theorem rep_each' {ι : List Addr} {H : Hp} : ∀ {us : List Value} {ds : List D}, PySem.W.EachIs (fun u d => ∃ x, RelV x u ∧ Rep g ι H d x) us ds → ∃ vs, Vals vs us ∧ RepL g ι H ds vs
  | _, _, .nil => ⟨[], .nil, rfl⟩
  | _, _, .cons ⟨x, r, p⟩ t => by
    obtain ⟨vs, h1, h2⟩ := rep_each' t
    exact ⟨x :: vs, .cons r h1, x, vs, rfl, p, h2⟩
theorem each_reads' {ι : List Addr} {H : Hp} {pins : List (Addr × PySem.Obj)} {σ : L2.St} {s : Shared} (hK : X.K = g.K) (I : L2.Inv X pins σ H s) : ∀ {us : List Value} {ds : List D}, (∀ d ∈ ds, D.plain d = true) →
    PySem.W.EachIs (fun u d => ∃ x, RelV x u ∧ Rep g ι H d x) us ds → PySem.W.EachIs (fun u d => ∃ as, Reads s.heap u (toPy d) as) us ds
  | _, _, _, .nil => .nil
  | _, _, hp, .cons ⟨x, r, p⟩ t => .cons (Dp.reads I _ _ _ (dp_of hK _ _ (hp _ List.mem_cons_self) p) r) (each_reads' hK I (fun d hd => hp d (List.mem_cons_of_mem _ hd)) t)
/-- data that can be sorted -/
structure Srt (ds : List D) : Prop where
  pl : ∀ d ∈ ds, D.plain d = true
  dp : ∀ d ∈ ds, D.depth d ≤ 60
  al : ∀ a ∈ ds, ∀ b ∈ ds, alk a b = true
  sh : (∀ d ∈ ds, ∃ x r, d = .tup (x :: r)) ∨ ∀ d ∈ ds, ∀ ys, d ≠ .tup ys
theorem Srt.alike {ds : List D} (h : Srt ds) : PySem.W.AllAlike (ds.map toPy) := by
  intro d hd d' hd'
  obtain ⟨b, hb, rfl⟩ := List.mem_map.mp hd
  obtain ⟨b', hb', rfl⟩ := List.mem_map.mp hd'
  exact alk_py _ _ (h.al b hb b' hb')
theorem Srt.sortable {ds : List D} (h : Srt ds) : PySem.W.Sortable (ds.map toPy) := by
  rcases h.sh with p3 | p3
  · refine .inl fun d hd => ?_
    obtain ⟨b, hb, rfl⟩ := List.mem_map.mp hd
    obtain ⟨x, r, rfl⟩ := p3 b hb
    exact ⟨toPy x, toPyL r, by rw [toPy, toPyL]⟩
  · refine .inr fun d hd => ?_
    obtain ⟨b, hb, rfl⟩ := List.mem_map.mp hd
    have hne := p3 b hb
    have ha := h.al b hb b hb
    cases b with
    | int _ => exact ⟨by simp [toPy], by simp [toPy]⟩
    | str _ => exact ⟨by simp [toPy], by simp [toPy]⟩
    | tup zs => exact absurd rfl (hne zs)
    | _ => simp [alk] at ha
theorem Srt.merge {ds : List D} (h : Srt ds) : ds.mergeSort (PySem.W.dataLe false toPy) = sortD ds := by
  unfold sortD
  refine PySem.W.sort_congr fun a ha b hb => ?_
  rw [PySem.W.dataLe_eq]
  show (!PySem.W.dataLt (toPy b) (toPy a)) = _
  rw [dlt_py b a (h.al b hb a ha) (h.pl b hb) (h.pl a ha)]
theorem Srt.unit {ds : List D} (h : Srt ds) {n : Nat} (hu : n + 70 < cLine) : ∀ d, d ∈ ds.map toPy → n + d.depth < cLine := by
  intro d hd
  obtain ⟨b, hb, rfl⟩ := List.mem_map.mp hd
  have h1 := (py_lay b (h.pl b hb)).2
  have h2 := h.dp b hb
  omega
theorem sorted_src (hc : X.calm = true) (hK : X.K = g.K) (hu : X.A.units + 80 < cLine) {pins : List (Addr × PySem.Obj)} {σ : L2.St} {s : Shared} {H : Hp} {ι : List Addr} {μ : Store} {a : Addr} {n : Nat} {T : String} {P : Nat → Value → Prop} {OK : Heap → Prop} {ds : List D} {Q : VK}
    (I : L2.Inv X pins σ H s) (S : Sim g ι μ H) (src : PySem.W.KdlSrc X.prog X.w T a a n P OK) (hok : OK s.heap) (hn : n ≤ sizeLine) (hs : Srt ds)
    (hr : ∀ acc : List Value, acc.length = n → (∀ (j : Nat) v, acc[j]? = some v → P j v) → PySem.W.EachIs (fun u d => ∃ x, RelV x u ∧ Rep g ι H d x) acc ds) (hw : OkV g ι H Q (.loc μ.length) (μ ++ [.lst (sortD ds)])) :
    wpAny (model X.prog X.w) X.A (call (.builtin "sorted") [.ref a]) (EP X pins σ Q) X.xe s := by
  refine Calls.call_function_entry PyProof.Rows.kind_sorted PyProof.Rows.plain_sorted PyProof.Rows.entry_sorted (PyProof.Rows.args_sorted1 _) ?_
  unfold Builtin.«sorted»
  refine wpAny_bind (m := checkCount "sorted" 1 1 _) (wpAny_pure ?_)
  refine wpAny_bind (PySem.W.kdu_collect (A := X.A.in1) src (I.ok.hd hc) hok hn fun h' tk acc hk hacc => ?_)
  have I1 : L2.Inv X pins σ H { s with heap := h', toks := tk } := I.kept hk
  have hal : acc.toList.length = n := by rw [Array.length_toList, hacc.1]
  have e1 := hr acc.toList hal fun j v e => hacc.2 j v (by rw [← Array.getElem?_toList]; exact e)
  have e2 := each_reads' hK I1 hs.pl e1
  refine wpAny_bind (wpAny_newList ?_ (by rw [hal]; exact hn))
  have hoL : (h'.push (seqObj "list" acc.toList.toArray 0)).get? h'.objs.size = some (seqObj "list" acc.toList.toArray 0) := Heap.get?_push_size _ rfl
  show wpAny _ _ _ _ _ { s with heap := h'.push (seqObj "list" acc.toList.toArray 0), toks := tk }
  have lt : ∀ {b : Addr} {o : PySem.Obj}, h'.get? b = some o → b ≠ h'.objs.size := fun e => Nat.ne_of_lt (Heap.lt_size e)
  have kp : ∀ b o, h'.get? b = some o → (PySem.W.sortingHeap (h'.push (seqObj "list" acc.toList.toArray 0)) h'.objs.size acc.toList).get? b = some o := fun b o e => PySem.W.sortingHeap_old (lt e) (Heap.get?_push_of_some _ e)
  have e3 : PySem.W.EachIs (fun v b => ∃ as, Reads (PySem.W.sortingHeap (h'.push (seqObj "list" acc.toList.toArray 0)) h'.objs.size acc.toList) v (toPy b) as) acc.toList ds := e2.mono fun _ _ ⟨as, r⟩ => ⟨as, Reads.keeps kp r⟩
  have e4 := PySem.W.each_map (R := fun v d => ∃ as, Reads (PySem.W.sortingHeap (h'.push (seqObj "list" acc.toList.toArray 0)) h'.objs.size acc.toList) v d as) toPy e3
  refine wpAny_bind (wpAny_holding (wpAny_call_entry PyProof.Rows.slot_list_sort ⟨_, hoL, rfl⟩ PyProof.Rows.entry_list_sort
    (PySem.W.list_sort_vals (s := { s with heap := h'.push (seqObj "list" acc.toList.toArray 0), toks := tk }) hoL (PySem.W.SortsAt.data (s := { s with heap := PySem.W.sortingHeap (h'.push (seqObj "list" acc.toList.toArray 0)) h'.objs.size acc.toList, toks := tk }) e4 hs.alike hs.sortable (hs.unit (by show X.A.units + 1 + 1 + 70 < cLine; omega))) (by rw [hal]; exact hn) ⟨_, rfl, ?_⟩)
    (PyProof.Rows.args_list_sort _)))
  have eo := PySem.W.sortVals_data (enc := toPy) false e1 e3 hs.alike
  rw [hs.merge] at eo
  obtain ⟨ws, rw1, rw2⟩ := rep_each' eo
  obtain ⟨ep, he'⟩ := PyProof.Rows.sortedHeap_at (vs := acc.toList) (out := (PySem.W.sortVals _ false acc.toList acc.toList).toArray) hoL
  have hlen : ws.length ≤ sizeLine := by
    rw [rw1.length, PySem.W.sortVals_length false rfl, hal]; exact hn
  refine wpAny_pure ⟨_, rfl, .ref h'.objs.size, upd H h'.objs.size (.lst ws), I1.laid (t' := tk) (fun b u e => ?_) (Nat.le_refl _) ⟨hlen, _, ep, rw1, he'⟩, rfl, OkV.lst S hw rw2 (I1.hok.fresh (Nat.le_refl _))⟩
  have hb : b < h'.objs.size := Heap.lt_size e
  rw [PyProof.Rows.sortedHeap_old (Nat.ne_of_lt hb) (by rw [size_push']; exact Nat.lt_succ_of_lt hb)]
  exact Heap.get?_push_of_some _ e
theorem paired_get {α β : Type} {F : α → β → Prop} {l : List α} {m : List β} (h : Paired F l m) : ∀ {j : Nat} {a : α} {b : β}, l[j]? = some a → m[j]? = some b → F a b := by
  induction h with
  | nil => intro j a b h _; cases h
  | cons h _ ih =>
    intro j a b e1 e2
    cases j with
    | zero => cases e1; cases e2; exact h
    | succ j => exact ih e1 e2
/-- the keys of a dict -/
theorem sorted_dT (hc : X.calm = true) (hK : X.K = g.K) (hu : X.A.units + 80 < cLine) {pins : List (Addr × PySem.Obj)} {σ : L2.St} {s : Shared} {H : Hp} {ι : List Addr} {μ : Store} {l : Nat} {v : V} {kvs : List (List PL.Key × D)} {Q : VK}
    (I : L2.Inv X pins σ H s) (S : Sim g ι μ H) (r : Rep g ι H (.loc l) v) (e : μ[l]? = some (.dT false kvs)) (hs : Srt (kvs.map fun p => D.tup (p.1.map Key.d))) (hw : OkV g ι H Q (.loc μ.length) (μ ++ [.lst (sortD (kvs.map fun p => D.tup (p.1.map Key.d)))])) :
    ∃ a, v = .ref a ∧ wpAny (model X.prog X.w) X.A (call (.builtin "sorted") [.ref a]) (EP X pins σ Q) X.xe s := by
  obtain ⟨a, rfl, ha⟩ := r
  obtain ⟨vs, q1, q2⟩ := S.ob l _ a e ha
  refine ⟨a, rfl, ?_⟩
  obtain ⟨z, hs', ks, pr, o, es, ep, ho, hx, hdt, he, hn⟩ := (show ObjOk X.prog X.w H s.heap a (.dT vs) from I.hok _ _ q1)
  have l1 : es.size = ks.length := size_of_entries he
  have l2 : vs.length = ks.length := Paired.length pr
  have l3 := q2.length
  refine sorted_src hc hK hu I S (kdl_raw hs' hx hdt) ho (by omega) hs (fun acc hl hp => each_rep' (by rw [List.length_map]; omega) fun j u d e1 e2 => ?_) hw
  obtain ⟨en, hen, rfl⟩ := hp j u e1
  have qe := entry_at he j
  rw [hen] at qe
  rw [List.getElem?_map] at e2
  cases hb : ks[j]? with
  | none => rw [hb] at qe; cases qe
  | some b =>
    rw [hb] at qe
    have e3 : en = entryOfKey (tupleKind (mixKind X.prog X.w)) b := Option.some.inj qe
    cases hv : vs[j]? with
    | none =>
      have := List.getElem?_eq_none_iff.mp hv
      have := (List.getElem?_eq_some_iff.mp hb).1
      omega
    | some y =>
      obtain ⟨p1, p2, p3⟩ := paired_get pr hv hb
      have q3 : ∃ q', kvs[j]? = some q' ∧ y.1 = Ks2 q'.1 := by
        have : ∀ {kvs : List (List PL.Key × D)} {vs : List (List L2.Key × V)} {i : Nat} {p : List L2.Key × V}, RepKV g Ks2 ι H kvs vs → vs[i]? = some p → ∃ q, kvs[i]? = some q ∧ p.1 = Ks2 q.1 := by
          intro kvs
          induction kvs with
          | nil => intro vs i p h e; rw [show _ = [] from h] at e; cases e
          | cons q kvs ih =>
            intro vs i p h e
            obtain ⟨v, r, rfl, h1, h2⟩ := h
            cases i with
            | zero => cases e; exact ⟨q, rfl, rfl⟩
            | succ i => exact ih h2 e
        exact this q2 hv
      obtain ⟨q', e4, e5⟩ := q3
      rw [e4] at e2
      cases e2
      rw [e5] at p2
      have kd : ∀ ks : List PL.Key, RepL g ι H (ks.map Key.d) ((Ks2 ks).map kV) := by
        intro ks
        induction ks with
        | nil => rfl
        | cons k ks ih => exact ⟨_, _, rfl, by cases k <;> rfl, ih⟩
      exact ⟨.ref b.2.1, by rw [e3]; rfl, b.2.1, _, rfl, p2, kd _⟩
theorem kd_rep {ι : List Addr} {H : Hp} (ks : List PL.Key) : RepL g ι H (ks.map Key.d) ((Ks2 ks).map kV) := by
  induction ks with
  | nil => rfl
  | cons k ks ih => exact ⟨_, _, rfl, by cases k <;> rfl, ih⟩
theorem keys_repL {ι : List Addr} {H : Hp} : ∀ {kvs : List (List PL.Key × D)} {vs : List (List L2.Key × V)} {bs : List Addr}, RepKV g Ks2 ι H kvs vs → IsKeys H vs bs → RepL g ι H (kvs.map fun p => D.tup (p.1.map Key.d)) (bs.map V.ref)
  | [], vs, bs, h, k => by
    rw [show vs = [] from h] at k
    cases k
    rfl
  | q :: kvs, vs, bs, h, k => by
    obtain ⟨v, r, rfl, h1, h2⟩ := h
    cases k with
    | cons k1 k2 => exact ⟨_, _, rfl, ⟨_, _, rfl, k1, kd_rep q.1⟩, keys_repL h2 k2⟩
end
end PL
end
section
set_option Elab.async false
set_option linter.all false
set_option autoImplicit false
set_option maxRecDepth 100000
set_option maxHeartbeats 400000
/-! Sound4: places, slices, calls of built-ins, methods, stores. -/
namespace PL
open PySem PySem.Spec PyProof.Rows L2
section
variable {X : Cx} {g : Gb}
theorem okI_ok {α : Type} {a : Option α} {μ : Store} {Q : α → Store → Prop} {E : Exc → Store → Prop} (h : wpR (okI a μ) Q E) : ∃ b, a = some b ∧ Q b μ := by
  cases a with
  | none => exact False.elim h
  | some b => exact ⟨b, rfl, h⟩
theorem atIx_get {α : Type} {xs : List α} {i : Int} {v : α} (h : atIx xs i = some v) : ∃ j, pyIx xs.length i = some j ∧ xs[j]? = some v := by
  unfold atIx at h
  cases e : pyIx xs.length i with
  | none => rw [e] at h; cases h
  | some j => rw [e] at h; exact ⟨j, rfl, h⟩
theorem atI_rep {ι : List Addr} {H : Hp} {xs : List D} {vs : List V} {i : Int} {d : D} (r : RepL g ι H xs vs) (h : atIx xs i = some d) : ∃ v, atI vs i = some v ∧ Rep g ι H d v := by
  obtain ⟨j, e1, e2⟩ := atIx_get h
  obtain ⟨v, e3, e4⟩ := r.get e2
  refine ⟨v, ?_, e4⟩
  show ((pyIx vs.length i).bind fun j => vs[j]?) = _
  rw [r.length, e1]
  exact e3
/-- a place of a row, of a text -/
def isRow (μ : Store) : D → Bool
  | .tup _ => true
  | .rol _ => true
  | .ktp _ => true
  | .ftup _ => true
  | .str _ => true
  | .loc l => match μ[l]? with
    | some (.lst _) => true
    | _ => false
  | _ => false
theorem ix_row (hK : X.K = g.K) : IxR X (fun x y H Q => ∃ ι μ d1 d2, Sim g ι μ H ∧ Rep g ι H d1 x ∧ Rep g ι H d2 y ∧ isRow μ d1 = true ∧ wpR (ixF g.C d1 d2 μ) (OkV g ι H Q) anyE) := by
  intro value slice pins s σ H x y v u Q I rx ry h
  obtain ⟨ι, μ, d1, d2, S, h1, h2, hr, hw⟩ := h
  cases d1 with
  | tup xs =>
    cases d2 with
    | int i =>
      obtain ⟨d, e, q⟩ := okI_ok hw
      obtain ⟨a, vs, rfl, ha, r⟩ := h1
      obtain rfl := h2
      obtain ⟨w, e2, rw'⟩ := atI_rep r e
      exact ix_tup value slice pins s σ H _ _ v u Q I rx ry ⟨a, vs, i, w, rfl, rfl, SqT.of ha, e2, q.same S rw'⟩
    | _ => exact False.elim hw
  | rol xs =>
    cases d2 with
    | int i =>
      obtain ⟨d, e, q⟩ := okI_ok hw
      obtain ⟨a, vs, rfl, sq, r, _, hq⟩ := rowF_at S h1 (xs := xs) rfl
      obtain rfl := h2
      obtain ⟨w, e2, rw'⟩ := atI_rep r e
      exact ix_list value slice pins s σ H _ _ v u Q I rx ry ⟨a, vs, i, w, rfl, rfl, by rw [hK]; exact hq (fun _ z => by cases z) (fun _ z => by cases z), e2, q.same S rw'⟩
    | _ => exact False.elim hw
  | ftup xs =>
    cases d2 with
    | int i =>
      obtain ⟨d, e, q⟩ := okI_ok hw
      obtain ⟨a, vs, o, rfl, ha, _, r⟩ := h1
      obtain rfl := h2
      obtain ⟨w, e2, rw'⟩ := atI_rep r e
      exact ix_tup value slice pins s σ H _ _ v u Q I rx ry ⟨a, vs, i, w, rfl, rfl, .inl (.inr ⟨o, ha⟩), e2, q.same S rw'⟩
    | _ => exact False.elim hw
  | ktp xs =>
    cases d2 with
    | int i =>
      obtain ⟨d, e, q⟩ := okI_ok hw
      obtain ⟨a, vs, rfl, ha, r⟩ := h1
      obtain rfl := h2
      obtain ⟨w, e2, rw'⟩ := atI_rep r e
      exact ix_tup value slice pins s σ H _ _ v u Q I rx ry ⟨a, vs, i, w, rfl, rfl, by rw [hK]; exact ha.sq H, e2, q.same S rw'⟩
    | _ => exact False.elim hw
  | str z =>
    cases d2 with
    | int i =>
      obtain rfl := h1
      obtain rfl := h2
      have hw : wpR (if z.length ≤ mostLen then okI ((atIx z i).map fun c => D.str [c]) μ else .stuck) (OkV g ι H Q) anyE := hw
      split at hw
      · rename_i hl
        obtain ⟨d, e, q⟩ := okI_ok hw
        obtain ⟨c, e1, rfl⟩ := Option.map_eq_some_iff.mp e
        refine ix_str value slice pins s σ H _ _ v u Q I rx ry ⟨S2 z, i, c, rfl, rfl, ?_, ?_, OkV.same S q rfl⟩
        · rw [S2_len]; exact Nat.le_trans hl line_most
        · rw [S2_cps]; exact e1
      · exact False.elim hw
    | _ => exact False.elim hw
  | loc l =>
    obtain ⟨xs, e0⟩ : ∃ xs, μ[l]? = some (.lst xs) := by
      cases e : μ[l]? with
      | none => simp [isRow, e] at hr
      | some o =>
        cases o with
        | lst xs => exact ⟨xs, rfl⟩
        | _ => simp [isRow, e] at hr
    · unfold ixF at hw
      simp only [e0] at hw
      cases d2 with
      | int i =>
        obtain ⟨d, e, q⟩ := okI_ok hw
        obtain ⟨a, vs, rfl, _, ha, r⟩ := RepL.sqL S h1 e0
        obtain rfl := h2
        obtain ⟨w, e2, rw'⟩ := atI_rep r e
        exact ix_list value slice pins s σ H _ _ v u Q I rx ry ⟨a, vs, i, w, rfl, rfl, SqL.of ha, e2, q.same S rw'⟩
      | _ => exact False.elim hw
  | _ => cases hr
/-- a slice, by values -/
theorem sl_rowF (hK : X.K = g.K) : SlR X (fun x lo hi H Q => ∃ ι μ d, Sim g ι μ H ∧ Rep g ι H d x ∧ wpR (slF d lo hi μ) (OkV g ι H Q) anyE) := by
  intro pins s σ H x v vl vu lo hi sl Q I rx hs pl pu h
  obtain ⟨ι, μ, d, S, h1, hw⟩ := h
  cases d with
  | tup xs =>
    obtain ⟨a, vs, rfl, ha, r⟩ := h1
    have q : OkV g ι H Q (.tup (cut xs lo hi)) μ := hw
    refine sl_tupA pins s σ H _ v vl vu lo hi sl Q I rx hs pl pu ⟨a, vs, rfl, SqT.of ha, fun ⟨e1, e2⟩ => ?_, fun _ p hp => ?_⟩
    · have e : cut xs lo hi = xs := by
        have z1 : clip xs.length 0 lo = 0 := by rw [← r.length]; exact e1
        have z2 : clip xs.length xs.length hi = xs.length := by rw [← r.length]; exact e2
        unfold cut
        rw [z1, z2]; simp
      rw [e] at q
      exact q.same S ⟨a, vs, rfl, ha, r⟩
    · have r' : RepL g ι H (cut xs lo hi) (cutV vs lo hi) := by
        have := (r.drop (clip xs.length 0 lo)).take (clip xs.length xs.length hi - clip xs.length 0 lo)
        unfold cutV
        rw [r.length]
        exact this
      exact OkV.tup S q r' hp
  | rol xs =>
    obtain ⟨a, vs, rfl, sq, r, _, hq⟩ := rowF_at S h1 (xs := xs) rfl
    refine sl_list pins s σ H _ v vl vu lo hi sl Q I rx hs pl pu ⟨a, vs, rfl, by rw [hK]; exact hq (fun _ z => by cases z) (fun _ z => by cases z), fun p hp => ?_⟩
    have r' : RepL g ι H (cut xs lo hi) (cutV vs lo hi) := by
      have := (r.drop (clip xs.length 0 lo)).take (clip xs.length xs.length hi - clip xs.length 0 lo)
      unfold cutV
      rw [r.length]
      exact this
    exact OkV.lst S hw r' hp
  | str z =>
    obtain rfl := h1
    have hw : wpR (if z.length ≤ mostLen then .ok (.str (cut z lo hi)) μ else .stuck) (OkV g ι H Q) anyE := hw
    split at hw
    · rename_i hl
      refine sl_str pins s σ H _ v vl vu lo hi sl Q I rx hs pl pu ⟨S2 z, rfl, ?_, ?_⟩
      · rw [S2_len]; exact Nat.le_trans hl line_most
      · have e : cutS (S2 z) lo hi = S2 (cut z lo hi) := by
          unfold cutS cut S2
          simp only [Str.length, List.size_toArray]
          rfl
        rw [e]
        exact OkV.same S hw rfl
    · exact False.elim hw
  | loc l =>
    have hw : wpR (match μ[l]? with
      | some (.lst xs) => PL.new (.lst (cut xs lo hi)) μ
      | _ => .stuck) (OkV g ι H Q) anyE := hw
    split at hw
    · rename_i xs e0
      obtain ⟨a, vs, rfl, _, ha, r⟩ := RepL.sqL S h1 e0
      refine sl_list pins s σ H _ v vl vu lo hi sl Q I rx hs pl pu ⟨a, vs, rfl, SqL.of ha, fun p hp => ?_⟩
      have r' : RepL g ι H (cut xs lo hi) (cutV vs lo hi) := by
        have := (r.drop (clip xs.length 0 lo)).take (clip xs.length xs.length hi - clip xs.length 0 lo)
        unfold cutV
        rw [r.length]
        exact this
      exact OkV.lst S hw r' hp
    · exact False.elim hw
  | _ => exact False.elim hw

/-! ### built-in functions -/
def rBf (g : Gb) (b : Bf) : List V → Hp → VK → Prop := fun xs H Q => ∃ ι μ d x, xs = [x] ∧ Sim g ι μ H ∧ Rep g ι H d x ∧ wpR (bfF b d μ) (OkV g ι H Q) anyE
theorem call_lenF (hK : X.K = g.K) : CallR X (.builtin "len") (rBf g .len) := by
  intro pins s σ H xs us Q I r h
  obtain ⟨ι, μ, d, x, rfl, S, h1, hw⟩ := h
  cases d with
  | tup ys =>
    obtain ⟨a, vs, rfl, ha, r'⟩ := h1
    have q : OkV g ι H Q (.int ys.length) μ := hw
    refine call_len pins s σ H _ us Q I r ⟨_, _, rfl, .inr ⟨vs, SqT.of ha, rfl⟩, ?_⟩
    rw [r'.length]
    exact q.same S rfl
  | ftup ys =>
    obtain ⟨a, vs, o, rfl, ha, _, r'⟩ := h1
    have q : OkV g ι H Q (.int ys.length) μ := hw
    refine call_len pins s σ H _ us Q I r ⟨_, _, rfl, .inr ⟨vs, .inl (.inr ⟨o, ha⟩), rfl⟩, ?_⟩
    rw [r'.length]
    exact q.same S rfl
  | rol ys =>
    have q : OkV g ι H Q (.int ys.length) μ := hw
    obtain ⟨a, vs, rfl, _, r', _, hq⟩ := rowF_at S h1 (xs := ys) rfl
    refine call_len pins s σ H _ us Q I r ⟨_, _, rfl, .inl ⟨vs, by rw [hK]; exact hq (fun _ z => by cases z) (fun _ z => by cases z), rfl⟩, ?_⟩
    rw [r'.length]
    exact q.same S rfl
  | str z =>
    obtain rfl := h1
    have hw : wpR (if z.length ≤ mostLen then .ok (.int z.length) μ else .stuck) (OkV g ι H Q) anyE := hw
    split at hw
    · rename_i hl
      refine call_len pins s σ H _ us Q I r ⟨_, _, rfl, ⟨?_, rfl⟩, ?_⟩
      · rw [S2_len]; exact Nat.le_trans hl line_most
      · rw [S2_len]; exact OkV.same S hw rfl
    · exact False.elim hw
  | loc l =>
    have hw : wpR (match μ[l]? with
      | some (.lst xs) => .ok (.int xs.length) μ
      | some (.dK _ kvs) => .ok (.int kvs.length) μ
      | _ => .stuck) (OkV g ι H Q) anyE := hw
    split at hw
    · rename_i ys e0
      obtain ⟨a, vs, rfl, _, ha, r'⟩ := RepL.sqL S h1 e0
      refine call_len pins s σ H _ us Q I r ⟨_, _, rfl, .inl ⟨vs, SqL.of ha, rfl⟩, ?_⟩
      rw [r'.length]
      exact OkV.same S hw rfl
    · rename_i b kvs e0
      obtain ⟨a, rfl, ha⟩ := h1
      have ho := S.ob l _ a e0 ha
      obtain ⟨vs, rd, rk⟩ : ∃ vs, Rd H a (.dK vs) ∧ RepKV g K2 ι H kvs vs := by
        cases b with
        | false => obtain ⟨vs, q1, q2⟩ := ho; exact ⟨vs, .inl q1, q2⟩
        | true => obtain ⟨o, vs, q1, q2⟩ := ho; exact ⟨vs, .inr ⟨o, q1⟩, q2⟩
      obtain ⟨u, rfl, ru⟩ := vals1 r
      obtain rfl : u = Value.ref a := ru
      refine d_len I rd fun t s' I' => ⟨.int vs.length, H, I', ⟨t, rfl⟩, ?_⟩
      rw [rk.length]
      exact OkV.same S hw rfl
    · exact False.elim hw
  | _ => exact False.elim hw
theorem call_absF : CallR X (.builtin "abs") (rBf g .abs) := by
  intro pins s σ H xs us Q I r h
  obtain ⟨ι, μ, d, x, rfl, S, h1, hw⟩ := h
  cases d with
  | int i =>
    obtain rfl := h1
    exact call_abs pins s σ H _ us Q I r ⟨i, rfl, OkV.same S hw rfl⟩
  | _ => exact False.elim hw
theorem call_intF : CallR X (.type "int") (rBf g .int) := by
  intro pins s σ H xs us Q I r h
  obtain ⟨ι, μ, d, x, rfl, S, h1, hw⟩ := h
  cases d with
  | int i =>
    obtain rfl := h1
    exact call_int1 pins s σ H _ us Q I r (.inl ⟨i, rfl, OkV.same S hw rfl⟩)
  | bl b =>
    obtain rfl := h1
    exact call_int1 pins s σ H _ us Q I r (.inr ⟨b, rfl, OkV.same S hw rfl⟩)
  | _ => exact False.elim hw
theorem call_boolF : CallR X (.type "bool") (rBf g .bool) := by
  intro pins s σ H xs us Q I r h
  obtain ⟨ι, μ, d, x, rfl, S, h1, hw⟩ := h
  cases d with
  | int i =>
    obtain rfl := h1
    exact call_bool1 pins s σ H _ us Q I r (.inl ⟨i, rfl, OkV.same S hw rfl⟩)
  | bl b =>
    obtain rfl := h1
    exact call_bool1 pins s σ H _ us Q I r (.inr ⟨b, rfl, OkV.same S hw rfl⟩)
  | _ => exact False.elim hw
theorem call_strF : CallR X (.type "str") (rBf g .str) := by
  intro pins s σ H xs us Q I r h
  obtain ⟨ι, μ, d, x, rfl, S, h1, hw⟩ := h
  cases d with
  | int i =>
    obtain rfl := h1
    have hw : wpR (if i.natAbs < 2 ^ 1000 then .ok (.str (intT i)) μ else .stuck) (OkV g ι H Q) anyE := hw
    split at hw
    · rename_i hl
      refine call_str_int pins s σ H _ us Q I r ⟨i, rfl, ?_, ?_⟩
      · rcases Nat.eq_zero_or_pos i.natAbs with e | e
        · rw [e]; decide
        · exact Nat.lt_trans ((Nat.log2_lt (by omega)).mpr hl) (by decide)
      · have e : (Str.ofString (toString i)) = S2 (intT i) := by
          rw [Str.ofString_eq_toList]
          rfl
        show Q (.str (Str.ofString (toString i))) H
        rw [e]
        exact OkV.same S hw rfl
    · exact False.elim hw
  | _ => exact False.elim hw
theorem tup_row {d : D} {μ : Store} {Q : D → Store → Prop} {E : Exc → Store → Prop} (h : wpR (bfF .tuple d μ) Q E) : (∀ ds, d ≠ .ktp ds) ∧ ∃ xs, rowF d μ = some xs ∧ Q (.tup xs) μ := by
  cases d with
  | ktp _ => exact False.elim h
  | _ =>
    refine ⟨fun _ z => (by cases z), ?_⟩
    unfold bfF at h
    simp only at h
    split at h
    · rename_i xs e
      exact ⟨xs, e, h⟩
    · exact False.elim h
theorem call_tupleF (hK : X.K = g.K) : CallR X (.type "tuple") (rBf g .tuple) := by
  intro pins s σ H xs us Q I r h
  obtain ⟨ι, μ, d, x, rfl, S, h1, hw⟩ := h
  obtain ⟨nk, ys, e0, q⟩ := tup_row hw
  have q : OkV g ι H Q (.tup ys) μ := q
  obtain ⟨a, vs, rfl, sq, r', _, hq⟩ := rowF_at S h1 e0
  by_cases hd : ∃ ds, d = .tup ds
  · obtain ⟨ds, rfl⟩ := hd
    cases e0
    obtain ⟨a', vs', e', ha', r2⟩ := h1
    cases e'
    exact call_tuple_of pins s σ H _ us Q I r ⟨a, vs', rfl, .inr ⟨SqT.of ha', q.same S ⟨a, vs', rfl, ha', r2⟩⟩⟩
  · have hl := hq (fun ds z => hd ⟨ds, z⟩) nk
    exact call_tuple_of pins s σ H _ us Q I r ⟨a, vs, rfl, .inl ⟨by rw [hK]; exact hl, fun p hp => OkV.tup S q r' hp⟩⟩
theorem call_listF (hc : X.calm = true) (hK : X.K = g.K) : CallR X (.type "list") (rBf g .list) := by
  intro pins s σ H xs us Q I r h
  obtain ⟨ι, μ, d, x, rfl, S, h1, hw⟩ := h
  have hw : wpR (match rowF d μ with
    | some xs => PL.new (.lst xs) μ
    | none => match keysT d μ with
      | some xs => PL.new (.lst xs) μ
      | none => .stuck) (OkV g ι H Q) anyE := hw
  split at hw
  · rename_i ys e0
    obtain ⟨a, vs, rfl, sq, r', _, _⟩ := rowF_at S h1 e0
    exact call_list_of pins s σ H _ us Q I r ⟨a, vs, rfl, by rw [hK]; exact sq, fun p hp => OkV.lst S hw r' hp⟩
  · split at hw
    · rename_i ys e0
      unfold keysT at e0
      split at e0
      · rename_i l
        split at e0
        · rename_i kvs e1
          cases e0
          obtain ⟨a, rfl, ha⟩ := h1
          obtain ⟨vs, q1, q2⟩ := S.ob _ _ a e1 ha
          exact call_list_dT hc pins s σ H _ us Q I r ⟨a, vs, rfl, .inl q1, fun p bs hp hk => OkV.lst S hw (keys_repL q2 hk) hp⟩
        · cases e0
      · cases e0
    · exact False.elim hw
theorem listF_at {ι : List Addr} {H : Hp} {μ : Store} {d : D} {v : V} {xs : List D} (S : Sim g ι μ H) (r : Rep g ι H d v) (h : listF d μ = some xs) : ∃ a vs, v = .ref a ∧ SqL g.K H a vs ∧ RepL g ι H xs vs := by
  cases d with
  | rol ys =>
    cases h
    obtain ⟨a, vs, rfl, _, r', _, hq⟩ := rowF_at S r (xs := _) rfl
    exact ⟨a, vs, rfl, hq (fun _ z => by cases z) (fun _ z => by cases z), r'⟩
  | loc l =>
    unfold listF at h
    simp only at h
    split at h
    · rename_i ys e0
      cases h
      obtain ⟨a, vs, rfl, _, ha, r'⟩ := RepL.sqL S r e0
      exact ⟨a, vs, rfl, SqL.of ha, r'⟩
    · cases h
  | _ => cases h
/-- what stands in a row reads as data -/
theorem each_rep {ι : List Addr} {H : Hp} : ∀ {ds : List D} {vs : List V} {us : List Value}, Vals vs us → RepL g ι H ds vs → PySem.W.EachIs (fun u d => ∃ x, RelV x u ∧ Rep g ι H d x) us ds
  | [], _, _, r, h => by
    rw [show _ = [] from h] at r
    cases r
    exact .nil
  | d :: ds, _, _, r, h => by
    obtain ⟨v, r', rfl, h1, h2⟩ := h
    cases r with
    | cons r1 r2 => exact .cons ⟨v, r1, h1⟩ (each_rep r2 h2)
theorem rep_each {ι : List Addr} {H : Hp} : ∀ {us : List Value} {ds : List D}, PySem.W.EachIs (fun u d => ∃ x, RelV x u ∧ Rep g ι H d x) us ds → ∃ vs, Vals vs us ∧ RepL g ι H ds vs
  | _, _, .nil => ⟨[], .nil, rfl⟩
  | _, _, .cons ⟨x, r, p⟩ t => by
    obtain ⟨vs, h1, h2⟩ := rep_each t
    exact ⟨x :: vs, .cons r h1, ⟨x, vs, rfl, p, h2⟩⟩
theorem each_reads {ι : List Addr} {H : Hp} {pins : List (Addr × PySem.Obj)} {σ : L2.St} {s : Shared} (hK : X.K = g.K) (I : L2.Inv X pins σ H s) : ∀ {us : List Value} {ds : List D}, (∀ d ∈ ds, D.plain d = true) →
    PySem.W.EachIs (fun u d => ∃ x, RelV x u ∧ Rep g ι H d x) us ds → PySem.W.EachIs (fun u d => ∃ as, Reads s.heap u (toPy d) as) us ds
  | _, _, _, .nil => .nil
  | _, _, hp, .cons ⟨x, r, p⟩ t => .cons (Dp.reads I _ _ _ (dp_of hK _ _ (hp _ List.mem_cons_self) p) r) (each_reads hK I (fun d hd => hp d (List.mem_cons_of_mem _ hd)) t)
theorem sortOk_parts {xs : List D} (h : sortOk xs = true) : (∀ d ∈ xs, D.eqOk d = true) ∧ (∀ a ∈ xs, ∀ b ∈ xs, alk a b = true) ∧
    ((∀ d ∈ xs, ∃ x r, d = .tup (x :: r)) ∨ ∀ d ∈ xs, ∀ ys, d ≠ .tup ys) := by
  unfold sortOk allAlk at h
  rw [Bool.and_eq_true, Bool.and_eq_true, Bool.or_eq_true] at h
  obtain ⟨⟨h1, h2⟩, h3⟩ := h
  rw [List.all_eq_true] at h1 h2
  refine ⟨h1, fun a ha b hb => List.all_eq_true.mp (h2 a ha) b hb, ?_⟩
  rcases h3 with h3 | h3
  · refine .inl fun d hd => ?_
    have := List.all_eq_true.mp h3 d hd
    split at this
    · exact ⟨_, _, rfl⟩
    · cases this
  · refine .inr fun d hd ys e => ?_
    have := List.all_eq_true.mp h3 d hd
    rw [e] at this
    simp at this
theorem call_sortedF (hc : X.calm = true) (hK : X.K = g.K) (hu : X.A.units + 80 < cLine) : CallR X (.builtin "sorted") (rBf g .sorted) := by
  intro pins s σ H xs us Q I r h
  obtain ⟨ι, μ, d, x, rfl, S, h1, hw⟩ := h
  have hw : wpR (match listF d μ with
    | some xs => if (sortOk xs && decide (xs.length ≤ mostLen)) = true then PL.new (.lst (sortD xs)) μ else .stuck
    | none => match keysT d μ with
      | some xs => if (sortOk xs && decide (xs.length ≤ mostLen)) = true then PL.new (.lst (sortD xs)) μ else .stuck
      | none => .stuck) (OkV g ι H Q) anyE := hw
  split at hw
  · rename_i ys e0
    split at hw
    · rename_i he
      rw [Bool.and_eq_true, decide_eq_true_eq] at he
      obtain ⟨p1, p2, p3⟩ := sortOk_parts he.1
      obtain ⟨a, vs, rfl, sq, r'⟩ := listF_at S h1 e0
      have hpl : ∀ d ∈ ys, D.plain d = true := fun d hd => (eqOk_plain (p1 d hd)).1
      obtain ⟨u, rfl, ru⟩ := vals1 r
      obtain rfl : u = Value.ref a := ru
      have sq' : SqL X.K H a vs := by rw [hK]; exact sq
      · obtain ⟨its, rv, hl, hz⟩ := I.list sq'
        have e1 := each_rep rv r'
        refine PySem.W.sorted_data (enc := toPy) hl.isList e1 (each_reads hK I hpl e1) ?_ ?_ (by rw [← r'.length]; exact hz) (fun b hb => ?_) fun out ho eo => ?_
        · intro d hd d' hd'
          obtain ⟨b, hb, rfl⟩ := List.mem_map.mp hd
          obtain ⟨b', hb', rfl⟩ := List.mem_map.mp hd'
          exact alk_py _ _ (p2 b hb b' hb')
        · rcases p3 with p3 | p3
          · refine .inl fun d hd => ?_
            obtain ⟨b, hb, rfl⟩ := List.mem_map.mp hd
            obtain ⟨x, r, rfl⟩ := p3 b hb
            exact ⟨toPy x, toPyL r, by rw [toPy, toPyL]⟩
          · refine .inr fun d hd => ?_
            obtain ⟨b, hb, rfl⟩ := List.mem_map.mp hd
            have hne := p3 b hb
            have ha := p2 b hb b hb
            cases b with
            | int _ => exact ⟨by simp [toPy], by simp [toPy]⟩
            | str _ => exact ⟨by simp [toPy], by simp [toPy]⟩
            | tup zs => exact absurd rfl (hne zs)
            | _ => simp [alk] at ha
        · have := (py_lay b (hpl b hb)).2
          have := (eqOk_plain (p1 b hb)).2
          omega
        · have e2 : ys.mergeSort (PySem.W.dataLe false toPy) = sortD ys := by
            unfold sortD
            refine PySem.W.sort_congr fun a ha b hb => ?_
            rw [PySem.W.dataLe_eq]
            show (!PySem.W.dataLt (toPy b) (toPy a)) = _
            rw [dlt_py b a (p2 b hb a ha) (hpl b hb) (hpl a ha)]
          rw [e2] at eo
          obtain ⟨ws, rw1, rw2⟩ := rep_each eo
          obtain ⟨ep, he'⟩ := PyProof.Rows.sortedAll_at s.heap its out.toArray
          have hlen : ws.length ≤ sizeLine := by
            rw [rw1.length, ho, ← r'.length]; exact hz
          exact ⟨.ref _, upd H (s.heap.objs.size + 1) (.lst ws), I.laid (t' := s.toks) (fun _ _ => PyProof.Rows.sortedAll_old) (Nat.le_succ _) ⟨hlen, out, ep, rw1, he'⟩, rfl, OkV.lst S hw rw2 (I.hok.fresh (Nat.le_succ _))⟩
    · exact False.elim hw
  · split at hw
    · rename_i ys e0
      split at hw
      · rename_i he
        rw [Bool.and_eq_true, decide_eq_true_eq] at he
        obtain ⟨p1, p2, p3⟩ := sortOk_parts he.1
        unfold keysT at e0
        split at e0
        · rename_i l
          split at e0
          · rename_i kvs e1
            cases e0
            obtain ⟨u, rfl, ru⟩ := vals1 r
            obtain ⟨a, rfl, w⟩ := sorted_dT hc hK hu I S h1 e1 ⟨fun d hd => (eqOk_plain (p1 d hd)).1, fun d hd => (eqOk_plain (p1 d hd)).2, p2, p3⟩ hw
            obtain rfl : u = Value.ref a := ru
            exact w
          · cases e0
        · cases e0
      · exact False.elim hw
    · exact False.elim hw

/-! ### methods -/
def rMf (g : Gb) (m : Mf) : V → List V → Hp → VK → Prop := fun x xs H Q => ∃ ι μ d ds, Sim g ι μ H ∧ Rep g ι H d x ∧ RepL g ι H ds xs ∧ wpR (methF g.C m d ds μ) (OkV g ι H Q) anyE
/-- a changed list -/
theorem OkV.setl {ι : List Addr} {H : Hp} {μ : Store} {Q : VK} {d : D} {v : V} {l : Nat} {a : Addr} {ds : List D} {vs : List V} (S : Sim g ι μ H) (ha : ι[l]? = some a) (nf : NFz H a) (h : OkV g ι H Q d (μ.set l (.lst ds))) (r : RepL g ι H ds vs) (rd : Rep g ι H d v) : Q v (upd H a (.lst vs)) :=
  have e := ext_set S ha nf (.lst vs)
  h ι _ _ e (S.set ha nf ⟨vs, upd_same, e.repL _ _ r⟩) (e.rep _ _ rd)
theorem mt_appendF : MtM X "list.append" (rMf g .append) := by
  intro pins s σ H x xs v us Q I rx rs h
  obtain ⟨ι, μ, d, ds, S, h1, h2, hw⟩ := h
  cases d with
  | loc l =>
    match ds, h2, hw with
    | [], _, hw => exact False.elim hw
    | _ :: _ :: _, _, hw => exact False.elim hw
    | [e], h2, hw =>
      obtain ⟨y, r, rfl, hy, hr⟩ := h2
      obtain rfl : r = [] := hr
      have hw : wpR (match μ[l]? with
        | some (.lst xs) => if xs.length < mostLen then .ok .non (μ.set l (.lst (xs ++ [e]))) else .stuck
        | _ => .stuck) (OkV g ι H Q) anyE := hw
      split at hw
      · rename_i zs e0
        split at hw
        · rename_i hl
          obtain ⟨a, vs, rfl, hi, ha, r'⟩ := RepL.sqL S h1 e0
          refine mt_append pins s σ H _ _ v us Q I rx rs ⟨a, vs, y, rfl, rfl, ha, ?_, OkV.setl S hi (.lst ha) hw (r'.append (.one hy)) rfl⟩
          rw [r'.length]; exact Nat.lt_of_lt_of_le hl line_most
        · exact False.elim hw
      · exact False.elim hw
  | _ => exact False.elim hw
theorem mt_popF : MtM X "list.pop" (fun x xs H Q => rMf g .pop x xs H Q) := by
  intro pins s σ H x xs v us Q I rx rs h
  obtain ⟨ι, μ, d, ds, S, h1, h2, hw⟩ := h
  cases d with
  | loc l =>
    match ds, h2, hw with
    | _ :: _, _, hw => exact False.elim hw
    | [], h2, hw =>
      obtain rfl : xs = [] := h2
      have hw : wpR (match μ[l]? with
        | some (.lst xs) => match xs[xs.length - 1]? with
          | some y => .ok y (μ.set l (.lst xs.dropLast))
          | none => .stuck
        | _ => .stuck) (OkV g ι H Q) anyE := hw
      split at hw
      · rename_i zs e0
        split at hw
        · rename_i y e1
          obtain ⟨a, vs, rfl, hi, ha, r'⟩ := RepL.sqL S h1 e0
          obtain ⟨w, e2, rw'⟩ := r'.get e1
          exact mt_pop pins s σ H _ _ v us Q I rx rs ⟨a, vs, w, rfl, rfl, ha, by rw [r'.length]; exact e2, OkV.setl S hi (.lst ha) hw r'.dropLast rw'⟩
        · exact False.elim hw
      · exact False.elim hw
  | _ => exact False.elim hw
theorem mt_popAtF : MtM X "list.pop" (fun x xs H Q => rMf g .popAt x xs H Q) := by
  intro pins s σ H x xs v us Q I rx rs h
  obtain ⟨ι, μ, d, ds, S, h1, h2, hw⟩ := h
  cases d with
  | loc l =>
    match ds, h2, hw with
    | [], _, hw => exact False.elim hw
    | e :: _ :: _, _, hw => cases e <;> exact False.elim hw
    | [e], h2, hw =>
      obtain ⟨y, r, rfl, hy, hr⟩ := h2
      obtain rfl : r = [] := hr
      cases e with
      | int i =>
        obtain rfl := hy
        have hw : wpR (match μ[l]? with
          | some (.lst xs) => match pyIx xs.length i with
            | some k => match xs[k]? with
              | some y => if -(2 ^ 62) ≤ i ∧ i < 2 ^ 62 then .ok y (μ.set l (.lst (xs.eraseIdx k))) else .stuck
              | none => .stuck
            | none => .stuck
          | _ => .stuck) (OkV g ι H Q) anyE := hw
        split at hw
        · rename_i zs e0
          split at hw
          · rename_i k e1
            split at hw
            · rename_i y e2
              split at hw
              · rename_i hb
                obtain ⟨a, vs, rfl, hi, ha, r'⟩ := RepL.sqL S h1 e0
                obtain ⟨w, e3, rw'⟩ := r'.get e2
                refine mt_popAt pins s σ H _ _ v us Q I rx rs ⟨a, vs, i, k, w, rfl, rfl, ha, by omega, by omega, ?_, e3, OkV.setl S hi (.lst ha) hw (r'.erase k) rw'⟩
                rw [r'.length]
                exact (ixN_seq (show ixN zs.length i = some k from e1)).1
              · exact False.elim hw
            · exact False.elim hw
          · exact False.elim hw
        · exact False.elim hw
      | _ => exact False.elim hw
  | _ => exact False.elim hw
theorem mt_extendF : MtM X "list.extend" (rMf g .extend) := by
  intro pins s σ H x xs v us Q I rx rs h
  obtain ⟨ι, μ, d, ds, S, h1, h2, hw⟩ := h
  cases d with
  | loc l =>
    match ds, h2, hw with
    | [], _, hw => exact False.elim hw
    | e :: _ :: _, _, hw => cases e <;> exact False.elim hw
    | [e], h2, hw =>
      obtain ⟨y, r, rfl, hy, hr⟩ := h2
      obtain rfl : r = [] := hr
      cases e with
      | loc k =>
        have hw : wpR (match μ[l]?, μ[k]? with
          | some (.lst xs), some (.lst ys) => if xs.length + ys.length ≤ mostLen ∧ l ≠ k then .ok .non (μ.set l (.lst (xs ++ ys))) else .stuck
          | _, _ => .stuck) (OkV g ι H Q) anyE := hw
        split at hw
        · rename_i zs ws e0 e1
          split at hw
          · rename_i hl
            obtain ⟨a, vs, rfl, hi, ha, r1⟩ := RepL.sqL S h1 e0
            obtain ⟨b, vs2, rfl, _, hb, r2⟩ := RepL.sqL S hy e1
            refine mt_extend pins s σ H _ _ v us Q I rx rs ⟨a, b, vs, vs2, rfl, rfl, ha, hb, ?_, OkV.setl S hi (.lst ha) hw (r1.append r2) rfl⟩
            rw [r1.length, r2.length]; exact Nat.le_trans hl.1 line_most
          · exact False.elim hw
        · exact False.elim hw
      | _ => exact False.elim hw
  | _ => exact False.elim hw
theorem strsOf_rep {ι : List Addr} {H : Hp} : ∀ {ds : List D} {vs : List V} {ts : List Txt}, RepL g ι H ds vs → strsOf ds = some ts → vs = (ts.map S2).map V.str
  | [], _, _, h, e => by cases e; rw [show _ = [] from h]; rfl
  | d :: ds, _, _, h, e => by
    obtain ⟨v, r, rfl, h1, h2⟩ := h
    cases d with
    | str s =>
      rw [strsOf] at e
      obtain ⟨ts, e1, rfl⟩ := Option.map_eq_some_iff.mp e
      obtain rfl := h1
      rw [strsOf_rep h2 e1]
      rfl
    | _ => cases e
theorem join_eqS (sep : Txt) : ∀ ts : List Txt, PySem.Str.join (S2 sep) (ts.map S2) = S2 (joinT sep ts)
  | [] => rfl
  | [a] => rfl
  | a :: b :: r => by
    have ih := join_eqS sep (b :: r)
    show S2 a ++ S2 sep ++ PySem.Str.join (S2 sep) ((b :: r).map S2) = _
    rw [ih, S2_app, S2_app, List.append_assoc]
    rfl
theorem sumLen_le (sep : Txt) : ∀ ts : List Txt, (((ts.map S2).map (·.length)).sum + ((ts.map S2)).length * (S2 sep).length) = sumLen sep ts
  | [] => by simp [sumLen]
  | a :: r => by
    have ih := sumLen_le sep r
    simp only [List.map_cons, List.sum_cons, List.length_cons, S2_len, sumLen, List.foldr_cons] at ih ⊢
    rw [← ih, Nat.add_mul]
    omega
theorem mt_joinF (hK : X.K = g.K) : MtR X "str.join" (rMf g .join) := by
  intro pins s σ H x xs v us Q I rx rs h
  obtain ⟨ι, μ, d, ds, S, h1, h2, hw⟩ := h
  cases d with
  | str sep =>
    match ds, h2, hw with
    | [], _, hw => exact False.elim hw
    | _ :: _ :: _, _, hw => exact False.elim hw
    | [e], h2, hw =>
      obtain ⟨y, r, rfl, hy, hr⟩ := h2
      obtain rfl : r = [] := hr
      obtain rfl := h1
      have hw : wpR (match rowF e μ with
        | some xs => match strsOf xs with
          | some ts => if sumLen sep ts ≤ mostLen then .ok (.str (joinT sep ts)) μ else .stuck
          | none => .stuck
        | none => .stuck) (OkV g ι H Q) anyE := hw
      split at hw
      · rename_i zs e0
        split at hw
        · rename_i ts e1
          split at hw
          · rename_i hl
            obtain ⟨a, vs, rfl, sq, r', _, _⟩ := rowF_at S hy e0
            rw [strsOf_rep r' e1] at sq
            refine mt_join pins s σ H _ _ v us Q I rx rs ⟨S2 sep, a, ts.map S2, rfl, rfl, by rw [hK]; exact sq, ?_, ?_⟩
            · rw [sumLen_le]; exact Nat.le_trans hl (by decide)
            · rw [TL.join_eq, join_eqS]; exact OkV.same S hw rfl
          · exact False.elim hw
        · exact False.elim hw
      · exact False.elim hw
  | _ => exact False.elim hw

theorem signAt_some {c : Nat} {s : Txt} {i : Nat} (h : signAt c s = some i) : s[i]? = some c ∧ ∀ j, j < i → s[j]? ≠ some c := by
  unfold signAt at h
  obtain ⟨h1, h2, h3⟩ := List.findIdx?_eq_some_iff_getElem.mp h
  refine ⟨?_, fun j hj e => ?_⟩
  · rw [List.getElem?_eq_getElem h1]
    simpa using h2
  · have := h3 j hj
    obtain ⟨hl, e'⟩ := List.getElem?_eq_some_iff.mp e
    simp [e'] at this
theorem index0_sign {c : Nat} {s : Txt} {i : Nat} (h : signAt c s = some i) : Txt.index0 (S2 s) (S2 [c]) = some i := by
  obtain ⟨h1, h2⟩ := signAt_some h
  have at_ : ∀ k, StrLaws.At (S2 s) (S2 [c]) (S2 s).length k ↔ s[k]? = some c := fun k => by
    have := StrLaws.subAt_one (S2 s) c k
    rw [S2_cps] at this
    exact this
  unfold Txt.index0
  rcases StrLaws.occ_head (S2 s) (S2 [c]) 1 (Nat.le_refl _) with ⟨e, hn⟩ | ⟨j, r, e, ha, hn⟩
  · exact absurd ((at_ i).mpr h1) (hn i)
  · rw [e]
    show some j = some i
    congr 1
    rcases Nat.lt_trichotomy i j with q | q | q
    · exact absurd ((at_ i).mpr h1) (hn i q)
    · exact q.symm
    · exact absurd ((at_ j).mp ha) (h2 j q)
theorem mt_indexSF : MtR X "str.index" (fun x xs H Q => (∃ s, x = V.str s) ∧ rMf g .index x xs H Q) := by
  intro pins s σ H x xs v us Q I rx rs h
  obtain ⟨⟨z, rfl⟩, ι, μ, d, ds, S, h1, h2, hw⟩ := h
  cases d with
  | str t =>
    match ds, h2, hw with
    | [], _, hw => exact False.elim hw
    | e :: f :: r, _, hw =>
      cases e with
      | str q =>
        rcases q with _ | ⟨c, _ | ⟨c2, q⟩⟩
        · exact False.elim hw
        · exact False.elim hw
        · exact False.elim hw
      | _ => exact False.elim hw
    | [e], h2, hw =>
      obtain ⟨y, r, rfl, hy, hr⟩ := h2
      obtain rfl : r = [] := hr
      cases e with
      | str q =>
        match q, hy, hw with
        | [], _, hw => exact False.elim hw
        | _ :: _ :: _, _, hw => exact False.elim hw
        | [c], hy, hw =>
          obtain rfl := hy
          have hw : wpR (match signAt c t with
            | some i => if t.length ≤ mostLen then .ok (.int i) μ else .stuck
            | none => .stuck) (OkV g ι H Q) anyE := hw
          split at hw
          · rename_i i e1
            split at hw
            · have h0 := index0_sign e1
              unfold Txt.index0 at h0
              cases eo : Builtin.Str.occurrences (S2 t) (S2 [c]) 0 (S2 t).length 1 with
              | nil => rw [eo] at h0; cases h0
              | cons j rr =>
                rw [eo] at h0
                cases h0
                cases h1
                exact mt_sindex pins s σ H _ _ v us Q I rx rs ⟨_, _, i, rr, rfl, rfl, eo, OkV.same S hw rfl⟩
            · exact False.elim hw
          · exact False.elim hw
      | _ => exact False.elim hw
  | tup _ => obtain ⟨a, vs, e, _⟩ := h1; cases e
  | ftup _ => obtain ⟨a, vs, o, e, _⟩ := h1; cases e
  | ktp _ => obtain ⟨a, vs, e, _⟩ := h1; cases e
  | rol _ => obtain ⟨a, vs, e, _⟩ := h1; cases e
  | loc _ => obtain ⟨a, e, _⟩ := h1; cases e
  | cst _ => obtain ⟨e, _⟩ := h1; cases e
  | _ => cases h1

/-! ### stores -/
theorem OkU.set {ι : List Addr} {H : Hp} {μ : Store} {Q : Hp → Prop} {l : Nat} {a : Addr} {u : HO} {o : PL.Obj} (S : Sim g ι μ H) (ha : ι[l]? = some a) (nf : NFz H a) (h : OkU g ι H Q () (μ.set l o)) (ho : ∀ e : Ext ι H ι (upd H a u), ObjR g ι (upd H a u) o a) : Q (upd H a u) :=
  have e := ext_set S ha nf u
  h ι _ e (S.set ha nf (ho e))
def rSet (g : Gb) : TSet := fun o i v H Q => ∃ ι μ d1 d2 d3, Sim g ι μ H ∧ Rep g ι H d1 o ∧ Rep g ι H d2 i ∧ Rep g ι H d3 v ∧ wpR (setF d1 d2 d3 μ) (OkU g ι H Q) anyE
theorem set_F (hu : X.A.units + 70 < cLine) : PSet X (rSet g) := by
  intro pins s σ H o i v ov iv u Q I ro ri rv h
  obtain ⟨ι, μ, d1, d2, d3, S, h1, h2, h3, hw⟩ := h
  cases d1 with
  | loc l =>
    obtain ⟨a, rfl, ha⟩ := h1
    unfold setF at hw
    simp only at hw
    split at hw
    · rename_i xs e0
      obtain ⟨vs, q1, q2⟩ := S.ob l _ a e0 ha
      split at hw
      · rename_i k
        split at hw
        · rename_i j e1
          obtain rfl := h2
          refine set_list pins s σ H _ _ _ ov iv u Q I ro ri rv ⟨a, vs, k, j, rfl, rfl, q1, ?_, OkU.set S ha (.lst q1) hw fun e => ⟨_, upd_same, e.repL _ _ (q2.set j h3)⟩⟩
          rw [q2.length]; exact e1
        · exact False.elim hw
      · exact False.elim hw
    · rename_i kvs e0
      obtain ⟨vs, q1, q2⟩ := S.ob l _ a e0 ha
      split at hw
      · rename_i k e1
        split at hw
        · rename_i hl
          have ek := key_rep h2 e1
          subst ek
          refine L2.set_dict (by omega) pins s σ H _ _ _ ov iv u Q I ro ri rv ⟨a, _, rfl, .inl ⟨vs, K2 k, q1, rfl, ?_, rfl⟩, OkU.set S ha (.dK q1) hw fun e => ⟨_, upd_same, e.repKV _ _ (RepKV.put (fun _ _ => K2_inj) q2 h3)⟩⟩
          rw [q2.length]; exact Nat.lt_of_lt_of_le hl line_most
        · exact False.elim hw
      · exact False.elim hw
    · rename_i kvs e0
      obtain ⟨vs, q1, q2⟩ := S.ob l _ a e0 ha
      split at hw
      · rename_i ks
        split at hw
        · rename_i k e1
          split at hw
          · rename_i hl
            obtain ⟨b, ws, rfl, hb, rw'⟩ := h2
            rw [keys_rep rw' e1] at hb
            refine L2.set_dict (by omega) pins s σ H _ _ _ ov iv u Q I ro ri rv ⟨a, _, rfl, .inr ⟨vs, Ks2 k, b, q1, rfl, hb, ?_, rfl⟩, OkU.set S ha (.dT q1) hw fun e => ⟨_, upd_same, e.repKV _ _ (RepKV.put (fun _ _ => Ks2_inj) q2 h3)⟩⟩
            rw [q2.length]; exact Nat.lt_of_lt_of_le hl line_most
          · exact False.elim hw
        · exact False.elim hw
      · exact False.elim hw
    · exact False.elim hw
  | _ => exact False.elim hw

/-! ### truth, isinstance -/
theorem truth_F {ι : List Addr} {H : Hp} {μ : Store} {d : D} {v : V} {Q : Bool → Hp → Prop} (S : Sim g ι μ H) (r : Rep g ι H d v) (hw : wpR (truthF d μ) (OkB g ι H Q) anyE) : ∃ k, TruV g.K v H k ∧ Q k H := by
  cases d with
  | non => obtain rfl := r; exact ⟨false, rfl, hw ι H (Ext.refl _ _) S⟩
  | bl b => obtain rfl := r; exact ⟨b, rfl, hw ι H (Ext.refl _ _) S⟩
  | int i => obtain rfl := r; exact ⟨_, rfl, hw ι H (Ext.refl _ _) S⟩
  | str s =>
    obtain rfl := r
    have hw : wpR (if s.length ≤ mostLen then .ok (!s.isEmpty) μ else .stuck) (OkB g ι H Q) anyE := hw
    split at hw
    · rename_i hl
      have q : Q (!s.isEmpty) H := hw ι H (Ext.refl _ _) S
      refine ⟨!s.isEmpty, ⟨by rw [S2_len]; exact Nat.le_trans hl line_most, ?_⟩, q⟩
      rw [S2_len]
      cases s with
      | nil => rfl
      | cons a t =>
        symm
        simp only [List.length_cons, List.isEmpty_cons, Bool.not_false]
        rw [bne_iff_ne]; omega
    · exact False.elim hw
  | tup xs =>
    obtain ⟨a, vs, rfl, ha, r'⟩ := r
    have q : Q (!xs.isEmpty) H := hw ι H (Ext.refl _ _) S
    refine ⟨!xs.isEmpty, .inr (.inl ⟨vs, SqT.of ha, ?_⟩), q⟩
    have := r'.length
    cases xs <;> cases vs <;> simp_all
  | loc l =>
    have hw : wpR (match μ[l]? with
      | some (.lst xs) => .ok (!xs.isEmpty) μ
      | _ => .stuck) (OkB g ι H Q) anyE := hw
    split at hw
    · rename_i xs e0
      obtain ⟨a, vs, rfl, _, ha, r'⟩ := RepL.sqL S r e0
      have q : Q (!xs.isEmpty) H := hw ι H (Ext.refl _ _) S
      refine ⟨!xs.isEmpty, .inl ⟨vs, SqL.of ha, ?_⟩, q⟩
      have := r'.length
      cases xs <;> cases vs <;> simp_all
    · exact False.elim hw
  | _ => exact False.elim hw
def tyName : Ty → String
  | .int => "int"
  | .str => "str"
  | .bool => "bool"
  | .tuple => "tuple"
  | .list => "list"
def rIs (g : Gb) (t : Ty) : List V → Hp → VK → Prop := fun xs H Q => ∃ x, xs = [x, .ty (tyName t)] ∧ ∃ ι μ d, Sim g ι μ H ∧ Rep g ι H d x ∧ wpR (isiF d t μ) (OkB g ι H fun b H' => Q (.bl b) H') anyE
theorem call_isiF (hK : X.K = g.K) (t : Ty) : CallR X (.builtin "isinstance") (rIs g t) := by
  intro pins s σ H xs us Q I r h
  obtain ⟨x, rfl, ι, μ, d, S, h1, hw⟩ := h
  have fin : ∀ (tv : String) (b : Bool), TyX X.K H x (.type tv) → kitB tv (tyName t) = some b → Q (.bl b) H → wpAny (model X.prog X.w) X.A (call (.builtin "isinstance") us) (EP X pins σ Q) X.xe s :=
    fun tv b ty kb q => call_isi pins s σ H _ us Q I r ⟨x, _, _, _, b, rfl, .ty _, ty, kit_ty kb, q⟩
  cases d with
  | non => obtain rfl := h1; exact fin "NoneType" false (.base .non) (by cases t <;> decide +kernel) (hw ι H (Ext.refl _ _) S)
  | bl b => obtain rfl := h1; exact fin "bool" _ (.base (.bl b)) (by cases t <;> decide +kernel) (hw ι H (Ext.refl _ _) S)
  | int i => obtain rfl := h1; exact fin "int" _ (.base (.int i)) (by cases t <;> decide +kernel) (hw ι H (Ext.refl _ _) S)
  | str z => obtain rfl := h1; exact fin "str" _ (.base (.str _)) (by cases t <;> decide +kernel) (hw ι H (Ext.refl _ _) S)
  | tup ys =>
    obtain ⟨a, vs, rfl, ha, r'⟩ := h1
    exact fin "tuple" _ (.base (.tup ha)) (by cases t <;> decide +kernel) (hw ι H (Ext.refl _ _) S)
  | ftup ys =>
    obtain ⟨a, vs, o, rfl, ha, _, r'⟩ := h1
    exact fin "tuple" _ (.fTuple ha) (by cases t <;> decide +kernel) (hw ι H (Ext.refl _ _) S)
  | rol ys =>
    obtain ⟨a, vs, rfl, ha, r'⟩ := h1
    rcases ha with ⟨o, ha, _⟩ | ⟨o, its, n, h1, h2, _⟩
    · exact fin "list" _ (.base (.frz ha)) (by cases t <;> decide +kernel) (hw ι H (Ext.refl _ _) S)
    · exact fin "list" _ (.kList (by rw [hK]; exact h1) h2) (by cases t <;> decide +kernel) (hw ι H (Ext.refl _ _) S)
  | loc l =>
    have hw : wpR (match μ[l]? with
      | some (.lst _) => .ok (t == .list) μ
      | _ => .stuck) (OkB g ι H fun b H' => Q (.bl b) H') anyE := hw
    split at hw
    · rename_i ys e0
      obtain ⟨a, vs, rfl, _, ha, r'⟩ := RepL.sqL S h1 e0
      exact fin "list" _ (.base (.lst ha)) (by cases t <;> decide +kernel) (hw ι H (Ext.refl _ _) S)
    · exact False.elim hw
  | _ => exact False.elim hw
end
end PL
end
section
set_option Elab.async false
set_option linter.all false
set_option autoImplicit false
set_option maxRecDepth 100000
set_option maxHeartbeats 400000
/-! SoundF: tuples known to the object, whose methods are called; the first place of an equal one. -/
namespace PL
open PySem PySem.Spec PyProof.Rows L2
section
variable {X : Cx} {g : Gb}
theorem call_tupleFz (hK : X.K = g.K) : CallR X (.type "tuple") (rBf g .tupleF) := by
  intro pins s σ H xs us Q I r h
  obtain ⟨ι, μ, d, x, rfl, S, h1, hw⟩ := h
  have hw : wpR (match listF d μ with
    | some xs => .ok (.ftup xs) μ
    | none => .stuck) (OkV g ι H Q) anyE := hw
  split at hw
  · rename_i ys e0
    obtain ⟨a, vs, rfl, sq, r'⟩ := listF_at S h1 e0
    obtain ⟨u, rfl, ru⟩ := vals1 r
    obtain rfl : u = Value.ref a := ru
    obtain ⟨its, rv, pl, hz⟩ := I.list (show SqL X.K H a vs by rw [hK]; exact sq)
    have hlen := rv.length
    refine call_tuple_list pl.isList (fun h' kp => ?_) (by simp only [List.size_toArray] <;> omega)
    have I1 : L2.Inv X pins σ H { s with heap := h' } := I.kept (t' := s.toks) kp
    let ob : PySem.Obj := { cls := .type "tuple", data := .seq its.toArray }
    have hp : H h'.objs.size = none := I1.hok.fresh (Nat.le_refl _)
    have at_ : (h'.push ob).get? h'.objs.size = some ob := Heap.get?_push_size _ rfl
    have I2 : L2.Inv X pins σ (upd H h'.objs.size (.frz ob (.tup vs))) { s with heap := h'.push ob } :=
      I1.laid (t' := s.toks) (fun b o e => Heap.get?_push_of_some _ e) (Nat.le_refl _) ⟨at_, hz, its, rv, IsTup.new _ _⟩
    have ex := ext_tup S hp (.frz ob (.tup vs))
    exact ⟨.ref h'.objs.size, _, I2, rfl, hw ι _ _ ex (S.tup hp _) ⟨_, vs, ob, rfl, upd_same, ⟨rfl, rfl, S.notin hp⟩, ex.repL _ _ r'⟩⟩
  · exact False.elim hw
theorem idx_py {d : D} (p : D.plain d = true) : ∀ {ys : List D} {i : Nat}, D.plainL ys = true → (ys.findIdx? fun z => deq z d) = some i → ∃ z, (toPyL ys)[i]? = some z ∧ PyData.eqv z (toPy d) = true ∧ ∀ (m : Nat) z', m < i → (toPyL ys)[m]? = some z' → PyData.eqv z' (toPy d) = false := by
  have at_ : ∀ {ys : List D} {m : Nat}, (toPyL ys)[m]? = (ys[m]?).map toPy := by
    intro ys
    induction ys with
    | nil => intro m; rfl
    | cons y ys ih =>
      intro m
      cases m with
      | zero => rfl
      | succ m => rw [toPyL]; exact ih
  have pl : ∀ {ys : List D} {m : Nat} {y : D}, D.plainL ys = true → ys[m]? = some y → D.plain y = true := by
    intro ys
    induction ys with
    | nil => intro m y _ e; cases e
    | cons y ys ih =>
      intro m z h e
      rw [D.plainL, Bool.and_eq_true] at h
      cases m with
      | zero => cases e; exact h.1
      | succ m => exact ih h.2 e
  intro ys i hp h
  obtain ⟨hi, h1, h2⟩ := List.findIdx?_eq_some_iff_getElem.mp h
  refine ⟨toPy ys[i], by rw [at_, List.getElem?_eq_getElem hi]; rfl, ?_, fun m z' hm e => ?_⟩
  · rw [← deq_py _ _ (pl hp (List.getElem?_eq_getElem hi)) p]; exact h1
  · rw [at_] at e
    have hml : m < ys.length := by omega
    rw [List.getElem?_eq_getElem hml] at e
    cases e
    rw [← deq_py _ _ (pl hp (List.getElem?_eq_getElem hml)) p]
    simpa using h2 m hm
theorem mt_indexLF (hK : X.K = g.K) (hu : X.A.units + 70 < cLine) : MtR X "list.index" (rMf g .indexL) := by
  intro pins s σ H x xs v us Q I rx rs h
  obtain ⟨ι, μ, d, ds, S, h1, h2, hw⟩ := h
  match ds, h2, hw with
  | [], _, hw => exact False.elim hw
  | _ :: _ :: _, _, hw => exact False.elim hw
  | [d'], h2, hw =>
    obtain ⟨y, r, rfl, hy, hr⟩ := h2
    obtain rfl : r = [] := hr
    have hw : wpR (match listF d μ with
      | some xs => if (D.eqOk d' && D.eqOk (.tup xs)) = true then (match xs.findIdx? fun z => deq z d' with
        | some i => .ok (.int i) μ
        | none => .stuck) else .stuck
      | none => .stuck) (OkV g ι H Q) anyE := hw
    split at hw
    · rename_i ys e0
      split at hw
      · rename_i he
        rw [Bool.and_eq_true] at he
        split at hw
        · rename_i i ei
          obtain ⟨a, vs, rfl, sq, r'⟩ := listF_at S h1 e0
          have p1 := eqOk_plain he.1
          have p2 := eqOk_plain he.2
          have p3 : D.plainL ys = true := by have := p2.1; rw [D.plain] at this; exact this
          obtain ⟨z, q1, q2, q3⟩ := idx_py p1.1 p3 ei
          have sh : SeqAt.shaped (.list (toPyL ys)) = true := by have := eqOk_shaped he.2; rw [toPy] at this; exact this
          exact mt_indexD (by omega) pins s σ H _ _ v us Q I rx rs ⟨a, y, toPy d', toPyL ys, i, z, rfl, rfl, .lst (by rw [hK]; exact sq) (dpL_of hK _ _ p3 r'), dp_of hK _ _ p1.1 hy, sh, eqOk_shaped he.1, q1, q2, q3, OkV.same S hw rfl⟩
        · exact False.elim hw
      · exact False.elim hw
    · exact False.elim hw
theorem mt_indexTF (hK : X.K = g.K) (hu : X.A.units + 70 < cLine) : MtR X "tuple.index" (rMf g .indexT) := by
  intro pins s σ H x xs v us Q I rx rs h
  obtain ⟨ι, μ, d, ds, S, h1, h2, hw⟩ := h
  cases d with
  | ftup ys =>
    have hw : wpR (match D.ftup ys, ds with
      | .ftup xs, [d'] => if D.eqOk d' && D.eqOk (.tup xs) then (match xs.findIdx? fun z => deq z d' with
        | some i => .ok (.int i) μ
        | none => .stuck) else .stuck
      | _, _ => .stuck) (OkV g ι H Q) anyE := hw
    match ds, h2, hw with
    | [], _, hw => exact False.elim hw
    | _ :: _ :: _, _, hw => exact False.elim hw
    | [d'], h2, hw =>
      obtain ⟨y, r, rfl, hy, hr⟩ := h2
      obtain rfl : r = [] := hr
      have hw : wpR (if (D.eqOk d' && D.eqOk (.tup ys)) = true then (match ys.findIdx? fun z => deq z d' with
        | some i => .ok (.int i) μ
        | none => .stuck) else .stuck) (OkV g ι H Q) anyE := hw
      split at hw
      · rename_i he
        rw [Bool.and_eq_true] at he
        split at hw
        · rename_i i ei
          obtain ⟨a, vs, o, rfl, ha, _, r'⟩ := id h1
          have p1 := eqOk_plain he.1
          have p2 := eqOk_plain he.2
          have p3 : D.plainL ys = true := by have := p2.1; rw [D.plain] at this; exact this
          obtain ⟨z, q1, q2, q3⟩ := idx_py p1.1 p3 ei
          have sh : SeqAt.shaped (.tuple (toPyL ys)) = true := by have := eqOk_shaped he.2; rw [toPy] at this; exact this
          obtain ⟨uy, rfl, ry⟩ := vals1 rs
          cases rx
          obtain ⟨its, rv, ⟨⟨cls, dd, data, sl⟩, ho, hc, n, hd⟩, hz⟩ := I.tuple (show SqT X.K H a vs from .inl (.inr ⟨o, ha⟩))
          simp only at hc hd
          subst hc hd
          obtain ⟨bs, r1⟩ := Dp.reads I _ _ _ (dp_of hK _ _ p1.1 hy) ry
          obtain ⟨as, h4⟩ := Dp.readsAll I (toPyL ys) vs its (dpL_of hK _ _ p3 r') rv
          have hxs : PyData.canLayAll0 (toPyL ys) = true := (py_layL ys p3).1
          have hn : its.length = (toPyL ys).length := SeqAt.ReadsAll.length _ its as h4
          have hmap : its.map (SeqAt.readOf s.heap) = toPyL ys := SeqAt.readsAll_map _ its as hxs h4
          have hj : i < its.toArray.size := by
            obtain ⟨hjd, _⟩ := List.getElem?_eq_some_iff.mp q1
            simp only [List.size_toArray]; omega
          have at_ : ∀ (m : Nat) (hm : m < its.toArray.size) (z' : PyData), (toPyL ys)[m]? = some z' → SeqAt.readOf s.heap its.toArray[m] = z' := by
            intro m hm z' hz'
            have hml : m < its.length := by simpa using hm
            rw [← hmap, List.getElem?_map, List.getElem?_eq_getElem hml] at hz'
            have e1 : SeqAt.readOf s.heap its[m] = z' := Option.some.inj hz'
            simpa using e1
          refine call_meets PySem.F.slot_tuple_index ⟨_, ho, rfl⟩ PySem.F.entry_tuple_index (PySem.F.args_tuple_index_2 _ _) (TI.tuple_indexAt a its.toArray n dd sl uy (fun u => PyData.eqv (SeqAt.readOf s.heap u) (toPy d')) i hj ?_ ?_)
            ⟨ho, SeqAt.items_eqAt (vs := its.toArray) (show ReadsAll s.heap its.toArray.toList (toPyL ys) as from h4) r1 hxs (SeqAt.canLay_of_shaped (eqOk_shaped he.1)) (room_in_shaped (eqOk_shaped he.1) (by omega)), ⟨.int (i : Nat), H, I.tok _, ⟨_, rfl⟩, OkV.same S hw rfl⟩⟩
          · show PyData.eqv (SeqAt.readOf s.heap its.toArray[i]) (toPy d') = true
            rw [at_ i hj z q1]; exact q2
          · intro m hm hmj
            have hmd : m < (toPyL ys).length := by simp only [List.size_toArray] at hm; omega
            show PyData.eqv (SeqAt.readOf s.heap its.toArray[m]) (toPy d') = false
            rw [at_ m hm _ (List.getElem?_eq_getElem hmd)]
            exact q3 m _ hmj (List.getElem?_eq_getElem hmd)
        · exact False.elim hw
      · exact False.elim hw
  | _ =>
    match ds, hw with
    | [], hw => exact False.elim hw
    | [_], hw => exact False.elim hw
    | _ :: _ :: _, hw => exact False.elim hw
/-- t.m(e), t known to its object -/
theorem pe_bmF {o e : Expr} {es : List Expr} {to : TE} {t : TA} {name : PySem.Str} {apos cpos : Pos} {id : String} {r : V → List V → Hp → VK → Prop} (slot : Slot "tuple" name id) (hty : typeOf (.builtin id) = pure (.type "method_descriptor")) (hm : MtR X id r) (ho : PE X o to) (ha : PA X (e :: es) t)
    (hbase : attributeBase o name X.env (eval o X.env) = eval o X.env)
    (hfew : ((backTo cpos (starEach (e :: es) X.env)).all (fun x => !x.1) && (backToKw cpos (keywordEach [] X.env)).all (fun x => x.1.isSome)
      && decide ((e :: es).length + ([] : List Keyword).length + (if ([] : List Keyword).isEmpty then 0 else 1) < 30)) = true)
    (hline : (apos.endLine == cpos.line) = true) (hs : starEach (e :: es) X.env = (false, eval e X.env) :: starEach es X.env) (hplain : (backTo cpos (starEach es X.env)).any (·.1) = false) :
    PE X (.Call (.Attribute o name apos) (e :: es) [] cpos) (fun σ H Q => to σ H fun x H1 => (∃ p ob xs, x = .ref p ∧ H1 p = some (.frz ob (.tup xs)) ∧ ob.cls = .type "tuple" ∧ ob.dict = none) ∧ t σ H1 fun xs H2 => r x xs H2 Q) := by
  refine ⟨fun pins s σ H Q I h => ?_⟩
  refine wpAny_Call_method_late hbase hfew hline rfl (thn (ho.run pins s σ H _ I h) fun v s1 hh => ?_)
  obtain ⟨x, H1, I1, r1, ⟨p, ob, ys, ex, hp, hc, hd⟩, q1⟩ := hh
  subst ex
  obtain rfl : v = Value.ref p := r1
  have at_ : s1.heap.get? p = some ob := (show ObjOk X.prog X.w H1 s1.heap p (.frz ob (.tup ys)) from I1.hok p _ hp).1
  refine ⟨"tuple", id, PySem.F.plainAttrs_tuple, slot, hty, ⟨ob, at_, hc⟩, fun a e => by cases e; exact ⟨ob, at_, hd⟩, ?_⟩
  have hA := ha.run cpos pins s1 σ H1 _ I1 q1
  rw [hs] at hA ⊢
  refine Calls.callWith_builtin (by show (false || (backTo cpos (starEach es X.env)).any (·.1)) = false; rw [hplain]; rfl) (Calls.evalArgs_plain ?_)
  exact thn hA fun us s2 ⟨vs, H2, I2, r2, q2⟩ => hm pins s2 σ H2 (.ref p) vs (.ref p) us Q I2 rfl r2 q2
end
end PL
end
section
set_option Elab.async false
set_option linter.all false
set_option autoImplicit false
set_option maxRecDepth 100000
set_option maxHeartbeats 1000000
/-! SoundG: max, min of two; calls by keywords. -/
namespace PL
open PySem PySem.Spec PyProof.Rows L2
section
variable {prog : Program} {w : World} {A : Around} {E : Value → Shared → Prop} {s : Shared}
open PySem.W PySem.SeqAt
theorem max_two_data {a b : Value} {x y : PyData} {as : List Addr} {Q : Value → Shared → Prop} (hh : A.handled = none) (hr : ReadsAll s.heap [a, b] [x, y] as) (ha : AlikeAll [x, y]) (hu : A.units + 1 + PyData.depthAll [x, y] < cLine)
    (h : ∀ h' tk, (∀ b o, s.heap.get? b = some o → h'.get? b = some o) → Q (if dataLt x y then b else a) { s with heap := h', toks := tk }) :
    wpAny (model prog w) A (call (.builtin "max") [a, b]) Q E s := by
  have hname : (toString "max" ++ toString ".loop" : String) = "max.loop" := by decide
  refine PySem.call_function_tree F.kind_max F.plain_max F.entry_max (F.args_max2 _ _) ?_
  show wpAny _ A.in1 (Builtin.Builtins.bindParams "max" ["key", "default"] 0 ⟨[], []⟩ >>= _) _ _ s
  refine wpAny_bind (wpAny_of_eq (show Builtin.Builtins.bindParams "max" ["key", "default"] 0 ⟨[], []⟩ = pure [none, none] from rfl) ?_)
  show wpAny _ A.in1 (newTuple [a, b] >>= _) _ _ s
  refine wpAny_bind (wpAny_newObj_type ?_)
  have kp : ∀ b' o, s.heap.get? b' = some o → (s.heap.push { cls := .type "tuple", data := .seq #[a, b] }).get? b' = some o := fun b' o e => Heap.get?_push_of_some _ e
  have hr1 : ReadsAll (s.heap.push { cls := .type "tuple", data := .seq #[a, b] }) (#[a, b] : Array Value).toList [x, y] as := ReadsAll.keeps kp hr
  refine wpAny_bind (iter_tupleW (A := A.in1) (s := { s with heap := s.heap.push { cls := .type "tuple", data := .seq #[a, b] } }) (l := s.heap.objs.size) (vs := #[a, b]) hh ⟨_, Heap.get?_push_size _ rfl, rfl, 0, rfl⟩ fun s₂ e W st hfp hw hk => ?_)
  refine wpAny_bind (wpAny_newObj_type ?_)
  have hSf : s₂.heap.objs.size ∉ [(s.heap.push { cls := .type "tuple", data := .seq #[a, b] }).objs.size, s.heap.objs.size] := fun hm => Nat.lt_irrefl _ (hfp _ hm)
  rw [hname]
  have hcmp := cmpIn_gt (prog := prog) (w := w) (A := A.in1) (s := { s with heap := s.heap.push { cls := .type "tuple", data := .seq #[a, b] } }) hr1 ha (by show A.units + 1 + _ < _; exact hu)
  refine wpAny_pure ⟨plainId_quiet F.plain_max_loop _, codeAny_max_loop_firstH W _ hw _ hcmp s₂.heap.objs.size hSf (fresh_in hk) _ (by show 0 < 2; decide) (fun b o e => Heap.get?_push_of_some _ (hk b o e)) (W.frame 0 s₂ _ s₂.toks st (Nat.le_refl _) fun b _ o e => Heap.get?_push_of_some _ e) (Heap.get?_push_size _ rfl) fun v s' hP hm => ?_⟩
  have m := Moved.drop_new (tk := s₂.toks) hm (Nat.le_refl _)
  obtain ⟨h', tk, rfl, hk'⟩ := moved_old e rfl m
  have hv : v = if dataLt x y then b else a := by
    have hP : (#[a, b] : Array Value)[argBest (fun i j => dataLt (([x, y] : List PyData).getD j .none) (([x, y] : List PyData).getD i .none)) 1]? = some v := hP
    have e1 : argBest (fun i j => dataLt (([x, y] : List PyData).getD j .none) (([x, y] : List PyData).getD i .none)) 1 = if dataLt x y then 1 else 0 := by
      show (if dataLt (([x, y] : List PyData).getD 0 .none) (([x, y] : List PyData).getD 1 .none) then _ else _) = _
      rfl
    rw [e1] at hP
    split at hP
    · rename_i hd; rw [if_pos hd]; cases hP; rfl
    · rename_i hd; rw [if_neg hd]; cases hP; rfl
  rw [hv]
  exact h h' tk fun b' o e => hk' b' o (kp b' o e)
theorem min_two_data {a b : Value} {x y : PyData} {as : List Addr} {Q : Value → Shared → Prop} (hh : A.handled = none) (hr : ReadsAll s.heap [a, b] [x, y] as) (ha : AlikeAll [x, y]) (hu : A.units + 1 + PyData.depthAll [x, y] < cLine)
    (h : ∀ h' tk, (∀ b o, s.heap.get? b = some o → h'.get? b = some o) → Q (if dataLt y x then b else a) { s with heap := h', toks := tk }) :
    wpAny (model prog w) A (call (.builtin "min") [a, b]) Q E s := by
  have hname : (toString "min" ++ toString ".loop" : String) = "min.loop" := by decide
  refine PySem.call_function_tree F.kind_min F.plain_min F.entry_min (F.args_min2 _ _) ?_
  show wpAny _ A.in1 (Builtin.Builtins.bindParams "min" ["key", "default"] 0 ⟨[], []⟩ >>= _) _ _ s
  refine wpAny_bind (wpAny_of_eq (show Builtin.Builtins.bindParams "min" ["key", "default"] 0 ⟨[], []⟩ = pure [none, none] from rfl) ?_)
  show wpAny _ A.in1 (newTuple [a, b] >>= _) _ _ s
  refine wpAny_bind (wpAny_newObj_type ?_)
  have kp : ∀ b' o, s.heap.get? b' = some o → (s.heap.push { cls := .type "tuple", data := .seq #[a, b] }).get? b' = some o := fun b' o e => Heap.get?_push_of_some _ e
  have hr1 : ReadsAll (s.heap.push { cls := .type "tuple", data := .seq #[a, b] }) (#[a, b] : Array Value).toList [x, y] as := ReadsAll.keeps kp hr
  refine wpAny_bind (iter_tupleW (A := A.in1) (s := { s with heap := s.heap.push { cls := .type "tuple", data := .seq #[a, b] } }) (l := s.heap.objs.size) (vs := #[a, b]) hh ⟨_, Heap.get?_push_size _ rfl, rfl, 0, rfl⟩ fun s₂ e W st hfp hw hk => ?_)
  refine wpAny_bind (wpAny_newObj_type ?_)
  have hSf : s₂.heap.objs.size ∉ [(s.heap.push { cls := .type "tuple", data := .seq #[a, b] }).objs.size, s.heap.objs.size] := fun hm => Nat.lt_irrefl _ (hfp _ hm)
  rw [hname]
  have hcmp := cmpIn_lt (prog := prog) (w := w) (A := A.in1) (s := { s with heap := s.heap.push { cls := .type "tuple", data := .seq #[a, b] } }) hr1 ha (by show A.units + 1 + _ < _; exact hu)
  refine wpAny_pure ⟨plainId_quiet F.plain_min_loop _, codeAny_min_loop_firstH W _ hw _ hcmp s₂.heap.objs.size hSf (fresh_in hk) _ (by show 0 < 2; decide) (fun b o e => Heap.get?_push_of_some _ (hk b o e)) (W.frame 0 s₂ _ s₂.toks st (Nat.le_refl _) fun b _ o e => Heap.get?_push_of_some _ e) (Heap.get?_push_size _ rfl) fun v s' hP hm => ?_⟩
  have m := Moved.drop_new (tk := s₂.toks) hm (Nat.le_refl _)
  obtain ⟨h', tk, rfl, hk'⟩ := moved_old e rfl m
  have hv : v = if dataLt y x then b else a := by
    have hP : (#[a, b] : Array Value)[argBest (fun i j => dataLt (([x, y] : List PyData).getD i .none) (([x, y] : List PyData).getD j .none)) 1]? = some v := hP
    have e1 : argBest (fun i j => dataLt (([x, y] : List PyData).getD i .none) (([x, y] : List PyData).getD j .none)) 1 = if dataLt y x then 1 else 0 := by
      show (if dataLt (([x, y] : List PyData).getD 1 .none) (([x, y] : List PyData).getD 0 .none) then _ else _) = _
      rfl
    rw [e1] at hP
    split at hP
    · rename_i hd; rw [if_pos hd]; cases hP; rfl
    · rename_i hd; rw [if_neg hd]; cases hP; rfl
  rw [hv]
  exact h h' tk fun b' o e => hk' b' o (kp b' o e)
end
section
variable {X : Cx} {g : Gb}
def rBf2 (g : Gb) (b : B2) : List V → Hp → VK → Prop := fun xs H Q => ∃ ι μ d1 d2 x y, xs = [x, y] ∧ Sim g ι μ H ∧ Rep g ι H d1 x ∧ Rep g ι H d2 y ∧ wpR (bf2F b d1 d2 μ) (OkV g ι H Q) anyE
theorem srtT_parts {x y : D} (h : srtT x y = true) : D.eqOk x = true ∧ D.eqOk y = true ∧ alk x y = true ∧ alk y x = true ∧ alk x x = true ∧ alk y y = true ∧ toPy x ≠ .none ∧ toPy y ≠ .none := by
  unfold srtT at h
  split at h
  · simp only [Bool.and_eq_true] at h
    obtain ⟨⟨⟨⟨⟨h1, h2⟩, h3⟩, h4⟩, h5⟩, h6⟩ := h
    exact ⟨h1, h2, h3, h4, h5, h6, by simp [toPy], by simp [toPy]⟩
  · cases h
theorem bf2_data {d1 d2 : D} {μ : Store} {Q : D → Store → Prop} {E : Exc → Store → Prop} {b : B2} (h : wpR (bf2F b d1 d2 μ) Q E) : (∃ i j, d1 = .int i ∧ d2 = .int j) ∨ (srtT d1 d2 = true ∧ Q (match b with
    | .max2 => if dlt d1 d2 then d2 else d1
    | .min2 => if dlt d2 d1 then d2 else d1) μ) := by
  by_cases hi : ∃ i j, d1 = .int i ∧ d2 = .int j
  · exact .inl hi
  · have h' : wpR (if srtT d1 d2 = true then Res.ok (match b with
      | .max2 => if dlt d1 d2 then d2 else d1
      | .min2 => if dlt d2 d1 then d2 else d1) μ else .stuck) Q E := by
      cases b <;> unfold bf2F at h <;> cases d1 <;> cases d2 <;> first | exact absurd ⟨_, _, rfl, rfl⟩ hi | exact h
    split at h'
    · rename_i hs; exact .inr ⟨hs, h'⟩
    · exact False.elim h'
theorem two_reads (hK : X.K = g.K) {pins : List (Addr × PySem.Obj)} {σ : L2.St} {s : Shared} {H : Hp} {ι : List Addr} {d1 d2 : D} {x y : V} {u w : Value} (I : L2.Inv X pins σ H s) (h1 : Rep g ι H d1 x) (h2 : Rep g ι H d2 y) (r1 : RelV x u) (r2 : RelV y w) (hs : srtT d1 d2 = true) :
    (∃ as, ReadsAll s.heap [u, w] [toPy d1, toPy d2] as) ∧ PySem.W.AlikeAll [toPy d1, toPy d2] ∧ PyData.depthAll [toPy d1, toPy d2] ≤ 60 := by
  obtain ⟨e1, e2, a1, a2, a3, a4, n1, n2⟩ := srtT_parts hs
  have p1 := eqOk_plain e1
  have p2 := eqOk_plain e2
  obtain ⟨as1, q1⟩ := Dp.reads I _ _ _ (dp_of hK _ _ p1.1 h1) r1
  obtain ⟨as2, q2⟩ := Dp.reads I _ _ _ (dp_of hK _ _ p2.1 h2) r2
  refine ⟨⟨_, .cons q1 (.cons q2 .nil)⟩, ⟨fun a ha b hb => ?_, fun a ha => ?_⟩, ?_⟩
  · simp only [List.mem_cons, List.not_mem_nil, or_false] at ha hb
    rcases ha with rfl | rfl <;> rcases hb with rfl | rfl
    · exact alk_py _ _ a3
    · exact alk_py _ _ a1
    · exact alk_py _ _ a2
    · exact alk_py _ _ a4
  · simp only [List.mem_cons, List.not_mem_nil, or_false] at ha
    rcases ha with rfl | rfl
    · exact n1
    · exact n2
  · have h1 := (py_lay d1 p1.1).2
    have h2 := (py_lay d2 p2.1).2
    show max _ (max _ 0) ≤ 60
    have := p1.2
    have := p2.2
    omega
theorem call_max2F (hc : X.calm = true) (hK : X.K = g.K) (hu : X.A.units + 70 < cLine) : CallR X (.builtin "max") (rBf2 g .max2) := by
  intro pins s σ H xs us Q I r h
  obtain ⟨ι, μ, d1, d2, x, y, rfl, S, h1, h2, hw⟩ := h
  rcases bf2_data hw with ⟨i, j, rfl, rfl⟩ | ⟨hs, q⟩
  · obtain rfl := h1; obtain rfl := h2
    exact call_max2 hc pins s σ H _ us Q I r ⟨i, j, rfl, OkV.same S hw rfl⟩
  · obtain ⟨u, w, rfl, r1, r2⟩ := vals2 r
    obtain ⟨⟨as, hr⟩, ha, hd⟩ := two_reads hK I h1 h2 r1 r2 hs
    obtain ⟨e1, e2, a1, _⟩ := srtT_parts hs
    refine max_two_data (I.ok.hd hc) hr ha (by omega) fun h' tk k => ?_
    have q : OkV g ι H Q (if dlt d1 d2 then d2 else d1) μ := q
    rw [← dlt_py d1 d2 a1 (eqOk_plain e1).1 (eqOk_plain e2).1]
    cases hdl : dlt d1 d2 with
    | true => rw [hdl] at q; exact ⟨y, H, I.kept k, r2, OkV.same S q h2⟩
    | false => rw [hdl] at q; exact ⟨x, H, I.kept k, r1, OkV.same S q h1⟩
theorem call_min2F (hc : X.calm = true) (hK : X.K = g.K) (hu : X.A.units + 70 < cLine) : CallR X (.builtin "min") (rBf2 g .min2) := by
  intro pins s σ H xs us Q I r h
  obtain ⟨ι, μ, d1, d2, x, y, rfl, S, h1, h2, hw⟩ := h
  rcases bf2_data hw with ⟨i, j, rfl, rfl⟩ | ⟨hs, q⟩
  · obtain rfl := h1; obtain rfl := h2
    exact call_min2 hc pins s σ H _ us Q I r ⟨i, j, rfl, OkV.same S hw rfl⟩
  · obtain ⟨u, w, rfl, r1, r2⟩ := vals2 r
    obtain ⟨⟨as, hr⟩, ha, hd⟩ := two_reads hK I h1 h2 r1 r2 hs
    obtain ⟨e1, e2, a1, a2, _⟩ := srtT_parts hs
    refine min_two_data (I.ok.hd hc) hr ha (by omega) fun h' tk k => ?_
    have q : OkV g ι H Q (if dlt d2 d1 then d2 else d1) μ := q
    rw [← dlt_py d2 d1 a2 (eqOk_plain e2).1 (eqOk_plain e1).1]
    cases hdl : dlt d2 d1 with
    | true => rw [hdl] at q; exact ⟨y, H, I.kept k, r2, OkV.same S q h2⟩
    | false => rw [hdl] at q; exact ⟨x, H, I.kept k, r1, OkV.same S q h1⟩
/-! ### max of a row -/
theorem flat_parts {x : D} {xs : List D} (h : flatOk (x :: xs) = true) : (∀ d ∈ x :: xs, ∃ i, d = .int i) ∨ ∀ d ∈ x :: xs, ∃ s, d = .str s ∧ D.plain d = true := by
  unfold flatOk at h
  rcases Bool.or_eq_true_iff.mp h with h | h
  · left
    intro d hd
    have := List.all_eq_true.mp h d hd
    cases d with
    | int i => exact ⟨i, rfl⟩
    | _ => cases this
  · right
    intro d hd
    have := List.all_eq_true.mp h d hd
    cases d with
    | str s => exact ⟨s, rfl, this⟩
    | _ => cases this
theorem flat_alk {x : D} {xs : List D} (h : flatOk (x :: xs) = true) : ∀ a ∈ x :: xs, ∀ b ∈ x :: xs, alk a b = true := by
  intro a ha b hb
  rcases flat_parts h with h | h
  · obtain ⟨i, rfl⟩ := h a ha; obtain ⟨j, rfl⟩ := h b hb; rfl
  · obtain ⟨i, rfl, _⟩ := h a ha; obtain ⟨j, rfl, _⟩ := h b hb; rfl
theorem flat_plain {x : D} {xs : List D} (h : flatOk (x :: xs) = true) : ∀ a ∈ x :: xs, D.plain a = true ∧ D.depth a = 0 := by
  intro a ha
  rcases flat_parts h with h | h
  · obtain ⟨i, rfl⟩ := h a ha; exact ⟨rfl, rfl⟩
  · obtain ⟨i, rfl, p⟩ := h a ha; exact ⟨p, rfl⟩
theorem maxDD_mem : ∀ (xs : List D) (x : D), maxDD x xs ∈ x :: xs
  | [], x => List.mem_cons_self
  | y :: xs, x => by
    have : maxDD x (y :: xs) = maxDD (if dlt x y then y else x) xs := rfl
    rw [this]
    have := maxDD_mem xs (if dlt x y then y else x)
    rcases List.mem_cons.mp this with h | h
    · rw [h]; split <;> simp
    · simp [h]
theorem maxDD_py : ∀ (xs : List D) (x : D), (∀ a ∈ x :: xs, ∀ b ∈ x :: xs, alk a b = true) → (∀ a ∈ x :: xs, D.plain a = true) → PySem.W.maxD (toPy x) (toPyL xs) = toPy (maxDD x xs)
  | [], x, _, _ => rfl
  | y :: xs, x, ha, hp => by
    have e : maxDD x (y :: xs) = maxDD (if dlt x y then y else x) xs := rfl
    have e2 : PySem.W.maxD (toPy x) (toPyL (y :: xs)) = PySem.W.maxD (if PySem.W.dataLt (toPy x) (toPy y) then toPy y else toPy x) (toPyL xs) := rfl
    have hx : x ∈ x :: y :: xs := List.mem_cons_self
    have hy : y ∈ x :: y :: xs := List.mem_cons_of_mem _ List.mem_cons_self
    rw [e, e2, ← dlt_py x y (ha x hx y hy) (hp x hx) (hp y hy)]
    have sub : ∀ z ∈ (if dlt x y then y else x) :: xs, z ∈ x :: y :: xs := by
      intro z hz
      rcases List.mem_cons.mp hz with h | h
      · rw [h]; split
        · exact hy
        · exact hx
      · simp [h]
    have := maxDD_py xs (if dlt x y then y else x) (fun a h1 b h2 => ha a (sub a h1) b (sub b h2)) (fun a h1 => hp a (sub a h1))
    rw [← this]
    split <;> rfl
theorem all_reads (hK : X.K = g.K) {pins : List (Addr × PySem.Obj)} {σ : L2.St} {s : Shared} {H : Hp} {ι : List Addr} (I : L2.Inv X pins σ H s) : ∀ {ds : List D} {vs : List V} {us : List Value}, (∀ d ∈ ds, D.plain d = true) → Vals vs us → RepL g ι H ds vs → ∃ as, ReadsAll s.heap us (toPyL ds) as
  | [], _, _, _, r, h => by
    rw [show _ = [] from h] at r
    cases r
    exact ⟨_, .nil⟩
  | d :: ds, _, _, hp, r, h => by
    obtain ⟨v, r', rfl, h1, h2⟩ := h
    cases r with
    | cons r1 r2 =>
      obtain ⟨as, q⟩ := Dp.reads I _ _ _ (dp_of hK _ _ (hp d List.mem_cons_self) h1) r1
      obtain ⟨bs, q2⟩ := all_reads hK I (fun d hd => hp d (List.mem_cons_of_mem _ hd)) r2 h2
      exact ⟨_, .cons q q2⟩
theorem toPyL_map : ∀ xs : List D, toPyL xs = xs.map toPy
  | [] => rfl
  | x :: xs => by rw [toPyL, toPyL_map xs]; rfl
theorem toPyL_depth : ∀ xs : List D, (∀ a ∈ xs, D.plain a = true ∧ D.depth a = 0) → PyData.depthAll (toPyL xs) = 0
  | [], _ => rfl
  | x :: xs, h => by
    have h1 := h x List.mem_cons_self
    have h2 := (py_lay x h1.1).2
    have h3 := toPyL_depth xs fun a ha => h a (List.mem_cons_of_mem _ ha)
    show max (PyData.depth (toPy x)) (PyData.depthAll (toPyL xs)) = 0
    rw [h2, h3, h1.2]
    rfl
theorem flat_val {h : Heap} {x : D} {xs : List D} (hf : flatOk (x :: xs) = true) {d : D} (hd : d ∈ x :: xs) {v : Value} {bs : List Addr} (r : Reads h v (toPy d) bs) : ∃ u : V, RelV u v ∧ ∀ ι H, Rep g ι H d u := by
  rcases flat_parts hf with h | h
  · obtain ⟨i, rfl⟩ := h d hd
    cases r with
    | int i t => exact ⟨.int i, ⟨t, rfl⟩, fun _ _ => rfl⟩
  · obtain ⟨s, rfl, _⟩ := h d hd
    cases r with
    | str x t => exact ⟨.str (S2 s), ⟨t, rfl⟩, fun _ _ => rfl⟩
theorem call_maxF (hc : X.calm = true) (hK : X.K = g.K) (hu : X.A.units + 80 < cLine) : CallR X (.builtin "max") (rBf g .max) := by
  intro pins s σ H xs us Q I r h
  obtain ⟨ι, μ, d, x, rfl, S, h1, hw⟩ := h
  have hw : wpR (match rowF d μ with
    | some (x :: xs) => if flatOk (x :: xs) then .ok (maxDD x xs) μ else .stuck
    | _ => .stuck) (OkV g ι H Q) anyE := hw
  split at hw
  · rename_i y ys e0
    split at hw
    · rename_i hf
      obtain ⟨a, vs, rfl, sq, r', _, _⟩ := rowF_at S h1 e0
      have hp := flat_plain hf
      have key : ∀ (h' : Heap) (tk : Nat) (v : Value) (bs : List Addr), Reads h' v (PySem.W.maxD (toPy y) (toPyL ys)) bs → (∀ b o, s.heap.get? b = some o → h'.get? b = some o) → EP X pins σ Q v { s with heap := h', toks := tk } := by
        intro h' tk v bs rd k
        rw [maxDD_py ys y (flat_alk hf) (fun a ha => (hp a ha).1)] at rd
        obtain ⟨u, r1, r2⟩ := flat_val (g := g) hf (maxDD_mem ys y) rd
        exact ⟨u, H, I.kept k, r1, OkV.same S hw (r2 ι H)⟩
      have al : PySem.W.AlikeAll (toPy y :: toPyL ys) := by
        have e : toPy y :: toPyL ys = (y :: ys).map toPy := by rw [List.map_cons, toPyL_map]
        rw [e]
        refine ⟨fun a ha b hb => ?_, fun a ha => ?_⟩
        · obtain ⟨a', ha', rfl⟩ := List.mem_map.mp ha
          obtain ⟨b', hb', rfl⟩ := List.mem_map.mp hb
          exact alk_py _ _ (flat_alk hf _ ha' _ hb')
        · obtain ⟨a', ha', rfl⟩ := List.mem_map.mp ha
          rcases flat_parts hf with h | h
          · obtain ⟨i, rfl⟩ := h _ ha'; simp [toPy]
          · obtain ⟨i, rfl, _⟩ := h _ ha'; simp [toPy]
      have dp : PyData.depthAll (toPy y :: toPyL ys) = 0 := toPyL_depth (y :: ys) hp
      have one : ∃ t, us = [.ref t] ∧ t = a := by
        cases r with
        | cons r1 r2 => cases r2; cases r1; exact ⟨_, rfl, rfl⟩
      obtain ⟨t, rfl, rfl⟩ := one
      rcases sq with sq | sq
      · rw [← hK] at sq
        obtain ⟨its, rv, hl, hz⟩ := I.list sq
        obtain ⟨as, hr⟩ := all_reads hK I (fun d hd => (hp d hd).1) rv r'
        exact PySem.W.max_list_data (I.ok.hd hc) hl.isList hr al (by rw [dp]; omega) fun i v h' tk bs _ rd k => key h' tk v bs rd k
      · rw [← hK] at sq
        obtain ⟨its, rv, hl, hz⟩ := I.tuple sq
        obtain ⟨as, hr⟩ := all_reads hK I (fun d hd => (hp d hd).1) rv r'
        exact PySem.W.max_tuple_data (I.ok.hd hc) hl hr al (by rw [dp]; omega) fun i v h' tk bs _ rd k => key h' tk v bs rd k
    · exact False.elim hw
  · exact False.elim hw
/-! ### tuple(text), list(text) -/
theorem vals_signs {z : Txt} {acc : Array Value} (h : PySem.ItemsOf (PySem.SignAt (S2 z)) acc (S2 z).cps.size) : Vals (z.map fun c => V.str (S2 [c])) acc.toList := by
  have e : acc.toList.length = z.length := by rw [Array.length_toList, h.1]; exact S2_len z
  refine vals_of_at (by rw [List.length_map, e]) fun j x u hx hu => ?_
  obtain ⟨c, t, hc, rfl⟩ := h.2 j u (by rw [← hu, Array.getElem?_toList])
  have hz : z[j]? = some c := by
    have := hc
    simpa [S2] using this
  rw [List.getElem?_map, hz] at hx
  cases hx
  exact ⟨t, rfl⟩
theorem repL_signs {ι : List Addr} {H : Hp} : ∀ z : Txt, RepL g ι H (z.map fun c => D.str [c]) (z.map fun c => V.str (S2 [c]))
  | [] => rfl
  | c :: z => ⟨_, _, rfl, rfl, repL_signs z⟩
theorem call_tupleS (hc : X.calm = true) : CallR X (.type "tuple") (rBf g .tupleS) := by
  intro pins s σ H xs us Q I r h
  obtain ⟨ι, μ, d, x, rfl, S, h1, hw⟩ := h
  cases d with
  | str z =>
    obtain rfl := h1
    have hw : wpR (if z.length ≤ mostLen then Res.ok (D.tup (z.map fun c => .str [c])) μ else .stuck) (OkV g ι H Q) anyE := hw
    split at hw
    · rename_i hl
      obtain ⟨u, rfl, ru⟩ := vals1 r
      obtain ⟨t, rfl⟩ := ru
      have hn : (S2 z).cps.size ≤ sizeLine := by
        have := line_most
        rw [show (S2 z).cps.size = z.length from S2_len z]; omega
      refine PySem.call_tuple_str (I.ok.hd hc) (S2 z) t (hsz := hn) fun h' tk acc hk hi => ?_
      have I1 : L2.Inv X pins σ H { s with heap := h', toks := tk } := I.kept (t' := tk) hk
      refine ⟨.ref h'.objs.size, _, I1.laid (t' := tk) (fun b o e => Heap.get?_push_of_some _ e) (Nat.le_refl _) (o := .tup (z.map fun c => V.str (S2 [c]))) ⟨?_, acc.toList, vals_signs hi, ?_⟩, rfl, OkV.tup S hw (repL_signs z) (I1.hok.fresh (Nat.le_refl _))⟩
      · rw [List.length_map]; have := line_most; omega
      · rw [Array.toArray_toList]; exact IsTup.new _ _
    · exact False.elim hw
  | _ => exact False.elim hw
theorem call_listS (hc : X.calm = true) : CallR X (.type "list") (rBf g .listS) := by
  intro pins s σ H xs us Q I r h
  obtain ⟨ι, μ, d, x, rfl, S, h1, hw⟩ := h
  cases d with
  | str z =>
    obtain rfl := h1
    have hw : wpR (if z.length ≤ mostLen then PL.new (.lst (z.map fun c => .str [c])) μ else .stuck) (OkV g ι H Q) anyE := hw
    split at hw
    · rename_i hl
      obtain ⟨u, rfl, ru⟩ := vals1 r
      obtain ⟨t, rfl⟩ := ru
      have hn : (S2 z).cps.size ≤ sizeLine := by
        have := line_most
        rw [show (S2 z).cps.size = z.length from S2_len z]; omega
      refine PySem.call_list_str (I.ok.hd hc) (S2 z) t (hn := hn) fun h' tk acc c' hk e' hi => ?_
      refine ⟨.ref s.heap.objs.size, _, I.laid (t' := tk) hk (Nat.le_refl _) (o := .lst (z.map fun c => V.str (S2 [c]))) ⟨?_, acc.toList, c', vals_signs hi, ?_⟩, rfl, OkV.lst S hw (repL_signs z) (I.hok.fresh (Nat.le_refl _))⟩
      · rw [List.length_map]; have := line_most; omega
      · rw [Array.toArray_toList]; exact e'
    · exact False.elim hw
  | _ => exact False.elim hw
/-! ### str.upper -/
theorem mt_upperF : MtR X "str.upper" (rMf g .upper) := by
  intro pins s σ H x xs v us Q I rx rs h
  obtain ⟨ι, μ, d, ds, S, h1, h2, hw⟩ := h
  cases d with
  | str z =>
    cases ds with
    | nil =>
      obtain rfl : xs = [] := h2
      obtain rfl := h1
      have hw : wpR (if z.length ≤ mostLen ∧ (z.all fun c => decide (c < 128)) = true then .ok (.str (z.map upC)) μ else .stuck) (OkV g ι H Q) anyE := hw
      split at hw
      · rename_i hl
        refine mt_upper pins s σ H _ _ v us Q I rx rs ⟨S2 z, rfl, rfl, ?_, ?_⟩
        · rw [S2_len]
          have : mostLen = 1000000 := rfl
          omega
        · have e : Txt.upper (S2 z) = S2 (z.map upC) := by
            rw [PyProof.Rows.upper_ascii (fun c hc => by
              rw [S2_cps] at hc
              exact of_decide_eq_true (List.all_eq_true.mp hl.2 c hc))]
            show (⟨(z.toArray).map PyProof.Rows.up1⟩ : PySem.Str) = ⟨(z.map upC).toArray⟩
            rw [List.map_toArray]
            rfl
          rw [e]
          exact OkV.same S hw rfl
      · exact False.elim hw
    | cons _ _ => exact False.elim hw
  | _ => exact False.elim hw
end
end PL
end
section
set_option Elab.async false
set_option linter.all false
set_option autoImplicit false
set_option maxRecDepth 100000
set_option maxHeartbeats 1000000
/-! SoundH: an error is handled, or none is: unpacking. -/
namespace PL
open PySem PySem.Spec PyProof.Rows L2 HotX L2H
/-- no error is handled, or one whose context is None -/
def Warm (A : Around) (h : Heap) : Prop := A.handled = none ∨ ∃ x1, HotX.HotAt A x1 h
section
variable {prog : Program} {w : World} {A : Around} {E : Value → Shared → Prop} {s : Shared}
theorem hotAt_in1 {x1 : Addr} {h : Heap} (q : HotX.HotAt A x1 h) : HotX.HotAt A.in1 x1 h := q
theorem hot_update {x1 it : Addr} {h : Heap} {o : PySem.Obj} {a b : Value} {f : PySem.Obj → PySem.Obj} (q : HotX.HotAt A x1 h) (ho : h.get? it = some o) (hd : o.data = .fields #[a, b]) : HotX.HotAt A x1 (h.update it f) := by
  obtain ⟨hh, o1, vs1, h1, d1, c1⟩ := q
  have hne : x1 ≠ it := by
    rintro rfl
    rw [ho] at h1
    cases h1
    rw [hd] at d1
    cases d1
    simp at c1
  exact ⟨hh, o1, vs1, by rw [Heap.get?_update_other _ _ (Ne.symm hne)]; exact h1, d1, c1⟩
theorem next_tuple_endW {it t : Addr} {i : Nat} {items} {Q : Option Value → Shared → Prop} (hw : Warm A s.heap)
    (hit : IsTupIter s.heap it t i) (ht : IsTup s.heap t items) (hx : items[i]? = none)
    (hQ : ∀ h', Heap.ExtBut it s.heap h' → Q none { s with heap := h' }) : wpAny (model prog w) A (pyNext (.ref it)) Q E s := by
  rcases hw with hh | ⟨x1, hot⟩
  · exact next_tuple_end hh hit ht hx hQ
  obtain ⟨o, ho, hc, hd⟩ := id hit
  obtain ⟨ol, hol, _, nl, hdl⟩ := ht
  have hot2 := hot_update (f := Obj.mapFields fun vs => vs.setIfInBounds 0 .none) hot ho hd
  unfold pyNext
  refine wpAny_bind (wpAny_attempt (wpAny_callSpecial?_slot (name := Str.ofString "__next__") hit.typeIs slot_tupleiter_next
    (wpAny_call_entry slot_tupleiter_next hit.typeIs entry_tupleiter_next ?_ (args_tupleiter_next _))))
  show wpAny _ _ (field (.ref it) 0 >>= _) _ _ s
  refine wpAny_bind (wpAny_field ho hd (x := .ref t) rfl ?_)
  show wpAny _ _ (if (Value.ref t == Value.none) = true then _ else _) _ _ s
  rw [if_neg (show ¬ ((Value.ref t == Value.none) = true) from Bool.false_ne_true)]
  show wpAny _ _ (field (.ref it) 1 >>= _) _ _ s
  refine wpAny_bind (wpAny_field ho hd (x := .int i 0) rfl ?_)
  show wpAny _ _ (seqItems? (.ref t) >>= _) _ _ s
  refine wpAny_bind (wpAny_seqItems hol hdl ?_)
  simp only [Int.toNat_natCast, hx]
  refine wpAny_bind (wpAny_rule (wpAny_bind (wpAny_setField ho hd (by simp) ?_)))
  show wpAny _ _ (newExc (.type "StopIteration") [] >>= _) _ _ _
  refine wpAny_bind ?_
  simp only [newExc, newTuple]
  refine wpAny_bind (wpAny_newObj_type ?_ (by size_fits))
  refine wpAny_bind (m := firstArgMember _ _) (wpAny_of_eq (a := Value.none) (by first | rfl | (simp only [firstArgMember]; rfl)) ?_)
  refine wpAny_newObj_type ?_ (by size_fits)
  obtain ⟨hh, o1, vs1, h1, d1, c1⟩ := hot2
  refine raiseNew_hot (x1 := x1) ⟨hh, o1, vs1, Heap.get?_push_of_some _ (Heap.get?_push_of_some _ h1), d1, c1⟩ (Nat.ne_of_lt (Heap.lt_size (Heap.get?_push_of_some _ h1))) (Heap.get?_push_size _ rfl) rfl (by first | (simp; done) | (simp; omega) | (simp only [Array.size_append]; simp; omega)) ?_
  refine wpAny_bind (wpAny_isInstance (T := "StopIteration") (b := true) ⟨_, Heap.get?_update_self _ (Heap.get?_push_size _ rfl) rfl, rfl⟩ isSubtype_stop ?_)
  refine wpAny_pure (hQ _ fun b o hb e => ?_)
  have k0 : (s.heap.update it (Obj.mapFields fun vs => vs.setIfInBounds 0 .none)).get? b = some o := by rw [Heap.get?_update_other _ _ (Ne.symm hb)]; exact e
  rw [Heap.get?_update_other _ _ (Nat.ne_of_gt (Heap.lt_size (Heap.get?_push_of_some _ k0)))]
  exact Heap.get?_push_of_some _ (Heap.get?_push_of_some _ k0)
theorem pyNext_list_endW {it l : Addr} {i : Nat} {items} {Q : Option Value → Shared → Prop} (hw : Warm A s.heap)
    (hit : s.heap.IsListIter it l i) (hl : s.heap.IsList l items) (hx : items[i]? = none)
    (hQ : ∀ h', Heap.ExtBut it s.heap h' → Q none { s with heap := h' }) : wpAny (model prog w) A (pyNext (.ref it)) Q E s := by
  rcases hw with hh | ⟨x1, hot⟩
  · exact wpAny_pyNext_list_end hh hit hl hx hQ
  obtain ⟨o, ho, hc, hd⟩ := id hit
  obtain ⟨ol, hol, _, nl, hdl⟩ := hl
  have hot2 := hot_update (f := Obj.mapFields fun vs => vs.setIfInBounds 0 .none) hot ho hd
  unfold pyNext
  refine wpAny_bind (wpAny_attempt (wpAny_callSpecial?_slot (name := Str.ofString "__next__") hit.typeIs slot_listiter_next
    (wpAny_call_entry slot_listiter_next hit.typeIs entry_listiter_next ?_ (args_listiter_next _))))
  show wpAny _ _ (field (.ref it) 0 >>= _) _ _ s
  refine wpAny_bind (wpAny_field ho hd (x := .ref l) rfl ?_)
  show wpAny _ _ (if (Value.ref l == Value.none) = true then _ else _) _ _ s
  rw [if_neg (show ¬ ((Value.ref l == Value.none) = true) from Bool.false_ne_true)]
  show wpAny _ _ (field (.ref it) 1 >>= _) _ _ s
  refine wpAny_bind (wpAny_field ho hd (x := .int i 0) rfl ?_)
  show wpAny _ _ (seqItems? (.ref l) >>= _) _ _ s
  refine wpAny_bind (wpAny_seqItems hol hdl ?_)
  simp only [Int.toNat_natCast, hx]
  refine wpAny_bind (wpAny_rule (wpAny_bind (wpAny_setField ho hd (by simp) ?_)))
  show wpAny _ _ (newExc (.type "StopIteration") [] >>= _) _ _ _
  refine wpAny_bind ?_
  simp only [newExc, newTuple]
  refine wpAny_bind (wpAny_newObj_type ?_ (by size_fits))
  refine wpAny_bind (m := firstArgMember _ _) (wpAny_of_eq (a := Value.none) (by first | rfl | (simp only [firstArgMember]; rfl)) ?_)
  refine wpAny_newObj_type ?_ (by size_fits)
  obtain ⟨hh, o1, vs1, h1, d1, c1⟩ := hot2
  refine raiseNew_hot (x1 := x1) ⟨hh, o1, vs1, Heap.get?_push_of_some _ (Heap.get?_push_of_some _ h1), d1, c1⟩ (Nat.ne_of_lt (Heap.lt_size (Heap.get?_push_of_some _ h1))) (Heap.get?_push_size _ rfl) rfl (by first | (simp; done) | (simp; omega) | (simp only [Array.size_append]; simp; omega)) ?_
  refine wpAny_bind (wpAny_isInstance (T := "StopIteration") (b := true) ⟨_, Heap.get?_update_self _ (Heap.get?_push_size _ rfl) rfl, rfl⟩ isSubtype_stop ?_)
  refine wpAny_pure (hQ _ fun b o hb e => ?_)
  have k0 : (s.heap.update it (Obj.mapFields fun vs => vs.setIfInBounds 0 .none)).get? b = some o := by rw [Heap.get?_update_other _ _ (Ne.symm hb)]; exact e
  rw [Heap.get?_update_other _ _ (Nat.ne_of_gt (Heap.lt_size (Heap.get?_push_of_some _ k0)))]
  exact Heap.get?_push_of_some _ (Heap.get?_push_of_some _ k0)
/-- the heap grew, but for one new place -/
theorem Warm.ext {h h' : Heap} {it : Addr} {o : PySem.Obj} {a b : Value} (q : Warm A h) (ho : h.get? it = some o) (hd : o.data = .fields #[a, b]) (e : Heap.ExtBut it h h') : Warm A h' := by
  rcases q with hh | ⟨x1, hh, o1, vs1, h1, d1, c1⟩
  · exact .inl hh
  · refine .inr ⟨x1, hh, o1, vs1, e _ _ ?_ h1, d1, c1⟩
    rintro rfl
    rw [ho] at h1
    cases h1
    rw [hd] at d1
    cases d1
    simp at c1
theorem Warm.kept {h h' : Heap} (q : Warm A h) (k : ∀ b o, h.get? b = some o → h'.get? b = some o) : Warm A h' := by
  rcases q with hh | ⟨x1, hh, o1, vs1, h1, d1, c1⟩
  · exact .inl hh
  · exact .inr ⟨x1, hh, o1, vs1, k _ _ h1, d1, c1⟩
theorem unpackItems_tupleW {t : Addr} {items : Array Value} {Q : List Value → Shared → Prop} (hw : Warm A s.heap) (ht : IsTup s.heap t items)
    (hQ : ∀ h', Heap.ExtBut s.heap.objs.size s.heap h' → Q items.toList { s with heap := h' }) : wpAny (model prog w) A (unpackItems (.ref t) items.size none) Q E s := by
  have hlt : t ≠ s.heap.objs.size := by obtain ⟨o, ho, _⟩ := ht; exact Nat.ne_of_lt (Heap.lt_size ho)
  unfold unpackItems
  refine wpAny_bind ?_
  · unfold notIterableAtAll
    refine wpAny_bind (wpAny_specialOf ht.typeIs slot_tuple_iter.lookup ?_)
    refine wpAny_pure ?_
    simp only [Bool.false_eq_true, if_false]
    refine wpAny_bind (wpAny_holding (iter_tuple ht ?_))
    refine wpAny_bind (wpAny_holding (draw_tuple hlt items.size 0 _ _ ⟨_, Heap.get?_push_size _ rfl, rfl, rfl⟩ (ht.push _) (by omega) fun h₁ hit₁ hs₁ => ?_))
    have hall : List.take items.size (List.drop 0 items.toList) = items.toList := by
      rw [List.drop_zero]; exact List.take_of_length_le (by simp)
    rw [hall]
    rw [if_neg (by simp)]
    have ht₁ : IsTup h₁ t items := (ht.push _).extBut hs₁.extBut hlt
    have hw1 : Warm A h₁ := (hw.kept fun b o e => Heap.get?_push_of_some _ e).ext (Heap.get?_push_size _ rfl) rfl hs₁.extBut
    refine wpAny_bind (wpAny_holding (next_tuple_endW hw1 hit₁ ht₁ (by simp) fun h₂ he₂ => ?_))
    simp only [Option.isSome_none, Bool.false_eq_true, if_false]
    refine wpAny_pure (hQ h₂ fun b o hb e => he₂ b o hb (hs₁.extBut b o hb (Heap.get?_push_of_some _ e)))
theorem kun_itemsOfW {l : Addr} {items : Array Value} {Q : List Value → Shared → Prop} (hw : Warm A s.heap) (hl : s.heap.IsList l items)
    (hQ : ∀ h', Heap.ExtBut s.heap.objs.size s.heap h' → Q items.toList { s with heap := h' }) : wpAny (model prog w) A (unpackItems (.ref l) items.size none) Q E s := by
  have hlt : l ≠ s.heap.objs.size := by obtain ⟨o, ho, _⟩ := hl; exact Nat.ne_of_lt (Heap.lt_size ho)
  unfold unpackItems
  refine wpAny_bind ?_
  · unfold notIterableAtAll
    refine wpAny_bind (wpAny_specialOf hl.typeIs slot_list_iter.lookup ?_)
    refine wpAny_pure ?_
    simp only [Bool.false_eq_true, if_false]
    refine wpAny_bind (wpAny_holding (wpAny_pyIter_list hl ?_))
    refine wpAny_bind (wpAny_holding (PySem.W.kun_draw hlt items.size 0 _ _ ⟨_, Heap.get?_push_size _ rfl, rfl, rfl⟩ (hl.push _) (by omega) fun h₁ hit₁ hs₁ => ?_))
    have hall : List.take items.size (List.drop 0 items.toList) = items.toList := by
      rw [List.drop_zero]; exact List.take_of_length_le (by simp)
    rw [hall]
    rw [if_neg (by simp)]
    have hl₁ : h₁.IsList l items := (hl.push _).extBut hs₁.extBut hlt
    have hw1 : Warm A h₁ := (hw.kept fun b o e => Heap.get?_push_of_some _ e).ext (Heap.get?_push_size _ rfl) rfl hs₁.extBut
    refine wpAny_bind (wpAny_holding (pyNext_list_endW hw1 hit₁ hl₁ (by simp) fun h₂ he₂ => ?_))
    simp only [Option.isSome_none, Bool.false_eq_true, if_false]
    refine wpAny_pure (hQ h₂ fun b o hb e => he₂ b o hb (hs₁.extBut b o hb (Heap.get?_push_of_some _ e)))
end
/-- the same of a context -/
def WarmC (X : Cx) : Prop := X.calm = true ∨ HotC X
theorem WarmC.at {X : Cx} {pins : List (Addr × PySem.Obj)} {σ : L2.St} {H : Hp} {s : Shared} (c : WarmC X) (I : L2.Inv X pins σ H s) : Warm X.A s.heap := by
  rcases c with c | c
  · exact .inl (I.ok.hd c)
  · exact .inr (c.at I)
section
variable {X : Cx} {pos : Pos}
theorem pg_tupW {es : List Expr} {k : Nat} {t : TGs} {n : Nat} (hc : WarmC X) (h : PGs X es t)
    (hn : (assignEach es X.env).length = n := by rfl) (hst : (assignEach es X.env).findIdx? (·.1) = none := by rfl) : PG X (.Tuple es k pos) (gTup X.K n t) := by
  refine ⟨fun pins s σ H v u Q I r hw => ?_⟩
  obtain ⟨a, xs, e1, hq, hl, hw⟩ := hw
  subst e1
  cases r
  obtain ⟨its, rv, ht, hz⟩ := I.tuple hq
  rw [PyProof.Rows.assign_Tuple]
  refine wpAny_bind (wpAny_standAt ?_)
  unfold unpack
  rw [show (assignEach es X.env).length = its.toArray.size from hn.trans (hl.symm.trans (rv.length.trans (by simp))), hst]
  refine wpAny_bind (wpAny_holding (unpackItems_tupleW (hc.at I) ht fun h' hx => ?_))
  have I1 : Inv X pins σ H { s with heap := h' } := I.kept (t' := s.toks) fun b o e => hx b o (Nat.ne_of_lt (Heap.lt_size e)) e
  exact h.run pins _ σ H xs _ Q I1 (by simpa using rv) hw
theorem pg_unlW {es : List Expr} {k : Nat} {t : TGs} {n : Nat} (hc : WarmC X) (h : PGs X es t)
    (hn : (assignEach es X.env).length = n := by rfl) (hst : (assignEach es X.env).findIdx? (·.1) = none := by rfl) : PG X (.Tuple es k pos) (gUnl X.K n t) := by
  refine ⟨fun pins s σ H v u Q I r hw => ?_⟩
  obtain ⟨a, xs, e1, hq, hl, hw⟩ := hw
  subst e1
  cases r
  obtain ⟨its, rv, pl, hz⟩ := I.list hq
  have hl' : s.heap.IsList a its.toArray := by
    obtain ⟨o, m, e, c, d, q⟩ := pl
    exact ⟨o, e, c, m, q⟩
  have hn' : (assignEach es X.env).length = its.toArray.size := hn.trans (hl.symm.trans (rv.length.trans (by simp)))
  rw [PyProof.Rows.assign_Tuple]
  refine wpAny_bind (wpAny_standAt ?_)
  unfold unpack
  rw [hn', hst]
  refine wpAny_bind (wpAny_holding (kun_itemsOfW (hc.at I) hl' fun h' hx => ?_))
  have I1 : Inv X pins σ H { s with heap := h' } := I.kept (t' := s.toks) fun b o e => hx b o (Nat.ne_of_lt (Heap.lt_size e)) e
  exact h.run pins _ σ H xs _ Q I1 (by simpa using rv) hw
end
/-! ### calls by names -/
/-- each parameter by its name: the names as the call gives them, and each parameter's place among them -/
def NBinds (fd : FuncData) (ps ks : List PySem.Str) (pm : List Nat) : Prop :=
  ∀ us : List Value, us.length = ks.length → bindArgs fd ⟨[], ks.zip us⟩ = pure (ps.zip (pm.map fun i => us.getD i .none))
section
variable {X : Cx} {CX : CXT} {k : Nat} {f : Addr} {fd : FuncData} {ps ks : List PySem.Str} {pm : List Nat} {sp : Sp} {E : L2.St → XK} {x : PySem.Str} {p pos : Pos} {kws : List Keyword} {tk : TA}
theorem vals_getD {vs : List V} {us : List Value} (r : Vals vs us) : ∀ i, RelV (vs.getD i .non) (us.getD i .none) := by
  induction r with
  | nil => exact fun i => rfl
  | cons h _ ih =>
    intro i
    cases i with
    | zero => exact h
    | succ i => simpa using ih i
theorem vals_perm {vs : List V} {us : List Value} (r : Vals vs us) : ∀ pm : List Nat, Vals (pm.map fun i => vs.getD i .non) (pm.map fun i => us.getD i .none)
  | [] => .nil
  | i :: pm => .cons (vals_getD r i) (vals_perm r pm)
def tCallN (sp : Sp) (pm : List Nat) (n : Nat) (E : L2.St → XK) (t : TA) : TE := fun σ H Q => t σ H fun vs H1 => vs.length = n ∧ sp (pm.map fun i => vs.getD i .non) H1 Q (E σ)
theorem run_fnKw {pins : List (Addr × PySem.Obj)} {σ : L2.St} {H : Hp} {s : Shared} {Q : VK} {us : List Value} {vs : List V} (F : FnOk X.prog X.w X.K X.mg X.base CX k f fd ps sp) (hr : Room k X.A) (hb : NBinds fd ps ks pm) (hx : PassesAt CX X σ (E σ))
    (I : L2.Inv X pins σ H s) (r : Vals vs us) (hl : vs.length = ks.length) (h : sp (pm.map fun i => vs.getD i .non) H Q (E σ)) : wpAny (model X.prog X.w) X.A (call (.ref f) [] (ks.zip us)) (EP X pins σ Q) X.xe s := by
  refine wpAny_call (codeAny_mono (F.run X.A X.stack s H ⟨[], ks.zip us⟩ _ _ Q (E σ) hr I.env0 (.of_eq (hb us (by rw [← r.length]; exact hl))) (vals_perm r pm) h) fun r s' hq => ?_)
  cases r with
  | error e => exact hx pins H s e s' I hq
  | ok fl =>
    cases fl with
    | ret u => exact I.after hq
    | next => exact False.elim hq
    | brk => exact False.elim hq
    | cont => exact False.elim hq
theorem pe_callKw (F : FnOk X.prog X.w X.K X.mg X.base CX k f fd ps sp) (hr : Room k X.A) (hg : Gl X x) (hm : X.mg x = some (.ref f)) (hk : PySem.W.keepIn X.K (.ref f) = true) (hb : NBinds fd ps ks pm) (hx : ∀ σ, PassesAt CX X σ (E σ))
    (hkw : PK X kws tk) (hdb : (x == ("__debug__" : PySem.Str)) = false) (hall : (backToKw pos (keywordEach kws X.env)).all (·.1.isSome) = true) (hks : (backToKw pos (keywordEach kws X.env)).filterMap (·.1) = ks)
    (hpl : ((backTo pos (starEach [] X.env)).any (·.1) || (backToKw pos (keywordEach kws X.env)).any (·.1.isNone)) = false) :
    PE X (.Call (.Name x p) [] kws pos) (tCallN sp pm ks.length E tk) := by
  refine ⟨fun pins s σ H Q I h => ?_⟩
  refine wpAny_Call_Name_kw (ld_glob I hg hm ?_ hdb)
  refine PySem.W.callWith_KW0 (h₀ := X.base) I.ok.mod.kin hk hall (thn (hkw.run pos pins s σ H _ I h) fun ws s2 ⟨zs, H2, I2, rz, hl, q2⟩ => ⟨I2.kIn, ?_⟩) hpl
  rw [hks]
  exact run_fnKw (E := E) F hr hb (hx σ) I2 rz hl q2
theorem kw_names {kws : List Keyword} {env : PySem.Env} {pos : Pos} {ks : List PySem.Str} (h : kws.map Keyword.arg = ks.map some) : (backToKw pos (keywordEach kws env)).all (·.1.isSome) = true ∧ (backToKw pos (keywordEach kws env)).filterMap (·.1) = ks ∧ (backToKw pos (keywordEach kws env)).any (·.1.isNone) = false := by
  induction kws generalizing ks with
  | nil =>
    cases ks with
    | nil => exact ⟨rfl, rfl, rfl⟩
    | cons _ _ => simp at h
  | cons k kws ih =>
    cases ks with
    | nil => simp at h
    | cons y ks =>
      obtain ⟨nm, e, p⟩ := k
      simp only [List.map_cons, List.cons.injEq] at h
      obtain ⟨h1, h2⟩ := h
      obtain rfl : nm = some y := h1
      obtain ⟨i1, i2, i3⟩ := ih h2
      refine ⟨?_, ?_, ?_⟩
      · show (true && _) = true
        rw [Bool.true_and]; exact i1
      · show y :: (backToKw pos (keywordEach kws env)).filterMap (·.1) = _
        rw [i2]
      · show (false || _) = false
        rw [Bool.false_or]; exact i3
end
end PL
end
section
set_option Elab.async false
set_option linter.all false
set_option autoImplicit false
set_option maxRecDepth 100000
set_option maxHeartbeats 1000000
/-! SoundV: x[::-1] of lists, tuples, texts. -/
namespace PL
open PySem PySem.Spec PyProof.Rows L2
section
variable {prog : Program} {w : World} {A : Around} {E : Value → Shared → Prop} {s : Shared}
theorem adjust_rev (n : Nat) : Builtin.Slice.sliceAdjust none none (-1) (n : Int) = ((n : Int) - 1, -1) := by
  unfold Builtin.Slice.sliceAdjust
  have h1 : (-1 : Int) < 0 := by decide
  simp only [h1, if_true]
theorem places_rev (n : Nat) : Builtin.Slice.slicePlaces ((n : Int) - 1) (-1) (-1) = n := by
  unfold Builtin.Slice.slicePlaces
  have h1 : ¬ (-1 : Int) > 0 := by decide
  simp only [h1, if_false]
  by_cases h : (n : Int) - 1 > -1
  · rw [if_pos h, show (- -1 : Int) = 1 by decide, Int.ediv_one]; omega
  · rw [if_neg h]; omega
theorem sliceApplied_rev {sl : Addr} {vl vu vk : Value} {n : Nat} {Q : Int × Int × Nat → Shared → Prop} (hs : s.heap.IsSliceOf sl vl vu vk) (pl : IsPart vl none) (pu : IsPart vu none) (pk : IsPart vk (some (-1)))
    (h : Q ((n : Int) - 1, -1, n) s) : wpAny (model prog w) A (Builtin.Slice.sliceApplied (.ref sl) (pure (n : Int))) Q E s := by
  obtain ⟨os, hos, hcs, hds⟩ := id hs
  unfold Builtin.Slice.sliceApplied Builtin.Slice.sliceFields
  refine wpAny_bind (wpAny_bind (wpAny_field hos hds (x := vl) rfl (wpAny_bind (wpAny_field hos hds (x := vu) rfl (wpAny_bind (wpAny_field hos hds (x := vk) rfl (wpAny_pure ?_)))))))
  refine wpAny_bind (HT.slicePart_ pk ?_)
  show wpAny _ _ (if ((-1 : Int) == 0) = true then _ else _) _ _ s
  rw [if_neg (by decide)]
  refine wpAny_bind (HT.slicePart_ pl (wpAny_bind (HT.slicePart_ pu (wpAny_bind (wpAny_pure ?_)))))
  show wpAny _ _ (match Builtin.Slice.sliceAdjust none none (-1) (n : Int) with | (lo, hi) => pure (lo, (-1 : Int), Builtin.Slice.slicePlaces lo hi (-1))) _ _ s
  rw [adjust_rev n]
  show wpAny _ _ (pure ((n : Int) - 1, (-1 : Int), Builtin.Slice.slicePlaces ((n : Int) - 1) (-1) (-1))) _ _ s
  rw [places_rev]
  exact wpAny_pure h
theorem pick_rev (xs : Array Value) : ((List.range xs.size).filterMap fun (m : Nat) => xs[((xs.size : Int) - 1 + (m : Int) * -1).toNat]?).toArray = xs.toList.reverse.toArray := by
  have e : ((List.range xs.size).filterMap fun (m : Nat) => xs[((xs.size : Int) - 1 + (m : Int) * -1).toNat]?) = ((List.range xs.size).map fun k => xs.size - 1 - k).filterMap (xs[·]?) := by
    rw [List.filterMap_map]
    have : ∀ l : List Nat, (∀ k ∈ l, k < xs.size) → l.filterMap (fun (m : Nat) => xs[((xs.size : Int) - 1 + (m : Int) * -1).toNat]?) = l.filterMap ((xs[·]?) ∘ fun k => xs.size - 1 - k) := by
      intro l
      induction l with
      | nil => intro _; rfl
      | cons k l ih =>
        intro h
        have hk := h k List.mem_cons_self
        have e : ((xs.size : Int) - 1 + (k : Int) * -1).toNat = xs.size - 1 - k := by omega
        rw [List.filterMap_cons, List.filterMap_cons, ih fun j hj => h j (List.mem_cons_of_mem _ hj), e]
        rfl
    exact this _ fun k hk => List.mem_range.mp hk
  rw [e, PySem.W.krv_range, List.filterMap_reverse, PySem.W.krv_all]
theorem getItem_tuple_rev {t sl : Addr} {items : Array Value} {vl vu vk : Value} {Q : Value → Shared → Prop} (ht : IsTup s.heap t items) (hs : s.heap.IsSliceOf sl vl vu vk) (pl : IsPart vl none) (pu : IsPart vu none) (pk : IsPart vk (some (-1)))
    (h : Q (.ref s.heap.objs.size) { s with heap := s.heap.push { cls := .type "tuple", data := .seq items.toList.reverse.toArray } })
    (hsz : items.size ≤ sizeLine) : wpAny (model prog w) A (getItem (.ref t) (.ref sl)) Q E s := by
  have htake : sizeOk (.seq items.toList.reverse.toArray) := by
    show items.toList.reverse.toArray.size ≤ sizeLine
    rw [List.size_toArray, List.length_reverse, Array.length_toList]
    omega
  obtain ⟨os, hos, hcs, hds⟩ := id hs
  have hTs : s.TypeIs (.ref sl) "slice" := ⟨os, hos, hcs⟩
  unfold getItem
  try with_reducible refine wpAny_holding ?_
  first | refine wpAny_bind (wpAny_pure ?_) | skip
  refine wpAny_bind (wpAny_sequenceKey ht.typeIs (by decide) ?_)
  refine wpAny_bind (wpAny_callSpecial?_slot (name := Str.ofString "__getitem__") ht.typeIs PyProof.Rows.slot_tuple_getitem
    (wpAny_call_entry PyProof.Rows.slot_tuple_getitem ht.typeIs entry_tuple_getitem ?_ (args_tuple_getitem _ _)))
  show wpAny _ _ (Builtin.Tuple.tupleItemsOf (.ref t) >>= _) _ _ s
  refine wpAny_bind (tupleItemsOf_ ht ?_)
  refine wpAny_bind (wpAny_typeOf hTs ?_)
  rw [if_pos (by decide)]
  refine wpAny_bind (sliceApplied_rev hs pl pu pk ?_)
  have hno : ¬ ((((items.size : Int) - 1) == 0 && (-1 : Int) == 1 && items.size == items.size) = true) := by
    intro q
    rw [Bool.and_eq_true, Bool.and_eq_true] at q
    exact absurd q.1.2 (by decide)
  show wpAny _ _ (if (((items.size : Int) - 1) == 0 && (-1 : Int) == 1 && items.size == items.size) = true then _ else _) _ _ s
  rw [if_neg hno, pick_rev]
  first
    | exact wpAny_bind (m := Builtin.Tuple.tupleExact _) (wpAny_newObj_type (wpAny_pure ⟨_, rfl, wpAny_pure h⟩) htake)
    | exact wpAny_bind (m := Builtin.Tuple.tupleExact _) (wpAny_newObj_type (wpAny_bind (wpAny_pure (wpAny_pure ⟨_, rfl, wpAny_pure h⟩))) htake)
    | exact wpAny_bind (wpAny_bind (m := Builtin.Tuple.tupleExact _) (wpAny_newObj_type (wpAny_pure (wpAny_pure ⟨_, rfl, wpAny_pure h⟩)) htake))
    | exact wpAny_bind (wpAny_bind (m := Builtin.Tuple.tupleExact _) (wpAny_newObj_type (wpAny_pure ⟨_, rfl, wpAny_pure h⟩) htake))
theorem picked_rev (x : PySem.Str) : (Builtin.Str.strSliceIndices none none (-1) x.length).filterMap (x.cps[·]?) = x.cps.toList.reverse := by
  have e : Builtin.Str.strSliceIndices none none (-1) x.length = sliceRange ((x.length : Int) - 1) (-1) (-1) := rfl
  rw [e, PySem.W.krv_sliceRange, PySem.W.krv_range, List.filterMap_reverse]
  have := PySem.W.krv_all x.cps
  rw [show x.length = x.cps.size from rfl, this]
end
section
variable {X : Cx}
def rRv (K : PySem.W.Frag) (x : V) (H : Hp) (Q : VK) : Prop :=
  (∃ a xs, x = .ref a ∧ SqL K H a xs ∧ ∀ p, H p = none → Q (.ref p) (upd H p (.lst xs.reverse))) ∨
  (∃ a xs, x = .ref a ∧ SqT K H a xs ∧ ∀ p, H p = none → Q (.ref p) (upd H p (.tup xs.reverse))) ∨
  ∃ z : Txt, x = .str (S2 z) ∧ z.length ≤ mostLen ∧ Q (.str (S2 z.reverse)) H
def tRv (K : PySem.W.Frag) (te : TE) : TE := fun σ H Q => te σ H fun x H1 => rRv K x H1 Q
theorem pe_rv {e : Expr} {te : TE} {k : Nat} {p1 p2 p3 pos : Pos} (he : PE X e te) : PE X (.Subscript e (.Slice none none (some (.UnaryOp .USub (.Constant (.int 1) k p1) p2)) p3) pos) (tRv X.K te) := by
  refine ⟨fun pins s σ H Q I h => ?_⟩
  refine Subscript_ (thn (he.run pins s σ H _ I h) fun v s1 ⟨x, H1, I1, r1, q1⟩ => ?_)
  have hst : PO X (some (.UnaryOp .USub (.Constant (.int 1) k p1) p2)) (tPart (tUn (rU fun i => .int (-i)) (tC (.int 1)))) := po_some (pe_un un_neg pe_int)
  refine wpAny_Slice (thn (po_none.run pins s1 σ H1 (fun o H2 => o = none ∧ H2 = H1) I1 ⟨rfl, rfl⟩) fun vl s2 ⟨l, H2, I2, pl, el, e2⟩ => ?_)
  subst el e2
  refine thn (po_none.run pins s2 σ H2 (fun o H3 => o = none ∧ H3 = H2) I2 ⟨rfl, rfl⟩) fun vu s3 ⟨u, H3, I3, pu, eu, e3⟩ => ?_
  subst eu e3
  refine thn (hst.run pins s3 σ H3 (fun o H4 => o = some (-1) ∧ H4 = H3) I3 ⟨1, rfl, -1, rfl, rfl, rfl⟩) fun vs s4 ⟨o, H4, I4, ps, eo, e4⟩ => ?_
  subst eo e4
  have I5 : L2.Inv X pins σ H4 { s4 with heap := s4.heap.push { cls := .type "slice", data := .fields #[vl, vu, vs] } } := I4.kept (t' := s4.toks) fun b ob q => Heap.get?_push_of_some _ q
  rcases q1 with ⟨a, xs, ex, hx, q⟩ | ⟨a, xs, ex, hx, q⟩ | ⟨z, ex, hz, q⟩
  · subst ex
    cases r1
    obtain ⟨its, r, ht, hz⟩ := I5.list hx
    have hlen := r.length
    show wpAny (model X.prog X.w) X.A (subscriptTail e (.Slice none none (some (.UnaryOp .USub (.Constant (.int 1) k p1) p2)) p3) (.ref a) (.ref s4.heap.objs.size)) (EP X pins σ Q) X.xe { s4 with heap := s4.heap.push { cls := .type "slice", data := .fields #[vl, vu, vs] } }
    refine tail_any (ops := [.ref a, .ref s4.heap.objs.size]) ht.isList.typeIs (PySem.slot_list_getitem.lookup) ?_ (by with_unfolding_all rfl)
    refine wpAny_getItem_list_slice ht.isList (Heap.IsSliceOf.new _ vl vu vs) pl pu ps (by decide) ?_ (by rw [List.size_toArray]; omega)
    rw [PySem.W.krv_pick]
    refine ⟨.ref _, _, I5.laid (t' := s4.toks) (o := .lst xs.reverse) (fun b ob q => Heap.get?_push_of_some _ q) (Nat.le_refl _) ?_, rfl, q _ (I5.hok.fresh (Nat.le_refl _))⟩
    exact ⟨by rw [List.length_reverse]; exact hz, _, 0, r.reverse, Heap.get?_push_size _ rfl⟩
  · subst ex
    cases r1
    obtain ⟨its, r, ht, hz⟩ := I5.tuple hx
    have hlen := r.length
    show wpAny (model X.prog X.w) X.A (subscriptTail e (.Slice none none (some (.UnaryOp .USub (.Constant (.int 1) k p1) p2)) p3) (.ref a) (.ref s4.heap.objs.size)) (EP X pins σ Q) X.xe { s4 with heap := s4.heap.push { cls := .type "slice", data := .fields #[vl, vu, vs] } }
    refine tail_any (ops := [.ref a, .ref s4.heap.objs.size]) ht.typeIs (PyProof.Rows.slot_tuple_getitem.lookup) ?_ (by with_unfolding_all rfl)
    refine getItem_tuple_rev ht (Heap.IsSliceOf.new _ vl vu vs) pl pu ps ?_ (by rw [List.size_toArray]; omega)
    refine ⟨.ref _, _, I5.laid (t' := s4.toks) (o := .tup xs.reverse) (fun b ob q => Heap.get?_push_of_some _ q) (Nat.le_refl _) ?_, rfl, q _ (I5.hok.fresh (Nat.le_refl _))⟩
    refine ⟨by rw [List.length_reverse]; exact hz, _, r.reverse, ?_⟩
    exact IsTup.new _ _
  · subst ex
    obtain ⟨t, rfl⟩ := r1
    obtain ⟨l0, e1, e2⟩ := IsPart.raw pl
    obtain ⟨u0, e3, e4⟩ := IsPart.raw pu
    obtain ⟨k0, e5, e6⟩ := IsPart.raw ps
    show wpAny (model X.prog X.w) X.A (subscriptTail e (.Slice none none (some (.UnaryOp .USub (.Constant (.int 1) k p1) p2)) p3) (.str (S2 z) t) (.ref s4.heap.objs.size)) (EP X pins σ Q) X.xe { s4 with heap := s4.heap.push { cls := .type "slice", data := .fields #[vl, vu, vs] } }
    refine tail_any (ops := [.str (S2 z) t, .ref s4.heap.objs.size]) (typeIs_str _ _ _) (PySem.F.slot_str_getitem.lookup) ?_ (by with_unfolding_all rfl)
    refine wpAny_getItem_str_slice (l := l0) (u := u0) (st := k0) ⟨_, Heap.get?_push_size _ rfl, rfl, by rw [e1, e3, e5]⟩ (by rw [e6]; rfl) ?_
    unfold sliceMade slicePicked
    rw [e2, e4, e6]
    show Made.post (if ((-1 : Int) == 1 && (Builtin.Str.strSliceIndices none none (-1) (S2 z).length).length == (S2 z).length) = true then Made.val (.str (S2 z) t)
      else Made.str ⟨((Builtin.Str.strSliceIndices none none (-1) (S2 z).length).filterMap ((S2 z).cps[·]?)).toArray⟩) (EP X pins σ Q) _
    rw [if_neg (by simp), picked_rev, S2_cps]
    refine ⟨?_, .str _, H4, I5.tok _, ⟨_, rfl⟩, q⟩
    show (S2 z.reverse).length ≤ sizeLine
    rw [S2_len, List.length_reverse]
    have := line_most
    omega
end
end PL
end
section
set_option Elab.async false
set_option linter.all false
set_option autoImplicit false
set_option maxRecDepth 100000
set_option maxHeartbeats 2000000
/-! TryR: a try with several clauses, some of them with a name. -/
namespace PL
open PySem PySem.Spec PyProof.Rows L2
theorem takesN_none {X : Cx} : L2N.Takes X (fun _ _ _ _ => False) := fun _ _ ⟨_, _, _, _, _, _, _, _, _, _, _, _, _, _, _, _, w⟩ => w.elim
/-- C(e, ..) of an own class of errors, where nothing is handled: its context is None -/
theorem pmk_oexN {X : Cx} {CX : CXT} {x : PySem.Str} {C fI : Addr} {k : Nat} {fd : FuncData} {ps : List PySem.Str} {sp : Sp} {e : Expr} {es : List Expr} {ta : TA} {p pos : Pos} (T : OexC X.K C) (iC : PySem.W.findIn X.K (.ref C) "__init__" = some (some (.ref fI))) (tI : PySem.W.typeIn X.K (.ref fI) = some (.type "function"))
    (F1 : FnOk X.prog X.w X.K X.mg X.base CX k fI fd ps sp) (hr : Room (k + 1) X.A) (hb : Binds X.K fd ps []) (hx : Passes CX X (fun _ _ _ => False)) (hg : Gl X x) (hm : X.mg x = some (.ref C)) (ha : PA X (e :: es) ta)
    (hdb : (x == ("__debug__" : PySem.Str)) = false := by decide) (he : starEach (e :: es) X.env = (false, eval e X.env) :: starEach es X.env := by rfl) (hpl : (backTo pos (starEach es X.env)).any (·.1) = false := by rfl) :
    L2N.PMk X (.Call (.Name x p) (e :: es) [] pos) (tMkO C sp [] ta) := by
  intro pins s σ H Q I h
  obtain ⟨nm, q, N, bs, bm, sn, sub, ab, col, dd, k0, k1, k2, k3, k5, hC, hbm⟩ := T.cls
  refine wpAny_Call_Name_kw (ld_glob I hg hm ?_ hdb)
  refine PySem.W.callWith_K (h₀ := X.base) I.ok.mod.kin T.kC (thn (ha.run pos pins s σ H _ I h) fun us s1 ⟨vs, H1, I1, r1, hz, q1⟩ => ⟨I1.kIn, ?_⟩) he hpl
  show wpAny _ _ (call (.ref C) us) _ _ _
  obtain ⟨hp, g, dr, tk, os⟩ := s1
  have hsz : hp.objs.size ≤ hp.objs.size + 1 := Nat.le_succ _
  have hn : H1 (hp.objs.size + 1) = none := I1.hok.fresh hsz
  have hq := q1 (hp.objs.size + 1) hn
  rw [List.append_nil] at hq
  have kk : ∀ b o, hp.get? b = some o → ((hp.push (PySem.W.kdv_tup us)).push (PySem.HandSPX.excO C hp.objs.size)).get? b = some o := fun b o e => Heap.get?_push_of_some _ (Heap.get?_push_of_some _ e)
  have hget : ((hp.push (PySem.W.kdv_tup us)).push (PySem.HandSPX.excO C hp.objs.size)).get? (hp.objs.size + 1) = some (PySem.HandSPX.excO C hp.objs.size) := by heap_get
  have I2 : Inv X pins σ (upd H1 (hp.objs.size + 1) (exo (hp.objs.size + 1) C none)) ⟨(hp.push (PySem.W.kdv_tup us)).push (PySem.HandSPX.excO C hp.objs.size), g, dr, tk, os⟩ :=
    I1.laid (t' := tk) (a := hp.objs.size + 1) (o := exo (hp.objs.size + 1) C none) (h' := (hp.push (PySem.W.kdv_tup us)).push (PySem.HandSPX.excO C hp.objs.size)) kk hsz (exo_ok hget)
  have r2 : Vals (V.ref (hp.objs.size + 1) :: vs) (Value.ref (hp.objs.size + 1) :: us) := .cons rfl r1
  have hl : (Value.ref (hp.objs.size + 1) :: us ++ []).length = ps.length := by
    have e := r2.length
    rw [F1.len _ _ _ _ hq] at e
    rw [List.append_nil]
    exact e.symm
  have hus : us.length ≤ sizeLine := by
    rw [← Paired.length r1, sizeLine_eq]
    omega
  have b2 := hb _ (Value.ref (hp.objs.size + 1) :: us) I2.kIn hl
  rw [List.append_nil] at b2
  refine wpAny_call (PySem.HandSPX.call_own F.excBase_ValueError (fun Y => PySem.HandSPX.refsVE_contains Y bm hbm) (I1.kIn _ _ hC) (PySem.W.looks_findIn I1.kIn iC) (fun self => PySem.W.bind_fn I1.kIn self tI) hus
    (codeAny_mono (F1.run _ X.stack _ _ ⟨Value.ref (hp.objs.size + 1) :: us, []⟩ (Value.ref (hp.objs.size + 1) :: us) _ _ (fun _ _ _ => False) (hr.make C us []) (I2.env0.make C us []) b2 r2 hq) fun r s' hq' => ?_))
  cases r with
  | error er => exact hx pins σ _ _ er s' I2 hq'
  | ok fl =>
    cases fl with
    | ret u =>
      obtain ⟨v, H2, os2, bare2, un2, hok2, rv, ev, d, fs, ea, ed, hd1, q2⟩ := hq'
      subst ev
      obtain ⟨h2, g2, d2, t2, os'⟩ := s'
      obtain ⟨t0, G, J, kG, ge, hoe, na⟩ := mk_end0 (d2 := d2) (t2 := t2) I1 hsz kk un2 hok2 os2 bare2 ea ed hd1
      refine ⟨rv, ⟨hp.objs.size + 1, _, _, ⟨G, g2, d2, t2, os'⟩, _, .ref C, some d, rfl, J, kG, ge, hoe, ⟨rfl, rfl, fun vs hv => ?_⟩, rfl, rfl, na, rfl, bare2, raises_own T.exC T.tyC, q2⟩⟩
      cases hv
      rfl
    | next => exact False.elim hq'
    | brk => exact False.elim hq'
    | cont => exact False.elim hq'
/-- one clause: its class, its name's slot, its suite -/
structure Cl where
  c : Value
  o : Option Nat
  ts : Addr → Value → Option Addr → TS
def goneD (i : Nat) (D : Ends) : Ends where
  nx := fun σ H => D.nx (σ.set i none) H
  rt := D.rt
  bk := fun σ H => D.bk (σ.set i none) H
  ct := fun σ H => D.ct (σ.set i none) H
def Cl.go (q : Cl) (cls : Value) (d : Option Addr) (D : Ends) (σ : L2.St) (H : Hp) : Prop := ∀ a, H a = none → match q.o with
  | none => q.ts a cls d D σ H
  | some i => q.ts a cls d (goneD i D) (σ.set i (some (.ref a))) H
def wCl (K : PySem.W.Frag) (Wo : WX) (D : Ends) : List Cl → WX
  | [] => Wo
  | q :: r => fun cls d σ H => (PySem.W.exmOne K cls q.c = some true ∧ q.go cls d D σ H) ∨ (PySem.W.exmOne K cls q.c = some false ∧ wCl K Wo D r cls d σ H)
/-- a clause's suite holds -/
def SuiteOk (X : Cx) (l : List Stmt) (ts : Addr → Value → Option Addr → TS) : Prop :=
  ∀ (a : Addr) (oe : PySem.Obj) (cls : Value) (d : Option Addr) (pn : List (Addr × PySem.Obj)), L2N.Zn cls d oe → (∃ vs, oe.data = .fields vs) → PSs (X.suite a ((a, oe) :: pn)) l (ts a cls d)
inductive ClOk (X : Cx) : ExceptHandler → Cl → Prop
  | bare {x : PySem.Str} {q : Cl} {b : Stmt} {l : List Stmt} {p p' : Pos} : Names X x q.c → q.o = none → SuiteOk X (b :: l) q.ts → ClOk X (.ExceptHandler (some (.Name x p)) none (b :: l) p') q
  | named {x n : PySem.Str} {i : Nat} {q : Cl} {b : Stmt} {l : List Stmt} {p p' : Pos} : Names X x q.c → q.o = some i → X.N[i]? = some n → X.env.kindOf n = some .local → SuiteOk X (b :: l) q.ts → ClOk X (.ExceptHandler (some (.Name x p)) (some n) (b :: l) p') q
inductive ClsOk (X : Cx) : List ExceptHandler → List Cl → Prop
  | nil : ClsOk X [] []
  | cons {h : ExceptHandler} {q : Cl} {hs : List ExceptHandler} {qs : List Cl} : ClOk X h q → ClsOk X hs qs → ClsOk X (h :: hs) (q :: qs)
/-- what is caught, on its way -/
structure Held (X : Cx) (pins : List (Addr × PySem.Obj)) (a : Addr) (B : Heap) (sI s' : Shared) (σ : L2.St) (H : Hp) (cls : Value) (d : Option Addr) (h3 : Heap) : Prop where
  J : Inv X pins σ H sI
  nb : ∀ b o, sI.heap.get? b = some o → b ∉ frs X.stack → B.get? b = some o
  up : sI.heap.UpToSlots h3
  na : H a = none
  os : s'.os = sI.os
  ag : AllBare s'.gens
  nL : a ≠ X.env.locals
  nF : a ∉ X.fs
  fl : HandSPX.FlyingZ B (X.env :: X.outer) a (L2N.Zn cls d) h3
section
variable {X : Cx} {pins : List (Addr × PySem.Obj)} {a : Addr} {B : Heap} {sI s' : Shared} {σ : L2.St} {H : Hp} {cls : Value} {d : Option Addr} {h3 : Heap} {Wo : WX} {D : Ends}
theorem suite_end {a : Addr} {oe : PySem.Obj} {f : PySem.Flow} {s6 : Shared} {pn : List (Addr × PySem.Obj)} (ok : X.Ok) (z : SP (X.suite a ((a, oe) :: (X.pn ++ pins))) [] D f s6) : SP X pins D f s6 := by
  cases f with
  | ret u => exact let ⟨v, σ6, H6, S6, r6, q⟩ := z; ⟨v, σ6, H6, Inv.unsuite S6 ok, r6, q⟩
  | next => exact let ⟨σ6, H6, S6, q⟩ := z; ⟨σ6, H6, Inv.unsuite S6 ok, q⟩
  | brk => exact let ⟨σ6, H6, S6, q⟩ := z; ⟨σ6, H6, Inv.unsuite S6 ok, q⟩
  | cont => exact let ⟨σ6, H6, S6, q⟩ := z; ⟨σ6, H6, Inv.unsuite S6 ok, q⟩
theorem Held.next (L : Held X pins a B sI s' σ H cls d h3) (hf : X.env.frame = some X.env.locals) (hs : X.stack = X.env :: X.outer) (hN : X.N.Nodup) (tk : L2N.Takes X Wo) : ∀ {hds : List ExceptHandler} {l : List Cl}, ClsOk X hds l → wCl X.K Wo D l cls d σ H →
    wpAny (model X.prog X.w) X.A (handleBy (.ref a) X.env hds) (SP X pins D) X.xe { s' with heap := h3 } := by
  intro hds l hk
  have J3 : Inv X pins σ H { s' with heap := h3 } := L.J.landed L.nb L.fl.1 L.up L.os L.ag
  obtain ⟨o3, v3, g3, z3, d3⟩ := L.fl.there
  have S3 := J3.suite g3 d3 L.na L.nL L.nF
  have ok := L.J.ok
  have look : PySem.W.Looks (model X.prog X.w) h3 (typeOf (.ref a)) cls := fun A' Q' E' s'' k' q' => wpAny_typeOf_ref (k' _ _ g3) (by rw [z3.1]; exact q')
  have name : ∀ {x : PySem.Str} {p : Pos} {c : Value} {Q : Value → Shared → Prop} {E : Value → Shared → Prop}, Names X x c → Q c { s' with heap := h3 } →
      wpAny (model X.prog X.w) (X.A.mark (some (.ref a))) (eval (.Name x p) X.env) Q E { s' with heap := h3 } := by
    intro x p c Q E hc q
    rcases hc with ⟨hg, hd, hm | ⟨hm, hv, hn⟩⟩
    · exact ld_glob (X := X.suite a ((a, o3) :: (X.pn ++ pins))) S3 hg hm q hd
    · exact ld_blt (X := X.suite a ((a, o3) :: (X.pn ++ pins))) S3 hg hm hv q hn hd
  induction hk with
  | nil =>
    intro w
    refine wpAny_handleBy_nil ?_
    obtain ⟨_, _, _, oe, vs, T, _, _, he, _, hd, h1, _⟩ := id L.fl
    unfold PySem.passOn
    refine wpAny_bind (wpAny_field he hd h1 ?_)
    rw [if_neg (show ¬ ((Value.ref T == Value.none) = true) from by simp)]
    have out : wpAny (model X.prog X.w) X.A (setFlight (.ref a) X.env.frame) (fun _ s4 => wpAny (model X.prog X.w) X.A (throw (.ref a) : Sem PySem.Flow) (SP X pins D) X.xe s4) X.xe { s' with heap := h3 } := by
      rw [hf]
      exact HandSPX.setFlight_upZ L.fl fun h4 fly u4 => wpAny_throw (tk _ _ ⟨a, B, sI, pins, σ, H, cls, d, rfl, L.J, L.nb, L.up.trans u4, .inr (.inr (by rw [hs]; exact fly)), L.na, L.os, L.ag, w⟩)
    first
      | exact wpAny_bind out
      | exact wpAny_bind (wpAny_pure (wpAny_bind out))
  | @cons h q hs' qs hq _ ih =>
    intro w
    cases hq with
    | bare hc ho hsu =>
      refine wpAny_handleBy_cons (codeAny_handlers_test (name hc ?_)) (by intro z; cases z)
      rcases w with ⟨e, w⟩ | ⟨e, w⟩
      · refine (PySem.W.exm_one (M := model X.prog X.w) J3.kIn look e).here ?_
        refine codeAny_handlers_suite (HandSPX.lands_againZ L.fl fun h4 f4 u4 => ?_)
        obtain ⟨o4, v4, g4, z4, d4⟩ := f4.there
        have J4 : Inv X pins σ H { s' with heap := h4 } := L.J.landed L.nb f4.1 (L.up.trans u4) L.os L.ag
        have S4 := J4.suite g4 d4 L.na L.nL L.nF
        have w := w a L.na
        rw [ho] at w
        exact wpAny_mono ((hsu a o4 cls d (X.pn ++ pins) z4 ⟨_, d4⟩).run [] _ σ H D S4 w) (fun f s6 z => suite_end (pn := []) ok z) fun _ _ z => z.elim
      · refine (PySem.W.exm_one (M := model X.prog X.w) J3.kIn look e).here ?_
        exact ih w
    | @named x n i _ b l p p' hc ho hi hl hsu =>
      refine wpAny_handleBy_cons (codeAny_handlers_test (name hc ?_)) (by intro z; cases z)
      rcases w with ⟨e, w⟩ | ⟨e, w⟩
      · refine (PySem.W.exm_one (M := model X.prog X.w) J3.kIn look e).here ?_
        refine codeAny_handlers_suite_as (HandSPX.lands_againZ L.fl fun h4 f4 u4 => ?_)
        obtain ⟨o4, v4, g4, z4, d4⟩ := f4.there
        have J4 : Inv X pins σ H { s' with heap := h4 } := L.J.landed L.nb f4.1 (L.up.trans u4) L.os L.ag
        have S4 := J4.suite g4 d4 L.na L.nL L.nF
        have w := w a L.na
        rw [ho] at w
        refine store_ok (X := X.suite a ((a, o4) :: (X.pn ++ pins))) (v := .ref a) S4 hN hi (.inl hl) rfl (fun s5 S5 => ?_) (.inr hl)
        refine wpAny_mono ((hsu a o4 cls d (X.pn ++ pins) z4 ⟨_, d4⟩).run [] s5 _ H _ S5 w) (fun f s6 z => ?_) fun _ _ z => z.elim
        have z := suite_end (pn := []) ok z
        have bye : ∀ {σ6 : L2.St} {H6 : Hp} {Q : Shared → Prop}, Inv X pins σ6 H6 s6 → (∀ s7, Inv X pins (σ6.set i none) H6 s7 → Q s7) →
          wpAny (model X.prog X.w) X.A (do bindName X.env n .none; unbindBehindTheSuite X.env n p') (fun _ s7 => Q s7) X.xe s6 := fun S6 hq => gone_ok S6 hN hi hl hq
        cases f with
        | ret u => exact let ⟨v6, σ6, H6, S6, r6, q6⟩ := z; bye S6 fun s7 J7 => ⟨_, _, _, J7, r6, q6⟩
        | next => exact let ⟨σ6, H6, S6, q6⟩ := z; bye S6 fun s7 J7 => ⟨_, _, J7, q6⟩
        | brk => exact let ⟨σ6, H6, S6, q6⟩ := z; bye S6 fun s7 J7 => ⟨_, _, J7, q6⟩
        | cont => exact let ⟨σ6, H6, S6, q6⟩ := z; bye S6 fun s7 J7 => ⟨_, _, J7, q6⟩
      · refine (PySem.W.exm_one (M := model X.prog X.w) J3.kIn look e).here ?_
        exact ih w
/-- a try, its clauses -/
theorem ps_tryC {body : List Stmt} {h0 : ExceptHandler} {hds : List ExceptHandler} {l : List Cl} {pos : Pos} {tb : WX → TS} (hs : X.stack = X.env :: X.outer) (hf : X.env.frame = some X.env.locals) (hN : X.N.Nodup) (tk : L2N.Takes X Wo)
    (hb : ∀ (W : WX) (pn : List (Addr × PySem.Obj)) (xe : Value → Shared → Prop), L2N.Takes (X.tr pn xe) W → PassesOwn (model X.prog X.w) X.A X.env xe → PSs (X.tr pn xe) body (tb W))
    (hh : ClsOk X (h0 :: hds) l) : PS X (.Try body (h0 :: hds) [] [] pos) (fun D σ H => tb (wCl X.K Wo D l) D σ H) := by
  refine ⟨fun pins s σ H D I h => wpAny_Try_except ?_⟩
  have ok := I.ok
  have hfr : X.A.frames = some (X.env :: X.outer) := by rw [ok.frames, hs]
  let catch_ : Value → Shared → Prop := fun e s1 => wpAny (model X.prog X.w) X.A (noteFrame e X.env) (fun _ s2 => wpAny (model X.prog X.w) X.A (setFlight e none) (fun _ s3 => wpAny (model X.prog X.w) X.A (handleBy e X.env (h0 :: hds)) (SP X pins D) X.xe s3) X.xe s2) X.xe s1
  refine wpAny_mono ((hb (wCl X.K Wo D l) (X.pn ++ pins) catch_ (fun u s' xx => ?_) PassesOwn.looking).run [] s σ H D (I.toTry _) h) (fun f s1 z => ?_) fun e s1 z => z
  · obtain ⟨a, B, sI, pins', σ', H', cls, d, rfl, J', nb, up, sky, na, os, ag, w⟩ := xx
    have J : Inv X pins σ' H' sI := J'.ofTry ok
    have sky2 : Sky B (X.env :: X.outer) a (L2N.Zn cls d) X.env.locals s'.heap := by
      rw [← hs]
      exact sky
    show wpAny (model X.prog X.w) X.A (noteFrame (.ref a) X.env) _ _ _
    refine L2N.Sky.land L2N.Zn.steady hfr hf sky2 fun h3 fl3 u3 => ?_
    obtain ⟨o3, v3, g3, z3, d3⟩ := fl3.there
    have far : a ∉ frs (X.env :: X.outer) := fun hm => by
      obtain ⟨_, o', e', hnf⟩ := fl3.2.2.1.mem hm
      rw [g3] at e'
      cases e'
      exact hnf _ d3
    have H3 : Held X pins a B sI s' σ' H' cls d h3 := {
      J := J
      nb := nb
      up := up.trans u3
      na := na
      os := os
      ag := ag
      nL := fun e => far (List.mem_filterMap.mpr ⟨X.env, List.mem_cons_self, by rw [hf, e]⟩)
      nF := fun hm => by
        obtain ⟨e, he, q⟩ := List.mem_filterMap.mp hm
        exact far (List.mem_filterMap.mpr ⟨e, List.mem_cons_of_mem _ he, q⟩)
      fl := fl3 }
    exact H3.next hf hs hN tk hh w
  · cases f with
    | ret u => exact let ⟨v, σ', H', J', r, q⟩ := z; ⟨v, σ', H', J'.ofTry ok, r, q⟩
    | next => exact let ⟨σ', H', J', q⟩ := z; wpAny_execs_nil ⟨σ', H', J'.ofTry ok, q⟩
    | brk => exact let ⟨σ', H', J', q⟩ := z; ⟨σ', H', J'.ofTry ok, q⟩
    | cont => exact let ⟨σ', H', J', q⟩ := z; ⟨σ', H', J'.ofTry ok, q⟩
end
end PL
end
section
set_option Elab.async false
set_option linter.all false
set_option autoImplicit false
set_option maxRecDepth 100000
set_option maxHeartbeats 4000000
/-! SoundI: isinstance of the error that a suite holds. -/
namespace PL
open PySem PySem.Spec PyProof.Rows L2
open PySem.W (findIn specialIn takesIn subIn hasDictIn mroIn kitOne kitAny kitCls clsIn typeIn exmOne Frag Looks KitX)
/-- what an error's class must say, that isinstance asks its instances rightly -/
structure XfI (K : Frag) (C : Addr) : Prop extends XfC K C where
  cl : findIn K (.ref C) "__class__" = some (some (.builtin "object.__class__"))
  gt : specialIn K (.builtin "object.__class__") "__get__" = some (some (.builtin "getset_descriptor.__get__"))
  tk : takesIn K (.builtin "object.__class__") = some true
  mo : mroIn K C (.type "object") = some true
  sf : subIn K (.ref C) (.ref C) = some true
def xfiB (K : Frag) (C : Addr) : Bool := xfB K C && (decide (findIn K (.ref C) "__class__" = some (some (.builtin "object.__class__"))) && (decide (specialIn K (.builtin "object.__class__") "__get__" = some (some (.builtin "getset_descriptor.__get__"))) && (decide (takesIn K (.builtin "object.__class__") = some true) && (decide (mroIn K C (.type "object") = some true) && decide (subIn K (.ref C) (.ref C) = some true)))))
theorem xfiB_ok {K : Frag} {C : Addr} (h : xfiB K C = true) : XfI K C := by
  simp only [xfiB, Bool.and_eq_true, decide_eq_true_eq] at h
  obtain ⟨h1, h2, h3, h4, h5, h6⟩ := h
  exact ⟨xfB_ok h1, h2, h3, h4, h5, h6⟩
section
variable {prog : Program} {w : World} {A : Around} {E : Value → Shared → Prop} {s : Shared} {K : Frag} {x D : Addr} {ox : PySem.Obj} {od : Option PySem.Obj}
theorem err_class {Q : Option Value → Shared → Prop} (T : XfI K D) (X : K.In s.heap) (I : PySem.W.InstAt s.heap x ox D od) (h : Q (some (.ref D)) { s with toks := s.toks + 1 }) : wpAny (model prog w) A (getAttr? (.ref x) "__class__") Q E s := by
  have fo : PySem.W.findObj K D od "__class__" = some (.bind (.builtin "getset_descriptor.__get__") (.builtin "object.__class__")) := by
    obtain ⟨cd, hc, _⟩ := PySem.W.any_some T.hdC
    unfold PySem.W.findObj
    rw [hc, Option.bind_some, T.cl, Option.bind_some]
    simp [T.gt, T.tk]
  obtain ⟨hp, g, d, t, os⟩ := s
  have ty := I.type (M := model prog w)
  have ga := PySem.W.looks_findIn (M := model prog w) X T.ga
  have gg := PySem.W.looks_findIn (M := model prog w) X T.gg
  have fi := PySem.W.looks_find (M := model prog w) X I fo
  have sb : Looks (model prog w) hp (isInstance (.ref x) (.type "BaseException")) true := ty.andThen (PySem.W.looks_subIn X T.exC)
  have n1 : (Value.builtin "BaseException.__getattribute__" == Value.builtin "object.__getattribute__") = false := by decide +kernel
  have n2 : (onTheHeap (Value.ref D) && Value.builtin "BaseException.__getattribute__" == Value.builtin "object.__getattribute__") = false := by rw [n1]; rfl
  have n3 : (false && onTheHeap (Value.builtin "BaseException.__getattribute__")) = false := rfl
  unfold getAttr? getAttrBy? getAttrBy
  refine wpAny_bind (wpAny_mkText (wpAny_bind (wpAny_attempt (wpAny_holding (wpAny_bind (ty.at (wpAny_bind (ga.at ?_))))))))
  change wpAny _ _ (if (onTheHeap (Value.ref D) && Value.builtin "BaseException.__getattribute__" == Value.builtin "object.__getattribute__") = true then _ else _) _ _ _
  rw [n2, if_neg Bool.false_ne_true]
  unfold getAttrByItsOwn hookBefore
  refine wpAny_bind ?_
  have oh : onTheHeap (Value.ref D) = true := rfl
  rw [if_pos oh]
  refine gg.at (wpAny_bind (wpAny_attempt (wpAny_holding ?_)))
  unfold callGetattribute
  rw [n3, if_neg Bool.false_ne_true]
  unfold boundAndCalled
  rw [PySem.F.excAttr_ValueError.ga.bind (.ref x)]
  refine wpAny_bind (wpAny_pure ?_)
  change wpAny _ _ (call (.builtin "BaseException.__getattribute__") [.ref x, .str "__class__" t]) _ _ _
  refine wpAny_call (codeAny_call_builtin PySem.F.excAttr_ValueError.ga.plain PySem.F.entry_bexc_ga ?_)
  refine @PySem.W.check_slot (model prog w) _ _ ⟨hp, g, d, t + 1, os⟩ "BaseException.__getattribute__" "BaseException" "__getattribute__" (.ref x) [.str "__class__" t] [] _ (by decide +kernel) (by decide +kernel) sb (PySem.F.args_bexc_ga (.ref x) (.str "__class__" t)) ?_
  unfold Builtin.«object.__getattribute__»
  refine wpAny_bind (wpAny_of_eq (a := ((Value.ref x : Value), [Value.str "__class__" t])) (by first | rfl | (simp only [slotArgs]; rfl)) ?_)
  refine wpAny_bind (wpAny_pure (wpAny_bind (ty.at (wpAny_bind (fi.at ?_)))))
  change wpAny _ _ (holding [Value.builtin "object.__class__"] (call (.builtin "getset_descriptor.__get__") [.builtin "object.__class__", .ref x, .ref D]) >>= ret) _ _ _
  refine wpAny_bind (wpAny_holding (wpAny_call (PySem.W.class_get (s := ⟨hp, g, d, t + 1, os⟩) (ox := ox) (od := od) X I T.mo (wpAny_pure ?_))))
  change wpAny _ _ (handedOut (.ref D)) _ _ _
  rw [PySem.W.handedOut_of (v := .ref D) rfl]
  first
    | exact wpAny_pure h
    | exact wpAny_pure (wpAny_pure h)
    | exact wpAny_pure (wpAny_bind (wpAny_pure (wpAny_pure h)))
/-- the class stands as a class -/
theorem cls_there {h : Heap} (T : XfI K D) (X : K.In h) : ∃ dd cd sl c, h.get? D = some ⟨c, dd, .cls cd, sl⟩ := by
  obtain ⟨cd, hc, _⟩ := PySem.W.any_some T.hdC
  unfold PySem.W.clsIn at hc
  split at hc
  · rename_i c' d' cd' sl' ho
    exact ⟨d', cd', sl', c', X _ _ ho⟩
  · cases hc
theorem err_kit (T : XfI K D) : KitX K (.ref x) (.ref D) (fun h => PySem.W.InstAt h x ox D od) where
  ty := fun _ _ _ I => I.type
  it := fun _ _ X _ => by
    obtain ⟨dd, cd, sl, c, e⟩ := cls_there T X
    intro A' Q' E' s' k q
    unfold isType loadHead
    exact wpAny_bind (wpAny_loadPart (k _ _ e) (wpAny_pure q))
  ne := fun h tp dd its n sl X htp => by
    obtain ⟨d2, cd, sl2, c, e⟩ := cls_there T X
    refine Bool.eq_false_iff.mpr fun q => ?_
    obtain rfl : D = tp := Value.ref.inj (beq_iff_eq.mp q)
    rw [e] at htp
    cases htp
  ca := fun X I k => err_class T X I k
end
/-- isinstance(e, C), isinstance(e, (C1, C2, ..)): e the error of the suite, dd its dict -/
def rIsX (K : Frag) (D a dd : Addr) : List V → Hp → VK → Prop := fun xs H Q => ∃ fs b, H dd = some (.xd fs) ∧ Q (.bl b) H ∧
  ((∃ C, xs = [.ref a, .ref C] ∧ kitOne K (.ref D) (.ref C) = some b) ∨ ∃ (tp : Addr) (Cs : List Addr), xs = [.ref a, .ref tp] ∧ H tp = some (.tup (Cs.map V.ref)) ∧ kitAny K (.ref D) (Cs.map Value.ref) = some b)
theorem vals_refs : ∀ {Cs : List Addr} {us : List Value}, Vals (Cs.map V.ref) us → us = Cs.map Value.ref
  | [], _, h => by cases h; rfl
  | c :: Cs, _, h => by
    cases h with
    | cons r t => rw [vals_refs t]; cases r; rfl
theorem call_isX {X : Cx} {a D dd : Addr} {oe : PySem.Obj} {pn : List (Addr × PySem.Obj)} (T : XfI X.K D) (hz : Zc (.ref D) (some dd) oe) (hf : ∃ vs, oe.data = .fields vs) : CallR (X.suite a ((a, oe) :: pn)) (.builtin "isinstance") (rIsX X.K D a dd) := by
  intro pins s σ H xs us Q I r h
  obtain ⟨fs, b, hd, q, h⟩ := h
  obtain ⟨ha, _⟩ := I.pin (a, oe) (List.mem_append_left _ List.mem_cons_self)
  obtain ⟨vs, hv⟩ := hf
  have hx : ObjOk X.prog X.w H s.heap dd (.xd fs) := I.hok dd _ hd
  obtain ⟨mA, hns, _⟩ := hx
  obtain ⟨od, ho, _⟩ := lookIn_ns hns
  have J : PySem.W.InstAt s.heap a oe D (some od) := ⟨ha, hz.1, by unfold PySem.W.notCls; rw [hv] <;> rfl, by rw [hz.2]; exact ho⟩
  rcases h with ⟨C, rfl, e⟩ | ⟨tp, Cs, rfl, hT, e⟩
  · obtain ⟨u1, u2, rfl, r1, r2⟩ := vals2 r
    cases r1; cases r2
    exact PySem.W.kia_one (err_kit T) I.kIn J e (fun z => nomatch z) fun tk => ⟨.bl b, H, I.tok tk, rfl, q⟩
  · obtain ⟨u1, u2, rfl, r1, r2⟩ := vals2 r
    cases r1; cases r2
    obtain ⟨_, its, rv, o, h1, h2, n, h3⟩ := (show ObjOk X.prog X.w H s.heap tp (.tup (Cs.map V.ref)) from I.hok tp _ hT)
    obtain rfl := vals_refs rv
    obtain ⟨oc, od2, dt, sl⟩ := o
    dsimp only at h2 h3
    subst h2 h3
    exact PySem.W.kia_tup (err_kit T) I.kIn J h1 e (fun z => nomatch z) fun tk => ⟨.bl b, H, I.tok tk, rfl, q⟩
/-- from what clauses ask to what isinstance asks -/
theorem kit_of_exm {K : Frag} {D C : Addr} {b : Bool} (h : exmOne K (.ref D) (.ref C) = some b) (T : subIn K (.ref D) (.ref D) = some true) : kitOne K (.ref D) (.ref C) = some b := by
  have hk : kitCls K (.ref D) (.ref C) = some b := by
    unfold PySem.W.exmOne at h
    split at h
    · exact h
    · cases h
  unfold PySem.W.kitOne
  by_cases e : D = C
  · subst e
    rw [if_pos BEq.rfl]
    unfold PySem.W.kitCls at hk
    simp only at hk
    split at hk
    · rw [← hk, T]
    · cases hk
  · rw [if_neg (fun z => e (Value.ref.inj (beq_iff_eq.mp z)))]
    exact hk
theorem kit_any_of {K : Frag} {t : Value} : ∀ {cs : List Value} {bs : List Bool}, cs.map (kitOne K t) = bs.map some → kitAny K t cs = some (bs.any id)
  | [], bs, h => by
    cases bs with
    | nil => rfl
    | cons _ _ => cases h
  | c :: cs, bs, h => by
    cases bs with
    | nil => cases h
    | cons b bs =>
      simp only [List.map_cons, List.cons.injEq] at h
      unfold PySem.W.kitAny
      rw [h.1]
      cases b with
      | true => rfl
      | false => rw [kit_any_of h.2]; rfl
end PL
end
section
set_option Elab.async false
set_option linter.all false
set_option autoImplicit false
set_option maxRecDepth 100000
set_option maxHeartbeats 2000000
/-! SoundR: comprehensions whose elements want a token that is out; a row of such behind a text. -/
namespace PL
open PySem PySem.Spec PyProof.Rows L2
section
variable {X : Cx}
/-- [elt for target in iter] where a token is out ahead of it -/
theorem lcT_core {pins : List (Addr × PySem.Obj)} {s : Shared} {σ : L2.St} {H : Hp} {Q : VK} {elt tg iter : Expr} {scope : Scope} {own : List (PySem.Str × Nat)} {pos pos' : Pos} {ifs : List Expr} {wi : TI} {g : TG} {tt : TT} {te : TE} {use : Option (Value → Sem Unit)} {Qf : Value → Shared → Prop} (h1 : 1 ≤ s.toks)
    (hc : X.calm = true) (hN : X.N.Nodup) (I : L2.Inv X pins σ H s) (hi : PI X tg iter wi) (ok : BlkOk X.N X.env.scope scope own)
    (hg : ∀ (s : Shared) (H : Hp) (C : Addr) (cl : List (PySem.Str × Addr)) (fp : List Addr), PG (X.blk s H scope (compEnvC scope cl C X.env) fp) tg g)
    (ht : ∀ (s : Shared) (H : Hp) (C : Addr) (cl : List (PySem.Str × Addr)) (fp : List Addr), PTs (X.blk s H scope (compEnvC scope cl C X.env) fp) ifs tt)
    (he : ∀ (s : Shared) (H : Hp) (C : Addr) (cl : List (PySem.Str × Addr)) (fp : List Addr), PET (X.blk s H scope (compEnvC scope cl C X.env) fp) elt te) (hs : ∀ x, foldedSetIterable iter X.env x = pure x)
    (h : tLc wi g tt te (own.map (·.2)) σ H Q)
    (hRR : ∀ D C s' m H', L2.Inv X pins σ H' s' → Q (.ref D) H' → s'.heap.Ns C m → FpOk X pins H' C → compPost (model X.prog X.w) X.A X.xe use Qf (.ref D) C (.ok .next) s') :
    wpAny (model X.prog X.w) X.A (comprehension (.ListComp elt [⟨tg, iter, ifs, 0⟩] scope pos) scope X.env pos' (newList []) false (eval iter X.env) use) Qf X.xe s := by
  have fr : ∀ y ∈ scope.names, y.2 = .free → ∃ c, X.env.cells.lookup y.1 = some c := fun y hy e => (ok.free y hy e).elim (fun k => I.ok.has _ (.inl k)) fun k => I.ok.has _ (.inr k)
  refine wpAny_comprehension_free (use := use) rfl hs (closure_ok fr) ok.kind (fun y hy e => by rw [ok.uniq y hy, e]) (wpAny_mono (wpAny_toks_of h1 (hi.run pins s σ H _ I h)) (fun xv s1 z => ?_) fun _ _ z => z.2)
  refine wpAny_mono (wpAny_toks_of z.1 z.2) (fun itv s2 z2 => ?_) fun _ _ z => z.2
  obtain ⟨k2, it, fp, tn, J, H2, rfl, I2, T, st2, f2, q⟩ := z2
  refine wpAny_newObj_type (newEnv_comp ?_) (by show 0 ≤ sizeLine; decide)
  generalize eD : s2.heap.objs.size = D
  obtain ⟨W, ⟨m0, w0⟩, turn⟩ := q D (I2.hok.fresh (Nat.le_of_eq eD))
  generalize e3 : ({ s2 with heap := s2.heap.push { cls := .type "list", data := .seq ([] : List Value).toArray } } : Shared) = s3
  have k3 : 1 ≤ s3.toks := by rw [← e3]; exact k2
  have hp3 : s3.heap = s2.heap.push { cls := .type "list", data := .seq ([] : List Value).toArray } := by rw [← e3]
  have I3 : L2.Inv X pins σ (upd H2 D (.lst [])) s3 := by
    rw [← e3]
    refine I2.laid (t' := s2.toks) (fun b o e => Heap.get?_push_of_some _ e) (Nat.le_of_eq eD) ⟨Nat.zero_le _, [], 0, .nil, ?_⟩
    rw [← eD]
    exact Heap.get?_push_size _ rfl
  have lt : ∀ b ∈ fp, b < s2.heap.objs.size := fun b hb => let ⟨o, e, _⟩ := T.obj _ _ st2 b hb; Heap.lt_size e
  have f3 : ∀ b ∈ fp, FpOk X pins (upd H2 D (.lst [])) b ∧ b < s3.heap.objs.size := fun b hb =>
    ⟨⟨by rw [upd_ne (by rw [← eD]; exact Nat.ne_of_lt (lt b hb))]; exact (f2 b hb).1, (f2 b hb).2⟩, by rw [hp3, Heap.size_push]; exact Nat.lt_succ_of_lt (lt b hb)⟩
  have st3 : tn 0 s3.heap := T.keep _ _ _ st2 fun b _ o e => by rw [hp3]; exact Heap.get?_push_of_some _ e
  have I4 := block_start I3 ok hN f3
  have pg := hg s3 (upd H2 D (.lst [])) s3.heap.objs.size (cellsFrom (s3.heap.objs.size + 1) scope.names (cloFrom X.env.cells scope.names [])) fp
  have pt := ht s3 (upd H2 D (.lst [])) s3.heap.objs.size (cellsFrom (s3.heap.objs.size + 1) scope.names (cloFrom X.env.cells scope.names [])) fp
  have pe := he s3 (upd H2 D (.lst [])) s3.heap.objs.size (cellsFrom (s3.heap.objs.size + 1) scope.names (cloFrom X.env.cells scope.names [])) fp
  change codeAny _ _ (.compStart (.ListComp elt [⟨tg, iter, ifs, 0⟩] scope pos) 0 (.ref it) (.ref D) (compEnvC scope (cellsFrom (s3.heap.objs.size + 1) scope.names (cloFrom X.env.cells scope.names [])) s3.heap.objs.size X.env)) (compPost (model X.prog X.w) X.A X.xe use Qf (.ref D) s3.heap.objs.size) { s3 with heap := pushCells (s3.heap.push { cls := .type "dict", data := .dict #[] }) scope.names }
  have nfp : ∀ b ∈ fp, (upd H2 D (.lst [])) b = none := fun b hb => (f3 b hb).1.1
  generalize ec : compEnvC scope (cellsFrom (s3.heap.objs.size + 1) scope.names (cloFrom X.env.cells scope.names [])) s3.heap.objs.size X.env = ce at I4 pg pt pe ⊢
  have cL : ce.locals = s3.heap.objs.size := by subst ec; rfl
  generalize eH : upd H2 D (.lst []) = H3 at I3 I4 pg pt pe w0 nfp f3
  generalize e4 : ({ s3 with heap := pushCells (s3.heap.push { cls := .type "dict", data := .dict #[] }) scope.names } : Shared) = s4 at I4 ⊢
  have k4 : 1 ≤ s4.toks := by rw [← e4]; exact k3
  have st4 : tn 0 s4.heap := T.keep _ _ _ st3 fun b _ o e => by rw [← e4]; exact pushCells_keeps _ _ _ _ (Heap.get?_push_of_some _ e)
  have own4 : ∀ {σ' : L2.St} {H' : Hp} {s' : Shared}, L2.Inv (X.blk s3 H3 scope ce fp) [] σ' H' s' → (∀ b ∈ fp, H' b = none) → ∀ b ∈ fp, FpOk (X.blk s3 H3 scope ce fp) [] H' b := fun I' hn b hb =>
    ⟨hn b hb, (I'.ok.exf b hb).1, I'.ok.exfs b hb, .inl hb, fun x c e => (I'.ok.exf b hb).2 x c e, fun p hp => by simp [Cx.blk] at hp⟩
  have loop : codeAny (model X.prog X.w) X.A (.compLoop (.ListComp elt [⟨tg, iter, ifs, 0⟩] scope pos) 0 (.ref it) (.ref D) ce) (compPost (model X.prog X.w) X.A X.xe use Qf (.ref D) s3.heap.objs.size) s4 := by
    refine compLoop_any (fun n s' => 1 ≤ s'.toks ∧ ∃ i H', L2.Inv (X.blk s3 H3 scope ce fp) [] (wipe σ (own.map (·.2))) H' s' ∧ tn i s'.heap ∧ (∀ b ∈ fp, H' b = none) ∧ W i n H') ?_ m0 ⟨k4, 0, H3, I4, st4, nfp, w0⟩
    rintro n s5 ⟨k5, i, H5, I5, st5, n5, w5⟩
    rcases turn i n H5 w5 with ⟨stop, qq⟩ | ⟨go, Nx, hNx, step⟩
    · refine thnF (T.done (X.blk s3 H3 scope ce fp) rfl rfl rfl hc i [] s5 _ H5 (fun _ _ => False) I5 (own4 I5 n5) st5 stop) fun r s6 ⟨hr, I6⟩ => ?_
      subst hr
      have I7 : L2.Inv X pins σ H5 s6 := I3.call' (ch := fp) I6.os I6.base I6.hok I6.bare fun b hb => ⟨(f3 b hb).1.2.2.2.1, (f3 b hb).1.2.1, (f3 b hb).1.2.2.2.2.1, (f3 b hb).1.2.2.2.2.2⟩
      have nC : H5 s3.heap.objs.size = none := by rw [← cL]; exact I6.free
      obtain ⟨m, hn, _⟩ := I6.loc
      have hn : s6.heap.Ns ce.locals m := hn
      rw [cL] at hn
      exact hRR D s3.heap.objs.size s6 m H5 I7 qq hn (I3.fpOk (Nat.le_refl _) nC)
    · refine thnF (wpAny_toks_of k5 (T.item (X.blk s3 H3 scope ce fp) rfl rfl rfl hc i [] s5 _ H5 (fun _ _ => False) I5 (own4 I5 n5) st5 go) |> fun z => wpAny_mono z (fun _ _ q => q) fun _ _ q => q.2) fun r s6 ⟨k6, u, hr, h6⟩ => ?_
      subst hr
      refine thnF (wpAny_mono (wpAny_toks_of k6 h6) (fun _ _ q => q) fun _ _ q => q.2) fun _ s7 ⟨k7, x, H7, I7, r7, y7, st7, n7⟩ => ?_
      have I7' := I7.pinned (own4 I7 n7) (T.obj _ _ st7)
      refine thnF (wpAny_mono (wpAny_toks_of k7 (pg.run _ s7 _ H7 x u _ I7' r7 (step x H7 y7))) (fun _ _ q => q) fun _ _ q => q.2) fun _ s8 ⟨k8, σ8, H8, I8, hw8, q8⟩ => ?_
      refine thnF (wpAny_mono (wpAny_toks_of k8 (pt.run _ s8 σ8 H8 _ I8 q8)) (fun _ _ q => q) fun _ _ q => q.2) fun b s9 ⟨k9, H9, I9, q9⟩ => ?_
      have fin : ∀ {s' : Shared} {H' : Hp}, 1 ≤ s'.toks → L2.Inv (X.blk s3 H3 scope ce fp) ([] ++ pinsAt fp s7.heap) σ8 H' s' → Nx H' → ∃ m, m < n ∧ 1 ≤ s'.toks ∧ ∃ i H', L2.Inv (X.blk s3 H3 scope ce fp) [] (wipe σ (own.map (·.2))) H' s' ∧ tn i s'.heap ∧ (∀ b ∈ fp, H' b = none) ∧ W i m H' := fun {s' H'} ks I' nx => by
        obtain ⟨m', hm, w'⟩ := hNx _ nx
        have pin' : ∀ b ∈ fp, ∀ o, s7.heap.get? b = some o → s'.heap.get? b = some o ∧ H' b = none := fun b hb o e =>
          let z := I'.pin (b, o) (List.mem_append_right _ (List.mem_append_right _ (mem_pinsAt hb e)))
          ⟨z.1, z.2.1⟩
        have hl : (wipe σ (own.map (·.2))).length = σ8.length := by rw [← hw8, wipe_length]
        refine ⟨m', hm, ks, i + 1, _, (I'.unpinned (pins := [])).weak hl (fun j v e => ?_), T.keep _ _ _ st7 fun b hb o e => (pin' b hb o e).1, fun b hb => ?_, w'⟩
        · rw [← hw8] at e
          exact (wipe_some e).1
        · obtain ⟨o, e, _⟩ := T.obj _ _ st7 b hb
          exact (pin' b hb o e).2
      cases b with
      | false => exact fin k9 I9 q9
      | true =>
        rw [if_pos rfl]
        have q9 : te σ8 H9 fun y H4 => ∃ acc, H4 D = some (.lst acc) ∧ acc.length < sizeLine ∧ Nx (upd H4 D (.lst (acc ++ [y]))) := q9
        refine thnF (wpAny_mono (wpAny_toks_of k9 (pe _ s9 σ8 H9 _ k9 I9 q9)) (fun _ _ q => q) fun _ _ q => q.2) fun z s10 ⟨k10, yv, H10, I10, r10, acc, hD10, hz10, nx⟩ => ?_
        have ap : wpAny (model X.prog X.w) X.A (call (.builtin "list.append") [.ref D, z]) (fun _ s11 => L2.Inv (X.blk s3 H3 scope ce fp) ([] ++ pinsAt fp s7.heap) σ8 (upd H10 D (.lst (acc ++ [yv]))) s11 ∧ Nx (upd H10 D (.lst (acc ++ [yv])))) (fun _ _ => False) s10 :=
          app_ok (X := X.blk s3 H3 scope ce fp) I10 hD10 hz10 r10 fun s11 I11 => ⟨I11, nx⟩
        refine wpAny_mono (wpAny_toks_of k10 ap) (fun _ s11 ⟨k11, I11, nx⟩ => fin k11 I11 nx) fun _ _ q => q.2.elim
  exact codeAny_compStart_list loop (T.self X.A 0 _ _ _ st4 loop)
theorem pet_lc {elt tg iter : Expr} {ifs : List Expr} {scope : Scope} {own : List (PySem.Str × Nat)} {pos : Pos} {wi : TI} {g : TG} {tt : TT} {te : TE} (hc : X.calm = true) (hN : X.N.Nodup) (hi : PI X tg iter wi) (ok : BlkOk X.N X.env.scope scope own)
    (hg : ∀ (s : Shared) (H : Hp) (C : Addr) (cl : List (PySem.Str × Addr)) (fp : List Addr), PG (X.blk s H scope (compEnvC scope cl C X.env) fp) tg g)
    (ht : ∀ (s : Shared) (H : Hp) (C : Addr) (cl : List (PySem.Str × Addr)) (fp : List Addr), PTs (X.blk s H scope (compEnvC scope cl C X.env) fp) ifs tt)
    (he : ∀ (s : Shared) (H : Hp) (C : Addr) (cl : List (PySem.Str × Addr)) (fp : List Addr), PET (X.blk s H scope (compEnvC scope cl C X.env) fp) elt te) (hs : ∀ x, foldedSetIterable iter X.env x = pure x) :
    PET X (.ListComp elt [⟨tg, iter, ifs, 0⟩] scope pos) (tLc wi g tt te (own.map (·.2))) := by
  intro pins s σ H Q h0 I h
  rw [eval_ListComp]
  refine lcT_core h0 hc hN I hi ok hg ht he hs h fun D C s' m H' I' q hn f => ⟨m, hn, fun h'' sb => ?_⟩
  obtain ⟨f0, f1, f2, f3, f4, f5⟩ := f
  exact ⟨.ref D, H', I'.turned (t' := s'.toks) (fun b o hb e => (sb.2 b hb).trans e) f0 f1 f3 f4 f5, rfl, q⟩
/-! ### a token is out behind a written text -/
def Bump {α : Type} (t : Sem α) : Prop := ∀ (M : Model) (Γ : PySem.Ctx) (Q : α → Pos → Shared → Prop) (E : Value → Pos → Shared → Prop) (p : Pos) (s : Shared), Sem.wp M Γ t Q E p s → Sem.wp M Γ t (fun a p' s' => s.toks + 1 ≤ s'.toks ∧ Q a p' s') E p s
theorem Bump.text (x : PySem.Str) : Bump (mkText x) := by
  intro M Γ Q E p s h
  exact ⟨Nat.le_refl _, h⟩
theorem Bump.bind {α β : Type} {m : Sem α} {f : α → Sem β} (h : Bump m) : Bump (m.bind f) := by
  intro M Γ Q E p s hw
  rw [Sem.wp_bind] at hw ⊢
  refine Sem.wp_mono M Γ _ (fun a p' s' z => ?_) (fun _ _ _ z => z) _ _ (h M Γ _ _ p s hw)
  have := Sem.wp_toks M Γ (s.toks + 1) (f a) Q E p' s' z.1 z.2
  exact Sem.wp_mono M Γ _ (fun _ _ _ z => z) (fun _ _ _ z => z.2) _ _ this
theorem Bump.at_ {α : Type} {p0 : Pos} {k : Unit → Sem α} (h : Bump (k ())) : Bump (Sem.at p0 k) := fun M Γ Q E p s hw => h M Γ Q E p0 s hw
theorem Bump.any {α : Type} {t : Sem α} (h : Bump t) {M : Model} {A : Around} {Q : α → Shared → Prop} {E : Value → Shared → Prop} {s : Shared} (hw : wpAny M A t Q E s) : wpAny M A t (fun a s' => s.toks + 1 ≤ s'.toks ∧ Q a s') E s :=
  fun Γ p hΓ => h M Γ _ _ p s (hw Γ p hΓ)
/-- what begins with a written text -/
def bumpE : Expr → Bool
  | .Constant (.str _) _ _ => true
  | .BinOp l _ _ _ => bumpE l
  | .Tuple (x :: _) _ _ => bumpE x
  | _ => false
theorem bump_star {x : Expr} {l : List Expr} {env : PySem.Env} (h : bumpE x = true) : starEach (x :: l) env = (false, eval x env) :: starEach l env := by
  cases x <;> first | rfl | cases h
theorem bump_eval {env : PySem.Env} : ∀ {e : Expr}, bumpE e = true → Bump (eval e env)
  | .Constant (.str x) _ _, _ => Bump.text x
  | .BinOp l op r pos, h => Bump.bind (bump_eval (env := env) (e := l) h)
  | .Tuple (x :: l) k pos, h => by
    have h : bumpE x = true := h
    have hb := bump_eval (env := env) (e := x) h
    have e : eval (.Tuple (x :: l) k pos) env = Sem.at pos fun _ => (spliced (backTo pos (starEach (x :: l) env))).bind newTuple := rfl
    rw [e]
    refine Bump.at_ (Bump.bind ?_)
    rw [bump_star h]
    exact Bump.bind hb
/-- arguments of which the first begins with a written text -/
theorem pa_consB {e : Expr} {es : List Expr} {te : TE} {ta : TA} (hb : bumpE e = true) (ha : PE X e te) (hr : PAT X es ta) : PA X (e :: es) (tCons te ta) := by
  refine ⟨fun pos pins s σ H Q I h => ?_⟩
  rw [bump_star hb]
  refine Calls.spliced_cons (wpAny_mono ((bump_eval hb).any (ha.run pins s σ H _ I h)) (fun v s1 q => ?_) fun _ _ z => z)
  obtain ⟨k, x, H1, I1, r1, q1⟩ := q
  exact thn (hr pos pins s1 σ H1 _ (by omega) I1 q1) fun us s2 ⟨xs, H2, I2, r2, q2⟩ => ⟨x :: xs, H2, I2, .cons r1 r2, q2⟩
/-- x.replace(y, z) of single signs -/
theorem replL_one {a b : Nat} (h : a ≠ b) : ∀ l : List Nat, PySem.StrLaws.replL [a] [b] l = l.map fun c => if c = a then b else c
  | [] => rfl
  | c :: l => by
    by_cases hc : c = a
    · rw [PySem.StrLaws.replL_hit (by simp) (by simp [hc]), List.map_cons, if_pos hc]
      show [b] ++ PySem.StrLaws.replL [a] [b] l = _
      rw [replL_one h l]; rfl
    · rw [PySem.StrLaws.replL_miss (by simpa using hc), List.map_cons, if_neg hc, replL_one h l]
end
end PL
end
section
set_option Elab.async false
set_option linter.all false
set_option autoImplicit false
set_option maxRecDepth 100000
set_option maxHeartbeats 400000
/-! Sound5: the text checked against Mini; the readings of expressions. -/
namespace PL
open PySem PySem.Spec PyProof.Rows L2
open L2H (RoomH HotC FnH)

/-- what is known of a text ahead of its walk -/
structure Stat where
  N : List PySem.Str
  fns : List (PySem.Str × Nat)
  gS : List (PySem.Str × Txt)
  gC : List (PySem.Str × Nat)
  bl : List PySem.Str
  /-- classes of errors that are raised: their numbers and their bases', their fields -/
  cls : List (PySem.Str × List Nat × List Nat)
  /-- classes that clauses name -/
  hcl : List (PySem.Str × Nat)
  fld : List (PySem.Str × Nat)
  /-- within an except suite; its error's slot -/
  hot : Bool
  err : Option Nat
  /-- int constants -/
  gI : List (PySem.Str × Int)
  /-- calls by names: the def, the names, each parameter's place among them -/
  kw : List (PySem.Str × List PySem.Str × List Nat)
  /-- defs that are called in suites -/
  hfn : List PySem.Str
def notErr (Γ : Stat) (i : Nat) : Bool := decide (Γ.err ≠ some i)

def visB (sc : Scope) (x : PySem.Str) : Bool := match sc.names.lookup x with
  | some .local => true
  | some .cell => true
  | some .free => true
  | _ => false
def locB (sc : Scope) (x : PySem.Str) : Bool := match sc.names.lookup x with
  | some .local => true
  | some .cell => true
  | _ => false
def glB (sc : Scope) (x : PySem.Str) : Bool := match sc.names.lookup x with
  | some .globalImplicit => true
  | _ => false
def okN (x : PySem.Str) : Bool := !(x == ("__debug__" : PySem.Str)) && !(x == ("__classdict__" : PySem.Str)) && !(x == ("__name__" : PySem.Str))
def opP : Op → Operator
  | .add => .Add
  | .sub => .Sub
  | .mul => .Mult
  | .fdiv => .FloorDiv
  | .mod => .Mod
  | .pow => .Pow
  | .shl => .LShift
  | .shr => .RShift
  | .band => .BitAnd
def cmP : Cm → CmpOp
  | .eq => .Eq
  | .ne => .NotEq
  | .lt => .Lt
  | .le => .LtE
  | .gt => .Gt
  | .ge => .GtE
  | .is => .Is
  | .isn => .IsNot
  | .inn => .In
  | .nin => .NotIn
def bfName : Bf → PySem.Str
  | .len => "len"
  | .abs => "abs"
  | .int => "int"
  | .str => "str"
  | .tuple => "tuple"
  | .list => "list"
  | .sorted => "sorted"
  | .bool => "bool"
  | .tupleF => "tuple"
  | .max => "max"
  | .tupleS => "tuple"
  | .listS => "list"
def bf2Name : B2 → PySem.Str
  | .max2 => "max"
  | .min2 => "min"
def mfName : Mf → PySem.Str
  | .append => "append"
  | .pop => "pop"
  | .popAt => "pop"
  | .extend => "extend"
  | .join => "join"
  | .index => "index"
  | .get => "get"
  | .get2 => "get"
  | .indexL => "index"
  | .indexT => "index"
  | .upper => "upper"
  | .repl => "replace"
def mfCnt : Mf → Nat → Bool
  | .get, n => n == 1
  | .get2, n => n == 2
  | .indexT, n => decide (0 < n) && decide (n < 20)
  | .upper, n => n == 0
  | .repl, _ => false
  | _, n => decide (n < 20)
def tyStr : Ty → PySem.Str
  | .int => "int"
  | .str => "str"
  | .bool => "bool"
  | .tuple => "tuple"
  | .list => "list"
def bltOk (Γ : Stat) (sc : Scope) (x : PySem.Str) : Bool := glB sc x && okN x && decide (x ∈ Γ.bl)
def noSuper : Expr → Bool
  | .Call (.Name _ _) [] [] _ => false
  | _ => true
def keyIsC : PL.Key → Option Expr → Bool
  | .inr s, some (.Constant (.str x) _ _) => decide (x = S2 s)
  | .inl i, some (.Constant (.int j) _ _) => decide (i = j)
  | _, _ => false
def keysAreC : List PL.Key → List (Option Expr) → Bool
  | [], [] => true
  | k :: ks, e :: es => keyIsC k e && keysAreC ks es
  | _, _ => false
def kwNames : List Keyword → Option (List PySem.Str)
  | [] => some []
  | ⟨some x, _, _⟩ :: r => (kwNames r).map (x :: ·)
  | _ => none
def hotFn (Γ : Stat) (x : PySem.Str) (l : List Expr) : Bool := !Γ.hot || (decide (x ∈ Γ.hfn) && !l.isEmpty)
def coldBf (b : Bf) : Bool := b == .sorted || b == .list || b == .max || b == .tupleS || b == .listS
/-- a class that clauses name, a row of such -/
def clsAre (Γ : Stat) (sc : Scope) : List Nat → List Expr → Bool
  | [], [] => true
  | c :: cs, .Name z _ :: l => glB sc z && okN z && decide ((z, c) ∈ Γ.hcl) && clsAre Γ sc cs l
  | _, _ => false
def clsArg (Γ : Stat) (sc : Scope) (cs : List Nat) : Expr → Bool
  | .Tuple l _ _ => decide (cs.length ≤ 20) && clsAre Γ sc cs l
  | e => decide (cs.length = 1) && clsAre Γ sc cs [e]
/-- [::-1] -/
def isRvE : Expr → Bool
  | .Slice none none (some (.UnaryOp .USub (.Constant (.int 1) _ _) _)) _ => true
  | _ => false
def ownOf (N : List PySem.Str) (own : List Nat) : List (PySem.Str × Nat) := own.map fun i => (N.getD i "", i)

def tOwn (t : T) (own : List Nat) : Bool := match t with
  | .nm i => own.contains i
  | .tp is => is.all fun i => own.contains i
  | .sb _ _ => true
section
variable (Γ : Stat)
def namesAre : List Nat → Scope → List Expr → Bool
  | [], _, [] => true
  | i :: is, sc, .Name x _ :: l => decide (Γ.N[i]? = some x) && locB sc x && notErr Γ i && namesAre is sc l
  | _, _, _ => false
mutual
def chkE : E → Scope → Expr → Bool
  | .v i, sc, .Name x _ => decide (Γ.N[i]? = some x) && visB sc x && okN x && notErr Γ i
  | .non, _, .Constant .none _ _ => true
  | .bl b, _, .Constant (.bool c) _ _ => b == c
  | .int i, _, .Constant (.int j) _ _ => decide (i = j)
  | .str s, _, .Constant (.str x) _ _ => decide (x = S2 s)
  | .glS _ s, sc, .Name x _ => glB sc x && okN x && decide ((x, s) ∈ Γ.gS)
  | .glI _ i, sc, .Name x _ => glB sc x && okN x && decide ((x, i) ∈ Γ.gI)
  | .glC _ c, sc, .Name x _ => glB sc x && okN x && decide ((x, c) ∈ Γ.gC)
  | .tup es, sc, .Tuple l _ _ => chkEs es sc l
  | .lst es, sc, .List l _ => chkEs es sc l
  | .dnK, _, .Dict [] [] _ => true
  | .dnT, _, .Dict [] [] _ => true
  | .disp ks es, sc, .Dict keys vals _ => keysAreC ks keys && chkEs es sc vals && decide (keys.length = vals.length) && decide (0 < keys.length) && decide (keys.length ≤ 15)
  | .call f es, sc, .Call (.Name x _) l [] _ => hotFn Γ x l && glB sc x && okN x && decide ((x, f) ∈ Γ.fns) && chkEs es sc l
  | .callK f pm es, sc, .Call (.Name x _) [] (k :: kws) _ => !Γ.hot && glB sc x && okN x && decide ((x, f) ∈ Γ.fns) && (match kwNames (k :: kws) with
    | some ks => decide ((x, ks, pm) ∈ Γ.kw) && decide (ks.length = pm.length)
    | none => false) && chkKs es sc (k :: kws)
  | .bf2 b e1 e2, sc, .Call (.Name x _) [a1, a2] [] _ => !Γ.hot && bltOk Γ sc x && decide (x = bf2Name b) && chkE e1 sc a1 && chkE e2 sc a2
  | .bf b e, sc, .Call (.Name x _) [a] [] _ => bltOk Γ sc x && decide (x = bfName b) && chkE e sc a && (!(coldBf b) || !Γ.hot)
  | .isi e t, sc, .Call (.Name x _) [a, .Name y _] [] _ => bltOk Γ sc x && decide (x = ("isinstance" : PySem.Str)) && bltOk Γ sc y && decide (y = tyStr t) && chkE e sc a
  | .meth m o es, sc, .Call (.Attribute a n apos) l [] cpos => decide (n = mfName m) && chkE o sc a && chkEs es sc l && noSuper a && (apos.endLine == cpos.line) && mfCnt m l.length
  | .bin op a b, sc, .BinOp x o y _ => decide (o = opP op) && chkE a sc x && chkE b sc y
  | .neg a, sc, .UnaryOp .USub x _ => chkE a sc x
  | .cmp c a b, sc, .Compare x [o] [y] _ => decide (o = cmP c) && chkE a sc x && chkE b sc y
  | .chain c d a b e, sc, .Compare x [o, p] [y, z] _ => decide (o = cmP c) && decide (p = cmP d) && chkE a sc x && chkE b sc y && chkE e sc z
  | .and a b, sc, .BoolOp .And (x :: y :: r) pos => chkE a sc x && (match r with
    | [] => chkE b sc y
    | _ :: _ => chkE b sc (.BoolOp .And (y :: r) pos))
  | .or a b, sc, .BoolOp .Or (x :: y :: r) pos => chkE a sc x && (match r with
    | [] => chkE b sc y
    | _ :: _ => chkE b sc (.BoolOp .Or (y :: r) pos))
  | .not a, sc, .UnaryOp .Not x _ => chkE a sc x
  | .ite c a b, sc, .IfExp t x y _ => chkE c sc t && chkE a sc x && chkE b sc y
  | .ix a b, sc, .Subscript x y _ => chkE a sc x && chkE b sc y
  | .slL a lo, sc, .Subscript x (.Slice (some l) none none _) _ => chkE a sc x && chkE lo sc l
  | .slU a hi, sc, .Subscript x (.Slice none (some h) none _) _ => chkE a sc x && chkE hi sc h
  | .slB a lo hi, sc, .Subscript x (.Slice (some l) (some h) none _) _ => chkE a sc x && chkE lo sc l && chkE hi sc h
  | .comp t it c e own, sc, .ListComp el [⟨tg, iter, ifs, 0⟩] scope _ =>
    !Γ.hot && chkT t scope tg && chkI it sc iter && chkC c scope ifs && chkE e scope el && blkC Γ.N sc scope (ownOf Γ.N own) && tOwn t own
  | .rv a, sc, .Subscript x y _ => isRvE y && chkE a sc x
  | .errIs n cs, sc, .Call (.Name x _) [.Name y _, ce] [] _ => bltOk Γ sc x && decide (x = ("isinstance" : PySem.Str)) && decide (Γ.err = some n) && decide (Γ.N[n]? = some y) && visB sc y && okN y && clsArg Γ sc cs ce
  | .errF n i, sc, .Attribute (.Name x _) f _ => decide (Γ.err = some n) && decide (Γ.N[n]? = some x) && visB sc x && okN x && decide ((f, i) ∈ Γ.fld)
  | _, _, _ => false
def chkEs : Es → Scope → List Expr → Bool
  | .nil, _, [] => true
  | .cons e es, sc, x :: l => chkE e sc x && chkEs es sc l
  | _, _, _ => false
def chkKs : Es → Scope → List Keyword → Bool
  | .nil, _, [] => true
  | .cons e es, sc, ⟨_, x, _⟩ :: l => chkE e sc x && chkKs es sc l
  | _, _, _ => false
def chkC : Ec → Scope → List Expr → Bool
  | .yes, _, [] => true
  | .test e, sc, [x] => chkE e sc x
  | _, _, _ => false
def chkI : It → Scope → Expr → Bool
  | .val e, sc, x => chkE e sc x
  | .rng e, sc, .Call (.Name x _) [a] [] _ => bltOk Γ sc x && decide (x = ("range" : PySem.Str)) && chkE e sc a
  | .rng2 a b, sc, .Call (.Name x _) [y, z] [] _ => bltOk Γ sc x && decide (x = ("range" : PySem.Str)) && chkE a sc y && chkE b sc z
  | .rng3 a b c, sc, .Call (.Name x _) [y, z, w] [] _ => bltOk Γ sc x && decide (x = ("range" : PySem.Str)) && chkE a sc y && chkE b sc z && chkE c sc w
  | .rev e, sc, .Call (.Name x _) [a] [] _ => !Γ.hot && bltOk Γ sc x && decide (x = ("reversed" : PySem.Str)) && chkE e sc a
  | .keys i, sc, .Name x _ => decide (Γ.N[i]? = some x) && visB sc x && okN x && notErr Γ i
  | _, _, _ => false
def chkT : T → Scope → Expr → Bool
  | .nm i, sc, .Name x _ => decide (Γ.N[i]? = some x) && locB sc x && notErr Γ i
  | .tp is, sc, .Tuple l _ _ => namesAre Γ is sc l && is.all (notErr Γ)
  | .sb o i, sc, .Subscript x y _ => chkE o sc x && chkE i sc y
  | _, _, _ => false
end
end

/-- what stands fast through a def, through an except suite: en, its error's slot -/
structure Gd extends Gb where
  en : Option Nat
  er : V → List Nat → List Nat → List D → List Addr → Hp → Prop
  erm : ∀ v ms ks fs ι H ι' H', Ext ι H ι' H' → er v ms ks fs ι H → er v ms ks fs ι' H'
instance : Coe Gd Gb := ⟨Gd.toGb⟩
/-- a def's -/
def Gb.cold (g : Gb) : Gd := { toGb := g, en := none, er := fun _ _ _ _ _ _ => False, erm := fun _ _ _ _ _ _ _ _ _ h => h }
/-- slots and their values -/
structure RepS (g : Gd) (ι : List Addr) (H : Hp) (ρ : Env) (σ : L2.St) : Prop where
  len : ρ.length = σ.length
  at_ : ∀ (i : Nat) d, g.en ≠ some i → ρ[i]? = some (some d) → ∃ v, σ[i]? = some (some v) ∧ Rep g ι H d v
  ea : ∀ (i : Nat) d, g.en = some i → ρ[i]? = some (some d) → ∃ v ms ks fs, d = .err ms ks fs ∧ σ[i]? = some (some v) ∧ g.er v ms ks fs ι H
theorem RepS.mono {g : Gd} {ι ι' : List Addr} {H H' : Hp} {ρ : Env} {σ : L2.St} (e : Ext ι H ι' H') (r : RepS g ι H ρ σ) : RepS g ι' H' ρ σ :=
  ⟨r.len, fun i d n h => let ⟨v, h1, h2⟩ := r.at_ i d n h; ⟨v, h1, e.rep _ _ h2⟩, fun i d n h => let ⟨v, ms, ks, fs, h0, h1, h2⟩ := r.ea i d n h; ⟨v, ms, ks, fs, h0, h1, g.erm _ _ _ _ _ _ _ _ e h2⟩⟩
theorem RepS.set {g : Gd} {ι : List Addr} {H : Hp} {ρ : Env} {σ : L2.St} (r : RepS g ι H ρ σ) {d : D} {v : V} (i : Nat) (hi : g.en ≠ some i) (h : Rep g ι H d v) : RepS g ι H (ρ.set i (some d)) (σ.set i (some v)) := by
  refine ⟨by simp [r.len], fun j e hn he => ?_, fun j e hn he => ?_⟩
  · by_cases hij : i = j
    · subst hij
      by_cases hl : i < ρ.length
      · rw [List.getElem?_set_self hl] at he
        cases he
        exact ⟨v, List.getElem?_set_self (by rw [← r.len]; exact hl), h⟩
      · rw [List.getElem?_eq_none (by simp; omega)] at he
        cases he
    · rw [List.getElem?_set_ne hij] at he
      obtain ⟨w, h1, h2⟩ := r.at_ j e hn he
      exact ⟨w, by rw [List.getElem?_set_ne hij]; exact h1, h2⟩
  · have hij : i ≠ j := fun z => hi (z ▸ hn)
    rw [List.getElem?_set_ne hij] at he
    obtain ⟨w, ms, ks, fs, h0, h1, h2⟩ := r.ea j e hn he
    exact ⟨w, ms, ks, fs, h0, by rw [List.getElem?_set_ne hij]; exact h1, h2⟩
/-- a slot that is emptied -/
theorem RepS.drop {g : Gd} {ι : List Addr} {H : Hp} {ρ : Env} {σ : L2.St} (r : RepS g ι H ρ σ) (i : Nat) : RepS g ι H (ρ.set i none) (σ.set i none) := by
  have key : ∀ (j : Nat) d, (ρ.set i none)[j]? = some (some d) → i ≠ j ∧ ρ[j]? = some (some d) := by
    intro j d h
    by_cases hij : i = j
    · subst hij
      by_cases hl : i < ρ.length
      · rw [List.getElem?_set_self hl] at h; cases h
      · rw [List.getElem?_eq_none (by simp; omega)] at h; cases h
    · rw [List.getElem?_set_ne hij] at h; exact ⟨hij, h⟩
  refine ⟨by simp [r.len], fun j e hn he => ?_, fun j e hn he => ?_⟩
  · obtain ⟨hij, he⟩ := key j e he
    rw [List.getElem?_set_ne hij]
    exact r.at_ j e hn he
  · obtain ⟨hij, he⟩ := key j e he
    rw [List.getElem?_set_ne hij]
    exact r.ea j e hn he
theorem RepS.wipe {g : Gd} {ι : List Addr} {H : Hp} {ρ : Env} {σ : L2.St} (r : RepS g ι H ρ σ) : ∀ own : List Nat, RepS g ι H (wipeE ρ own) (L2.wipe σ own)
  | [] => r
  | i :: own => (RepS.wipe r own).drop i

/-- what a def of the text promises -/
def spF (g : Gb) (cf : CF) (f np : Nat) : Sp := fun vs H Q E => vs.length = np ∧ ∃ ι μ ds, Sim g ι μ H ∧ RepL g ι H ds vs ∧ wpR (cf f ds μ) (OkV g ι H Q) (ExW g ι H E)

/-- what __init__ of an error's class promises: fields fs -/
def spI (C : Addr) (fs : List PySem.Str) : Sp := fun vs H Q _ => ∃ a ws, vs = .ref a :: ws ∧ ws.length = fs.length ∧ H a = some (exo a C none) ∧
  ∀ d H', H d = none → d ≠ a → H' a = some (exo a C (some d)) → (∃ l, H' d = some (exd d l) ∧ ∀ (i : Nat) f w, fs[i]? = some f → ws[i]? = some w → l.lookup f = some w) → (∀ b, b ≠ a → b ≠ d → H' b = H b) → Q .non H'
/-- a class whose errors are raised -/
structure RaiseOk (g : Gb) (X : Cx) (x : PySem.Str) (ms ks : List Nat) : Prop where
  mg : X.mg x = some (.ref (g.clsA (ms.headD 0)))
  mro : ms ∈ g.mros
  T : OexC X.K (g.clsA (ms.headD 0))
  nd : ks.Nodup
  ini : ∃ fI fd ps, PySem.W.findIn X.K (.ref (g.clsA (ms.headD 0))) "__init__" = some (some (.ref fI)) ∧ PySem.W.typeIn X.K (.ref fI) = some (.type "function") ∧ Binds X.K fd ps [] ∧ FnOk X.prog X.w X.K X.mg X.base (L2N.CX X.prog X.w) 1 fI fd ps (spI (g.clsA (ms.headD 0)) (ks.map g.fld))
/-- a class that clauses name -/
structure CatchOk (g : Gb) (X : Cx) (x : PySem.Str) (c : Nat) : Prop where
  mg : X.mg x = some (.ref (g.clsA c))
  em : ∀ ms ∈ g.mros, PySem.W.exmOne X.K (.ref (g.clsA (ms.headD 0))) (.ref (g.clsA c)) = some (ms.contains c)
/-- a field that suites read -/
structure FieldOk (g : Gb) (X : Cx) (f : PySem.Str) (k : Nat) : Prop where
  eq : g.fld k = f
  no : ∀ ms ∈ g.mros, PySem.W.findIn X.K (.ref (g.clsA (ms.headD 0))) f = some none
/-- the error of a suite: at a, of the class cls, its dict d -/
def erR (g : Gb) (a : Addr) (cls : Value) (d : Option Addr) : V → List Nat → List Nat → List D → List Addr → Hp → Prop := fun v ms ks fs ι H => v = .ref a ∧ ExcR g ι H ⟨ms, ks, fs⟩ cls d
structure ErrX (g : Gd) (X : Cx) : Prop where
  ex : ∃ (a : Addr) (oe : PySem.Obj) (cls : Value) (d : Option Addr) (pn : List (Addr × PySem.Obj)) (X0 : Cx), X = X0.suite a ((a, oe) :: pn) ∧ L2N.Zn cls d oe ∧ (∃ vs, oe.data = .fields vs) ∧ g.er = erR g a cls d
/-- where an expression stands -/
structure XOk (Γ : Stat) (g : Gd) (cf : CF) (W : WX) (k : Nat) (sc : Scope) (X : Cx) : Prop where
  N : X.N = Γ.N
  nd : X.N.Nodup
  P : X.prog = g.P
  w : X.w = g.w
  K : X.K = g.K
  calm : Γ.hot = false → X.calm = true
  room : Γ.hot = false → Room k X.A
  un : X.A.units + 100 < cLine
  hc : Γ.hot = true → HotC X
  rmH : Γ.hot = true → RoomH k X.A
  k2 : 2 ≤ k
  en : g.en = Γ.err
  hotE : Γ.hot = false → Γ.err = none
  er : ∀ n, Γ.err = some n → ErrX g X
  tk : L2N.Takes X W
  po : PassesOwn (model X.prog X.w) X.A X.env X.xe
  loc : ∀ x, sc.names.lookup x = some .local → X.env.scope.names.lookup x = some .local
  cel : ∀ x, sc.names.lookup x = some .cell → X.env.scope.names.lookup x = some .cell ∧ X.fn x = true
  fre : ∀ x, sc.names.lookup x = some .free → X.env.scope.names.lookup x = some .cell ∨ X.env.scope.names.lookup x = some .free
  gl : ∀ x, sc.names.lookup x = some .globalImplicit → Gl X x
  mgS : ∀ x s, (x, s) ∈ Γ.gS → ∃ t, X.mg x = some (.str (S2 s) t)
  mgI : ∀ x i, (x, i) ∈ Γ.gI → ∃ t, X.mg x = some (.int i t)
  mgC : ∀ x c, (x, c) ∈ Γ.gC → X.mg x = some (.ref (g.cA c)) ∧ CstAt g.K g.w (g.cA c) (g.C c)
  mgB : ∀ x, x ∈ Γ.bl → X.mg x = none
  bk : X.env.blockKind = .function
  fnk : ∀ x f, (x, f) ∈ Γ.fns → ∃ a fd ps, X.mg x = some (.ref a) ∧ PySem.W.keepIn X.K (.ref a) = true ∧ Binds X.K fd ps [] ∧ (∀ ds μ, ds.length ≠ ps.length → cf f ds μ = .stuck) ∧ FnOk X.prog X.w X.K X.mg X.base (L2N.CX X.prog X.w) k a fd ps (spF g cf f ps.length) ∧ (x ∈ Γ.hfn → FnH X.prog X.w X.K X.mg X.base (L2N.CX X.prog X.w) k a fd ps (spF g cf f ps.length)) ∧ (∀ ks pm, (x, ks, pm) ∈ Γ.kw → NBinds fd ps ks pm)
  rse : ∀ x ms ks, (x, ms, ks) ∈ Γ.cls → RaiseOk g X x ms ks
  hcl : ∀ x c, (x, c) ∈ Γ.hcl → CatchOk g X x c
  fld : ∀ f i, (f, i) ∈ Γ.fld → FieldOk g X f i
  xfc : ∀ ms ∈ g.mros, XfI X.K (g.clsA (ms.headD 0))
section
variable {Γ : Stat} {g : Gd} {cf : CF} {W : WX} {k : Nat} {sc : Scope} {X : Cx}
theorem XOk.hu (x : XOk Γ g cf W k sc X) : X.A.units + 100 < cLine := x.un
theorem XOk.ne (x : XOk Γ g cf W k sc X) {i : Nat} (h : notErr Γ i = true) : g.en ≠ some i := by
  rw [x.en]; exact of_decide_eq_true h
theorem XOk.warm (x : XOk Γ g cf W k sc X) : WarmC X := by
  cases h : Γ.hot with
  | true => exact .inr (x.hc h)
  | false => exact .inl (x.calm h)
theorem notHot {Γ : Stat} (h : (!Γ.hot) = true) : Γ.hot = false := by simpa using h
theorem XOk.vis (x : XOk Γ g cf W k sc X) {y : PySem.Str} (h : visB sc y = true) : Vis X.env.scope y := by
  unfold visB at h
  split at h
  · rename_i e; exact .inl (x.loc _ e)
  · rename_i e; exact .inr (.inl (x.cel _ e).1)
  · rename_i e
    rcases x.fre _ e with q | q
    · exact .inr (.inl q)
    · exact .inr (.inr q)
  · cases h
theorem XOk.lc (x : XOk Γ g cf W k sc X) {y : PySem.Str} (h : locB sc y = true) : Loc X.env.scope y ∧ (X.fn y = true ∨ X.env.scope.names.lookup y = some .local) := by
  unfold locB at h
  split at h
  · rename_i e; exact ⟨.inl (x.loc _ e), .inr (x.loc _ e)⟩
  · rename_i e; exact ⟨.inr (x.cel _ e).1, .inl (x.cel _ e).2⟩
  · cases h
theorem XOk.glo (x : XOk Γ g cf W k sc X) {y : PySem.Str} (h : glB sc y = true) : Gl X y := by
  unfold glB at h
  split at h
  · rename_i e; exact x.gl _ e
  · cases h
theorem okN_parts {y : PySem.Str} (h : okN y = true) : (y == ("__debug__" : PySem.Str)) = false ∧ (y == ("__classdict__" : PySem.Str)) = false ∧ y ≠ "__name__" := by
  unfold okN at h
  simp only [Bool.and_eq_true, Bool.not_eq_true', beq_eq_false_iff_ne] at h
  exact ⟨by simpa using h.1.1, by simpa using h.1.2, h.2⟩
theorem XOk.blt (x : XOk Γ g cf W k sc X) {y : PySem.Str} (h : bltOk Γ sc y = true) : Gl X y ∧ X.mg y = none ∧ (y == ("__debug__" : PySem.Str)) = false ∧ y ≠ "__name__" := by
  unfold bltOk at h
  rw [Bool.and_eq_true, Bool.and_eq_true, decide_eq_true_eq] at h
  obtain ⟨h1, h2, h3⟩ := okN_parts h.1.2
  exact ⟨x.glo h.1.1, x.mgB _ h.2, h1, h3⟩
end

/-! ### readings -/
section
variable (g : Gd) (cf : CF) (W : WX)
def exW (ι : List Addr) (H : Hp) (σ : L2.St) : Exc → Store → Prop := ExW g ι H fun c d H' => W c d σ H'
def semE (m : E) : TE := fun σ H Q => ∃ ι ρ μ, Sim g ι μ H ∧ RepS g ι H ρ σ ∧ wpR (ev g.C cf m ρ μ) (OkV g ι H Q) (exW g W ι H σ)
def semT (m : E) : TT := fun σ H Q => ∃ ι ρ μ, Sim g ι μ H ∧ RepS g ι H ρ σ ∧ wpR (evT g.C cf m ρ μ) (OkB g ι H Q) (exW g W ι H σ)
def semA (m : Es) : TA := fun σ H Q => ∃ ι ρ μ, Sim g ι μ H ∧ RepS g ι H ρ σ ∧ wpR (evs g.C cf m ρ μ) (OkL g ι H Q) (exW g W ι H σ)
def semC (m : Ec) : TT := fun σ H Q => ∃ ι ρ μ, Sim g ι μ H ∧ RepS g ι H ρ σ ∧ wpR (evC g.C cf m ρ μ) (OkB g ι H Q) (exW g W ι H σ)
def semG (t : T) : TG := fun v σ H Q => ∃ ι ρ μ d, Sim g ι μ H ∧ RepS g ι H ρ σ ∧ Rep g ι H d v ∧ wpR (asgT g.C cf t d ρ μ) (fun ρ' μ' => ∀ ι' H' σ', Ext ι H ι' H' → Sim g ι' μ' H' → RepS g ι' H' ρ' σ' → (∀ own, tOwn t own = true → L2.wipe σ' own = L2.wipe σ own) → Q σ' H') (exW g W ι H σ)
end
theorem exW.mono {g : Gd} {W : WX} {ι ι1 : List Addr} {H H1 : Hp} {σ : L2.St} {x : Exc} {μ : Store} (e : Ext ι H ι1 H1) (h : exW g W ι H σ x μ) : exW g W ι1 H1 σ x μ := ExW.mono e h
theorem PE.imp {X : Cx} {e : Expr} {t t' : TE} (h : PE X e t) (i : ∀ σ H Q, t' σ H Q → t σ H Q) : PE X e t' := ⟨fun pins s σ H Q I q => h.run pins s σ H Q I (i σ H Q q)⟩
theorem PT.imp {X : Cx} {e : Expr} {t t' : TT} (h : PT X e t) (i : ∀ σ H Q, t' σ H Q → t σ H Q) : PT X e t' := ⟨fun pins s σ H Q I q => h.run pins s σ H Q I (i σ H Q q)⟩
theorem PA.imp {X : Cx} {e : List Expr} {t t' : TA} (h : PA X e t) (i : ∀ σ H Q, t' σ H Q → t σ H Q) : PA X e t' := ⟨fun pos pins s σ H Q I q => h.run pos pins s σ H Q I (i σ H Q q)⟩
theorem PS.imp {X : Cx} {e : Stmt} {t t' : TS} (h : PS X e t) (i : ∀ D σ H, t' D σ H → t D σ H) : PS X e t' := ⟨fun pins s σ H D I q => h.run pins s σ H D I (i D σ H q)⟩
theorem PG.imp {X : Cx} {e : Expr} {t t' : TG} (h : PG X e t) (i : ∀ v σ H Q, t' v σ H Q → t v σ H Q) : PG X e t' := ⟨fun pins s σ H v u Q I r q => h.run pins s σ H v u Q I r (i v σ H Q q)⟩
theorem PE.or {X : Cx} {e : Expr} {t t' : TE} (h : PE X e t) (h' : PE X e t') : PE X e (fun σ H Q => t σ H Q ∨ t' σ H Q) := ⟨fun pins s σ H Q I q => q.elim (h.run pins s σ H Q I) (h'.run pins s σ H Q I)⟩
theorem PS.or {X : Cx} {e : Stmt} {t t' : TS} (h : PS X e t) (h' : PS X e t') : PS X e (fun D σ H => t D σ H ∨ t' D σ H) := ⟨fun pins s σ H D I q => q.elim (h.run pins s σ H D I) (h'.run pins s σ H D I)⟩

section
variable (Γ : Stat) (g : Gd) (cf : CF)
def SndE (m : E) : Prop := ∀ (sc : Scope) (e : Expr) (W : WX) (k : Nat) (X : Cx), chkE Γ m sc e = true → XOk Γ g cf W k sc X → PE X e (semE g cf W m)
def SndT (m : E) : Prop := ∀ (sc : Scope) (e : Expr) (W : WX) (k : Nat) (X : Cx), chkE Γ m sc e = true → XOk Γ g cf W k sc X → PT X e (semT g cf W m)
def SndA (m : Es) : Prop := ∀ (sc : Scope) (e : List Expr) (W : WX) (k : Nat) (X : Cx), chkEs Γ m sc e = true → XOk Γ g cf W k sc X → PA X e (semA g cf W m)
def SndC (m : Ec) : Prop := ∀ (sc : Scope) (e : List Expr) (W : WX) (k : Nat) (X : Cx), chkC Γ m sc e = true → XOk Γ g cf W k sc X → PTs X e (semC g cf W m)
def SndG (m : T) : Prop := ∀ (sc : Scope) (e : Expr) (W : WX) (k : Nat) (X : Cx), chkT Γ m sc e = true → XOk Γ g cf W k sc X → PG X e (semG g cf W m)
end
section
variable {Γ : Stat} {g : Gd} {cf : CF} {W : WX}
/-- what no text of Mini is -/
def NoStar : Expr → Bool
  | .Starred _ _ => false
  | _ => true
def NoSet : Expr → Bool
  | .Set _ _ _ => false
  | _ => true
def NoSlice : Expr → Bool
  | .Slice _ _ _ _ => false
  | _ => true
theorem chk_plain {m : E} {sc : Scope} {e : Expr} (h : chkE Γ m sc e = true) : NoStar e = true ∧ NoSet e = true ∧ NoSlice e = true := by
  cases e with
  | Starred _ _ => cases m <;> simp [chkE] at h
  | Set _ _ _ => cases m <;> simp [chkE] at h
  | Slice _ _ _ _ => cases m <;> simp [chkE] at h
  | _ => exact ⟨rfl, rfl, rfl⟩
theorem star_of {e : Expr} {l : List Expr} {env : PySem.Env} (h : NoStar e = true) : starEach (e :: l) env = (false, eval e env) :: starEach l env := by
  cases e <;> first | rfl | cases h
theorem star_plain {m : Es} {sc : Scope} : ∀ {l : List Expr} {env : PySem.Env} {pos : Pos}, chkEs Γ m sc l = true → (backTo pos (starEach l env)).any (·.1) = false := by
  intro l
  induction l generalizing m with
  | nil => intro env pos _; rfl
  | cons e l ih =>
    intro env pos h
    cases m with
    | nil => simp [chkEs] at h
    | cons a as =>
      rw [chkEs, Bool.and_eq_true] at h
      rw [star_of (chk_plain h.1).1]
      exact ih h.2
theorem star_few {m : Es} {sc : Scope} : ∀ {l : List Expr} {env : PySem.Env} {pos : Pos}, chkEs Γ m sc l = true → (backTo pos (starEach l env)).all (fun x => !x.1) = true := by
  intro l
  induction l generalizing m with
  | nil => intro env pos _; rfl
  | cons e l ih =>
    intro env pos h
    cases m with
    | nil => simp [chkEs] at h
    | cons a as =>
      rw [chkEs, Bool.and_eq_true] at h
      rw [star_of (chk_plain h.1).1]
      exact ih h.2
theorem behind_of {e : Expr} (op : CmpOp) (h : NoSet e = true) : behindInMarks op e = false := by
  cases e <;> first | rfl | cases h
theorem fold_of {e : Expr} {env : PySem.Env} (h : NoSet e = true) (x : Value) : foldedSetIterable e env x = pure x := by
  cases e <;> first | rfl | cases h
theorem ix_of {e : Expr} (h : NoSlice e = true) : PlainIx e := by
  cases e <;> first | exact fun _ _ => rfl | cases h
theorem base_of {e : Expr} {n : PySem.Str} {env : PySem.Env} (h : noSuper e = true) : attributeBase e n env (eval e env) = eval e env := by
  unfold attributeBase
  split
  · cases h
  · rfl
end
end PL
end
section
set_option Elab.async false
set_option linter.all false
set_option autoImplicit false
set_option maxRecDepth 100000
set_option maxHeartbeats 400000
/-! Sound6: expressions. -/
namespace PL
open PySem PySem.Spec PyProof.Rows L2
section
variable {Γ : Stat} {g : Gd} {cf : CF} {W : WX} {σ : L2.St} {H : Hp} {a b c : E}
theorem sem1 {f : D → Store → Res D} {Q : VK} {r : V → Hp → VK → Prop} (hr : ∀ x H Q, (∃ ι μ d, Sim g ι μ H ∧ Rep g ι H d x ∧ wpR (f d μ) (OkV g ι H Q) anyE) → r x H Q)
    (h : ∃ ι ρ μ, Sim g ι μ H ∧ RepS g ι H ρ σ ∧ wpR ((ev g.C cf a ρ μ).bind f) (OkV g ι H Q) (exW g W ι H σ)) : semE g cf W a σ H fun x H1 => r x H1 Q := by
  obtain ⟨ι, ρ, μ, S, R, hw⟩ := h
  rw [wpR_bind] at hw
  exact ⟨ι, ρ, μ, S, R, wpR_mono hw (fun d1 μ1 h1 ι1 H1 v1 e1 S1 r1 => hr _ _ _ ⟨ι1, μ1, d1, S1, r1, wpR_mono h1 (fun _ _ z => z.mono e1) fun _ _ _ => trivial⟩) fun _ _ z => z⟩
theorem sem2 {f : D → D → Store → Res D} {Q : VK}
    (h : ∃ ι ρ μ, Sim g ι μ H ∧ RepS g ι H ρ σ ∧ wpR ((ev g.C cf a ρ μ).bind fun x μ => (ev g.C cf b ρ μ).bind fun y μ => f x y μ) (OkV g ι H Q) (exW g W ι H σ)) :
    tOp (rF g f) (semE g cf W a) (semE g cf W b) σ H Q := by
  obtain ⟨ι, ρ, μ, S, R, hw⟩ := h
  rw [wpR_bind] at hw
  refine ⟨ι, ρ, μ, S, R, wpR_mono hw (fun d1 μ1 h1 ι1 H1 v1 e1 S1 r1 => ?_) fun _ _ z => z⟩
  rw [wpR_bind] at h1
  exact ⟨ι1, ρ, μ1, S1, R.mono e1, wpR_mono h1 (fun d2 μ2 h2 ι2 H2 v2 e2 S2 r2 => ⟨ι2, μ2, d1, d2, S2, e2.rep _ _ r1, r2, wpR_mono h2 (fun _ _ z => z.mono (e1.trans e2)) fun _ _ _ => trivial⟩) fun _ _ z => z.mono e1⟩
/-- two values, then a yes or no -/
theorem sem2B {f : D → D → Store → Res Bool} {Q : Bool → Hp → Prop}
    (h : ∃ ι ρ μ, Sim g ι μ H ∧ RepS g ι H ρ σ ∧ wpR ((ev g.C cf a ρ μ).bind fun x μ => (ev g.C cf b ρ μ).bind fun y μ => f x y μ) (OkB g ι H Q) (exW g W ι H σ)) :
    tOp (rB g f) (semE g cf W a) (semE g cf W b) σ H fun x H' => ∃ k, x = .bl k ∧ Q k H' := by
  obtain ⟨ι, ρ, μ, S, R, hw⟩ := h
  rw [wpR_bind] at hw
  refine ⟨ι, ρ, μ, S, R, wpR_mono hw (fun d1 μ1 h1 ι1 H1 v1 e1 S1 r1 => ?_) fun _ _ z => z⟩
  rw [wpR_bind] at h1
  refine ⟨ι1, ρ, μ1, S1, R.mono e1, wpR_mono h1 (fun d2 μ2 h2 ι2 H2 v2 e2 S2 r2 => ⟨ι2, μ2, d1, d2, S2, e2.rep _ _ r1, r2, wpR_mono h2 (fun b μ z => ?_) fun _ _ _ => trivial⟩) fun _ _ z => z.mono e1⟩
  exact fun ι' H' e' S' => ⟨b, rfl, z.mono (e1.trans e2) ι' H' e' S'⟩
theorem semB_V {r : Store → Res Bool} {ι : List Addr} {μ : Store} {Q : VK} {E' : Exc → Store → Prop} (h : wpR ((r μ).bind fun k μ => .ok (.bl k) μ) (OkV g ι H Q) E') : wpR (r μ) (OkB g ι H fun b H' => Q (.bl b) H') E' := by
  rw [wpR_bind] at h
  exact wpR_mono h (fun b μ z ι' H' e S => z ι' H' _ e S rfl) fun _ _ z => z

theorem cmp_rule {k : Nat} {sc : Scope} {X : Cx} (x : XOk Γ g cf W k sc X) (cm : Cm) : OpR X (compareOp (cmP cm)) (rB g (cmpF g.C cm)) := by
  have hu := x.hu
  cases cm with
  | eq => exact op_eqF x.K (by omega)
  | ne => exact op_neF x.K (by omega)
  | lt => exact op_ltF x.K (by omega)
  | le => exact op_leF
  | gt => exact op_gtF
  | ge => exact op_geF
  | is => exact op_isF
  | isn => exact op_isnF
  | inn => exact op_inF x.K x.w (by omega)
  | nin => exact op_ninF x.K x.w (by omega)
theorem op_rule {k : Nat} {sc : Scope} {X : Cx} (x : XOk Γ g cf W k sc X) (op : Op) : OpR X (binaryOp (opP op)) (rF g (binF op)) := by
  cases op with
  | add => exact op_addF x.K
  | sub => exact op_subF
  | mul => exact op_mulF x.K
  | fdiv => exact op_fdivF
  | mod => exact op_modF
  | pow => exact op_powF
  | shl => exact op_shlF
  | shr => exact op_shrF
  | band => exact op_bandF

/-! ### names, constants -/
theorem const_imp {v : V} {d : D} (hd : ∀ ι H, Rep g ι H d v) {σ : L2.St} {H : Hp} {Q : VK} (h : ∃ ι ρ μ, Sim g ι μ H ∧ RepS g ι H ρ σ ∧ wpR (.ok d μ) (OkV g ι H Q) (exW g W ι H σ)) : tC v σ H Q := by
  obtain ⟨ι, ρ, μ, S, R, hw⟩ := h
  exact OkV.same S hw (hd ι H)
theorem c_v (i : Nat) : SndE Γ g cf (.v i) := by
  intro sc e W k X hc x
  cases e with
  | Name y p =>
    simp only [chkE, Bool.and_eq_true, decide_eq_true_eq] at hc
    obtain ⟨n1, n2, _⟩ := okN_parts hc.1.2
    refine PE.imp (pe_var (i := i) (by rw [x.N]; exact hc.1.1.1) (x.vis hc.1.1.2) n1 n2) ?_
    rintro σ H Q ⟨ι, ρ, μ, S, R, hw⟩
    have hw : wpR (match ρ[i]? with
      | some (some d) => .ok d μ
      | _ => .stuck) (OkV g ι H Q) (exW g W ι H σ) := hw
    split at hw
    · rename_i d e0
      obtain ⟨v, e1, r⟩ := R.at_ i d (x.ne hc.2) e0
      exact ⟨v, e1, OkV.same S hw r⟩
    · exact False.elim hw
  | _ => simp [chkE] at hc
theorem c_non : SndE Γ g cf .non := by
  intro sc e W k X hc x
  cases e with
  | Constant c j p =>
    cases c with
    | none => exact PE.imp pe_non fun σ H Q h => const_imp (d := .non) (fun _ _ => rfl) h
    | _ => simp [chkE] at hc
  | _ => simp [chkE] at hc
theorem c_bl (b : Bool) : SndE Γ g cf (.bl b) := by
  intro sc e W k X hc x
  cases e with
  | Constant c j p =>
    cases c with
    | bool b' =>
      simp only [chkE, beq_iff_eq] at hc
      subst hc
      exact PE.imp pe_bl fun σ H Q h => const_imp (d := .bl b) (fun _ _ => rfl) h
    | _ => simp [chkE] at hc
  | _ => simp [chkE] at hc
theorem c_int (i : Int) : SndE Γ g cf (.int i) := by
  intro sc e W k X hc x
  cases e with
  | Constant c j p =>
    cases c with
    | int b' =>
      simp only [chkE, decide_eq_true_eq] at hc
      subst hc
      exact PE.imp pe_int fun σ H Q h => const_imp (d := .int i) (fun _ _ => rfl) h
    | _ => simp [chkE] at hc
  | _ => simp [chkE] at hc
theorem c_str (s : Txt) : SndE Γ g cf (.str s) := by
  intro sc e W k X hc x
  cases e with
  | Constant c j p =>
    cases c with
    | str b' =>
      simp only [chkE, decide_eq_true_eq] at hc
      subst hc
      exact PE.imp pe_str fun σ H Q h => const_imp (d := .str s) (fun _ _ => rfl) h
    | _ => simp [chkE] at hc
  | _ => simp [chkE] at hc
theorem c_glS (n : Nat) (s : Txt) : SndE Γ g cf (.glS n s) := by
  intro sc e W k X hc x
  cases e with
  | Name y p =>
    simp only [chkE, Bool.and_eq_true, decide_eq_true_eq] at hc
    obtain ⟨t, ht⟩ := x.mgS _ _ hc.2
    exact PE.imp (pe_glob (v := .str (S2 s)) (x.glo hc.1.1) ht ⟨t, rfl⟩ (okN_parts hc.1.2).1) fun σ H Q h => const_imp (d := .str s) (fun _ _ => rfl) h
  | _ => simp [chkE] at hc
theorem c_glI (n : Nat) (i : Int) : SndE Γ g cf (.glI n i) := by
  intro sc e W k X hc x
  cases e with
  | Name y p =>
    simp only [chkE, Bool.and_eq_true, decide_eq_true_eq] at hc
    obtain ⟨t, ht⟩ := x.mgI _ _ hc.2
    exact PE.imp (pe_glob (v := .int i) (x.glo hc.1.1) ht ⟨t, rfl⟩ (okN_parts hc.1.2).1) fun σ H Q h => const_imp (d := .int i) (fun _ _ => rfl) h
  | _ => simp [chkE] at hc
theorem c_glC (n c : Nat) : SndE Γ g cf (.glC n c) := by
  intro sc e W k X hc x
  cases e with
  | Name y p =>
    simp only [chkE, Bool.and_eq_true, decide_eq_true_eq] at hc
    obtain ⟨h1, h2⟩ := x.mgC _ _ hc.2
    exact PE.imp (pe_glob (v := .ref (g.cA c)) (x.glo hc.1.1) h1 rfl (okN_parts hc.1.2).1) fun σ H Q h => const_imp (d := .cst c) (fun _ _ => ⟨rfl, h2⟩) h
  | _ => simp [chkE] at hc

/-! ### operators -/
theorem c_bin (op : Op) (ha : SndE Γ g cf a) (hb : SndE Γ g cf b) : SndE Γ g cf (.bin op a b) := by
  intro sc e W k X hc x
  cases e with
  | BinOp l o r p =>
    simp only [chkE, Bool.and_eq_true, decide_eq_true_eq] at hc
    obtain ⟨⟨rfl, h1⟩, h2⟩ := hc
    exact PE.imp (pe_op (op_rule x op) (ha sc l W k X h1 x) (hb sc r W k X h2 x)) fun σ H Q h => sem2 h
  | _ => simp [chkE] at hc
theorem c_neg (ha : SndE Γ g cf a) : SndE Γ g cf (.neg a) := by
  intro sc e W k X hc x
  cases e with
  | UnaryOp o l p =>
    cases o with
    | USub =>
      simp only [chkE] at hc
      refine PE.imp (pe_un un_neg (ha sc l W k X hc x)) fun σ H Q h => sem1 (fun x H Q ⟨ι, μ, d, S, r, hw⟩ => ?_) h
      cases d with
      | int i => obtain rfl := r; exact ⟨i, rfl, OkV.same S hw rfl⟩
      | _ => exact False.elim hw
    | _ => simp [chkE] at hc
  | _ => simp [chkE] at hc
theorem c_cmp (cm : Cm) (ha : SndE Γ g cf a) (hb : SndE Γ g cf b) : SndE Γ g cf (.cmp cm a b) := by
  intro sc e W k X hc x
  cases e with
  | Compare l os rs p =>
    match os, rs, hc with
    | [o], [r], hc =>
      simp only [chkE, Bool.and_eq_true, decide_eq_true_eq] at hc
      obtain ⟨⟨rfl, h1⟩, h2⟩ := hc
      refine PE.imp (pe_cmpR (cmp_rule x cm) (ha sc l W k X h1 x) (hb sc r W k X h2 x) (behind_of _ (chk_plain h2).2.1)) ?_
      rintro σ H Q ⟨ι, ρ, μ, S, R, hw⟩
      have hw : wpR ((ev g.C cf a ρ μ).bind fun x μ => (ev g.C cf b ρ μ).bind fun y μ => (cmpF g.C cm x y μ).bind fun k μ => .ok (.bl k) μ) (OkV g ι H Q) (exW g W ι H σ) := hw
      rw [wpR_bind] at hw
      refine ⟨ι, ρ, μ, S, R, wpR_mono hw (fun d1 μ1 h1 ι1 H1 v1 e1 S1 r1 => ?_) fun _ _ z => z⟩
      rw [wpR_bind] at h1
      exact ⟨ι1, ρ, μ1, S1, R.mono e1, wpR_mono h1 (fun d2 μ2 h2 ι2 H2 v2 e2 S2 r2 => ⟨ι2, μ2, d1, d2, S2, e2.rep _ _ r1, r2, wpR_mono (semB_V (wpR_mono h2 (fun _ _ z => OkV.mono (e1.trans e2) z) fun _ _ z => z)) (fun _ _ z => z) fun _ _ _ => trivial⟩) fun _ _ z => z.mono e1⟩
    | [], _, hc => simp [chkE] at hc
    | [_], [], hc => simp [chkE] at hc
    | [_], _ :: _ :: _, hc => simp [chkE] at hc
    | _ :: _ :: _, _, hc => simp [chkE] at hc
  | _ => simp [chkE] at hc
theorem t_cmp (cm : Cm) (ha : SndE Γ g cf a) (hb : SndE Γ g cf b) : SndT Γ g cf (.cmp cm a b) := by
  intro sc e W k X hc x
  cases e with
  | Compare l os rs p =>
    match os, rs, hc with
    | [o], [r], hc =>
      simp only [chkE, Bool.and_eq_true, decide_eq_true_eq] at hc
      obtain ⟨⟨rfl, h1⟩, h2⟩ := hc
      exact PT.imp (pt_cmpR (cmp_rule x cm) (ha sc l W k X h1 x) (hb sc r W k X h2 x) (behind_of _ (chk_plain h2).2.1)) fun σ H Q h => sem2B h
    | [], _, hc => simp [chkE] at hc
    | [_], [], hc => simp [chkE] at hc
    | [_], _ :: _ :: _, hc => simp [chkE] at hc
    | _ :: _ :: _, _, hc => simp [chkE] at hc
  | _ => simp [chkE] at hc
theorem chain_sem {cm dm : Cm} {Q : VK} {Q2 : Bool → Hp → Prop}
    (hq : ∀ b H', Q2 b H' → Q (.bl b) H')
    (h : ∃ ι ρ μ, Sim g ι μ H ∧ RepS g ι H ρ σ ∧ wpR ((ev g.C cf a ρ μ).bind fun x μ => (ev g.C cf b ρ μ).bind fun y μ => (cmpF g.C cm x y μ).bind fun k μ =>
      if k then (ev g.C cf c ρ μ).bind fun z μ => cmpF g.C dm y z μ else .ok false μ) (OkB g ι H Q2) (exW g W ι H σ)) :
    tChain (rB g (cmpF g.C cm)) (rB g (cmpF g.C dm)) (semE g cf W a) (semE g cf W b) (semE g cf W c) σ H Q := by
  obtain ⟨ι, ρ, μ, S, R, hw⟩ := h
  rw [wpR_bind] at hw
  refine ⟨ι, ρ, μ, S, R, wpR_mono hw (fun d1 μ1 h1 ι1 H1 v1 e1 S1 r1 => ?_) fun _ _ z => z⟩
  rw [wpR_bind] at h1
  refine ⟨ι1, ρ, μ1, S1, R.mono e1, wpR_mono h1 (fun d2 μ2 h2 ι2 H2 v2 e2 S2 r2 => ?_) fun _ _ z => z.mono e1⟩
  rw [wpR_bind] at h2
  refine ⟨ι2, μ2, d1, d2, S2, e2.rep _ _ r1, r2, wpR_mono h2 (fun k μ3 h3 ι3 H3 e3 S3 => ⟨k, rfl, ?_⟩) fun _ _ _ => trivial⟩
  have e13 := e1.trans (e2.trans e3)
  cases k with
  | false =>
    rw [if_neg Bool.false_ne_true]
    exact hq false H3 (h3 ι3 H3 e13 S3)
  | true =>
    rw [if_pos rfl]
    have h3 : wpR ((ev g.C cf c ρ μ3).bind fun z μ => cmpF g.C dm d2 z μ) (OkB g ι H Q2) (exW g W ι H σ) := h3
    rw [wpR_bind] at h3
    exact ⟨ι3, ρ, μ3, S3, R.mono e13, wpR_mono h3 (fun d4 μ4 h4 ι4 H4 v4 e4 S4 r4 => ⟨ι4, μ4, d2, d4, S4, (e3.trans e4).rep _ _ r2, r4,
      wpR_mono h4 (fun b μ5 z ι5 H5 e5 S5 => hq b H5 (z ι5 H5 (e13.trans (e4.trans e5)) S5)) fun _ _ _ => trivial⟩) fun _ _ z => z.mono e13⟩
theorem t_chain (cm dm : Cm) (ha : SndE Γ g cf a) (hb : SndE Γ g cf b) (hcc : SndE Γ g cf c) : SndT Γ g cf (.chain cm dm a b c) := by
  intro sc e W k X hc x
  cases e with
  | Compare l os rs p =>
    match os, rs, hc with
    | [o, o'], [r, r'], hc =>
      simp only [chkE, Bool.and_eq_true, decide_eq_true_eq] at hc
      obtain ⟨⟨⟨⟨rfl, rfl⟩, h1⟩, h2⟩, h3⟩ := hc
      exact PT.imp (pt_chain (cmp_rule x cm) (cmp_rule x dm) (ha sc l W k X h1 x) (hb sc r W k X h2 x) (hcc sc r' W k X h3 x) (behind_of _ (chk_plain h3).2.1)) fun σ H Q h => chain_sem (Q2 := Q) (fun b H' q => ⟨b, rfl, q⟩) h
    | [], _, hc => simp [chkE] at hc
    | [_], [], hc => simp [chkE] at hc
    | [_], [_], hc => simp [chkE] at hc
    | [_], _ :: _ :: _, hc => simp [chkE] at hc
    | [_, _], [], hc => simp [chkE] at hc
    | [_, _], [_], hc => simp [chkE] at hc
    | [_, _], _ :: _ :: _ :: _, hc => simp [chkE] at hc
    | _ :: _ :: _ :: _, _, hc => simp [chkE] at hc
  | _ => simp [chkE] at hc
theorem c_chain (cm dm : Cm) (ha : SndE Γ g cf a) (hb : SndE Γ g cf b) (hcc : SndE Γ g cf c) : SndE Γ g cf (.chain cm dm a b c) := by
  intro sc e W k X hc x
  cases e with
  | Compare l os rs p =>
    match os, rs, hc with
    | [o, o'], [r, r'], hc =>
      simp only [chkE, Bool.and_eq_true, decide_eq_true_eq] at hc
      obtain ⟨⟨⟨⟨rfl, rfl⟩, h1⟩, h2⟩, h3⟩ := hc
      refine PE.imp (pe_chain (cmp_rule x cm) (cmp_rule x dm) (ha sc l W k X h1 x) (hb sc r W k X h2 x) (hcc sc r' W k X h3 x) (behind_of _ (chk_plain h3).2.1)) fun σ H Q h => chain_sem (Q2 := fun b H' => Q (.bl b) H') (fun b H' q => q) ?_
      obtain ⟨ι, ρ, μ, S, R, hw⟩ := h
      refine ⟨ι, ρ, μ, S, R, ?_⟩
      have hw : wpR ((ev g.C cf a ρ μ).bind fun x μ => (ev g.C cf b ρ μ).bind fun y μ => (cmpF g.C cm x y μ).bind fun k μ =>
        if k then (ev g.C cf c ρ μ).bind fun z μ => (cmpF g.C dm y z μ).bind fun k μ => .ok (.bl k) μ else .ok (.bl false) μ) (OkV g ι H Q) (exW g W ι H σ) := hw
      rw [wpR_bind] at hw ⊢
      refine wpR_mono hw (fun d1 μ1 h1 => ?_) fun _ _ z => z
      rw [wpR_bind] at h1 ⊢
      refine wpR_mono h1 (fun d2 μ2 h2 => ?_) fun _ _ z => z
      rw [wpR_bind] at h2 ⊢
      refine wpR_mono h2 (fun k μ3 h3 => ?_) fun _ _ z => z
      cases k with
      | false => exact fun ι' H' e S => h3 ι' H' _ e S rfl
      | true =>
        have h3 : wpR ((ev g.C cf c ρ μ3).bind fun z μ => (cmpF g.C dm d2 z μ).bind fun k μ => .ok (.bl k) μ) (OkV g ι H Q) (exW g W ι H σ) := h3
        show wpR ((ev g.C cf c ρ μ3).bind fun z μ => cmpF g.C dm d2 z μ) _ _
        rw [wpR_bind] at h3 ⊢
        exact wpR_mono h3 (fun d4 μ4 h4 => semB_V h4) fun _ _ z => z
    | [], _, hc => simp [chkE] at hc
    | [_], [], hc => simp [chkE] at hc
    | [_], [_], hc => simp [chkE] at hc
    | [_], _ :: _ :: _, hc => simp [chkE] at hc
    | [_, _], [], hc => simp [chkE] at hc
    | [_, _], [_], hc => simp [chkE] at hc
    | [_, _], _ :: _ :: _ :: _, hc => simp [chkE] at hc
    | _ :: _ :: _ :: _, _, hc => simp [chkE] at hc
  | _ => simp [chkE] at hc

/-! ### and, or, not, if -/
theorem t_not (ha : SndT Γ g cf a) : SndT Γ g cf (.not a) := by
  intro sc e W k X hc x
  cases e with
  | UnaryOp o l p =>
    cases o with
    | Not =>
      simp only [chkE] at hc
      refine PT.imp (pt_not (ha sc l W k X hc x)) ?_
      rintro σ H Q ⟨ι, ρ, μ, S, R, hw⟩
      have hw : wpR ((evT g.C cf a ρ μ).bind fun k μ => .ok (!k) μ) (OkB g ι H Q) (exW g W ι H σ) := hw
      rw [wpR_bind] at hw
      exact ⟨ι, ρ, μ, S, R, hw⟩
    | _ => simp [chkE] at hc
  | _ => simp [chkE] at hc
theorem c_not (ha : SndE Γ g cf a) : SndE Γ g cf (.not a) := by
  intro sc e W k X hc x
  cases e with
  | UnaryOp o l p =>
    cases o with
    | Not =>
      simp only [chkE] at hc
      refine PE.imp (pe_not (ha sc l W k X hc x)) fun σ H Q h => sem1 (r := fun x H1 Q => ∃ c, x = .bl c ∧ Q (.bl (!c)) H1) (fun x H Q ⟨ι, μ, d, S, r, hw⟩ => ?_) h
      cases d with
      | bl i => obtain rfl := r; exact ⟨i, rfl, OkV.same S hw rfl⟩
      | _ => exact False.elim hw
    | _ => simp [chkE] at hc
  | _ => simp [chkE] at hc
theorem sem_andT {Q : Bool → Hp → Prop} (h : semT g cf W (.and a b) σ H Q) : tAnd (semT g cf W a) (semT g cf W b) σ H Q := by
  obtain ⟨ι, ρ, μ, S, R, hw⟩ := h
  have hw : wpR ((evT g.C cf a ρ μ).bind fun k μ => if k then evT g.C cf b ρ μ else .ok false μ) (OkB g ι H Q) (exW g W ι H σ) := hw
  rw [wpR_bind] at hw
  refine ⟨ι, ρ, μ, S, R, wpR_mono hw (fun k μ1 h1 ι1 H1 e1 S1 => ?_) fun _ _ z => z⟩
  cases k with
  | false => rw [if_neg Bool.false_ne_true]; exact h1 ι1 H1 e1 S1
  | true => rw [if_pos rfl]; exact ⟨ι1, ρ, μ1, S1, R.mono e1, wpR_mono h1 (fun _ _ z => OkB.mono e1 z) fun _ _ z => z.mono e1⟩
theorem sem_orT {Q : Bool → Hp → Prop} (h : semT g cf W (.or a b) σ H Q) : tOr (semT g cf W a) (semT g cf W b) σ H Q := by
  obtain ⟨ι, ρ, μ, S, R, hw⟩ := h
  have hw : wpR ((evT g.C cf a ρ μ).bind fun k μ => if k then .ok true μ else evT g.C cf b ρ μ) (OkB g ι H Q) (exW g W ι H σ) := hw
  rw [wpR_bind] at hw
  refine ⟨ι, ρ, μ, S, R, wpR_mono hw (fun k μ1 h1 ι1 H1 e1 S1 => ?_) fun _ _ z => z⟩
  cases k with
  | true => rw [if_pos rfl]; exact h1 ι1 H1 e1 S1
  | false => rw [if_neg Bool.false_ne_true]; exact ⟨ι1, ρ, μ1, S1, R.mono e1, wpR_mono h1 (fun _ _ z => OkB.mono e1 z) fun _ _ z => z.mono e1⟩
/-- a test, whatever its whole is -/
def SndW (Γ : Stat) (g : Gd) (cf : CF) (m : E) : Prop := ∀ (sc : Scope) (op : BoolOp) (l : List Expr) (pos : Pos) (W : WX) (k : Nat) (X : Cx), chkE Γ m sc (.BoolOp op l pos) = true → XOk Γ g cf W k sc X → PW X (.BoolOp op l pos) (semT g cf W m)
theorem PW.imp {X : Cx} {e : Expr} {t t' : TT} (h : PW X e t) (i : ∀ σ H Q, t' σ H Q → t σ H Q) : PW X e t' := ⟨fun wh pins s σ H Q I q => h.run wh pins s σ H Q I (i σ H Q q)⟩
theorem w_and (ha : SndT Γ g cf a) (hb : SndT Γ g cf b) (hb' : SndW Γ g cf b) : SndW Γ g cf (.and a b) := by
  intro sc op l pos W k X hc x
  cases op with
  | Or => simp [chkE] at hc
  | And =>
    match l, hc with
    | [], hc => simp [chkE] at hc
    | [_], hc => simp [chkE] at hc
    | [y, z], hc =>
      simp only [chkE, Bool.and_eq_true] at hc
      exact PW.imp (pw_and (ha sc y W k X hc.1 x) (pw_and1 (hb sc z W k X hc.2 x))) fun σ H Q h => sem_andT h
    | y :: z :: v :: r, hc =>
      simp only [chkE, Bool.and_eq_true] at hc
      exact PW.imp (pw_and (ha sc y W k X hc.1 x) (hb' sc .And (z :: v :: r) pos W k X hc.2 x)) fun σ H Q h => sem_andT h
theorem w_or (ha : SndT Γ g cf a) (hb : SndT Γ g cf b) (hb' : SndW Γ g cf b) : SndW Γ g cf (.or a b) := by
  intro sc op l pos W k X hc x
  cases op with
  | And => simp [chkE] at hc
  | Or =>
    match l, hc with
    | [], hc => simp [chkE] at hc
    | [_], hc => simp [chkE] at hc
    | [y, z], hc =>
      simp only [chkE, Bool.and_eq_true] at hc
      exact PW.imp (pw_or (ha sc y W k X hc.1 x) (pw_or1 (hb sc z W k X hc.2 x))) fun σ H Q h => sem_orT h
    | y :: z :: v :: r, hc =>
      simp only [chkE, Bool.and_eq_true] at hc
      exact PW.imp (pw_or (ha sc y W k X hc.1 x) (hb' sc .Or (z :: v :: r) pos W k X hc.2 x)) fun σ H Q h => sem_orT h
theorem w_none {m : E} (h : ∀ sc op l pos, chkE Γ m sc (.BoolOp op l pos) = false) : SndW Γ g cf m := by
  intro sc op l pos W k X hc x
  rw [h] at hc
  cases hc
theorem t_bool {m : E} (h : ∀ sc e, chkE Γ m sc e = true → ∃ op l pos, e = .BoolOp op l pos) (w : SndW Γ g cf m) : SndT Γ g cf m := by
  intro sc e W k X hc x
  obtain ⟨op, l, pos, rfl⟩ := h sc e hc
  exact (w sc op l pos W k X hc x).pt
theorem and_form {sc : Scope} {e : Expr} (hc : chkE Γ (.and a b) sc e = true) : ∃ op l pos, e = .BoolOp op l pos := by
  cases e with
  | BoolOp op l pos => exact ⟨op, l, pos, rfl⟩
  | _ => simp [chkE] at hc
theorem or_form {sc : Scope} {e : Expr} (hc : chkE Γ (.or a b) sc e = true) : ∃ op l pos, e = .BoolOp op l pos := by
  cases e with
  | BoolOp op l pos => exact ⟨op, l, pos, rfl⟩
  | _ => simp [chkE] at hc
theorem sem_andV {Q : VK} (h : semE g cf W (.and a b) σ H Q) : tAndV (semE g cf W a) (semE g cf W b) σ H Q := by
  obtain ⟨ι, ρ, μ, S, R, hw⟩ := h
  have hw : wpR ((ev g.C cf a ρ μ).bind fun x μ => match x with
    | .bl k => if k then ev g.C cf b ρ μ else .ok (.bl false) μ
    | _ => .stuck) (OkV g ι H Q) (exW g W ι H σ) := hw
  rw [wpR_bind] at hw
  refine ⟨ι, ρ, μ, S, R, wpR_mono hw (fun d μ1 h1 ι1 H1 v1 e1 S1 r1 => ?_) fun _ _ z => z⟩
  cases d with
  | bl k =>
    obtain rfl := r1
    refine ⟨k, rfl, ?_⟩
    cases k with
    | false => rw [if_neg Bool.false_ne_true]; exact h1 ι1 H1 _ e1 S1 rfl
    | true => rw [if_pos rfl]; exact ⟨ι1, ρ, μ1, S1, R.mono e1, wpR_mono h1 (fun _ _ z => OkV.mono e1 z) fun _ _ z => z.mono e1⟩
  | _ => exact False.elim h1
theorem sem_orV {Q : VK} (h : semE g cf W (.or a b) σ H Q) : tOrV (semE g cf W a) (semE g cf W b) σ H Q := by
  obtain ⟨ι, ρ, μ, S, R, hw⟩ := h
  have hw : wpR ((ev g.C cf a ρ μ).bind fun x μ => match x with
    | .bl k => if k then .ok (.bl true) μ else ev g.C cf b ρ μ
    | _ => .stuck) (OkV g ι H Q) (exW g W ι H σ) := hw
  rw [wpR_bind] at hw
  refine ⟨ι, ρ, μ, S, R, wpR_mono hw (fun d μ1 h1 ι1 H1 v1 e1 S1 r1 => ?_) fun _ _ z => z⟩
  cases d with
  | bl k =>
    obtain rfl := r1
    refine ⟨k, rfl, ?_⟩
    cases k with
    | true => rw [if_pos rfl]; exact h1 ι1 H1 _ e1 S1 rfl
    | false => rw [if_neg Bool.false_ne_true]; exact ⟨ι1, ρ, μ1, S1, R.mono e1, wpR_mono h1 (fun _ _ z => OkV.mono e1 z) fun _ _ z => z.mono e1⟩
  | _ => exact False.elim h1
theorem c_and (ha : SndE Γ g cf a) (hb : SndE Γ g cf b) : SndE Γ g cf (.and a b) := by
  intro sc e W k X hc x
  cases e with
  | BoolOp op l pos =>
    cases op with
    | Or => simp [chkE] at hc
    | And =>
      match l, hc with
      | [], hc => simp [chkE] at hc
      | [_], hc => simp [chkE] at hc
      | [y, z], hc =>
        simp only [chkE, Bool.and_eq_true] at hc
        exact PE.imp (pe_and (ha sc y W k X hc.1 x) (pe_one (hb sc z W k X hc.2 x))) fun σ H Q h => sem_andV h
      | y :: z :: v :: r, hc =>
        simp only [chkE, Bool.and_eq_true] at hc
        exact PE.imp (pe_and (ha sc y W k X hc.1 x) (hb sc (.BoolOp .And (z :: v :: r) pos) W k X hc.2 x)) fun σ H Q h => sem_andV h
  | _ => simp [chkE] at hc
theorem c_or (ha : SndE Γ g cf a) (hb : SndE Γ g cf b) : SndE Γ g cf (.or a b) := by
  intro sc e W k X hc x
  cases e with
  | BoolOp op l pos =>
    cases op with
    | And => simp [chkE] at hc
    | Or =>
      match l, hc with
      | [], hc => simp [chkE] at hc
      | [_], hc => simp [chkE] at hc
      | [y, z], hc =>
        simp only [chkE, Bool.and_eq_true] at hc
        exact PE.imp (pe_or (ha sc y W k X hc.1 x) (pe_one (hb sc z W k X hc.2 x))) fun σ H Q h => sem_orV h
      | y :: z :: v :: r, hc =>
        simp only [chkE, Bool.and_eq_true] at hc
        exact PE.imp (pe_or (ha sc y W k X hc.1 x) (hb sc (.BoolOp .Or (z :: v :: r) pos) W k X hc.2 x)) fun σ H Q h => sem_orV h
  | _ => simp [chkE] at hc
theorem c_ite (ht : SndT Γ g cf c) (ha : SndE Γ g cf a) (hb : SndE Γ g cf b) : SndE Γ g cf (.ite c a b) := by
  intro sc e W k X hc x
  cases e with
  | IfExp t l r p =>
    simp only [chkE, Bool.and_eq_true] at hc
    obtain ⟨⟨h1, h2⟩, h3⟩ := hc
    refine PE.imp (pe_ifExp (ht sc t W k X h1 x) (ha sc l W k X h2 x) (hb sc r W k X h3 x)) ?_
    rintro σ H Q ⟨ι, ρ, μ, S, R, hw⟩
    have hw : wpR ((evT g.C cf c ρ μ).bind fun k μ => if k then ev g.C cf a ρ μ else ev g.C cf b ρ μ) (OkV g ι H Q) (exW g W ι H σ) := hw
    rw [wpR_bind] at hw
    refine ⟨ι, ρ, μ, S, R, wpR_mono hw (fun k μ1 h1 ι1 H1 e1 S1 => ?_) fun _ _ z => z⟩
    cases k with
    | false => rw [if_neg Bool.false_ne_true]; exact ⟨ι1, ρ, μ1, S1, R.mono e1, wpR_mono h1 (fun _ _ z => OkV.mono e1 z) fun _ _ z => z.mono e1⟩
    | true => rw [if_pos rfl]; exact ⟨ι1, ρ, μ1, S1, R.mono e1, wpR_mono h1 (fun _ _ z => OkV.mono e1 z) fun _ _ z => z.mono e1⟩
  | _ => simp [chkE] at hc
end
end PL
end
section
set_option Elab.async false
set_option linter.all false
set_option autoImplicit false
set_option maxRecDepth 100000
set_option maxHeartbeats 400000
/-! Sound7: displays, calls, places, slices. -/
namespace PL
open PySem PySem.Spec PyProof.Rows L2
section
variable {Γ : Stat} {g : Gd} {cf : CF} {W : WX} {σ : L2.St} {H : Hp} {a b c : E} {es : Es}
theorem a_nil : SndA Γ g cf .nil := by
  intro sc l W k X hc x
  cases l with
  | nil =>
    refine PA.imp pa_nil ?_
    rintro σ H Q ⟨ι, ρ, μ, S, R, hw⟩
    exact hw ι H [] (Ext.refl _ _) S rfl
  | cons _ _ => simp [chkEs] at hc
theorem sem_cons {Q : List V → Hp → Prop} (h : semA g cf W (.cons a es) σ H Q) : tCons (semE g cf W a) (semA g cf W es) σ H Q := by
  obtain ⟨ι, ρ, μ, S, R, hw⟩ := h
  have hw : wpR ((ev g.C cf a ρ μ).bind fun d μ => (evs g.C cf es ρ μ).bind fun ds μ => .ok (d :: ds) μ) (OkL g ι H Q) (exW g W ι H σ) := hw
  rw [wpR_bind] at hw
  refine ⟨ι, ρ, μ, S, R, wpR_mono hw (fun d1 μ1 h1 ι1 H1 v1 e1 S1 r1 => ?_) fun _ _ z => z⟩
  rw [wpR_bind] at h1
  exact ⟨ι1, ρ, μ1, S1, R.mono e1, wpR_mono h1 (fun ds μ2 h2 ι2 H2 vs e2 S2 r2 => h2 ι2 H2 (v1 :: vs) (e1.trans e2) S2 ⟨v1, vs, rfl, e2.rep _ _ r1, r2⟩) fun _ _ z => z.mono e1⟩
theorem a_cons (ha : SndE Γ g cf a) (hs : SndA Γ g cf es) : SndA Γ g cf (.cons a es) := by
  intro sc l W k X hc x
  cases l with
  | nil => simp [chkEs] at hc
  | cons e l =>
    rw [chkEs, Bool.and_eq_true] at hc
    exact PA.imp (pa_cons (ha sc e W k X hc.1 x) (hs sc l W k X hc.2 x) (star_of (chk_plain hc.1).1)) fun σ H Q h => sem_cons h
/-- arguments, then what is made of them -/
theorem semA_then {f : List D → Store → Res D} {Q : VK} {r : List V → Hp → Prop} (hr : ∀ ι1 μ1 H1 ds vs, Ext ι1 H1 ι1 H1 → Sim g ι1 μ1 H1 → RepL g ι1 H1 ds vs → wpR (f ds μ1) (OkV g ι1 H1 Q) (exW g W ι1 H1 σ) → r vs H1)
    (h : ∃ ι ρ μ, Sim g ι μ H ∧ RepS g ι H ρ σ ∧ wpR ((evs g.C cf es ρ μ).bind f) (OkV g ι H Q) (exW g W ι H σ)) : semA g cf W es σ H r := by
  obtain ⟨ι, ρ, μ, S, R, hw⟩ := h
  rw [wpR_bind] at hw
  exact ⟨ι, ρ, μ, S, R, wpR_mono hw (fun ds μ1 h1 ι1 H1 vs e1 S1 r1 => hr ι1 μ1 H1 ds vs (Ext.refl _ _) S1 r1 (wpR_mono h1 (fun _ _ z => z.mono e1) fun _ _ z => z.mono e1)) fun _ _ z => z⟩
theorem c_tup (hs : SndA Γ g cf es) : SndE Γ g cf (.tup es) := by
  intro sc e W k X hc x
  cases e with
  | Tuple l j p =>
    simp only [chkE] at hc
    refine PE.imp (pe_tup (hs sc l W k X hc x)) fun σ H Q h => semA_then (f := fun ds μ => if ds.length ≤ mostLen then .ok (.tup ds) μ else .stuck) (fun ι1 μ1 H1 ds vs _ S r hw => ?_) h
    split at hw
    · rename_i hl
      exact ⟨by rw [r.length]; exact Nat.le_trans hl line_most, fun p hp => OkV.tup S hw r hp⟩
    · exact False.elim hw
  | _ => simp [chkE] at hc
theorem c_lst (hs : SndA Γ g cf es) : SndE Γ g cf (.lst es) := by
  intro sc e W k X hc x
  cases e with
  | List l p =>
    simp only [chkE] at hc
    refine PE.imp (pe_lst (hs sc l W k X hc x)) fun σ H Q h => semA_then (f := fun ds μ => if ds.length ≤ mostLen then PL.new (.lst ds) μ else .stuck) (fun ι1 μ1 H1 ds vs _ S r hw => ?_) h
    split at hw
    · rename_i hl
      exact ⟨by rw [r.length]; exact Nat.le_trans hl line_most, fun p hp => OkV.lst S hw r hp⟩
    · exact False.elim hw
  | _ => simp [chkE] at hc
theorem c_dnK : SndE Γ g cf .dnK := by
  intro sc e W k X hc x
  cases e with
  | Dict ks vs p =>
    match ks, vs, hc with
    | [], [], hc =>
      refine PE.imp pe_dnewK ?_
      rintro σ H Q ⟨ι, ρ, μ, S, R, hw⟩ p hp
      have hw : OkV g ι H Q (.loc μ.length) (μ ++ [.dK false []]) := hw
      exact hw _ _ _ (ext_new S hp _) (S.new hp ⟨[], upd_same, rfl⟩) ⟨p, rfl, by rw [← S.len]; simp⟩
    | _ :: _, _, hc => simp [chkE] at hc
    | [], _ :: _, hc => simp [chkE] at hc
  | _ => simp [chkE] at hc
theorem c_dnT : SndE Γ g cf .dnT := by
  intro sc e W k X hc x
  cases e with
  | Dict ks vs p =>
    match ks, vs, hc with
    | [], [], hc =>
      refine PE.imp pe_dnewT ?_
      rintro σ H Q ⟨ι, ρ, μ, S, R, hw⟩ p hp
      have hw : OkV g ι H Q (.loc μ.length) (μ ++ [.dT false []]) := hw
      exact hw _ _ _ (ext_new S hp _) (S.new hp ⟨[], upd_same, rfl⟩) ⟨p, rfl, by rw [← S.len]; simp⟩
    | _ :: _, _, hc => simp [chkE] at hc
    | [], _ :: _, hc => simp [chkE] at hc
  | _ => simp [chkE] at hc
/-! a display: its keys are constants -/
theorem key_pe {X : Cx} {q : PL.Key} {e : Option Expr} (h : keyIsC q e = true) : ∃ x, e = some x ∧ PE X x (tC (kV (K2 q))) := by
  cases q with
  | inl i =>
    cases e with
    | none => cases h
    | some e =>
      cases e with
      | Constant c j p =>
        cases c with
        | int n =>
          have : i = n := by simpa [keyIsC] using h
          subst this
          exact ⟨_, rfl, pe_int⟩
        | _ => simp [keyIsC] at h
      | _ => simp [keyIsC] at h
  | inr s =>
    cases e with
    | none => cases h
    | some e =>
      cases e with
      | Constant c j p =>
        cases c with
        | str n =>
          have : n = S2 s := by simpa [keyIsC] using h
          subst this
          exact ⟨_, rfl, pe_str⟩
        | _ => simp [keyIsC] at h
      | _ => simp [keyIsC] at h
theorem keysAre_len : ∀ {ks : List PL.Key} {es : List (Option Expr)}, keysAreC ks es = true → ks.length = es.length ∧ es.all (·.isSome) = true
  | [], [], _ => ⟨rfl, rfl⟩
  | [], _ :: _, h => by cases h
  | _ :: _, [], h => by cases h
  | k :: ks, e :: es, h => by
    rw [keysAreC, Bool.and_eq_true] at h
    obtain ⟨h1, h2⟩ := keysAre_len h.2
    have : e.isSome = true := by cases e <;> first | rfl | (cases k <;> cases h.1)
    simp [h1, h2, this]
def dispT (g : Gd) (cf : CF) (W : WX) : List PL.Key → Es → List (TE × TE)
  | k :: ks, .cons e es => (tC (kV (K2 k)), semE g cf W e) :: dispT g cf W ks es
  | _, _ => []
def SndP (Γ : Stat) (g : Gd) (cf : CF) (es : Es) : Prop := ∀ (sc : Scope) (ks : List PL.Key) (keys : List (Option Expr)) (vals : List Expr) (pos : Pos) (W : WX) (k : Nat) (X : Cx), keysAreC ks keys = true → chkEs Γ es sc vals = true →
  keys.length = vals.length → XOk Γ g cf W k sc X → PPs X pos keys vals (dispT g cf W ks es)
theorem p_nil : SndP Γ g cf .nil := by
  intro sc ks keys vals pos W k X hk hc hl x
  cases vals with
  | cons _ _ => simp [chkEs] at hc
  | nil =>
    cases keys with
    | cons _ _ => cases hl
    | nil =>
      cases ks with
      | cons _ _ => cases hk
      | nil => exact pps_nil
theorem p_cons (ha : SndE Γ g cf a) (hs : SndP Γ g cf es) : SndP Γ g cf (.cons a es) := by
  intro sc ks keys vals pos W k X hk hc hl x
  cases vals with
  | nil => simp [chkEs] at hc
  | cons v vals =>
    cases keys with
    | nil => cases hl
    | cons e keys =>
      cases ks with
      | nil => cases hk
      | cons q ks =>
        rw [keysAreC, Bool.and_eq_true] at hk
        rw [chkEs, Bool.and_eq_true] at hc
        obtain ⟨y, rfl, hy⟩ := key_pe (X := X) hk.1
        exact pps_cons hy (ha sc v W k X hc.1 x) (hs sc ks keys vals pos W k X hk.2 hc.2 (by simpa using hl) x)
def Es.len : Es → Nat
  | .nil => 0
  | .cons _ es => es.len + 1
theorem chkEs_len {sc : Scope} : ∀ {es : Es} {l : List Expr}, chkEs Γ es sc l = true → es.len = l.length
  | .nil, [], _ => rfl
  | .nil, _ :: _, h => by simp [chkEs] at h
  | .cons _ _, [], h => by simp [chkEs] at h
  | .cons e es, x :: l, h => by
    rw [chkEs, Bool.and_eq_true] at h
    rw [Es.len, chkEs_len h.2]
    rfl
theorem sem_pairs : ∀ {ks : List PL.Key} {es : Es} {ι : List Addr} {ρ : Env} {μ : Store} {H : Hp} {Q : List (V × V) → Hp → Prop}, es.len = ks.length → Sim g ι μ H → RepS g ι H ρ σ →
    wpR (evs g.C cf es ρ μ) (fun ds μ' => ds.length = ks.length ∧ ∀ ι' H' vs, Ext ι H ι' H' → Sim g ι' μ' H' → RepL g ι' H' ds vs → Q ((ks.map fun k => kV (K2 k)).zip vs) H') (exW g W ι H σ) →
    tPairs (dispT g cf W ks es) σ H Q
  | ks, .nil, ι, ρ, μ, H, Q, hn, S, R, hw => by
    obtain ⟨hl, hw⟩ := hw
    have : ks = [] := List.length_eq_zero_iff.mp hl.symm
    subst this
    exact hw ι H [] (Ext.refl _ _) S rfl
  | [], .cons e es, ι, ρ, μ, H, Q, hn, S, R, hw => by cases hn
  | k :: ks, .cons e es, ι, ρ, μ, H, Q, hn, S, R, hw => by
    have hw : wpR ((ev g.C cf e ρ μ).bind fun d μ => (evs g.C cf es ρ μ).bind fun ds μ => .ok (d :: ds) μ) _ _ := hw
    rw [wpR_bind] at hw
    refine ⟨ι, ρ, μ, S, R, wpR_mono hw (fun d1 μ1 h1 ι1 H1 v1 e1 S1 r1 => ?_) fun _ _ z => z⟩
    rw [wpR_bind] at h1
    refine sem_pairs (by simpa [Es.len] using hn) S1 (R.mono e1) (wpR_mono h1 (fun ds μ2 h2 => ?_) fun _ _ z => z.mono e1)
    obtain ⟨hl, h2⟩ := h2
    exact ⟨by simpa using hl, fun ι2 H2 vs e2 S2 r2 => h2 ι2 H2 (v1 :: vs) (e1.trans e2) S2 ⟨v1, vs, rfl, e2.rep _ _ r1, r2⟩⟩

theorem fold_rep {ι : List Addr} {H : Hp} : ∀ {ks : List PL.Key} {ds : List D} {vs : List V} {acc : List (PL.Key × D)} {acc' : List (L2.Key × V)}, RepKV g K2 ι H acc acc' → RepL g ι H ds vs →
    RepKV g K2 ι H ((ks.zip ds).foldl (fun acc p => put acc p.1 p.2) acc) (((ks.map K2).zip vs).foldl (fun acc kv => putK acc kv.1 kv.2) acc')
  | [], _, _, _, _, h, _ => h
  | _ :: _, [], _, _, _, h, r => by
    rw [show _ = [] from r]
    exact h
  | k :: ks, d :: ds, _, _, _, h, r => by
    obtain ⟨v, r', rfl, h1, h2⟩ := r
    exact fold_rep (ks := ks) (ds := ds) (vs := r') (RepKV.put (f := K2) (k := k) (fun _ _ => K2_inj) h h1) h2
theorem zip_kv : ∀ (ks : List PL.Key) (vs : List V), (ks.map fun k => kV (K2 k)).zip vs = ((ks.map K2).zip vs).map fun kv => (kV kv.1, kv.2)
  | [], _ => rfl
  | _ :: _, [] => rfl
  | k :: ks, v :: vs => by simp only [List.map_cons, List.zip_cons_cons, zip_kv ks vs]
theorem c_disp (ks : List PL.Key) (hs : SndP Γ g cf es) : SndE Γ g cf (.disp ks es) := by
  intro sc e W k X hc x
  cases e with
  | Dict keys vals p =>
    have hc : (keysAreC ks keys && chkEs Γ es sc vals && decide (keys.length = vals.length) && decide (0 < keys.length) && decide (keys.length ≤ 15)) = true := by
      rw [chkE] at hc
      · exact hc
      all_goals simp
    simp only [Bool.and_eq_true, decide_eq_true_eq] at hc
    obtain ⟨⟨⟨⟨h1, h2⟩, h3⟩, h4⟩, h5⟩ := hc
    obtain ⟨l1, l2⟩ := keysAre_len h1
    have l3 := chkEs_len h2
    refine PE.imp (pe_disp (hs sc ks keys vals p W k X h1 h2 h3 x) l2 h3 (by intro z; rw [z] at h4; cases h4) h5) ?_
    rintro σ H Q ⟨ι, ρ, μ, S, R, hw⟩ p hp
    have hw : wpR ((evs g.C cf es ρ (μ ++ [.dK false []])).bind fun ds μ' => match μ'[μ.length]? with
      | some (.dK false []) => if ds.length = ks.length ∧ ks.length ≤ 15 then .ok (.loc μ.length) (μ'.set μ.length (.dK false ((ks.zip ds).foldl (fun acc p => put acc p.1 p.2) []))) else .stuck
      | _ => .stuck) (OkV g ι H Q) (exW g W ι H σ) := hw
    rw [wpR_bind] at hw
    have e0 := ext_new S hp (.dK [])
    have S1 : Sim g (ι ++ [p]) (μ ++ [.dK false []]) (upd H p (.dK [])) := S.new hp ⟨[], upd_same, rfl⟩
    refine sem_pairs (by omega) S1 (R.mono e0) (wpR_mono hw (fun ds μ' h => ?_) fun _ _ z => z.mono e0)
    split at h
    · rename_i ed
      split at h
      · rename_i hl
        refine ⟨hl.1, fun ι2 H2 vs e2 S2 r2 => ?_⟩
        have hi : ι2[μ.length]? = some p := e2.ix (by rw [← S.len]; simp)
        obtain ⟨vs0, q1, q2⟩ := S2.ob _ _ _ ed hi
        rw [show vs0 = [] from q2] at q1
        refine ⟨q1, (ks.map K2).zip vs, ?_, ?_, ?_⟩
        · exact zip_kv ks vs
        · rw [List.length_zip, List.length_map]; omega
        · have e3 := ext_set S2 hi (.dK q1) (.dK (mergeK [] ((ks.map K2).zip vs)))
          refine h _ _ _ (e0.trans (e2.trans e3)) (S2.set hi (.dK q1) ⟨_, upd_same, e3.repKV _ _ (fold_rep (show RepKV g K2 ι2 H2 [] [] from rfl) r2)⟩) ⟨p, rfl, hi⟩
      · exact False.elim h
    · exact False.elim h
  | _ => simp [chkE] at hc

/-! ### calls -/
theorem call_find {k : Nat} {sc : Scope} {X : Cx} (x : XOk Γ g cf W k sc X) {y : PySem.Str} {f : Nat} {l : List Expr} {p pos : Pos} (h0 : hotFn Γ y l = true) (hs : SndA Γ g cf es) (h1 : glB sc y = true) (h2 : okN y = true) (h3 : (y, f) ∈ Γ.fns) (h4 : chkEs Γ es sc l = true) :
    PE X (.Call (.Name y p) l [] pos) (fun σ H Q => ∃ ι ρ μ, Sim g ι μ H ∧ RepS g ι H ρ σ ∧ wpR ((evs g.C cf es ρ μ).bind fun ds μ => cf f ds μ) (OkV g ι H Q) (exW g W ι H σ)) := by
  obtain ⟨a, fd, ps, m1, m2, m3, m5, m4, m6, _⟩ := x.fnk _ _ h3
  have arg : ∀ {σ : L2.St} {H : Hp} {Q : VK} ι1 μ1 H1 ds vs, Ext ι1 H1 ι1 H1 → Sim g ι1 μ1 H1 → RepL g ι1 H1 ds vs → wpR (cf f ds μ1) (OkV g ι1 H1 Q) (exW g W ι1 H1 σ) → spF g cf f ps.length (vs ++ []) H1 Q (WE W σ) := by
    intro σ H Q ι1 μ1 H1 ds vs _ S r hw
    rw [List.append_nil]
    refine ⟨?_, ι1, μ1, ds, S, r, hw⟩
    rw [r.length]
    by_cases e : ds.length = ps.length
    · exact e
    · rw [m5 ds μ1 e] at hw
      exact False.elim hw
  cases l with
  | nil =>
    have h0 : Γ.hot = false := by simpa [hotFn] using h0
    refine ⟨fun pins s σ H Q I q => ?_⟩
    have q' : semA g cf W es σ H fun vs H1 => spF g cf f ps.length (vs ++ []) H1 Q (WE W σ) := semA_then (arg (H := H)) q
    cases es with
    | cons _ _ => simp [chkEs] at h4
    | nil =>
      obtain ⟨ι, ρ, μ, S, R, hw⟩ := q'
      have sp : spF g cf f ps.length ([] ++ []) H Q (WE W σ) := hw ι H [] (Ext.refl _ _) S rfl
      refine wpAny_Call_Name_kw (ld_glob I (x.glo h1) m1 ?_ (okN_parts h2).1)
      exact PySem.W.callWith_K0 I.kIn m2 (run_fnSD (E := WE W) (us := []) (vs := []) (dvs := []) (ds := []) m4 (x.room h0) m3 .nil (L2N.passAt x.tk σ) I .nil sp)
  | cons e l =>
    have pa := hs sc (e :: l) W k X h4 x
    have pl : ∃ m ms, es = .cons m ms ∧ chkE Γ m sc e = true ∧ chkEs Γ ms sc l = true := by
      cases es with
      | nil => simp [chkEs] at h4
      | cons m ms =>
        rw [chkEs, Bool.and_eq_true] at h4
        exact ⟨m, ms, rfl, h4.1, h4.2⟩
    obtain ⟨m, ms, rfl, q1, q2⟩ := pl
    cases h0' : Γ.hot with
    | true =>
      have hy : y ∈ Γ.hfn := by
        unfold hotFn at h0
        rw [h0'] at h0
        simpa using h0
      refine PE.imp (L2H.pe_callH (E := WE W) (m6 hy) (x.rmH h0') (x.hc h0') (x.glo h1) m1 m2 m3 (fun σ => L2N.passAt x.tk σ) pa (okN_parts h2).1 (star_of (chk_plain q1).1) (star_plain q2)) fun σ H Q h => ?_
      exact semA_then (fun ι1 μ1 H1 ds vs e S r hw => by have := arg (H := H) ι1 μ1 H1 ds vs e S r hw; rwa [List.append_nil] at this) h
    | false =>
    have h0 := h0'
    refine PE.imp (pe_callSD (E := WE W) m4 (x.room h0) (x.glo h1) m1 m2 m3 .nil (fun σ => L2N.passAt x.tk σ) pa (okN_parts h2).1 (star_of (chk_plain q1).1) (star_plain q2)) fun σ H Q h => ?_
    exact semA_then (arg (H := H)) h
theorem c_call (f : Nat) (hs : SndA Γ g cf es) : SndE Γ g cf (.call f es) := by
  intro sc e W k X hc x
  cases e with
  | Call fe l kw p =>
    cases fe with
    | Name y py =>
      cases kw with
      | cons _ _ => simp [chkE] at hc
      | nil =>
        simp only [chkE, Bool.and_eq_true, decide_eq_true_eq] at hc
        obtain ⟨⟨⟨⟨h0, h1⟩, h2⟩, h3⟩, h4⟩ := hc
        exact PE.imp (call_find x h0 hs h1 h2 h3 h4) fun σ H Q h => h
    | _ => simp [chkE] at hc
  | _ => simp [chkE] at hc
/-! calls by names -/
def SndK (Γ : Stat) (g : Gd) (cf : CF) (m : Es) : Prop := ∀ (sc : Scope) (l : List Keyword) (W : WX) (k : Nat) (X : Cx), chkKs Γ m sc l = true → XOk Γ g cf W k sc X → PK X l (semA g cf W m)
theorem PK.imp {X : Cx} {e : List Keyword} {t t' : TA} (h : PK X e t) (i : ∀ σ H Q, t' σ H Q → t σ H Q) : PK X e t' := ⟨fun pos pins s σ H Q I q => h.run pos pins s σ H Q I (i σ H Q q)⟩
theorem ak_nil : SndK Γ g cf .nil := by
  intro sc l W k X hc x
  cases l with
  | nil =>
    refine PK.imp pk_nil ?_
    rintro σ H Q ⟨ι, ρ, μ, S, R, hw⟩
    exact hw ι H [] (Ext.refl _ _) S rfl
  | cons _ _ => simp [chkKs] at hc
theorem ak_cons (ha : SndE Γ g cf a) (hs : SndK Γ g cf es) : SndK Γ g cf (.cons a es) := by
  intro sc l W k X hc x
  cases l with
  | nil => simp [chkKs] at hc
  | cons e l =>
    obtain ⟨nm, e, p⟩ := e
    rw [chkKs, Bool.and_eq_true] at hc
    exact PK.imp (pk_cons (ha sc e W k X hc.1 x) (hs sc l W k X hc.2 x)) fun σ H Q h => sem_cons h
theorem kwNames_ok : ∀ {kws : List Keyword} {ks : List PySem.Str}, kwNames kws = some ks → kws.map Keyword.arg = ks.map some
  | [], ks, h => by
    have h : some [] = some ks := h
    cases h; rfl
  | ⟨none, _, _⟩ :: r, ks, h => by cases h
  | ⟨some x, e, p⟩ :: r, ks, h => by
    rw [kwNames] at h
    cases e1 : kwNames r with
    | none => rw [e1] at h; cases h
    | some l =>
      rw [e1] at h
      cases h
      rw [List.map_cons, List.map_cons, kwNames_ok e1]
theorem RepL.getD {ι : List Addr} {H : Hp} {g : Gb} : ∀ {ds : List D} {vs : List V} (i : Nat), RepL g ι H ds vs → Rep g ι H (ds.getD i .non) (vs.getD i .non)
  | [], vs, i, h => by
    have h : vs = [] := h
    subst h
    exact (show Rep g ι H .non .non from rfl)
  | d :: ds, _, i, h => by
    obtain ⟨v, r, rfl, h1, h2⟩ := h
    cases i with
    | zero => exact h1
    | succ i => simpa using RepL.getD i h2
theorem RepL.perm {ι : List Addr} {H : Hp} {g : Gb} {ds : List D} {vs : List V} (h : RepL g ι H ds vs) : ∀ pm : List Nat, RepL g ι H (pm.map fun i => ds.getD i .non) (pm.map fun i => vs.getD i .non)
  | [] => rfl
  | i :: pm => ⟨_, _, rfl, RepL.getD i h, RepL.perm h pm⟩
theorem c_callK (f : Nat) (pm : List Nat) (hs : SndK Γ g cf es) : SndE Γ g cf (.callK f pm es) := by
  intro sc e W k X hc x
  cases e with
  | Call fe l kw p =>
    cases fe with
    | Name y py =>
      match l, kw, hc with
      | _ :: _, _, hc => simp [chkE] at hc
      | [], [], hc => simp [chkE] at hc
      | [], kw :: kws, hc =>
        simp only [chkE, Bool.and_eq_true, decide_eq_true_eq] at hc
        obtain ⟨⟨⟨⟨⟨h0, h1⟩, h2⟩, h3⟩, h4⟩, h5⟩ := hc
        have h0 := notHot h0
        split at h4
        · rename_i ks ek
          simp only [Bool.and_eq_true, decide_eq_true_eq] at h4
          obtain ⟨h4, h6⟩ := h4
          obtain ⟨a, fd, ps, m1, m2, m3, m5, m4, _, m7⟩ := x.fnk _ _ h3
          obtain ⟨k1, k2, k3⟩ := kw_names (env := X.env) (pos := p) (kwNames_ok ek)
          refine PE.imp (pe_callKw (E := WE W) m4 (x.room h0) (x.glo h1) m1 m2 (m7 ks pm h4) (fun σ => L2N.passAt x.tk σ) (hs sc _ W k X h5 x) (okN_parts h2).1 k1 k2 (by rw [k3]; rfl)) fun σ H Q h => ?_
          have h : ∃ ι ρ μ, Sim g ι μ H ∧ RepS g ι H ρ σ ∧ wpR ((evs g.C cf es ρ μ).bind fun ds μ => (okI (permD pm ds) μ).bind fun ds μ => cf f ds μ) (OkV g ι H Q) (exW g W ι H σ) := h
          refine semA_then (fun ι1 μ1 H1 ds vs _ S r hw => ?_) h
          unfold permD at hw
          split at hw
          · rename_i hp
            rw [Bool.and_eq_true, decide_eq_true_eq] at hp
            have hw : wpR (cf f (pm.map fun i => ds.getD i .non) μ1) (OkV g ι1 H1 Q) (exW g W ι1 H1 σ) := hw
            refine ⟨by rw [r.length, h6, hp.1], ?_, ι1, μ1, _, S, r.perm pm, hw⟩
            by_cases e : (pm.map fun i => ds.getD i .non).length = ps.length
            · rw [← e]; simp
            · rw [m5 _ μ1 e] at hw
              exact False.elim hw
          · exact False.elim hw
        · cases h4
    | _ => simp [chkE] at hc
  | _ => simp [chkE] at hc
theorem c_bf2 (bf : B2) (ha : SndE Γ g cf a) (hb : SndE Γ g cf b) : SndE Γ g cf (.bf2 bf a b) := by
  intro sc e W k X hc x
  cases e with
  | Call fe l kw p =>
    cases fe with
    | Name y py =>
      cases kw with
      | cons _ _ => simp [chkE] at hc
      | nil =>
        match l, hc with
        | [], hc => simp [chkE] at hc
        | [_], hc => simp [chkE] at hc
        | _ :: _ :: _ :: _, hc => simp [chkE] at hc
        | [e1, e2], hc =>
          simp only [chkE, Bool.and_eq_true, decide_eq_true_eq] at hc
          obtain ⟨⟨⟨⟨h0, h1⟩, rfl⟩, h2⟩, h3⟩ := hc
          have h0 := notHot h0
          obtain ⟨b1, b2, b3, b4⟩ := x.blt h1
          have st2 := star_of (l := []) (env := X.env) (chk_plain h3).1
          have st := star_of (l := [e2]) (env := X.env) (chk_plain h2).1
          have hu := x.hu
          have pa := pa_cons (ha sc e1 W k X h2 x) (pa_cons (hb sc e2 W k X h3 x) pa_nil st2) st
          have fin : ∀ σ H Q, semE g cf W (.bf2 bf a b) σ H Q → tCB (rBf2 g bf) (tCons (semE g cf W a) (tCons (semE g cf W b) tNil)) σ H Q := by
            rintro σ H Q ⟨ι, ρ, μ, S, R, hw⟩
            have hw : wpR ((ev g.C cf a ρ μ).bind fun d μ => (ev g.C cf b ρ μ).bind fun e μ => bf2F bf d e μ) (OkV g ι H Q) (exW g W ι H σ) := hw
            rw [wpR_bind] at hw
            refine ⟨ι, ρ, μ, S, R, wpR_mono hw (fun d1 μ1 h1 ι1 H1 v1 e1 S1 r1 => ?_) fun _ _ z => z⟩
            rw [wpR_bind] at h1
            refine ⟨ι1, ρ, μ1, S1, R.mono e1, wpR_mono h1 (fun d2 μ2 h2 ι2 H2 v2 e2 S2 r2 => ?_) fun _ _ z => z.mono e1⟩
            exact ⟨ι2, μ2, d1, d2, v1, v2, rfl, S2, e2.rep _ _ r1, r2, wpR_mono h2 (fun _ _ z => z.mono (e1.trans e2)) fun _ _ _ => trivial⟩
          cases bf with
          | max2 => exact PE.imp (pe_callB (call_max2F (x.calm h0) x.K (by omega)) b1 b2 (by decide +kernel) pa b4 b3 st (by rw [st2]; rfl)) fin
          | min2 => exact PE.imp (pe_callB (call_min2F (x.calm h0) x.K (by omega)) b1 b2 (by decide +kernel) pa b4 b3 st (by rw [st2]; rfl)) fin
    | _ => simp [chkE] at hc
  | _ => simp [chkE] at hc
theorem sem_b1 {bf : Bf} {Q : VK} (h : semE g cf W (.bf bf a) σ H Q) : tCB (rBf g bf) (tCons (semE g cf W a) tNil) σ H Q :=
  sem1 (f := fun d μ => bfF bf d μ) (r := fun x H Q => rBf g bf [x] H Q) (fun x H Q ⟨ι, μ, d, S, r, hw⟩ => ⟨ι, μ, d, x, rfl, S, r, hw⟩) h
theorem c_bf (bf : Bf) (ha : SndE Γ g cf a) : SndE Γ g cf (.bf bf a) := by
  intro sc e W k X hc x
  cases e with
  | Call fe l kw p =>
    cases fe with
    | Name y py =>
      cases kw with
      | cons _ _ => cases l <;> simp [chkE] at hc
      | nil =>
        match l, hc with
        | [], hc => simp [chkE] at hc
        | _ :: _ :: _, hc => simp [chkE] at hc
        | [e], hc =>
          simp only [chkE, Bool.and_eq_true, decide_eq_true_eq] at hc
          obtain ⟨⟨⟨h1, rfl⟩, h2⟩, h3⟩ := hc
          obtain ⟨b1, b2, b3, b4⟩ := x.blt h1
          have pe := ha sc e W k X h2 x
          have st := star_of (l := []) (env := X.env) (chk_plain h2).1
          have hu := x.hu
          cases bf with
          | len => exact PE.imp (pe_callB (call_lenF x.K) b1 b2 (by decide +kernel) (pa_cons pe pa_nil st) b4 b3 st) fun σ H Q h => sem_b1 h
          | abs => exact PE.imp (pe_callB call_absF b1 b2 (by decide +kernel) (pa_cons pe pa_nil st) b4 b3 st) fun σ H Q h => sem_b1 h
          | sorted => exact PE.imp (pe_callB (call_sortedF (x.calm (notHot (by simpa [coldBf] using h3))) x.K (by omega)) b1 b2 (by decide +kernel) (pa_cons pe pa_nil st) b4 b3 st) fun σ H Q h => sem_b1 h
          | tupleS => exact PE.imp (pe_callTy (call_tupleS (x.calm (notHot (by simpa [coldBf] using h3)))) b1 b2 (by decide +kernel) (pa_cons pe pa_nil st) b4 b3 st) fun σ H Q h => sem_b1 h
          | listS => exact PE.imp (pe_callTy (call_listS (x.calm (notHot (by simpa [coldBf] using h3)))) b1 b2 (by decide +kernel) (pa_cons pe pa_nil st) b4 b3 st) fun σ H Q h => sem_b1 h
          | max => exact PE.imp (pe_callB (call_maxF (x.calm (notHot (by simpa [coldBf] using h3))) x.K (by omega)) b1 b2 (by decide +kernel) (pa_cons pe pa_nil st) b4 b3 st) fun σ H Q h => sem_b1 h
          | int => exact PE.imp (pe_callTy call_intF b1 b2 (by decide +kernel) (pa_cons pe pa_nil st) b4 b3 st) fun σ H Q h => sem_b1 h
          | bool => exact PE.imp (pe_callTy call_boolF b1 b2 (by decide +kernel) (pa_cons pe pa_nil st) b4 b3 st) fun σ H Q h => sem_b1 h
          | tuple => exact PE.imp (pe_callTy (call_tupleF x.K) b1 b2 (by decide +kernel) (pa_cons pe pa_nil st) b4 b3 st) fun σ H Q h => sem_b1 h
          | tupleF => exact PE.imp (pe_callTy (call_tupleFz x.K) b1 b2 (by decide +kernel) (pa_cons pe pa_nil st) b4 b3 st) fun σ H Q h => sem_b1 h
          | list => exact PE.imp (pe_callTy (call_listF (x.calm (notHot (by simpa [coldBf] using h3))) x.K) b1 b2 (by decide +kernel) (pa_cons pe pa_nil st) b4 b3 st) fun σ H Q h => sem_b1 h
          | str => exact PE.imp (pe_callTy call_strF b1 b2 (by decide +kernel) (pa_cons pe pa_nil st) b4 b3 st) fun σ H Q h => sem_b1 h
    | _ => simp [chkE] at hc
  | _ => simp [chkE] at hc

theorem t_truth {m : E} (hm : SndE Γ g cf m) (he : ∀ sc e, chkE Γ m sc e = true → ∀ env whole, isTrue e env whole = (do let v ← whole; standAt e.pos; holding [v] (truthy v)))
    (hT : ∀ ρ μ, evT g.C cf m ρ μ = (ev g.C cf m ρ μ).bind truthF) : SndT Γ g cf m := by
  intro sc e W k X hc x
  refine PT.imp (pt_truth (hm sc e W k X hc x) (he sc e hc X.env)) ?_
  rintro σ H Q ⟨ι, ρ, μ, S, R, hw⟩
  rw [hT, wpR_bind] at hw
  refine ⟨ι, ρ, μ, S, R, wpR_mono hw (fun d μ1 h1 ι1 H1 v1 e1 S1 r1 => ?_) fun _ _ z => z⟩
  rw [x.K]
  exact truth_F S1 r1 (wpR_mono h1 (fun _ _ z => OkB.mono e1 z) fun _ _ _ => trivial)
theorem c_isi (t : Ty) (ha : SndE Γ g cf a) : SndE Γ g cf (.isi a t) := by
  intro sc e W k X hc x
  cases e with
  | Call fe l kw p =>
    cases fe with
    | Name y py =>
      cases kw with
      | cons _ _ => rcases l with _ | ⟨e1, _ | ⟨e2, _ | ⟨e3, l⟩⟩⟩ <;> first | (simp [chkE] at hc; done) | (cases e2 <;> simp [chkE] at hc)
      | nil =>
        rcases l with _ | ⟨e1, _ | ⟨e2, _ | ⟨e3, l⟩⟩⟩
        · simp [chkE] at hc
        · simp [chkE] at hc
        · cases e2 with
          | Name z pz =>
            simp only [chkE, Bool.and_eq_true, decide_eq_true_eq] at hc
            obtain ⟨⟨⟨⟨h1, rfl⟩, h2⟩, rfl⟩, h3⟩ := hc
            obtain ⟨b1, b2, b3, b4⟩ := x.blt h1
            obtain ⟨c1, c2, c3, c4⟩ := x.blt h2
            have pe := ha sc e1 W k X h3 x
            have st := star_of (l := [.Name (tyStr t) pz]) (env := X.env) (chk_plain h3).1
            have pt : PE X (.Name (tyStr t) pz) (tC (.ty (tyName t))) := pe_bltn (u := .type (tyName t)) c1 c2 (by cases t <;> decide +kernel) rfl c4 c3
            refine PE.imp (pe_callB (call_isiF x.K t) b1 b2 (by decide +kernel) (pa_cons pe (pa_cons pt pa_nil rfl) st) b4 b3 st rfl) ?_
            rintro σ H Q ⟨ι, ρ, μ, S, R, hw⟩
            have hw : wpR ((ev g.C cf a ρ μ).bind fun d μ => (isiF d t μ).bind fun b μ => .ok (.bl b) μ) (OkV g ι H Q) (exW g W ι H σ) := hw
            rw [wpR_bind] at hw
            refine ⟨ι, ρ, μ, S, R, wpR_mono hw (fun d1 μ1 h1 ι1 H1 v1 e1 S1 r1 => ?_) fun _ _ z => z⟩
            exact ⟨v1, rfl, ι1, μ1, d1, S1, r1, wpR_mono (semB_V (wpR_mono h1 (fun _ _ z => OkV.mono e1 z) fun _ _ z => z)) (fun _ _ z => z) fun _ _ _ => trivial⟩
          | _ => simp [chkE] at hc
        · simp [chkE] at hc
    | _ => simp [chkE] at hc
  | _ => simp [chkE] at hc
theorem t_isi (t : Ty) (ha : SndE Γ g cf a) : SndT Γ g cf (.isi a t) := by
  intro sc e W k X hc x
  have he : ∀ whole, isTrue e X.env whole = (do let v ← whole; standAt e.pos; holding [v] (truthy v)) := by
    intro whole
    cases e with
    | Call fe l kw p => rfl
    | _ => simp [chkE] at hc
  refine PT.imp (pt_val (c_isi t ha sc e W k X hc x) he) ?_
  rintro σ H Q ⟨ι, ρ, μ, S, R, hw⟩
  have hw : wpR ((ev g.C cf a ρ μ).bind fun d μ => isiF d t μ) (OkB g ι H Q) (exW g W ι H σ) := hw
  refine ⟨ι, ρ, μ, S, R, ?_⟩
  show wpR ((ev g.C cf a ρ μ).bind fun d μ => (isiF d t μ).bind fun b μ => .ok (D.bl b) μ) _ _
  rw [wpR_bind] at hw ⊢
  refine wpR_mono hw (fun d μ1 h1 => ?_) fun _ _ z => z
  rw [wpR_bind]
  exact wpR_mono h1 (fun b μ2 z ι' H' v e S r => ⟨b, r, z ι' H' e S⟩) fun _ _ z => z
end
end PL
end
section
set_option Elab.async false
set_option linter.all false
set_option autoImplicit false
set_option maxRecDepth 100000
set_option maxHeartbeats 400000
/-! Sound8: methods, places, slices. -/
namespace PL
open PySem PySem.Spec PyProof.Rows L2
section
variable {Γ : Stat} {g : Gd} {cf : CF} {W : WX} {σ : L2.St} {H : Hp} {a b c : E} {es : Es}
/-! ### places -/
theorem ix_cases {d i : D} {μ : Store} {Q : D → Store → Prop} {E : Exc → Store → Prop} (h : wpR (ixF g.C d i μ) Q E) : isRow μ d = true ∨ (∃ c, d = .cst c) ∨ ∃ l, d = .loc l ∧ ∃ v, findF g.C d i μ = some (some v) ∧ Q v μ := by
  cases d with
  | tup _ => exact .inl rfl
  | rol _ => exact .inl rfl
  | ktp _ => exact .inl rfl
  | ftup _ => exact .inl rfl
  | str _ => exact .inl rfl
  | cst c => exact .inr (.inl ⟨c, rfl⟩)
  | loc l =>
    cases e : μ[l]? with
    | none => simp [ixF, e, wpR_stuck] at h
    | some o =>
      cases o with
      | lst xs => exact .inl (by simp [isRow, e])
      | dK b kvs =>
        refine .inr (.inr ⟨l, rfl, ?_⟩)
        simp only [ixF, e] at h
        split at h
        · rename_i v ev; exact ⟨v, ev, h⟩
        · exact False.elim h
      | dT b kvs =>
        refine .inr (.inr ⟨l, rfl, ?_⟩)
        simp only [ixF, e] at h
        split at h
        · rename_i v ev; exact ⟨v, ev, h⟩
        · exact False.elim h
  | _ => exact False.elim h
/-- t[k] of a table of the written part -/
def tCst (g : Gd) (td ty : TE) : TE := fun σ H Q => td σ H fun x H1 => ty σ H1 fun y H2 => ∃ c s d u v, x = .ref (g.cA c) ∧ CstAt g.K g.w (g.cA c) (g.C c) ∧ y = .str (S2 s) ∧ PySem.W.nsIn g.K (g.cA c) (S2 s) = some (some u) ∧ RelV v u ∧ RepK g.K d v ∧ Q v H2
theorem pe_cst {X : Cx} {o i : Expr} {td ty : TE} {pos : Pos} (hK : X.K = g.K) (hw : X.w = g.w) (ho : PE X o td) (hi : PE X i ty) (hs : NoSl i) : PE X (.Subscript o i pos) (tCst g td ty) := by
  refine ⟨fun pins s σ H Q I h => ?_⟩
  refine subD_of PySem.F.slot_dict_getitem.lookup hs (thn (ho.run pins s σ H _ I h) fun u s1 ⟨x, H1, I1, rx, q1⟩ => thn (hi.run pins s1 σ H1 _ I1 q1) fun iv s2 ⟨y, H2, I2, ry, q⟩ => ?_)
  obtain ⟨c, z, d, u', v', ex, cs, ey, e2, rv, rk, q2⟩ := q
  subst ex ey
  obtain rfl : u = Value.ref (g.cA c) := rx
  obtain ⟨es, n, kd⟩ := cs.kd
  have kd' : KDict X.K X.w (g.cA c) es n := by rw [hK, hw]; exact kd
  exact ⟨kd_type kd' I2, op_item_kd kd' pins s2 σ H2 (.ref (g.cA c)) (.str (S2 z)) (.ref (g.cA c)) iv _ I2 rfl ry ⟨S2 z, u', v', rfl, rfl, by rw [hK]; exact e2, rv, q2⟩⟩
theorem c_ix (ha : SndE Γ g cf a) (hb : SndE Γ g cf b) : SndE Γ g cf (.ix a b) := by
  intro sc e W k X hc x
  cases e with
  | Subscript l r p =>
    have hc' : chkE Γ a sc l = true ∧ chkE Γ b sc r = true := by
      rw [chkE] at hc
      · exact Bool.and_eq_true_iff.mp hc
      all_goals simp
    obtain ⟨h1, h2⟩ := hc'
    have pa := ha sc l W k X h1 x
    have pb := hb sc r W k X h2 x
    have ns := ix_of (chk_plain h2).2.2
    have hu := x.hu
    refine PE.imp (PE.or (PE.or (pe_ix (ix_row x.K) pa pb ns) (pe_dget (by omega) pa pb ns)) (pe_cst x.K x.w pa pb ns)) ?_
    rintro σ H Q ⟨ι, ρ, μ, S, R, hw⟩
    have hw : wpR ((ev g.C cf a ρ μ).bind fun x μ => (ev g.C cf b ρ μ).bind fun y μ => ixF g.C x y μ) (OkV g ι H Q) (exW g W ι H σ) := hw
    rw [wpR_bind] at hw
    -- which road: by the end of both
    cases ea : ev g.C cf a ρ μ with
    | stuck => rw [ea] at hw; exact False.elim hw
    | exc y μ1 => rw [ea] at hw; exact .inl (.inl ⟨ι, ρ, μ, S, R, by rw [ea]; exact hw⟩)
    | ok d1 μ1 =>
      rw [ea] at hw
      have hw : wpR ((ev g.C cf b ρ μ1).bind fun y μ => ixF g.C d1 y μ) (OkV g ι H Q) (exW g W ι H σ) := hw
      rw [wpR_bind] at hw
      cases eb : ev g.C cf b ρ μ1 with
      | stuck => rw [eb] at hw; exact False.elim hw
      | exc y μ2 =>
        rw [eb] at hw
        refine .inl (.inl ⟨ι, ρ, μ, S, R, ?_⟩)
        rw [ea]
        intro ι1 H1 v1 e1 S1 r1
        refine ⟨ι1, ρ, μ1, S1, R.mono e1, ?_⟩
        rw [eb]
        exact exW.mono e1 hw
      | ok d2 μ2 =>
        rw [eb] at hw
        have hw : wpR (ixF g.C d1 d2 μ2) (OkV g ι H Q) (exW g W ι H σ) := hw
        rcases ix_cases hw with hr | ⟨c, rfl⟩ | ⟨l', rfl, v, hf, hq⟩
        · refine .inl (.inl ⟨ι, ρ, μ, S, R, ?_⟩)
          rw [ea]
          intro ι1 H1 v1 e1 S1 r1
          refine ⟨ι1, ρ, μ1, S1, R.mono e1, ?_⟩
          rw [eb]
          intro ι2 H2 v2 e2 S2 r2
          exact ⟨ι2, μ2, d1, d2, S2, e2.rep _ _ r1, r2, hr, wpR_mono hw (fun _ _ z => z.mono (e1.trans e2)) fun _ _ _ => trivial⟩
        · refine .inr ⟨ι, ρ, μ, S, R, ?_⟩
          rw [ea]
          intro ι1 H1 v1 e1 S1 r1
          refine ⟨ι1, ρ, μ1, S1, R.mono e1, ?_⟩
          rw [eb]
          intro ι2 H2 v2 e2 S2 r2
          obtain ⟨rfl, cs⟩ := r1
          cases d2 with
          | str z =>
            obtain rfl := r2
            have hw : wpR (match findF g.C (.cst c) (.str z) μ2 with
              | some (some v) => .ok v μ2
              | _ => .stuck) (OkV g ι H Q) (exW g W ι H σ) := hw
            simp only [findF] at hw
            rcases cs.get z with ⟨q1, q2⟩ | ⟨d, u, v, q1, q2, q3, q4⟩
            · rw [q1] at hw; exact False.elim hw
            · rw [q1] at hw
              exact ⟨c, z, d, u, v, rfl, cs, rfl, q2, q3, q4, hw ι2 H2 v (e1.trans e2) S2 (RepK.rep d v q4)⟩
          | _ => exact False.elim hw
        · refine .inl (.inr ⟨ι, ρ, μ, S, R, ?_⟩)
          rw [ea]
          intro ι1 H1 v1 e1 S1 r1
          refine ⟨ι1, ρ, μ1, S1, R.mono e1, ?_⟩
          rw [eb]
          intro ι2 H2 v2 e2 S2 r2
          obtain ⟨a', ov, rfl, dg, _, hh⟩ := find_loc S2 (e2.rep _ _ r1) r2 hf
          rcases hh with ⟨z, _⟩ | ⟨d, v', z1, z2, z3⟩
          · cases z
          · cases z1
            subst z2
            exact ⟨a', v', rfl, dg, hq ι2 H2 v' (e1.trans e2) S2 z3⟩
  | _ => simp [chkE] at hc

/-! ### slices -/
theorem chk_ix_no {sc : Scope} {l r : Expr} {p : Pos} {lo hi st : Option Expr} {p2 : Pos} (h : chkE Γ (.ix a b) sc (.Subscript l (.Slice lo hi st p2) p) = true) : False := by
  rw [chkE] at h
  · rw [Bool.and_eq_true] at h
    exact absurd (chk_plain h.2).2.2 (by simp [NoSlice])
  all_goals simp
theorem c_slL (ha : SndE Γ g cf a) (hb : SndE Γ g cf b) : SndE Γ g cf (.slL a b) := by
  intro sc e W k X hc x
  cases e with
  | Subscript l r p =>
    cases r with
    | Slice lo hi st p2 =>
      match lo, hi, st, hc with
      | some lo, none, none, hc =>
        simp only [chkE, Bool.and_eq_true] at hc
        refine PE.imp (pe_slice (sl_rowF x.K) (ha sc l W k X hc.1 x) (po_some (hb sc lo W k X hc.2 x)) po_none) ?_
        rintro σ H Q ⟨ι, ρ, μ, S, R, hw⟩
        have hw : wpR ((ev g.C cf a ρ μ).bind fun x μ => (ev g.C cf b ρ μ).bind fun y μ => match y with
          | .int i => slF x (some i) none μ
          | _ => .stuck) (OkV g ι H Q) (exW g W ι H σ) := hw
        rw [wpR_bind] at hw
        refine ⟨ι, ρ, μ, S, R, wpR_mono hw (fun d1 μ1 h1 ι1 H1 v1 e1 S1 r1 => ?_) fun _ _ z => z⟩
        rw [wpR_bind] at h1
        refine ⟨ι1, ρ, μ1, S1, R.mono e1, wpR_mono h1 (fun d2 μ2 h2 ι2 H2 v2 e2 S2 r2 => ?_) fun _ _ z => z.mono e1⟩
        cases d2 with
        | int i =>
          obtain rfl := r2
          exact ⟨i, rfl, ι2, μ2, d1, S2, e2.rep _ _ r1, wpR_mono h2 (fun _ _ z => OkV.mono (e1.trans e2) z) fun _ _ _ => trivial⟩
        | _ => exact False.elim h2
      | none, _, _, hc => simp [chkE] at hc
      | some _, some _, _, hc => simp [chkE] at hc
      | some _, none, some _, hc => simp [chkE] at hc
    | _ => simp [chkE] at hc
  | _ => simp [chkE] at hc
theorem c_rv (ha : SndE Γ g cf a) : SndE Γ g cf (.rv a) := by
  intro sc e W k X hc x
  cases e with
  | Subscript l r p =>
    have hc' : isRvE r = true ∧ chkE Γ a sc l = true := by
      rw [chkE] at hc
      · exact Bool.and_eq_true_iff.mp hc
      all_goals simp
    obtain ⟨h1, h2⟩ := hc'
    obtain ⟨j, p1, p2, p3, rfl⟩ : ∃ j p1 p2 p3, r = .Slice none none (some (.UnaryOp .USub (.Constant (.int 1) j p1) p2)) p3 := by
      unfold isRvE at h1
      split at h1
      · exact ⟨_, _, _, _, rfl⟩
      · cases h1
    refine PE.imp (pe_rv (ha sc l W k X h2 x)) ?_
    rintro σ H Q ⟨ι, ρ, μ, S, R, hw⟩
    have hw : wpR ((ev g.C cf a ρ μ).bind fun x μ => rvF x μ) (OkV g ι H Q) (exW g W ι H σ) := hw
    rw [wpR_bind] at hw
    refine ⟨ι, ρ, μ, S, R, wpR_mono hw (fun d μ1 h1 ι1 H1 v e1 S1 r1 => ?_) fun _ _ z => z⟩
    have h1 : wpR (rvF d μ1) (OkV g ι1 H1 Q) anyE := wpR_mono h1 (fun _ _ z => OkV.mono e1 z) fun _ _ _ => trivial
    cases d with
    | tup xs =>
      obtain ⟨b, vs, rfl, hb, r2⟩ := r1
      exact .inr (.inl ⟨b, vs, rfl, SqT.of hb, fun q hq => OkV.tup S1 h1 r2.reverse hq⟩)
    | str z =>
      obtain rfl := r1
      have h1 : wpR (if z.length ≤ mostLen then Res.ok (D.str z.reverse) μ1 else .stuck) (OkV g ι1 H1 Q) anyE := h1
      split at h1
      · rename_i hl
        exact .inr (.inr ⟨z, rfl, hl, OkV.same S1 h1 rfl⟩)
      · exact False.elim h1
    | loc i =>
      cases ei : μ1[i]? with
      | none => simp only [rvF, ei] at h1; exact False.elim h1
      | some o =>
        cases o with
        | lst xs =>
          simp only [rvF, ei] at h1
          obtain ⟨b, vs, rfl, _, hb, r2⟩ := RepL.sqL S1 r1 ei
          exact .inl ⟨b, vs, rfl, SqL.of hb, fun q hq => OkV.lst S1 h1 r2.reverse hq⟩
        | dK _ _ => simp only [rvF, ei] at h1; exact False.elim h1
        | dT _ _ => simp only [rvF, ei] at h1; exact False.elim h1
    | _ => exact False.elim h1
  | _ => simp [chkE] at hc
theorem c_slU (ha : SndE Γ g cf a) (hb : SndE Γ g cf b) : SndE Γ g cf (.slU a b) := by
  intro sc e W k X hc x
  cases e with
  | Subscript l r p =>
    cases r with
    | Slice lo hi st p2 =>
      match lo, hi, st, hc with
      | none, some lo, none, hc =>
        simp only [chkE, Bool.and_eq_true] at hc
        refine PE.imp (pe_slice (sl_rowF x.K) (ha sc l W k X hc.1 x) po_none (po_some (hb sc lo W k X hc.2 x))) ?_
        rintro σ H Q ⟨ι, ρ, μ, S, R, hw⟩
        have hw : wpR ((ev g.C cf a ρ μ).bind fun x μ => (ev g.C cf b ρ μ).bind fun y μ => match y with
          | .int i => slF x none (some i) μ
          | _ => .stuck) (OkV g ι H Q) (exW g W ι H σ) := hw
        rw [wpR_bind] at hw
        refine ⟨ι, ρ, μ, S, R, wpR_mono hw (fun d1 μ1 h1 ι1 H1 v1 e1 S1 r1 => ?_) fun _ _ z => z⟩
        rw [wpR_bind] at h1
        refine ⟨ι1, ρ, μ1, S1, R.mono e1, wpR_mono h1 (fun d2 μ2 h2 ι2 H2 v2 e2 S2 r2 => ?_) fun _ _ z => z.mono e1⟩
        cases d2 with
        | int i =>
          obtain rfl := r2
          exact ⟨i, rfl, ι2, μ2, d1, S2, e2.rep _ _ r1, wpR_mono h2 (fun _ _ z => OkV.mono (e1.trans e2) z) fun _ _ _ => trivial⟩
        | _ => exact False.elim h2
      | some _, _, _, hc => simp [chkE] at hc
      | none, none, _, hc => simp [chkE] at hc
      | none, some _, some _, hc => simp [chkE] at hc
    | _ => simp [chkE] at hc
  | _ => simp [chkE] at hc
theorem c_slB (ha : SndE Γ g cf a) (hb : SndE Γ g cf b) (hh : SndE Γ g cf c) : SndE Γ g cf (.slB a b c) := by
  intro sc e W k X hc x
  cases e with
  | Subscript l r p =>
    cases r with
    | Slice lo hi st p2 =>
      match lo, hi, st, hc with
      | some lo, some hi, none, hc =>
        simp only [chkE, Bool.and_eq_true] at hc
        refine PE.imp (pe_slice (sl_rowF x.K) (ha sc l W k X hc.1.1 x) (po_some (hb sc lo W k X hc.1.2 x)) (po_some (hh sc hi W k X hc.2 x))) ?_
        rintro σ H Q ⟨ι, ρ, μ, S, R, hw⟩
        have hw : wpR ((ev g.C cf a ρ μ).bind fun x μ => (ev g.C cf b ρ μ).bind fun y μ => match y with
          | .int i => (ev g.C cf c ρ μ).bind fun z μ => match z with
            | .int j => slF x (some i) (some j) μ
            | _ => .stuck
          | _ => .stuck) (OkV g ι H Q) (exW g W ι H σ) := hw
        rw [wpR_bind] at hw
        refine ⟨ι, ρ, μ, S, R, wpR_mono hw (fun d1 μ1 h1 ι1 H1 v1 e1 S1 r1 => ?_) fun _ _ z => z⟩
        rw [wpR_bind] at h1
        refine ⟨ι1, ρ, μ1, S1, R.mono e1, wpR_mono h1 (fun d2 μ2 h2 ι2 H2 v2 e2 S2 r2 => ?_) fun _ _ z => z.mono e1⟩
        cases d2 with
        | int i =>
          obtain rfl := r2
          have h2 : wpR ((ev g.C cf c ρ μ2).bind fun z μ => match z with
            | .int j => slF d1 (some i) (some j) μ
            | _ => .stuck) (OkV g ι H Q) (exW g W ι H σ) := h2
          rw [wpR_bind] at h2
          refine ⟨i, rfl, ι2, ρ, μ2, S2, R.mono (e1.trans e2), wpR_mono h2 (fun d3 μ3 h3 ι3 H3 v3 e3 S3 r3 => ?_) fun _ _ z => z.mono (e1.trans e2)⟩
          cases d3 with
          | int j =>
            obtain rfl := r3
            exact ⟨j, rfl, ι3, μ3, d1, S3, (e2.trans e3).rep _ _ r1, wpR_mono h3 (fun _ _ z => OkV.mono (e1.trans (e2.trans e3)) z) fun _ _ _ => trivial⟩
          | _ => exact False.elim h3
        | _ => exact False.elim h2
      | none, _, _, hc => simp [chkE] at hc
      | some _, none, _, hc => simp [chkE] at hc
      | some _, some _, some _, hc => simp [chkE] at hc
    | _ => simp [chkE] at hc
  | _ => simp [chkE] at hc

/-! ### methods -/
theorem ty_lst {d : D} {x : V} {ι : List Addr} {μ : Store} {H : Hp} (S : Sim g ι μ H) (r : Rep g ι H d x) (h : isLstD d μ = true) : tyV g.K "list" x H := by
  cases d with
  | rol xs =>
    obtain ⟨a, vs, rfl, _, r', _, hq⟩ := rowF_at S r (xs := xs) rfl
    exact .inl ⟨rfl, vs, hq (fun _ z => by cases z) (fun _ z => by cases z)⟩
  | loc l =>
    obtain ⟨xs, e⟩ : ∃ xs, μ[l]? = some (.lst xs) := by
      cases e : μ[l]? with
      | none => simp [isLstD, e] at h
      | some o =>
        cases o with
        | lst xs => exact ⟨xs, rfl⟩
        | _ => simp [isLstD, e] at h
    obtain ⟨a, vs, rfl, _, ha, _⟩ := RepL.sqL S r e
    exact .inl ⟨rfl, vs, SqL.of ha⟩
  | _ => cases h
theorem ty_str {d : D} {x : V} {ι : List Addr} {H : Hp} (r : Rep g ι H d x) (h : isStrD d = true) : tyV g.K "str" x H := by
  cases d with
  | str s => obtain rfl := r; rfl
  | _ => cases h
theorem ty_dct {d : D} {x : V} {ι : List Addr} {μ : Store} {H : Hp} (S : Sim g ι μ H) (r : Rep g ι H d x) (h : isDctD d μ = true) : ∃ a, x = .ref a ∧ IsD H a ∧ ∃ l, d = .loc l := by
  cases d with
  | loc l =>
    obtain ⟨a, rfl, ha⟩ := r
    refine ⟨a, rfl, ?_, l, rfl⟩
    cases e : μ[l]? with
    | none => simp [isDctD, e] at h
    | some o =>
      have ho := S.ob l o a e ha
      cases o with
      | lst xs => simp [isDctD, e] at h
      | dK b kvs =>
        cases b with
        | false => obtain ⟨vs, q1, _⟩ := ho; exact .inl ⟨vs, .inl q1⟩
        | true => obtain ⟨o, vs, q1, _⟩ := ho; exact .inl ⟨vs, .inr ⟨o, q1⟩⟩
      | dT b kvs =>
        cases b with
        | false => obtain ⟨vs, q1, _⟩ := ho; exact .inr ⟨vs, .inl q1⟩
        | true => obtain ⟨o, vs, q1, _⟩ := ho; exact .inr ⟨vs, .inr ⟨o, q1⟩⟩
  | _ => cases h
/-- what the evaluation of a method call is -/
def mSem (g : Gd) (cf : CF) (W : WX) (m : Mf) (a : E) (es : Es) : TE := fun σ H Q => ∃ ι ρ μ, Sim g ι μ H ∧ RepS g ι H ρ σ ∧ wpR ((ev g.C cf a ρ μ).bind fun d μ => if mfOk m d μ then (evs g.C cf es ρ μ).bind fun ds μ => methF g.C m d ds μ else .stuck) (OkV g ι H Q) (exW g W ι H σ)
theorem sem_meth {m : Mf} {T : String} {r : V → List V → Hp → VK → Prop} (hr : ∀ x xs H Q, rMf g m x xs H Q → r x xs H Q) {Q : VK}
    (hT : ∀ d x ι μ H, Sim g ι μ H → Rep g ι H d x → mfOk m d μ = true → tyV g.K T x H)
    (h : mSem g cf W m a es σ H Q) : tBM g.K T r (semE g cf W a) (semA g cf W es) σ H Q := by
  obtain ⟨ι, ρ, μ, S, R, hw⟩ := h
  rw [wpR_bind] at hw
  refine ⟨ι, ρ, μ, S, R, wpR_mono hw (fun d1 μ1 h1 ι1 H1 v1 e1 S1 r1 => ?_) fun _ _ z => z⟩
  split at h1
  · rename_i ok
    refine ⟨hT d1 v1 ι1 μ1 H1 S1 r1 ok, ?_⟩
    rw [wpR_bind] at h1
    exact ⟨ι1, ρ, μ1, S1, R.mono e1, wpR_mono h1 (fun ds μ2 h2 ι2 H2 vs e2 S2 r2 => hr _ _ _ _ ⟨ι2, μ2, d1, ds, S2, e2.rep _ _ r1, r2, wpR_mono h2 (fun _ _ z => OkV.mono (e1.trans e2) z) fun _ _ _ => trivial⟩) fun _ _ z => z.mono e1⟩
  · exact False.elim h1
theorem sem_meth0 {m : Mf} {T : String} {r : V → List V → Hp → VK → Prop} (hr : ∀ x xs H Q, rMf g m x xs H Q → r x xs H Q) {Q : VK}
    (hT : ∀ d x ι μ H, Sim g ι μ H → Rep g ι H d x → mfOk m d μ = true → tyV g.K T x H)
    (h : mSem g cf W m a .nil σ H Q) : tBM0 g.K T r (semE g cf W a) σ H Q := by
  obtain ⟨ι, ρ, μ, S, R, hw⟩ := h
  rw [wpR_bind] at hw
  refine ⟨ι, ρ, μ, S, R, wpR_mono hw (fun d1 μ1 h1 ι1 H1 v1 e1 S1 r1 => ?_) fun _ _ z => z⟩
  split at h1
  · rename_i ok
    refine ⟨hT d1 v1 ι1 μ1 H1 S1 r1 ok, hr _ _ _ _ ⟨ι1, μ1, d1, [], S1, r1, rfl, ?_⟩⟩
    exact wpR_mono (show wpR (methF g.C m d1 [] μ1) (OkV g ι H Q) (exW g W ι H σ) from h1) (fun _ _ z => OkV.mono e1 z) fun _ _ _ => trivial
  · exact False.elim h1
theorem chkEs_nil {sc : Scope} {l : List Expr} (h : chkEs Γ .nil sc l = true) : l = [] := by
  cases l with
  | nil => rfl
  | cons _ _ => simp [chkEs] at h
theorem few_of {sc : Scope} {l : List Expr} {env : PySem.Env} {cpos : Pos} (h : chkEs Γ es sc l = true) (hl : l.length < 20) :
    ((backTo cpos (starEach l env)).all (fun x => !x.1) && (backToKw cpos (keywordEach [] env)).all (fun x => x.1.isSome) && decide (l.length + ([] : List Keyword).length + (if ([] : List Keyword).isEmpty then 0 else 1) < 30)) = true := by
  rw [star_few h]
  simp [keywordEach, backToKw]
  omega
theorem star1 {e : Expr} {env : PySem.Env} (h : NoStar e = true) : starEach [e] env = [(false, eval e env)] := star_of h
theorem m_get {d : D} {ds : List D} {μ : Store} {Q : D → Store → Prop} {E' : Exc → Store → Prop} (h : wpR (methF g.C .get d ds μ) Q E') : ∃ q o, ds = [q] ∧ findF g.C d q μ = some o ∧ Q (o.getD .non) μ := by
  match ds, h with
  | [], h => exact False.elim h
  | _ :: _ :: _, h => exact False.elim h
  | [q], h =>
    have h : wpR (match findF g.C d q μ with
      | some r => .ok (r.getD .non) μ
      | none => .stuck) Q E' := h
    split at h
    · rename_i r e; exact ⟨q, r, rfl, e, h⟩
    · exact False.elim h
theorem m_get2 {d : D} {ds : List D} {μ : Store} {Q : D → Store → Prop} {E' : Exc → Store → Prop} (h : wpR (methF g.C .get2 d ds μ) Q E') : ∃ q z o, ds = [q, z] ∧ findF g.C d q μ = some o ∧ Q (o.getD z) μ := by
  match ds, h with
  | [], h => exact False.elim h
  | [_], h => exact False.elim h
  | _ :: _ :: _ :: _, h => exact False.elim h
  | [q, z], h =>
    have h : wpR (match findF g.C d q μ with
      | some r => .ok (r.getD z) μ
      | none => .stuck) Q E' := h
    split at h
    · rename_i r e; exact ⟨q, z, r, rfl, e, h⟩
    · exact False.elim h
theorem meth_gen {m : Mf} {sc : Scope} {o : Expr} {l : List Expr} {k : Nat} {X : Cx} {T id : String} {n : PySem.Str} {r : V → List V → Hp → VK → Prop} {apos cpos : Pos} (ha : SndE Γ g cf a) (hs : SndA Γ g cf es)
    (pl : PlainAttrs T) (sl : Slot T n id) (ty : typeOf (Value.builtin id) = pure (Value.type "method_descriptor")) (mt : MtR X id r)
    (hr : ∀ x xs H Q, (∃ H0, tyV g.K T x H0) → rMf g m x xs H Q → r x xs H Q)
    (hT : ∀ d x ι μ H, Sim g ι μ H → Rep g ι H d x → mfOk m d μ = true → tyV g.K T x H)
    (h1 : chkE Γ a sc o = true) (h2 : chkEs Γ es sc l = true) (h3 : noSuper o = true) (h4 : (apos.endLine == cpos.line) = true) (h5 : l.length < 20) (x : XOk Γ g cf W k sc X) :
    PE X (.Call (.Attribute o n apos) l [] cpos) (mSem g cf W m a es) := by
  cases l with
  | nil =>
    cases es with
    | cons _ _ => simp [chkEs] at h2
    | nil =>
      refine PE.imp (pe_bm0 pl sl ty mt (ha sc o W k X h1 x) (base_of h3) h4) ?_
      rintro σ H Q ⟨ι, ρ, μ, S, R, hw⟩
      rw [wpR_bind] at hw
      refine ⟨ι, ρ, μ, S, R, wpR_mono hw (fun d1 μ1 q1 ι1 H1 v1 e1 S1 r1 => ?_) fun _ _ z => z⟩
      split at q1
      · rename_i ok
        have tt : tyV X.K T v1 H1 := by rw [x.K]; exact hT d1 v1 ι1 μ1 H1 S1 r1 ok
        exact ⟨tt, hr _ _ _ _ ⟨H1, by rw [← x.K]; exact tt⟩ ⟨ι1, μ1, d1, [], S1, r1, rfl, wpR_mono (show wpR (methF g.C m d1 [] μ1) (OkV g ι H Q) (exW g W ι H σ) from q1) (fun _ _ z => OkV.mono e1 z) fun _ _ _ => trivial⟩⟩
      · exact False.elim q1
  | cons e l =>
    have pl2 : ∃ m ms, es = .cons m ms ∧ chkE Γ m sc e = true ∧ chkEs Γ ms sc l = true := by
      cases es with
      | nil => simp [chkEs] at h2
      | cons m ms =>
        rw [chkEs, Bool.and_eq_true] at h2
        exact ⟨m, ms, rfl, h2.1, h2.2⟩
    obtain ⟨m', ms, rfl, q1, q2⟩ := pl2
    refine PE.imp (pe_bm pl sl ty mt (ha sc o W k X h1 x) (hs sc (e :: l) W k X h2 x) (base_of h3) (few_of h2 h5) h4 (star_of (chk_plain q1).1) (star_plain q2)) ?_
    rintro σ H Q ⟨ι, ρ, μ, S, R, hw⟩
    rw [wpR_bind] at hw
    refine ⟨ι, ρ, μ, S, R, wpR_mono hw (fun d1 μ1 q1 ι1 H1 v1 e1 S1 r1 => ?_) fun _ _ z => z⟩
    split at q1
    · rename_i ok
      have tt : tyV X.K T v1 H1 := by rw [x.K]; exact hT d1 v1 ι1 μ1 H1 S1 r1 ok
      refine ⟨tt, ?_⟩
      rw [wpR_bind] at q1
      refine ⟨ι1, ρ, μ1, S1, R.mono e1, wpR_mono q1 (fun ds μ2 q2 ι2 H2 vs e2 S2 r2 => ?_) fun _ _ z => z.mono e1⟩
      exact hr _ _ _ _ ⟨H1, by rw [← x.K]; exact tt⟩ ⟨ι2, μ2, d1, ds, S2, e2.rep _ _ r1, r2, wpR_mono q2 (fun _ _ z => OkV.mono (e1.trans e2) z) fun _ _ _ => trivial⟩
    · exact False.elim q1
theorem methT_gen {m : Mf} {sc : Scope} {o e : Expr} {l : List Expr} {k : Nat} {X : Cx} {id : String} {n : PySem.Str} {apos cpos : Pos} (ha : SndE Γ g cf a) (hs : SndA Γ g cf es)
    (sl : Slot "tuple" n id) (ty : typeOf (Value.builtin id) = pure (Value.type "method_descriptor")) (mt : MtR X id (rMf g m)) (hT : ∀ d μ, mfOk m d μ = true → ∃ xs, d = .ftup xs)
    (h1 : chkE Γ a sc o = true) (h2 : chkEs Γ es sc (e :: l) = true) (h3 : noSuper o = true) (h4 : (apos.endLine == cpos.line) = true) (h5 : (e :: l).length < 20) (x : XOk Γ g cf W k sc X) :
    PE X (.Call (.Attribute o n apos) (e :: l) [] cpos) (mSem g cf W m a es) := by
  have pl2 : ∃ m ms, es = .cons m ms ∧ chkE Γ m sc e = true ∧ chkEs Γ ms sc l = true := by
    cases es with
    | nil => simp [chkEs] at h2
    | cons m ms =>
      rw [chkEs, Bool.and_eq_true] at h2
      exact ⟨m, ms, rfl, h2.1, h2.2⟩
  obtain ⟨m', ms, rfl, q1, q2⟩ := pl2
  refine PE.imp (pe_bmF sl ty mt (ha sc o W k X h1 x) (hs sc (e :: l) W k X h2 x) (base_of h3) (few_of h2 h5) h4 (star_of (chk_plain q1).1) (star_plain q2)) ?_
  rintro σ H Q ⟨ι, ρ, μ, S, R, hw⟩
  rw [wpR_bind] at hw
  refine ⟨ι, ρ, μ, S, R, wpR_mono hw (fun d1 μ1 q1 ι1 H1 v1 e1 S1 r1 => ?_) fun _ _ z => z⟩
  split at q1
  · rename_i ok
    obtain ⟨xs, rfl⟩ := hT d1 μ1 ok
    have r1' := r1
    obtain ⟨p, vs, ob, rfl, hp, ⟨hc, hd, _⟩, _⟩ := r1'
    refine ⟨⟨p, ob, vs, rfl, hp, hc, hd⟩, ?_⟩
    rw [wpR_bind] at q1
    refine ⟨ι1, ρ, μ1, S1, R.mono e1, wpR_mono q1 (fun ds μ2 q2 ι2 H2 vs e2 S2 r2 => ?_) fun _ _ z => z.mono e1⟩
    exact ⟨ι2, μ2, _, ds, S2, e2.rep _ _ r1, r2, wpR_mono q2 (fun _ _ z => OkV.mono (e1.trans e2) z) fun _ _ _ => trivial⟩
  · exact False.elim q1
theorem tyV_str {K : PySem.W.Frag} {x : V} {H : Hp} (h : tyV K "str" x H) : ∃ s, x = .str s := by
  cases x with
  | str s => exact ⟨s, rfl⟩
  | int i => exact absurd (show "str" = "int" from h) (by decide)
  | ref p =>
    have h : ("str" = "list" ∧ _) ∨ ("str" = "tuple" ∧ _) ∨ "str" = "dict" ∧ _ ∨ "str" = "set" ∧ _ := h
    rcases h with ⟨z, _⟩ | ⟨z, _⟩ | ⟨z, _⟩ | ⟨z, _⟩ <;> exact absurd z (by decide)
  | _ => exact False.elim h
theorem get_gen {sc : Scope} {o e : Expr} {k : Nat} {X : Cx} {apos cpos : Pos} {m1 : E} (ha : SndE Γ g cf a) (hb : SndE Γ g cf m1)
    (h1 : chkE Γ a sc o = true) (h2 : chkE Γ m1 sc e = true) (h3 : noSuper o = true) (h4 : (apos.endLine == cpos.line) = true) (x : XOk Γ g cf W k sc X) :
    PE X (.Call (.Attribute o "get" apos) [e] [] cpos) (mSem g cf W .get a (.cons m1 .nil)) := by
  have hu := x.hu
  have hc : chkEs Γ (.cons m1 .nil) sc [e] = true := by rw [chkEs, h2]; rfl
  refine PE.imp (pe_dget1 (by omega) (ha sc o W k X h1 x) (hb sc e W k X h2 x) ⟨base_of h3, few_of hc (by simp), h4, by rw [star1 (chk_plain h2).1]; rfl⟩) ?_
  rintro σ H Q ⟨ι, ρ, μ, S, R, hw⟩
  rw [wpR_bind] at hw
  refine ⟨ι, ρ, μ, S, R, wpR_mono hw (fun d1 μ1 q1 ι1 H1 v1 e1 S1 r1 => ?_) fun _ _ z => z⟩
  split at q1
  · rename_i ok
    obtain ⟨p, rfl, dd, l, rfl⟩ := ty_dct S1 r1 ok
    refine ⟨p, rfl, dd, ?_⟩
    have q1 : wpR (((ev g.C cf m1 ρ μ1).bind fun d μ => (Res.ok [] μ).bind fun ds μ => .ok (d :: ds) μ).bind fun ds μ => methF g.C .get (.loc l) ds μ) (OkV g ι H Q) (exW g W ι H σ) := q1
    rw [wpR_bind, wpR_bind] at q1
    refine ⟨ι1, ρ, μ1, S1, R.mono e1, wpR_mono q1 (fun d2 μ2 q2 ι2 H2 v2 e2 S2 r2 => ?_) fun _ _ z => z.mono e1⟩
    have q2 : wpR (methF g.C .get (.loc l) [d2] μ2) (OkV g ι H Q) (exW g W ι H σ) := q2
    obtain ⟨q, ov, eq, ef, hq⟩ := m_get q2
    cases eq
    obtain ⟨a', ov', ez, dg, _, hh⟩ := find_loc S2 (e2.rep _ _ r1) r2 ef
    cases ez
    refine ⟨ov', dg, ?_⟩
    rcases hh with ⟨rfl, rfl⟩ | ⟨d, v', rfl, rfl, z3⟩
    · exact hq ι2 H2 .non (e1.trans e2) S2 rfl
    · exact hq ι2 H2 v' (e1.trans e2) S2 z3
  · exact False.elim q1
theorem get2_gen {sc : Scope} {o e f : Expr} {k : Nat} {X : Cx} {apos cpos : Pos} {m1 m2 : E} (ha : SndE Γ g cf a) (hb : SndE Γ g cf m1) (hd : SndE Γ g cf m2)
    (h1 : chkE Γ a sc o = true) (h2 : chkE Γ m1 sc e = true) (h5 : chkE Γ m2 sc f = true) (h3 : noSuper o = true) (h4 : (apos.endLine == cpos.line) = true) (x : XOk Γ g cf W k sc X) :
    PE X (.Call (.Attribute o "get" apos) [e, f] [] cpos) (mSem g cf W .get2 a (.cons m1 (.cons m2 .nil))) := by
  have hu := x.hu
  have hc : chkEs Γ (.cons m1 (.cons m2 .nil)) sc [e, f] = true := by rw [chkEs, h2, chkEs, h5]; rfl
  refine PE.imp (pe_dget2 (by omega) (ha sc o W k X h1 x) (hb sc e W k X h2 x) (hd sc f W k X h5 x) ⟨base_of h3, few_of hc (by simp), h4, by rw [star_of (chk_plain h2).1, star1 (chk_plain h5).1]; rfl⟩) ?_
  rintro σ H Q ⟨ι, ρ, μ, S, R, hw⟩
  rw [wpR_bind] at hw
  refine ⟨ι, ρ, μ, S, R, wpR_mono hw (fun d1 μ1 q1 ι1 H1 v1 e1 S1 r1 => ?_) fun _ _ z => z⟩
  split at q1
  · rename_i ok
    obtain ⟨p, rfl, dd, l, rfl⟩ := ty_dct S1 r1 ok
    refine ⟨p, rfl, dd, ?_⟩
    have q1 : wpR (((ev g.C cf m1 ρ μ1).bind fun d μ => ((ev g.C cf m2 ρ μ).bind fun d μ => (Res.ok [] μ).bind fun ds μ => .ok (d :: ds) μ).bind fun ds μ => .ok (d :: ds) μ).bind fun ds μ => methF g.C .get2 (.loc l) ds μ) (OkV g ι H Q) (exW g W ι H σ) := q1
    rw [wpR_bind, wpR_bind] at q1
    refine ⟨ι1, ρ, μ1, S1, R.mono e1, wpR_mono q1 (fun d2 μ2 q2 ι2 H2 v2 e2 S2 r2 => ?_) fun _ _ z => z.mono e1⟩
    rw [wpR_bind, wpR_bind] at q2
    refine ⟨ι2, ρ, μ2, S2, R.mono (e1.trans e2), wpR_mono q2 (fun d3 μ3 q3 ι3 H3 v3 e3 S3 r3 => ?_) fun _ _ z => z.mono (e1.trans e2)⟩
    have q3 : wpR (methF g.C .get2 (.loc l) [d2, d3] μ3) (OkV g ι H Q) (exW g W ι H σ) := q3
    obtain ⟨q, z, ov, eq, ef, hq⟩ := m_get2 q3
    cases eq
    obtain ⟨a', ov', ez, dg, _, hh⟩ := find_loc S3 ((e2.trans e3).rep _ _ r1) (e3.rep _ _ r2) ef
    cases ez
    refine ⟨ov', dg, ?_⟩
    rcases hh with ⟨rfl, rfl⟩ | ⟨d, v', rfl, rfl, z3⟩
    · exact hq ι3 H3 v3 (e1.trans (e2.trans e3)) S3 r3
    · exact hq ι3 H3 v' (e1.trans (e2.trans e3)) S3 z3
  · exact False.elim q1
/-- the first two of the arguments, each -/
def Es2 (Γ : Stat) (g : Gd) (cf : CF) : Es → Prop
  | .cons a (.cons b _) => SndE Γ g cf a ∧ SndE Γ g cf b
  | .cons a .nil => SndE Γ g cf a
  | .nil => True
theorem c_meth (m : Mf) (ha : SndE Γ g cf a) (hs : SndA Γ g cf es) (h2 : Es2 Γ g cf es) : SndE Γ g cf (.meth m a es) := by
  intro sc e W k X hc x
  cases e with
  | Call fe l kw cpos =>
    cases fe with
    | Attribute o n apos =>
      cases kw with
      | cons _ _ => simp [chkE] at hc
      | nil =>
        simp only [chkE, Bool.and_eq_true, decide_eq_true_eq] at hc
        obtain ⟨⟨⟨⟨⟨rfl, c1⟩, c2⟩, c3⟩, c4⟩, c5⟩ := hc
        cases m with
        | append => exact PE.imp (meth_gen ha hs PySem.F.plainAttrs_list PySem.F.slot_list_append rfl mt_appendF (fun _ _ _ _ _ z => z) (fun _ _ _ _ _ S r z => ty_lst S r z) c1 c2 c3 c4 (by simpa [mfCnt] using c5) x) fun σ H Q h => h
        | pop => exact PE.imp (meth_gen ha hs PySem.F.plainAttrs_list PySem.F.slot_list_pop rfl mt_popF (fun _ _ _ _ _ z => z) (fun _ _ _ _ _ S r z => ty_lst S r z) c1 c2 c3 c4 (by simpa [mfCnt] using c5) x) fun σ H Q h => h
        | popAt => exact PE.imp (meth_gen ha hs PySem.F.plainAttrs_list PySem.F.slot_list_pop rfl mt_popAtF (fun _ _ _ _ _ z => z) (fun _ _ _ _ _ S r z => ty_lst S r z) c1 c2 c3 c4 (by simpa [mfCnt] using c5) x) fun σ H Q h => h
        | extend => exact PE.imp (meth_gen ha hs PySem.F.plainAttrs_list PySem.F.slot_list_extend rfl mt_extendF (fun _ _ _ _ _ z => z) (fun _ _ _ _ _ S r z => ty_lst S r z) c1 c2 c3 c4 (by simpa [mfCnt] using c5) x) fun σ H Q h => h
        | join => exact PE.imp (meth_gen ha hs PySem.F.plainAttrs_str PySem.F.slot_str_join rfl (mt_joinF x.K) (fun _ _ _ _ _ z => z) (fun _ _ _ _ _ S r z => ty_str r z) c1 c2 c3 c4 (by simpa [mfCnt] using c5) x) fun σ H Q h => h
        | repl => simp [mfCnt] at c5
        | upper => exact PE.imp (meth_gen ha hs PySem.F.plainAttrs_str PySem.F.slot_str_upper rfl mt_upperF (fun _ _ _ _ _ z => z) (fun _ _ _ _ _ S r z => ty_str r z) c1 c2 c3 c4 (by simp [mfCnt] at c5; simp [c5]) x) fun σ H Q h => h
        | index => exact PE.imp (meth_gen ha hs PySem.F.plainAttrs_str PySem.F.slot_str_index rfl mt_indexSF (m := .index) (T := "str") (fun _ _ _ _ z y => ⟨tyV_str z.choose_spec, y⟩) (fun _ _ _ _ _ S r z => ty_str r z) c1 c2 c3 c4 (by simpa [mfCnt] using c5) x) fun σ H Q h => h
        | indexL => exact PE.imp (meth_gen ha hs PySem.F.plainAttrs_list PySem.F.slot_list_index rfl (mt_indexLF x.K (by have := x.hu; omega)) (fun _ _ _ _ _ z => z) (fun _ _ _ _ _ S r z => ty_lst S r z) c1 c2 c3 c4 (by simpa [mfCnt] using c5) x) fun σ H Q h => h
        | indexT =>
          cases l with
          | nil =>
            cases es with
            | cons _ _ => simp [chkEs] at c2
            | nil =>
              refine ⟨fun pins s σ H Q I q => ?_⟩
              simp [mfCnt] at c5
          | cons e1 l => exact PE.imp (methT_gen ha hs PySem.F.slot_tuple_index PySem.F.type_tuple_index (mt_indexTF x.K (by have := x.hu; omega)) (fun d μ h => by cases d <;> first | exact ⟨_, rfl⟩ | cases h) c1 c2 c3 c4 (by simpa [mfCnt] using c5) x) fun σ H Q h => h
        | get =>
          rcases l with _ | ⟨e1, _ | ⟨e2, l⟩⟩ <;> try (simp [mfCnt] at c5; done)
          cases es with
          | nil => simp [chkEs] at c2
          | cons m1 es =>
            cases es with
            | cons _ _ => simp [chkEs] at c2
            | nil =>
              rw [chkEs, Bool.and_eq_true] at c2
              exact PE.imp (get_gen ha h2 c1 c2.1 c3 c4 x) fun σ H Q h => h
        | get2 =>
          rcases l with _ | ⟨e1, _ | ⟨e2, _ | ⟨e3, l⟩⟩⟩ <;> try (simp [mfCnt] at c5; done)
          cases es with
          | nil => simp [chkEs] at c2
          | cons m1 es =>
            cases es with
            | nil => simp [chkEs] at c2
            | cons m2 es =>
              cases es with
              | cons _ _ => simp [chkEs] at c2
              | nil =>
                simp only [chkEs, Bool.and_eq_true] at c2
                exact PE.imp (get2_gen ha h2.1 h2.2 c1 c2.1 c2.2.1 c3 c4 x) fun σ H Q h => h
    | _ => simp [chkE] at hc
  | _ => simp [chkE] at hc
end
end PL
end
section
set_option Elab.async false
set_option linter.all false
set_option autoImplicit false
set_option maxRecDepth 100000
set_option maxHeartbeats 400000
/-! Sound9: truth of values, targets, walks. -/
namespace PL
open PySem PySem.Spec PyProof.Rows L2
open L2H (RoomH HotC FnH PIH pi_range1H)
section
variable {Γ : Stat} {g : Gd} {cf : CF} {W : WX} {σ : L2.St} {H : Hp} {a b c : E} {es : Es}
/-! ### truth -/
theorem t_v (i : Nat) : SndT Γ g cf (.v i) := t_truth (c_v i) (fun sc e h env whole => by
  cases e with
  | Name _ _ => rfl
  | _ => simp [chkE] at h) (fun ρ μ => by
  show (match ρ[i]? with
    | some (some d) => truthF d μ
    | _ => .stuck) = (match ρ[i]? with
    | some (some d) => .ok d μ
    | _ => .stuck : Res D).bind truthF
  cases ρ[i]? with
  | none => rfl
  | some o => cases o <;> rfl)
theorem t_bf (bf : Bf) (ha : SndE Γ g cf a) : SndT Γ g cf (.bf bf a) := t_truth (c_bf bf ha) (fun sc e h env whole => by
  cases e with
  | Call _ _ _ _ => rfl
  | _ => simp [chkE] at h) (fun ρ μ => rfl)
theorem t_call (f : Nat) (hs : SndA Γ g cf es) : SndT Γ g cf (.call f es) := t_truth (c_call f hs) (fun sc e h env whole => by
  cases e with
  | Call _ _ _ _ => rfl
  | _ => simp [chkE] at h) (fun ρ μ => rfl)
theorem t_callK (f : Nat) (pm : List Nat) (hs : SndK Γ g cf es) : SndT Γ g cf (.callK f pm es) := t_truth (c_callK f pm hs) (fun sc e h env whole => by
  cases e with
  | Call _ _ _ _ => rfl
  | _ => simp [chkE] at h) (fun ρ μ => rfl)
theorem t_meth (m : Mf) (ha : SndE Γ g cf a) (hs : SndA Γ g cf es) (h2 : Es2 Γ g cf es) : SndT Γ g cf (.meth m a es) := t_truth (c_meth m ha hs h2) (fun sc e h env whole => by
  cases e with
  | Call _ _ _ _ => rfl
  | _ => simp [chkE] at h) (fun ρ μ => rfl)
theorem t_ix (ha : SndE Γ g cf a) (hb : SndE Γ g cf b) : SndT Γ g cf (.ix a b) := t_truth (c_ix ha hb) (fun sc e h env whole => by
  cases e with
  | Subscript _ _ _ => rfl
  | _ => simp [chkE] at h) (fun ρ μ => rfl)
theorem t_bl (k : Bool) : SndT Γ g cf (.bl k) := t_truth (c_bl k) (fun sc e h env whole => by
  cases e with
  | Constant _ _ _ => rfl
  | _ => simp [chkE] at h) (fun ρ μ => rfl)
theorem t_none {m : E} (h : ∀ ρ μ, evT g.C cf m ρ μ = .stuck) : SndT Γ g cf m := by
  intro sc e W k X hc x
  refine ⟨fun pins s σ H Q I q => ?_⟩
  obtain ⟨ι, ρ, μ, S, R, hw⟩ := q
  rw [h] at hw
  exact False.elim hw
theorem k_yes : SndC Γ g cf .yes := by
  intro sc l W k X hc x
  cases l with
  | cons _ _ => simp [chkC] at hc
  | nil =>
    refine ⟨fun pins s σ H Q I q => pts_nil.run pins s σ H Q I ?_⟩
    obtain ⟨ι, ρ, μ, S, R, hw⟩ := q
    exact hw ι H (Ext.refl _ _) S
theorem k_test (ht : SndT Γ g cf a) : SndC Γ g cf (.test a) := by
  intro sc l W k X hc x
  rcases l with _ | ⟨e, _ | ⟨e2, l⟩⟩
  · simp [chkC] at hc
  · exact pts_one (PT.imp (ht sc e W k X hc x) fun σ H Q q => q)
  · simp [chkC] at hc
/-! ### targets -/
theorem PG.or {X : Cx} {e : Expr} {t t' : TG} (h : PG X e t) (h' : PG X e t') : PG X e (fun v σ H Q => t v σ H Q ∨ t' v σ H Q) := ⟨fun pins s σ H v u Q I r q => q.elim (h.run pins s σ H v u Q I r) (h'.run pins s σ H v u Q I r)⟩
theorem wipe_set {σ : L2.St} {v : Option V} {i : Nat} : ∀ {own : List Nat}, i ∈ own → L2.wipe (σ.set i v) own = L2.wipe σ own
  | [], h => by cases h
  | j :: own, h => by
    show (L2.wipe (σ.set i v) own).set j none = (L2.wipe σ own).set j none
    by_cases hj : i ∈ own
    · rw [wipe_set hj]
    · rcases List.mem_cons.mp h with rfl | h
      · have : ∀ own : List Nat, i ∉ own → L2.wipe (σ.set i v) own = (L2.wipe σ own).set i v := by
          intro own
          induction own with
          | nil => intro _; rfl
          | cons k own ih =>
            intro hn
            rw [List.mem_cons, not_or] at hn
            show (L2.wipe (σ.set i v) own).set k none = ((L2.wipe σ own).set k none).set i v
            rw [ih hn.2, List.set_comm _ _ hn.1]
        rw [this own hj, List.set_set]
      · exact absurd h hj
theorem g_nm (i : Nat) : SndG Γ g cf (.nm i) := by
  intro sc e W k X hc x
  cases e with
  | Name y p =>
    rw [chkT, Bool.and_eq_true, Bool.and_eq_true, decide_eq_true_eq] at hc
    obtain ⟨l1, l2⟩ := x.lc hc.1.2
    refine PG.imp (pg_name x.nd (by rw [x.N]; exact hc.1.1) l1 l2) ?_
    rintro v σ H Q ⟨ι, ρ, μ, d, S, R, rd, hw⟩
    exact hw ι H _ (Ext.refl _ _) S (R.set i (x.ne hc.2) rd) fun own ho => wipe_set (by simpa [tOwn] using ho)
  | _ => simp [chkT] at hc
def gNms : List Nat → TGs
  | [] => gNil
  | i :: is => gCons (gName i) (gNms is)
def setAllS : List Nat → List V → L2.St → L2.St
  | i :: is, v :: vs, σ => setAllS is vs (σ.set i (some v))
  | _, _, σ => σ
theorem gNms_of : ∀ {is : List Nat} {vs : List V} {σ : L2.St} {H : Hp} {Q : L2.St → Hp → Prop}, vs.length = is.length → Q (setAllS is vs σ) H → gNms is vs σ H Q
  | [], [], σ, H, Q, _, h => ⟨rfl, h⟩
  | [], _ :: _, _, _, _, h, _ => by cases h
  | _ :: _, [], _, _, _, h, _ => by cases h
  | i :: is, v :: vs, σ, H, Q, hl, h => ⟨v, vs, rfl, gNms_of (by simpa using hl) h⟩
theorem setAll_rep : ∀ {is : List Nat} (he : ∀ i ∈ is, g.en ≠ some i) {ds : List D} {vs : List V} {ι : List Addr} {H : Hp} {ρ : Env} {σ : L2.St}, RepL g ι H ds vs → RepS g ι H ρ σ → RepS g ι H (setAll is ds ρ) (setAllS is vs σ)
  | [], _, ds, vs, _, _, _, _, _, R => by
    cases ds <;> cases vs <;> exact R
  | i :: is, _, [], vs, _, _, _, _, r, R => by
    rw [show vs = [] from r]; exact R
  | i :: is, he, d :: ds, vs, _, _, _, _, r, R => by
    obtain ⟨v, r', rfl, h1, h2⟩ := r
    exact setAll_rep (is := is) (fun j hj => he j (List.mem_cons_of_mem _ hj)) h2 (R.set i (he i (List.mem_cons_self ..)) h1)
theorem setAll_wipe {own : List Nat} : ∀ {is : List Nat} {vs : List V} {σ : L2.St}, (is.all fun i => own.contains i) = true → L2.wipe (setAllS is vs σ) own = L2.wipe σ own
  | [], vs, σ, _ => by cases vs <;> rfl
  | i :: is, [], σ, _ => rfl
  | i :: is, v :: vs, σ, h => by
    rw [List.all_cons, Bool.and_eq_true] at h
    show L2.wipe (setAllS is vs (σ.set i (some v))) own = _
    rw [setAll_wipe h.2, wipe_set (by simpa using h.1)]
theorem names_pgs {k : Nat} {sc : Scope} {X : Cx} (x : XOk Γ g cf W k sc X) : ∀ {is : List Nat} {l : List Expr}, namesAre Γ is sc l = true → PGs X l (gNms is) ∧ (assignEach l X.env).length = is.length ∧ List.findIdx? (fun x => x.fst) (assignEach l X.env) = none
  | [], [], _ => ⟨pgs_nil, rfl, rfl⟩
  | [], _ :: _, h => by simp [namesAre] at h
  | _ :: _, [], h => by simp [namesAre] at h
  | i :: is, e :: l, h => by
    cases e with
    | Name y p =>
      simp only [namesAre, Bool.and_eq_true, decide_eq_true_eq] at h
      obtain ⟨l1, l2⟩ := x.lc h.1.1.2
      obtain ⟨h1, h2, h3⟩ := names_pgs x h.2
      refine ⟨pgs_cons (pg_name x.nd (by rw [x.N]; exact h.1.1.1) l1 l2) h1 rfl, ?_, ?_⟩
      · show (assignEach l X.env).length + 1 = is.length + 1
        rw [h2]
      · show List.findIdx? (fun x => x.fst) ((false, _) :: assignEach l X.env) = none
        rw [List.findIdx?_cons]
        simp [h3]
    | _ => simp [namesAre] at h
theorem g_tp (is : List Nat) : SndG Γ g cf (.tp is) := by
  intro sc e W k X hc x
  cases e with
  | Tuple l j p =>
    rw [chkT, Bool.and_eq_true] at hc
    have hne : ∀ i ∈ is, g.en ≠ some i := fun i hi => x.ne (List.all_eq_true.mp hc.2 i hi)
    obtain ⟨h1, h2, h3⟩ := names_pgs x hc.1
    refine PG.imp (PG.or (pg_tupW x.warm h1 h2 h3) (pg_unlW x.warm h1 h2 h3)) ?_
    rintro v σ H Q ⟨ι, ρ, μ, d, S, R, rd, hw⟩
    have hw : wpR (match rowF d μ with
      | some xs => if xs.length = is.length then .ok (setAll is xs ρ) μ else .stuck
      | none => .stuck) _ _ := hw
    split at hw
    · rename_i xs ex
      split at hw
      · rename_i hl
        obtain ⟨p, vs, rfl, sq, r', _, _⟩ := rowF_at S rd ex
        have hq := hw ι H (setAllS is vs σ) (Ext.refl _ _) S (setAll_rep hne r' R) fun own ho => setAll_wipe ho
        have lv : vs.length = is.length := by rw [r'.length]; exact hl
        rw [← x.K] at sq
        rcases sq with sq | sq
        · exact .inr ⟨p, vs, rfl, sq, lv, gNms_of lv hq⟩
        · exact .inl ⟨p, vs, rfl, sq, lv, gNms_of lv hq⟩
      · exact False.elim hw
    · exact False.elim hw
  | _ => simp [chkT] at hc
theorem g_sb (ha : SndE Γ g cf a) (hb : SndE Γ g cf b) : SndG Γ g cf (.sb a b) := by
  intro sc e W k X hc x
  cases e with
  | Subscript o i p =>
    rw [chkT, Bool.and_eq_true] at hc
    have hu := x.hu
    have sl : ∀ v : Value, assign (.Subscript o i p) X.env v = (do
        let ov ← holding [v] (eval o X.env)
        let iv ← holding [v, ov] (eval i X.env)
        standAt p
        holding [v, ov, iv] (setItem ov iv v)
        release [v, ov, iv] []) := by
      have := (chk_plain hc.2).2.2
      intro v
      cases i <;> first | rfl | cases this
    refine PG.imp (pg_sub (ha sc o W k X hc.1 x) (hb sc i W k X hc.2 x) (set_F (g := g) (by omega)) sl) ?_
    rintro v σ H Q ⟨ι, ρ, μ, d, S, R, rd, hw⟩
    have hw : wpR ((ev g.C cf a ρ μ).bind fun x μ => (ev g.C cf b ρ μ).bind fun y μ => (setF x y d μ).bind fun _ μ => .ok ρ μ) _ _ := hw
    rw [wpR_bind] at hw
    refine ⟨ι, ρ, μ, S, R, wpR_mono hw (fun d1 μ1 h1 ι1 H1 v1 e1 S1 r1 => ?_) fun _ _ z => z⟩
    rw [wpR_bind] at h1
    refine ⟨ι1, ρ, μ1, S1, R.mono e1, wpR_mono h1 (fun d2 μ2 h2 ι2 H2 v2 e2 S2 r2 => ?_) fun _ _ z => z.mono e1⟩
    rw [wpR_bind] at h2
    refine ⟨ι2, μ2, d1, d2, d, S2, e2.rep _ _ r1, r2, (e1.trans e2).rep _ _ rd, wpR_mono h2 (fun _ μ3 h3 ι3 H3 e3 S3 => ?_) fun _ _ _ => trivial⟩
    exact h3 ι3 H3 σ (e1.trans (e2.trans e3)) S3 (R.mono (e1.trans (e2.trans e3))) fun _ _ => rfl
  | _ => simp [chkT] at hc
/-! ### walks -/
/-- J walks w's items, from ι0, H0 on -/
def WkI (g : Gd) (w : Wk) (J : L2.It) (ι0 : List Addr) (H0 : Hp) : Prop := ∀ i ι μ H, Ext ι0 H0 ι H → Sim g ι μ H → w.stands μ →
  (i < w.items.length → J.go i H) ∧ (w.items.length ≤ i → J.stop i H) ∧ ∀ x H', J.yld i H x H' → i < w.items.length → H' = H ∧ ∃ d, w.items[i]? = some d ∧ Rep g ι H d x
def semI (g : Gd) (cf : CF) (W : WX) (it : PL.It) : TI := fun σ H R => ∃ ι ρ μ, Sim g ι μ H ∧ RepS g ι H ρ σ ∧ wpR (evI g.C cf it ρ μ) (fun w μ' => ∀ ι' H' J, Ext ι H ι' H' → Sim g ι' μ' H' → WkI g w J ι' H' → R J H') (exW g W ι H σ)
def SndI (Γ : Stat) (g : Gd) (cf : CF) (it : PL.It) : Prop := ∀ (sc : Scope) (tg e : Expr) (W : WX) (k : Nat) (X : Cx), chkI Γ it sc e = true → XOk Γ g cf W k sc X → PI X tg e (semI g cf W it)
theorem PI.imp {X : Cx} {tg e : Expr} {t t' : TI} (h : PI X tg e t) (i : ∀ σ H Q, t' σ H Q → t σ H Q) : PI X tg e t' := ⟨fun pins s σ H Q I q => h.run pins s σ H Q I (i σ H Q q)⟩
theorem PI.or {X : Cx} {tg e : Expr} {t t' : TI} (h : PI X tg e t) (h' : PI X tg e t') : PI X tg e (fun σ H Q => t σ H Q ∨ t' σ H Q) := ⟨fun pins s σ H Q I q => q.elim (h.run pins s σ H Q I) (h'.run pins s σ H Q I)⟩
theorem sq_uniqL {K : PySem.W.Frag} {a : Addr} {xs : List V} {H : Hp} (hs : SqL K H a xs) {n : Nat} (hn : xs.length = n) : (∀ i, i < n → (Itl K a).go i H) ∧ (∀ i, n ≤ i → (Itl K a).stop i H) ∧ ∀ i x H', (Itl K a).yld i H x H' → i < n → H' = H ∧ xs[i]? = some x :=
  ⟨fun i hi => ⟨xs, xs[i]'(by omega), hs, List.getElem?_eq_getElem _⟩, fun i hi => ⟨xs, hs, by omega⟩, fun i x H' h hi => ⟨h.1, h.2 xs hs⟩⟩
theorem sq_uniqT {K : PySem.W.Frag} {a : Addr} {xs : List V} {H : Hp} (hs : SqT K H a xs) {n : Nat} (hn : xs.length = n) : (∀ i, i < n → (Itt K a).go i H) ∧ (∀ i, n ≤ i → (Itt K a).stop i H) ∧ ∀ i x H', (Itt K a).yld i H x H' → i < n → H' = H ∧ xs[i]? = some x :=
  ⟨fun i hi => ⟨xs, xs[i]'(by omega), hs, List.getElem?_eq_getElem _⟩, fun i hi => ⟨xs, hs, by omega⟩, fun i x H' h hi => ⟨h.1, h.2 xs hs⟩⟩
/-- a walk over a row's items -/
theorem wkL {w : Wk} {a : Addr} {ι0 : List Addr} {H0 : Hp} (h : ∀ ι μ H, Ext ι0 H0 ι H → Sim g ι μ H → w.stands μ → ∃ vs, SqL g.K H a vs ∧ RepL g ι H w.items vs) : WkI g w (Itl g.K a) ι0 H0 := by
  intro i ι μ H e S st
  obtain ⟨vs, h1, h2⟩ := h ι μ H e S st
  obtain ⟨q1, q2, q3⟩ := sq_uniqL h1 h2.length
  refine ⟨q1 i, q2 i, fun x H' hy hi => ?_⟩
  obtain ⟨rfl, z⟩ := q3 i x H' hy hi
  exact ⟨rfl, h2.gets z⟩
theorem wkT {w : Wk} {a : Addr} {ι0 : List Addr} {H0 : Hp} (h : ∀ ι μ H, Ext ι0 H0 ι H → Sim g ι μ H → w.stands μ → ∃ vs, SqT g.K H a vs ∧ RepL g ι H w.items vs) : WkI g w (Itt g.K a) ι0 H0 := by
  intro i ι μ H e S st
  obtain ⟨vs, h1, h2⟩ := h ι μ H e S st
  obtain ⟨q1, q2, q3⟩ := sq_uniqT h1 h2.length
  refine ⟨q1 i, q2 i, fun x H' hy hi => ?_⟩
  obtain ⟨rfl, z⟩ := q3 i x H' hy hi
  exact ⟨rfl, h2.gets z⟩
/-- from its end -/
theorem wkV {l : Nat} {ds : List D} {a : Addr} {ι0 : List Addr} {H0 : Hp} (h : ∀ ι μ H, Ext ι0 H0 ι H → Sim g ι μ H → (Wk.rev l ds).stands μ → ∃ vs, SqL g.K H a vs ∧ RepL g ι H ds vs) : WkI g (.rev l ds) (Itv g.K a ds.length) ι0 H0 := by
  intro i ι μ H e S st
  obtain ⟨vs, h1, h2⟩ := h ι μ H e S st
  have hl := h2.length
  have rv : ∀ j : Nat, j < ds.length → ds.reverse[j]? = ds[ds.length - 1 - j]? := fun j hj => by rw [List.getElem?_reverse hj]
  refine ⟨fun hi => ?_, fun hi => ?_, fun x H' hy hi => ?_⟩
  · have hi : i < ds.length := by simpa [Wk.items] using hi
    exact ⟨hi, vs, vs[ds.length - 1 - i]'(by omega), h1, List.getElem?_eq_getElem _⟩
  · show ds.length ≤ i
    simpa [Wk.items] using hi
  · have hi : i < ds.length := by simpa [Wk.items] using hi
    obtain ⟨rfl, hy⟩ := hy
    refine ⟨rfl, ?_⟩
    show ∃ d, ds.reverse[i]? = some d ∧ _
    rw [rv i hi]
    exact h2.gets (hy vs h1)
theorem wkS {s : Txt} {ι0 : List Addr} {H0 : Hp} : WkI g (.row (s.map fun c => .str [c])) (Its (S2 s)) ι0 H0 := by
  intro i ι μ H e S st
  have hn : (S2 s).cps.size = s.length := by simp [S2]
  refine ⟨fun h => ?_, fun h => ?_, fun x H' hy hi => ?_⟩
  · show i < (S2 s).cps.size
    rw [hn]; simpa [Wk.items] using h
  · show (S2 s).cps.size ≤ i
    rw [hn]; simpa [Wk.items] using h
  · obtain ⟨rfl, c, h1, rfl⟩ := hy
    refine ⟨rfl, .str [c], ?_, rfl⟩
    have : s[i]? = some c := by simpa [S2] using h1
    simp [Wk.items, this]
theorem wkR {lo : Int} {n : Nat} {ι0 : List Addr} {H0 : Hp} : WkI g (.row ((List.range n).map fun (k : Nat) => D.int (lo + (k : Int)))) (Itr lo n) ι0 H0 := by
  intro i ι μ H e S st
  refine ⟨fun h => ?_, fun h => ?_, fun x H' hy hi => ?_⟩
  · show i < n
    simpa [Wk.items] using h
  · show n ≤ i
    simpa [Wk.items] using h
  · obtain ⟨rfl, rfl⟩ := hy
    have hi : i < n := by simpa [Wk.items] using hi
    refine ⟨rfl, .int (lo + i), ?_, rfl⟩
    simp [Wk.items, hi]
theorem walk_cases {d : D} {μ : Store} {w : Wk} (h : walkF d μ = some w) : (∃ xs, d = .tup xs ∧ w = .row xs) ∨ (∃ xs, d = .rol xs ∧ w = .row xs) ∨ (∃ xs, d = .ktp xs ∧ w = .row xs) ∨ (∃ s, d = .str s ∧ w = .row (s.map fun c => .str [c])) ∨ ∃ l xs, d = .loc l ∧ μ[l]? = some (.lst xs) ∧ w = .lst l xs := by
  cases d with
  | tup xs => cases h; exact .inl ⟨xs, rfl, rfl⟩
  | rol xs => cases h; exact .inr (.inl ⟨xs, rfl, rfl⟩)
  | ktp xs => cases h; exact .inr (.inr (.inl ⟨xs, rfl, rfl⟩))
  | str s =>
    unfold walkF at h
    simp only at h
    split at h
    · cases h; exact .inr (.inr (.inr (.inl ⟨s, rfl, rfl⟩)))
    · cases h
  | loc l =>
    unfold walkF at h
    simp only at h
    split at h
    · rename_i xs e; cases h; exact .inr (.inr (.inr (.inr ⟨l, xs, rfl, e, rfl⟩)))
    · cases h
  | _ => cases h
theorem i_val (ha : SndE Γ g cf a) : SndI Γ g cf (.val a) := by
  intro sc tg e W k X hc x
  rw [chkI] at hc
  have pe := ha sc e W k X hc x
  refine PI.imp (PI.or (PI.or (pi_list (tg := tg) pe) (pi_tup (tg := tg) pe)) (pi_str (tg := tg) pe)) ?_
  rintro σ H Q ⟨ι, ρ, μ, S, R, hw⟩
  have hw : wpR ((ev g.C cf a ρ μ).bind fun d μ => okI (walkF d μ) μ) _ _ := hw
  rw [wpR_bind] at hw
  rw [x.K]
  cases ea : ev g.C cf a ρ μ with
  | stuck => rw [ea] at hw; exact False.elim hw
  | exc y μ1 => rw [ea] at hw; exact .inl (.inl ⟨ι, ρ, μ, S, R, by rw [ea]; exact hw⟩)
  | ok d μ1 =>
    rw [ea] at hw
    obtain ⟨w, h1, h2⟩ := okI_ok hw
    have row : ∀ {xs : List D}, w = .row xs → rowF d μ1 = some xs → (∀ ds, d ≠ .tup ds) → (∀ ds, d ≠ .ktp ds) → iList g.K (semE g cf W a) σ H Q := by
      rintro xs rfl er n1 n2
      refine ⟨ι, ρ, μ, S, R, ?_⟩
      rw [ea]
      intro ι1 H1 v1 e1 S1 r1
      obtain ⟨p, vs, rfl, _, _, _, sq⟩ := rowF_at S1 r1 er
      refine ⟨p, rfl, ⟨vs, sq n1 n2⟩, h2 ι1 H1 _ e1 S1 (wkL fun ι2 μ2 H2 e2 S2 _ => ?_)⟩
      have er2 : rowF d μ2 = some xs := by
        cases d with
        | tup _ => exact absurd rfl (n1 _)
        | ktp _ => exact absurd rfl (n2 _)
        | rol _ => exact er
        | loc l =>
          have : walkF (.loc l) μ1 = some (.row xs) := h1
          rcases walk_cases this with ⟨_, z, _⟩ | ⟨_, z, _⟩ | ⟨_, z, _⟩ | ⟨_, z, _⟩ | ⟨_, _, _, _, z⟩ <;> cases z
        | _ => cases er
      obtain ⟨p2, vs2, e3, _, r2, _, sq2⟩ := rowF_at S2 (e2.rep _ _ r1) er2
      cases e3
      exact ⟨vs2, sq2 n1 n2, r2⟩
    rcases walk_cases h1 with ⟨xs, rfl, rfl⟩ | ⟨xs, rfl, rfl⟩ | ⟨xs, rfl, rfl⟩ | ⟨s, rfl, rfl⟩ | ⟨l, xs, rfl, e0, rfl⟩
    · refine .inl (.inr ⟨ι, ρ, μ, S, R, ?_⟩)
      rw [ea]
      intro ι1 H1 v1 e1 S1 r1
      obtain ⟨p, vs, rfl, _, _, sq, _⟩ := rowF_at S1 r1 rfl
      refine ⟨p, rfl, ⟨vs, sq _ rfl⟩, h2 ι1 H1 _ e1 S1 (wkT fun ι2 μ2 H2 e2 S2 _ => ?_)⟩
      obtain ⟨p2, vs2, e3, _, r2, sq2, _⟩ := rowF_at S2 (e2.rep _ _ r1) rfl
      cases e3
      exact ⟨vs2, sq2 _ rfl, r2⟩
    · exact .inl (.inl (row rfl rfl (fun _ z => by cases z) (fun _ z => by cases z)))
    · refine .inl (.inr ⟨ι, ρ, μ, S, R, ?_⟩)
      rw [ea]
      intro ι1 H1 v1 e1 S1 r1
      obtain ⟨p, vs, rfl, kt, _⟩ := id r1
      refine ⟨p, rfl, ⟨vs, kt.sq _⟩, h2 ι1 H1 _ e1 S1 (wkT fun ι2 μ2 H2 e2 S2 _ => ?_)⟩
      obtain ⟨p2, vs2, e3, kt2, r2⟩ := e2.rep _ _ r1
      cases e3
      exact ⟨vs2, kt2.sq _, r2⟩
    · refine .inr ⟨ι, ρ, μ, S, R, ?_⟩
      rw [ea]
      intro ι1 H1 v1 e1 S1 r1
      exact ⟨S2 s, r1, h2 ι1 H1 _ e1 S1 wkS⟩
    · refine .inl (.inl ⟨ι, ρ, μ, S, R, ?_⟩)
      rw [ea]
      intro ι1 H1 v1 e1 S1 r1
      obtain ⟨p, vs, rfl, hi, ha, rv⟩ := RepL.sqL S1 r1 e0
      refine ⟨p, rfl, ⟨vs, SqL.of ha⟩, h2 ι1 H1 _ e1 S1 (wkL fun ι2 μ2 H2 e2 S2 st => ?_)⟩
      obtain ⟨p2, vs2, e3, _, ha2, rv2⟩ := RepL.sqL S2 (e2.rep _ _ r1) st
      cases e3
      exact ⟨vs2, SqL.of ha2, rv2⟩
theorem i_rng (ha : SndE Γ g cf a) : SndI Γ g cf (.rng a) := by
  intro sc tg e W k X hc x
  cases e with
  | Call fe l kw p =>
    cases fe with
    | Name y py =>
      rcases l with _ | ⟨e1, _ | ⟨e2, l⟩⟩
      · simp [chkI] at hc
      · cases kw with
        | cons _ _ => simp [chkI] at hc
        | nil =>
          simp only [chkI, Bool.and_eq_true, decide_eq_true_eq] at hc
          obtain ⟨⟨h1, rfl⟩, h2⟩ := hc
          obtain ⟨b1, b2, b3, b4⟩ := x.blt h1
          have st := star_of (l := []) (env := X.env) (chk_plain h2).1
          refine PI.imp (pi_range1 (tg := tg) b1 b2 (pa_cons (ha sc e1 W k X h2 x) pa_nil st) st) ?_
          rintro σ H Q ⟨ι, ρ, μ, S, R, hw⟩
          have hw : wpR ((ev g.C cf a ρ μ).bind fun d μ => match d with
            | .int n => rngF 0 n μ
            | _ => .stuck) _ _ := hw
          rw [wpR_bind] at hw
          refine ⟨ι, ρ, μ, S, R, wpR_mono hw (fun d1 μ1 q1 ι1 H1 v1 e1 S1 r1 => ?_) fun _ _ z => z⟩
          cases d1 with
          | int n =>
            obtain rfl := r1
            have q1 : wpR (rngF 0 n μ1) _ _ := q1
            unfold rngF at q1
            split at q1
            · rename_i hb
              refine ⟨n, rfl, by omega, by omega, ?_⟩
              have := q1 ι1 H1 (Itr 0 (n - 0).toNat) e1 S1 wkR
              rw [Int.sub_zero] at this
              exact this
            · exact False.elim q1
          | _ => exact False.elim q1
      · cases kw <;> simp [chkI] at hc
    | _ => simp [chkI] at hc
  | _ => simp [chkI] at hc
theorem i_rev (ha : SndE Γ g cf a) : SndI Γ g cf (.rev a) := by
  intro sc tg e W k X hc x
  cases e with
  | Call fe l kw p =>
    cases fe with
    | Name y py =>
      rcases l with _ | ⟨e1, _ | ⟨e2, l⟩⟩
      · simp [chkI] at hc
      · cases kw with
        | cons _ _ => simp [chkI] at hc
        | nil =>
          simp only [chkI, Bool.and_eq_true, decide_eq_true_eq] at hc
          obtain ⟨⟨⟨h0, h1⟩, rfl⟩, h2⟩ := hc
          obtain ⟨b1, b2, b3, b4⟩ := x.blt h1
          have st := star_of (l := []) (env := X.env) (chk_plain h2).1
          refine PI.imp (pi_reversed (tg := tg) b1 b2 (pa_cons (ha sc e1 W k X h2 x) pa_nil st) st) ?_
          rintro σ H Q ⟨ι, ρ, μ, S, R, hw⟩
          have hw : wpR ((ev g.C cf a ρ μ).bind fun d μ => okI (revF d μ) μ) _ _ := hw
          rw [wpR_bind] at hw
          refine ⟨ι, ρ, μ, S, R, wpR_mono hw (fun d1 μ1 q1 ι1 H1 v1 e1 S1 r1 => ?_) fun _ _ z => z⟩
          obtain ⟨w, h1, h2⟩ := okI_ok q1
          unfold revF at h1
          split at h1
          · rename_i l
            split at h1
            · rename_i xs ex
              cases h1
              have e0 : rowF (.loc l) μ1 = some xs := by unfold rowF; simp only [ex]
              obtain ⟨p0, vs, rfl, hi, ha, rv⟩ := RepL.sqL S1 r1 ex
              refine ⟨p0, vs, rfl, by rw [x.K]; exact SqL.of ha, ?_⟩
              rw [x.K, rv.length]
              refine h2 ι1 H1 _ e1 S1 (wkV fun ι2 μ2 H2 e2 S2 st => ?_)
              obtain ⟨p2, vs2, e3, _, ha2, rv2⟩ := RepL.sqL S2 (e2.rep _ _ r1) st
              cases e3
              exact ⟨vs2, SqL.of ha2, rv2⟩
            · cases h1
          · cases h1
      · cases kw <;> simp [chkI] at hc
    | _ => simp [chkI] at hc
  | _ => simp [chkI] at hc
theorem PIH.imp {X : Cx} {tg e : Expr} {t t' : TI} (h : PIH X tg e t) (i : ∀ σ H Q, t' σ H Q → t σ H Q) : PIH X tg e t' := ⟨fun pins s σ H Q I q => h.run pins s σ H Q I (i σ H Q q)⟩
def isR : PL.It → Bool
  | .rng _ => true
  | _ => false
def SndIH (Γ : Stat) (g : Gd) (cf : CF) (it : PL.It) : Prop := isR it = true → ∀ (sc : Scope) (tg e : Expr) (W : WX) (k : Nat) (X : Cx), chkI Γ it sc e = true → XOk Γ g cf W k sc X → PIH X tg e (semI g cf W it)
theorem ih_none {it : PL.It} (h : isR it = false) : SndIH Γ g cf it := fun z => by rw [h] at z; cases z
theorem ih_rng (ha : SndE Γ g cf a) : SndIH Γ g cf (.rng a) := by
  intro _ sc tg e W k X hc x
  cases e with
  | Call fe l kw p =>
    cases fe with
    | Name y py =>
      rcases l with _ | ⟨e1, _ | ⟨e2, l⟩⟩
      · simp [chkI] at hc
      · cases kw with
        | cons _ _ => simp [chkI] at hc
        | nil =>
          simp only [chkI, Bool.and_eq_true, decide_eq_true_eq] at hc
          obtain ⟨⟨h1, rfl⟩, h2⟩ := hc
          obtain ⟨b1, b2, b3, b4⟩ := x.blt h1
          have st := star_of (l := []) (env := X.env) (chk_plain h2).1
          refine PIH.imp (pi_range1H (tg := tg) b1 b2 (pa_cons (ha sc e1 W k X h2 x) pa_nil st) st) ?_
          rintro σ H Q ⟨ι, ρ, μ, S, R, hw⟩
          have hw : wpR ((ev g.C cf a ρ μ).bind fun d μ => match d with
            | .int n => rngF 0 n μ
            | _ => .stuck) _ _ := hw
          rw [wpR_bind] at hw
          refine ⟨ι, ρ, μ, S, R, wpR_mono hw (fun d1 μ1 q1 ι1 H1 v1 e1 S1 r1 => ?_) fun _ _ z => z⟩
          cases d1 with
          | int n =>
            obtain rfl := r1
            have q1 : wpR (rngF 0 n μ1) _ _ := q1
            unfold rngF at q1
            split at q1
            · rename_i hb
              refine ⟨n, rfl, by omega, by omega, ?_⟩
              have := q1 ι1 H1 (Itr 0 (n - 0).toNat) e1 S1 wkR
              rw [Int.sub_zero] at this
              exact this
            · exact False.elim q1
          | _ => exact False.elim q1
      · cases kw <;> simp [chkI] at hc
    | _ => simp [chkI] at hc
  | _ => simp [chkI] at hc
theorem i_rng2 (ha : SndE Γ g cf a) (hb : SndE Γ g cf b) : SndI Γ g cf (.rng2 a b) := by
  intro sc tg e W k X hc x
  cases e with
  | Call fe l kw p =>
    cases fe with
    | Name y py =>
      rcases l with _ | ⟨e1, _ | ⟨e2, _ | ⟨e3, l⟩⟩⟩
      · simp [chkI] at hc
      · cases kw <;> simp [chkI] at hc
      · cases kw with
        | cons _ _ => simp [chkI] at hc
        | nil =>
          simp only [chkI, Bool.and_eq_true, decide_eq_true_eq] at hc
          obtain ⟨⟨⟨h1, rfl⟩, h2⟩, h3⟩ := hc
          obtain ⟨b1, b2, b3, b4⟩ := x.blt h1
          have st := star_of (l := [e2]) (env := X.env) (chk_plain h2).1
          have st2 := star_of (l := []) (env := X.env) (chk_plain h3).1
          refine PI.imp (pi_range2 (tg := tg) b1 b2 (pa_cons (ha sc e1 W k X h2 x) (pa_cons (hb sc e2 W k X h3 x) pa_nil st2) st) (by rw [st, st2]; rfl) st2) ?_
          rintro σ H Q ⟨ι, ρ, μ, S, R, hw⟩
          have hw : wpR ((ev g.C cf a ρ μ).bind fun x μ => (ev g.C cf b ρ μ).bind fun y μ => match x, y with
            | .int i, .int j => rngF i j μ
            | _, _ => .stuck) _ _ := hw
          rw [wpR_bind] at hw
          refine ⟨ι, ρ, μ, S, R, wpR_mono hw (fun d1 μ1 q1 ι1 H1 v1 e1 S1 r1 => ?_) fun _ _ z => z⟩
          rw [wpR_bind] at q1
          refine ⟨ι1, ρ, μ1, S1, R.mono e1, wpR_mono q1 (fun d2 μ2 q2 ι2 H2 v2 e2 S2 r2 => ?_) fun _ _ z => z.mono e1⟩
          split at q2
          · rename_i n m
            obtain rfl := r1
            obtain rfl := r2
            unfold rngF at q2
            split at q2
            · rename_i hb
              exact ⟨n, m, rfl, ⟨by omega, by omega, by omega, by omega⟩, q2 ι2 H2 _ (e1.trans e2) S2 wkR⟩
            · exact False.elim q2
          · exact False.elim q2
      · cases kw <;> simp [chkI] at hc
    | _ => simp [chkI] at hc
  | _ => simp [chkI] at hc
theorem wkR3 {lo c : Int} {n : Nat} {ι0 : List Addr} {H0 : Hp} : WkI g (.row ((List.range n).map fun (k : Nat) => D.int (lo + (k : Int) * c))) (Itc lo c n) ι0 H0 := by
  intro i ι μ H e S st
  refine ⟨fun h => ?_, fun h => ?_, fun x H' hy hi => ?_⟩
  · show i < n
    simpa [Wk.items] using h
  · show n ≤ i
    simpa [Wk.items] using h
  · obtain ⟨rfl, rfl⟩ := hy
    have hi : i < n := by simpa [Wk.items] using hi
    refine ⟨rfl, .int (lo + i * c), ?_, rfl⟩
    simp [Wk.items, hi]
theorem rgC_of {i j c : Int} (hi : -(2 ^ 61) ≤ i) (hi' : i < 2 ^ 61) (hj : -(2 ^ 61) ≤ j) (hj' : j < 2 ^ 61) (hc : c = -1 ∨ 0 < c ∧ c < 1000) : RgC i j c (stepN i j c) := by
  rcases hc with rfl | ⟨c0, c1⟩
  · have := RgC.neg (i := i) (j := j) (by omega) (by omega) (by omega) (by omega)
    unfold stepN
    rw [if_neg (by decide)]
    exact this
  · have hs : Builtin.Range.rangeSize i j c = (stepN i j c : Int) := by
      unfold Builtin.Range.rangeSize stepN
      rw [if_pos c0, if_pos c0]
      split
      · have : 0 ≤ (j - i - 1) / c := Int.ediv_nonneg (by omega) (by omega)
        omega
      · rfl
    have hle : (stepN i j c : Int) ≤ 2 ^ 62 := by
      unfold stepN
      rw [if_pos c0]
      split
      · have h1 : (j - i - 1) / c ≤ j - i - 1 := Int.ediv_le_self _ (by omega)
        omega
      · simp
    refine ⟨by omega, by omega, ?_, hs⟩
    unfold Builtin.Range.small Builtin.Range.rangeFitsLong
    rw [hs, if_pos c0]
    simp only [Bool.and_eq_true, Bool.or_eq_true, decide_eq_true_eq, beq_iff_eq]
    refine ⟨⟨⟨⟨⟨by omega, by omega⟩, ⟨by omega, by omega⟩⟩, ⟨by omega, by omega⟩⟩, ⟨by omega, by omega⟩⟩, .inr ⟨by omega, by omega⟩⟩
theorem i_rng3 (ha : SndE Γ g cf a) (hb : SndE Γ g cf b) (hcc : SndE Γ g cf c) : SndI Γ g cf (.rng3 a b c) := by
  intro sc tg e W k X hc x
  cases e with
  | Call fe l kw p =>
    cases fe with
    | Name y py =>
      rcases l with _ | ⟨e1, _ | ⟨e2, _ | ⟨e3, _ | ⟨e4, l⟩⟩⟩⟩
      · simp [chkI] at hc
      · cases kw <;> simp [chkI] at hc
      · cases kw <;> simp [chkI] at hc
      · cases kw with
        | cons _ _ => simp [chkI] at hc
        | nil =>
          simp only [chkI, Bool.and_eq_true, decide_eq_true_eq] at hc
          obtain ⟨⟨⟨⟨h1, rfl⟩, h2⟩, h3⟩, h4⟩ := hc
          obtain ⟨b1, b2, b3, b4⟩ := x.blt h1
          have st := star_of (l := [e2, e3]) (env := X.env) (chk_plain h2).1
          have st2 := star_of (l := [e3]) (env := X.env) (chk_plain h3).1
          have st3 := star_of (l := []) (env := X.env) (chk_plain h4).1
          refine PI.imp (pi_range3 (tg := tg) b1 b2 (pa_cons (ha sc e1 W k X h2 x) (pa_cons (hb sc e2 W k X h3 x) (pa_cons (hcc sc e3 W k X h4 x) pa_nil st3) st2) st) st (by rw [st2, st3]; rfl)) ?_
          rintro σ H Q ⟨ι, ρ, μ, S, R, hw⟩
          have hw : wpR ((ev g.C cf a ρ μ).bind fun x μ => (ev g.C cf b ρ μ).bind fun y μ => (ev g.C cf c ρ μ).bind fun z μ => match x, y, z with
            | .int i, .int j, .int k => rngF3 i j k μ
            | _, _, _ => .stuck) _ _ := hw
          rw [wpR_bind] at hw
          refine ⟨ι, ρ, μ, S, R, wpR_mono hw (fun d1 μ1 q1 ι1 H1 v1 e1 S1 r1 => ?_) fun _ _ z => z⟩
          rw [wpR_bind] at q1
          refine ⟨ι1, ρ, μ1, S1, R.mono e1, wpR_mono q1 (fun d2 μ2 q2 ι2 H2 v2 e2 S2 r2 => ?_) fun _ _ z => z.mono e1⟩
          rw [wpR_bind] at q2
          refine ⟨ι2, ρ, μ2, S2, R.mono (e1.trans e2), wpR_mono q2 (fun d3 μ3 q3 ι3 H3 v3 e3 S3 r3 => ?_) fun _ _ z => z.mono (e1.trans e2)⟩
          split at q3
          · rename_i n m st
            obtain rfl := r1
            obtain rfl := r2
            obtain rfl := r3
            unfold rngF3 at q3
            split at q3
            · rename_i hb
              obtain ⟨z1, z2, z3, z4, z5⟩ := hb
              exact ⟨n, m, st, _, rfl, rgC_of z1 z2 z3 z4 z5, q3 ι3 H3 _ (e1.trans (e2.trans e3)) S3 wkR3⟩
            · exact False.elim q3
          · exact False.elim q3
      · cases kw <;> simp [chkI] at hc
    | _ => simp [chkI] at hc
  | _ => simp [chkI] at hc
end
end PL
end
section
set_option Elab.async false
set_option linter.all false
set_option autoImplicit false
set_option maxRecDepth 100000
set_option maxHeartbeats 400000
/-! Sound10: comprehensions. -/
namespace PL
open PySem PySem.Spec PyProof.Rows L2
section
variable {Γ : Stat} {g : Gd} {cf : CF} {W : WX} {σ : L2.St} {H : Hp} {a b c : E} {es : Es}
theorem wipe_wipe {σ : L2.St} {own : List Nat} : ∀ {own2 : List Nat}, (∀ i ∈ own2, i ∈ own) → L2.wipe (L2.wipe σ own2) own = L2.wipe σ own
  | [], _ => rfl
  | i :: own2, h => by
    show L2.wipe ((L2.wipe σ own2).set i none) own = _
    rw [wipe_set (h i (List.mem_cons_self ..)), wipe_wipe fun j hj => h j (List.mem_cons_of_mem _ hj)]
def noW : WX := fun _ _ _ _ => False
theorem blk_ok {k : Nat} {sc scope : Scope} {X : Cx} {own : List (PySem.Str × Nat)} (x : XOk Γ g cf W k sc X) (h : blkC Γ.N sc scope own = true) : BlkOk X.N X.env.scope scope own := by
  have b := blkOk_by h
  rw [x.N]
  refine ⟨b.kind, b.uniq, b.ix, fun y hy e => ?_, b.own⟩
  rcases b.free y hy e with q | q
  · exact .inl (x.cel _ q).1
  · exact x.fre _ q
theorem relS_free {sc : Scope} {names : List (PySem.Str × NameKind)} {x : PySem.Str} (h : List.lookup x names = some .free) : List.lookup x (names.map (fun x => match x with
    | (n, k) => if (k == NameKind.free && sc.kind == ScopeKind.function && List.lookup n sc.names == some NameKind.cell) = true then (n, NameKind.cell) else (n, k))) = some .cell ∨ List.lookup x (names.map (fun x => match x with
    | (n, k) => if (k == NameKind.free && sc.kind == ScopeKind.function && List.lookup n sc.names == some NameKind.cell) = true then (n, NameKind.cell) else (n, k))) = some .free := by
  induction names with
  | nil => cases h
  | cons p t ih =>
    obtain ⟨n, kd⟩ := p
    rw [List.lookup_cons] at h
    simp only [List.map_cons]
    by_cases hn : (x == n) = true
    · rw [hn] at h
      simp only at h
      cases h
      by_cases hc : (NameKind.free == NameKind.free && sc.kind == ScopeKind.function && List.lookup n sc.names == some NameKind.cell) = true
      · left
        rw [if_pos hc, List.lookup_cons, hn]
      · right
        rw [if_neg hc, List.lookup_cons, hn]
    · have hn' : (x == n) = false := by simpa using hn
      rw [hn'] at h
      have := ih h
      split
      · rw [List.lookup_cons, hn']; exact this
      · rw [List.lookup_cons, hn']; exact this
theorem XOk.blk {k : Nat} {sc scope : Scope} {X : Cx} (x : XOk Γ g cf W k sc X) (h0 : Γ.hot = false) (hk : scope.kind = ScopeKind.function) (s : Shared) (H : Hp) (C : Addr) (cl : List (PySem.Str × Addr)) (fp : List Addr) :
    XOk Γ g cf noW k scope (X.blk s H scope (compEnvC scope cl C X.env) fp) where
  N := x.N
  nd := x.nd
  P := x.P
  w := x.w
  K := x.K
  calm := x.calm
  room := x.room
  un := x.un
  hc := fun h => by rw [h0] at h; cases h
  rmH := fun h => by rw [h0] at h; cases h
  k2 := x.k2
  en := x.en
  hotE := x.hotE
  er := fun n h => by rw [x.hotE h0] at h; cases h
  rse := fun y ms ks h => let r := x.rse y ms ks h; ⟨r.mg, r.mro, r.T, r.nd, r.ini⟩
  hcl := fun y c h => let r := x.hcl y c h; ⟨r.mg, r.em⟩
  fld := fun f i h => let r := x.fld f i h; ⟨r.eq, r.no⟩
  xfc := x.xfc
  tk := takesN_none
  po := PassesOwn.never
  loc := fun y h => lookup_relS_keep (by decide) h
  cel := fun y h => ⟨lookup_relS_keep (by decide) h, by
    show (List.lookup y scope.names == some NameKind.cell) = true
    rw [h]; rfl⟩
  fre := fun y h => relS_free h
  gl := fun y h => lookup_relS_keep (by decide) h
  mgS := x.mgS
  mgI := x.mgI
  mgC := x.mgC
  mgB := x.mgB
  fnk := x.fnk
  bk := by
    show (if scope.kind.isAnnotationScope then ScopeKind.function else scope.kind) = ScopeKind.function
    rw [hk]; rfl
/-- one turn's end -/
theorem wpR_turn {r : Res (Option D)} {A : Store → Res Unit} {B : D → Store → Res Unit} {Q : Unit → Store → Prop} {E : Exc → Store → Prop}
    (h : wpR (match r with
      | .ok none μ' => A μ'
      | .ok (some d) μ' => B d μ'
      | _ => .stuck) Q E) : wpR r (fun o μ' => match o with
      | none => wpR (A μ') Q E
      | some d => wpR (B d μ') Q E) fun _ _ => False := by
  cases r with
  | stuck => exact h
  | exc _ _ => exact h
  | ok o μ' => cases o <;> exact h
def turnF (g : Gd) (cf : CF) (t : T) (c : Ec) (e : E) (ρ : Env) : D → Store → Res (Option D) := fun x μ => (asgT g.C cf t x ρ μ).bind fun ρ2 μ => (evC g.C cf c ρ2 μ).bind fun k μ =>
      if k then (ev g.C cf e ρ2 μ).bind fun d μ => .ok (some d) μ else .ok none μ
theorem comp_core {J : L2.It} {w : Wk} {t : T} {c : Ec} {e : E} {own : List Nat} {l : Nat} {Dp : Addr} {ρ : Env} {Q : Hp → Prop} {ι0 : List Addr} {H0 : Hp} {E : Exc → Store → Prop} (hJ : WkI g w J ι0 H0) (ho : tOwn t own = true) (R0 : RepS g ι0 H0 ρ σ)
    {ι1 : List Addr} {μ1 : Store} {H1 : Hp} (e1 : Ext ι0 H0 ι1 H1) (S1 : Sim g ι1 μ1 H1) (hl : ι1[l]? = some Dp)
    (hw : wpR (compL w l (turnF g cf t c e (wipeE ρ own)) w.items μ1) (fun _ μ2 => ∀ ι' H', Ext ι1 H1 ι' H' → Sim g ι' μ2 H' → Q H') E) :
    ∃ V : Nat → Nat → Hp → Prop, (∃ m, V 0 m H1) ∧ ∀ i m H, V i m H → J.stop i H ∧ Q H ∨ J.go i H ∧ ∃ Nx : Hp → Prop, (∀ H', Nx H' → ∃ m', m' < m ∧ V (i + 1) m' H') ∧
      ∀ x H', J.yld i H x H' → semG g cf noW t x (L2.wipe σ own) H' fun σ2 H2 => L2.wipe σ2 own = L2.wipe σ own ∧ semC g cf noW c σ2 H2 fun b H3 =>
        if b = true then semE g cf noW e σ2 H3 fun y H4 => ∃ acc, H4 Dp = some (.lst acc) ∧ acc.length < sizeLine ∧ Nx (upd H4 Dp (.lst (acc ++ [y]))) else Nx H3 := by
  let V : Nat → Nat → Hp → Prop := fun i m H => m = w.items.length - i ∧ i ≤ w.items.length ∧ ∃ ι μ, Ext ι1 H1 ι H ∧ Sim g ι μ H ∧
    wpR (compL w l (turnF g cf t c e (wipeE ρ own)) (w.items.drop i) μ) (fun _ μ2 => ∀ ι' H', Ext ι1 H1 ι' H' → Sim g ι' μ2 H' → Q H') E
  refine ⟨V, ⟨_, rfl, Nat.zero_le _, ι1, μ1, Ext.refl _ _, S1, hw⟩, ?_⟩
  rintro i m H ⟨rfl, hi, ι, μ, ex, S, h⟩
  by_cases hn : i = w.items.length
  · have : w.items.drop i = [] := List.drop_eq_nil_of_le (by omega)
    rw [this] at h
    have h : wpR (if w.stands μ then (.ok () μ : Res Unit) else .stuck) _ _ := h
    split at h
    · rename_i st
      obtain ⟨_, q2, _⟩ := hJ i ι μ H (e1.trans ex) S st
      exact .inl ⟨q2 (by omega), h ι H ex S⟩
    · exact False.elim h
  · have hlt : i < w.items.length := by omega
    rw [List.drop_eq_getElem_cons hlt] at h
    unfold compL at h
    split at h
    · rename_i st
      obtain ⟨q1, _, q3⟩ := hJ i ι μ H (e1.trans ex) S st
      refine .inr ⟨q1 hlt, fun H' => V (i + 1) (w.items.length - (i + 1)) H', fun H' h' => ⟨_, by omega, h'⟩, fun x H' hy => ?_⟩
      obtain ⟨rfl, d, hd, rd⟩ := q3 x H' hy hlt
      have hd' : w.items[i] = d := by
        rw [List.getElem?_eq_getElem hlt] at hd; exact Option.some.inj hd
      rw [hd'] at h
      have h := wpR_turn h
      unfold turnF at h
      rw [wpR_bind] at h
      have Rw : RepS g ι H' (wipeE ρ own) (L2.wipe σ own) := (R0.mono (e1.trans ex)).wipe own
      refine ⟨ι, wipeE ρ own, μ, d, S, Rw, rd, wpR_mono h (fun ρ2 μ2 h2 ι2 H2 σ2 ex2 S2 R2 hwp => ⟨?_, ?_⟩) fun _ _ z => z.elim⟩
      · rw [hwp own ho, wipe_wipe fun _ z => z]
      · rw [wpR_bind] at h2
        refine ⟨ι2, ρ2, μ2, S2, R2, wpR_mono h2 (fun b μ3 h3 ι3 H3 ex3 S3 => ?_) fun _ _ z => z.elim⟩
        cases b with
        | false =>
          have h3 : wpR (compL w l (turnF g cf t c e (wipeE ρ own)) (w.items.drop (i + 1)) μ3) _ _ := h3
          exact ⟨rfl, hlt, ι3, μ3, ex.trans (ex2.trans ex3), S3, h3⟩
        | true =>
          have h3 : wpR ((ev g.C cf e ρ2 μ3).bind fun d μ => .ok (some d) μ) _ _ := h3
          rw [wpR_bind] at h3
          refine ⟨ι3, ρ2, μ3, S3, R2.mono ex3, wpR_mono h3 (fun y μ4 h4 ι4 H4 v4 ex4 S4 r4 => ?_) fun _ _ z => z.elim⟩
          have h4 : wpR (match μ4[l]? with
            | some (.lst acc) => if acc.length < mostLen then compL w l (turnF g cf t c e (wipeE ρ own)) (w.items.drop (i + 1)) (μ4.set l (.lst (acc ++ [y]))) else .stuck
            | _ => .stuck) _ _ := h4
          split at h4
          · rename_i acc ea
            split at h4
            · rename_i hlen
              have hD : ι4[l]? = some Dp := (ex.trans (ex2.trans (ex3.trans ex4))).ix hl
              obtain ⟨vs, v1, v2⟩ := S4.ob l _ Dp ea hD
              have es := ext_set S4 hD (.lst v1) (.lst (vs ++ [v4]))
              refine ⟨vs, v1, by rw [v2.length]; exact Nat.lt_of_lt_of_le hlen line_most, rfl, hlt, ι4, _, ex.trans (ex2.trans (ex3.trans (ex4.trans es))), S4.set (o := .lst (acc ++ [y])) hD (.lst v1) ⟨_, upd_same, es.repL _ _ (v2.append (.one r4))⟩, h4⟩
            · exact False.elim h4
          · exact False.elim h4
    · exact False.elim h
theorem ownOf_snd (N : List PySem.Str) (own : List Nat) : (ownOf N own).map (·.2) = own := by
  unfold ownOf
  rw [List.map_map]
  exact List.map_id _
def isK : PL.It → Bool
  | .keys _ => true
  | _ => false
theorem evI_plain {it : PL.It} (h : isK it = false) {ρ : Env} {μ : Store} {Q : Wk → Store → Prop} {E : Exc → Store → Prop} (hw : wpR (evI g.C cf it ρ μ) Q E) : wpR (evI g.C cf it ρ μ) (fun w μ' => Q w μ' ∧ w.lk = false) E := by
  have rng : ∀ {i j : Int} {μ : Store}, wpR (rngF i j μ) Q E → wpR (rngF i j μ) (fun w μ' => Q w μ' ∧ w.lk = false) E := by
    intro i j μ hw
    unfold rngF at hw ⊢
    split at hw
    · rename_i hc; rw [if_pos hc]; exact ⟨hw, rfl⟩
    · exact False.elim hw
  cases it with
  | keys _ => cases h
  | val e =>
    have hw : wpR ((ev g.C cf e ρ μ).bind fun d μ => okI (walkF d μ) μ) _ _ := hw
    show wpR ((ev g.C cf e ρ μ).bind fun d μ => okI (walkF d μ) μ) _ _
    rw [wpR_bind] at hw ⊢
    refine wpR_mono hw (fun d μ1 h1 => ?_) fun _ _ z => z
    obtain ⟨w, e1, e2⟩ := okI_ok h1
    rw [e1]
    refine ⟨e2, ?_⟩
    rcases walk_cases e1 with ⟨_, _, rfl⟩ | ⟨_, _, rfl⟩ | ⟨_, _, rfl⟩ | ⟨_, _, rfl⟩ | ⟨_, _, _, _, rfl⟩ <;> rfl
  | rev e =>
    have hw : wpR ((ev g.C cf e ρ μ).bind fun d μ => okI (revF d μ) μ) _ _ := hw
    show wpR ((ev g.C cf e ρ μ).bind fun d μ => okI (revF d μ) μ) _ _
    rw [wpR_bind] at hw ⊢
    refine wpR_mono hw (fun d μ1 h1 => ?_) fun _ _ z => z
    obtain ⟨w, e1, e2⟩ := okI_ok h1
    rw [e1]
    refine ⟨e2, ?_⟩
    unfold revF at e1
    split at e1
    · split at e1
      · cases e1; rfl
      · cases e1
    · cases e1
  | rng e =>
    have hw : wpR ((ev g.C cf e ρ μ).bind fun d μ => match d with
      | .int n => rngF 0 n μ
      | _ => .stuck) _ _ := hw
    show wpR ((ev g.C cf e ρ μ).bind fun d μ => match d with
      | .int n => rngF 0 n μ
      | _ => .stuck) _ _
    rw [wpR_bind] at hw ⊢
    refine wpR_mono hw (fun d μ1 h1 => ?_) fun _ _ z => z
    split at h1
    · exact rng h1
    · exact False.elim h1
  | rng2 e f =>
    have hw : wpR ((ev g.C cf e ρ μ).bind fun x μ => (ev g.C cf f ρ μ).bind fun y μ => match x, y with
      | .int i, .int j => rngF i j μ
      | _, _ => .stuck) _ _ := hw
    show wpR ((ev g.C cf e ρ μ).bind fun x μ => (ev g.C cf f ρ μ).bind fun y μ => match x, y with
      | .int i, .int j => rngF i j μ
      | _, _ => .stuck) _ _
    rw [wpR_bind] at hw ⊢
    refine wpR_mono hw (fun d μ1 h1 => ?_) fun _ _ z => z
    rw [wpR_bind] at h1 ⊢
    refine wpR_mono h1 (fun d μ1 h1 => ?_) fun _ _ z => z
    split at h1
    · exact rng h1
    · exact False.elim h1
  | rng3 e f f2 =>
    have hw : wpR ((ev g.C cf e ρ μ).bind fun x μ => (ev g.C cf f ρ μ).bind fun y μ => (ev g.C cf f2 ρ μ).bind fun z μ => match x, y, z with
      | .int i, .int j, .int k => rngF3 i j k μ
      | _, _, _ => .stuck) _ _ := hw
    show wpR ((ev g.C cf e ρ μ).bind fun x μ => (ev g.C cf f ρ μ).bind fun y μ => (ev g.C cf f2 ρ μ).bind fun z μ => match x, y, z with
      | .int i, .int j, .int k => rngF3 i j k μ
      | _, _, _ => .stuck) _ _
    rw [wpR_bind] at hw ⊢
    refine wpR_mono hw (fun d μ1 h1 => ?_) fun _ _ z => z
    rw [wpR_bind] at h1 ⊢
    refine wpR_mono h1 (fun d μ1 h1 => ?_) fun _ _ z => z
    rw [wpR_bind] at h1 ⊢
    refine wpR_mono h1 (fun d μ1 h1 => ?_) fun _ _ z => z
    split at h1
    · unfold rngF3 at h1 ⊢
      split at h1
      · rename_i hc; rw [if_pos hc]; exact ⟨h1, rfl⟩
      · exact False.elim h1
    · exact False.elim h1
theorem start_plain {w : Wk} (h : w.lk = false) (μ : Store) : w.start μ = μ ∧ w.stop μ = μ := by
  cases w with
  | dct _ _ => cases h
  | _ => exact ⟨rfl, rfl⟩
/-! ### a dict's keys, under its lock -/
theorem keys_cases {d : D} {μ : Store} {w : Wk} (h : keysF d μ = some w) : (∃ l kvs, d = .loc l ∧ μ[l]? = some (.dK false kvs) ∧ w = .dct l (kvs.map fun p => p.1.d)) ∨ ∃ l kvs, d = .loc l ∧ μ[l]? = some (.dT false kvs) ∧ w = .dct l (kvs.map fun p => .tup (p.1.map Key.d)) := by
  cases d with
  | loc l =>
    unfold keysF at h
    simp only at h
    split at h
    · rename_i kvs e; cases h; exact .inl ⟨l, kvs, rfl, e, rfl⟩
    · rename_i kvs e; cases h; exact .inr ⟨l, kvs, rfl, e, rfl⟩
    · cases h
  | _ => cases h
theorem key_d {ι : List Addr} {H : Hp} (q : PL.Key) : Rep g ι H q.d (kV (K2 q)) := by
  cases q <;> rfl
theorem keys_d {ι : List Addr} {H : Hp} : ∀ ks : List PL.Key, RepL g ι H (ks.map Key.d) ((Ks2 ks).map kV)
  | [] => rfl
  | k :: ks => ⟨_, _, rfl, key_d k, keys_d ks⟩
theorem repKV_at {κ κ' : Type} {f : κ → κ'} {ι : List Addr} {H : Hp} : ∀ {kvs : List (κ × D)} {vs : List (κ' × V)} {i : Nat} {p : κ' × V}, RepKV g f ι H kvs vs → vs[i]? = some p → ∃ q, kvs[i]? = some q ∧ p.1 = f q.1
  | [], _, _, _, h, e => by rw [show _ = [] from h] at e; cases e
  | q :: kvs, _, 0, p, h, e => by
    obtain ⟨v, r, rfl, h1, h2⟩ := h
    cases e
    exact ⟨q, rfl, rfl⟩
  | q :: kvs, _, i + 1, p, h, e => by
    obtain ⟨v, r, rfl, h1, h2⟩ := h
    exact repKV_at (i := i) h2 e
theorem keys_walk {sc : Scope} {X : Cx} {k : Nat} (x : XOk Γ g cf W k sc X) {tg : Expr} {e : Expr} {i : Nat} (hc : chkI Γ (.keys i) sc e = true) : PI X tg e (iKeys (semE g cf W (.v i))) := by
  cases e with
  | Name y p =>
    have : chkE Γ (.v i) sc (.Name y p) = true := by
      rw [chkI] at hc; rw [chkE]; exact hc
    exact pi_keys (c_v i sc _ W k X this x)
  | _ => simp [chkI] at hc
/-- what a locked dict gives -/
structure Lkd (g : Gd) (cf : CF) (W : WX) (ι : List Addr) (μ : Store) (H : Hp) (σ : L2.St) (i : Nat) (w : Wk) (dp : Addr) (u : HO) (l : Nat) : Prop where
  ck : w.lk = true
  lk : w.start μ = μ.modify l (setLk true)
  un : ∀ μ', w.stop μ' = μ'.modify l (setLk false)
  ix : ι[l]? = some dp
  at_ : H dp = some u
  mu : Mut (some u)
  nt : ∀ vs, u ≠ .tup vs
  nf : ∀ o z, u ≠ .frz o z
  go : ∀ od, Sim g ι (w.start μ) (upd H dp (.frz od u)) ∧ Ext ι H ι (upd H dp (.frz od u)) ∧ ∀ RR : L2.It → Hp → Prop, (∀ J ι1 H1, Ext ι (upd H dp (.frz od u)) ι1 H1 → Sim g ι1 (w.start μ) H1 → WkI g w J ι1 H1 → RR J H1) → iKeys (semE g cf W (.v i)) σ (upd H dp (.frz od u)) RR
theorem keys_sem {i : Nat} {ρ : Env} {μ : Store} {ι : List Addr} {Q : Wk → Store → Prop} {E : Exc → Store → Prop} (S : Sim g ι μ H) (R : RepS g ι H ρ σ) (hw : wpR (evI g.C cf (.keys i) ρ μ) Q E) :
    ∃ w dp u l, Q w μ ∧ Lkd g cf W ι μ H σ i w dp u l := by
  have hw : wpR (match ρ[i]? with
    | some (some d) => okI (keysF d μ) μ
    | _ => .stuck) Q E := hw
  split at hw
  · rename_i d ed
    obtain ⟨w, h1, h2⟩ := okI_ok hw
    rcases keys_cases h1 with ⟨l, kvs, rfl, e0, rfl⟩ | ⟨l, kvs, rfl, e0, rfl⟩
    · obtain ⟨dp, hi, vs, q1, q2⟩ := S.at e0
      refine ⟨_, dp, .dK vs, l, h2, rfl, rfl, fun _ => rfl, hi, q1, trivial, (fun _ z => nomatch z), (fun _ _ z => nomatch z), fun od => ?_⟩
      obtain ⟨S', e'⟩ := S.lock (o := od) hi (.inl ⟨kvs, e0⟩) q1
      refine ⟨S', e', fun RR hR => ⟨ι, ρ, _, S', R.mono e', ?_⟩⟩
      show wpR (match ρ[i]? with
        | some (some d) => .ok d _
        | _ => .stuck) _ _
      rw [ed]
      intro ι1 H1 v1 e1 S1 r1
      obtain ⟨dp2, rfl, hi2⟩ := r1
      have : dp2 = dp := by rw [e1.ix hi] at hi2; exact (Option.some.inj hi2).symm
      subst this
      have hz : H1 dp2 = some (.frz od (.dK vs)) := e1.fz _ _ _ upd_same
      refine ⟨dp2, od, rfl, .inl ⟨vs, hz, hR _ ι1 H1 e1 S1 fun j ι2 μ2 H2 e2 S2 _ => ?_⟩⟩
      have hz2 : H2 dp2 = some (.frz od (.dK vs)) := e2.fz _ _ _ hz
      have ln : (Wk.dct l (kvs.map fun p => p.1.d)).items.length = vs.length := by
        show (kvs.map _).length = _
        rw [List.length_map, q2.length]
      refine ⟨fun h => ⟨hz2, by omega⟩, fun h => ⟨hz2, by omega⟩, fun x H' hy _ => ?_⟩
      obtain ⟨rfl, q, v, e3, rfl⟩ := hy
      obtain ⟨q', e4, e5⟩ := repKV_at q2 e3
      refine ⟨rfl, q'.1.d, ?_, ?_⟩
      · show (kvs.map fun p => p.1.d)[j]? = _
        rw [List.getElem?_map, e4]; rfl
      · rw [show q = K2 q'.1 from e5]; exact key_d _
    · obtain ⟨dp, hi, vs, q1, q2⟩ := S.at e0
      refine ⟨_, dp, .dT vs, l, h2, rfl, rfl, fun _ => rfl, hi, q1, trivial, (fun _ z => nomatch z), (fun _ _ z => nomatch z), fun od => ?_⟩
      obtain ⟨S', e'⟩ := S.lock (o := od) hi (.inr ⟨kvs, e0⟩) q1
      refine ⟨S', e', fun RR hR => ⟨ι, ρ, _, S', R.mono e', ?_⟩⟩
      show wpR (match ρ[i]? with
        | some (some d) => .ok d _
        | _ => .stuck) _ _
      rw [ed]
      intro ι1 H1 v1 e1 S1 r1
      obtain ⟨dp2, rfl, hi2⟩ := r1
      have : dp2 = dp := by rw [e1.ix hi] at hi2; exact (Option.some.inj hi2).symm
      subst this
      have hz : H1 dp2 = some (.frz od (.dT vs)) := e1.fz _ _ _ upd_same
      refine ⟨dp2, od, rfl, .inr ⟨vs, hz, hR _ ι1 H1 e1 S1 fun j ι2 μ2 H2 e2 S2 _ => ?_⟩⟩
      have hz2 : H2 dp2 = some (.frz od (.dT vs)) := e2.fz _ _ _ hz
      have ln : (Wk.dct l (kvs.map fun p => D.tup (p.1.map Key.d))).items.length = vs.length := by
        show (kvs.map _).length = _
        rw [List.length_map, q2.length]
      refine ⟨fun h => ⟨hz2, by omega⟩, fun h => ⟨hz2, by omega⟩, fun x H' hy _ => ?_⟩
      obtain ⟨rfl, q, v, b, e3, rfl, hb⟩ := hy
      obtain ⟨q', e4, e5⟩ := repKV_at q2 e3
      refine ⟨rfl, .tup (q'.1.map Key.d), ?_, ?_⟩
      · show (kvs.map fun p => D.tup (p.1.map Key.d))[j]? = _
        rw [List.getElem?_map, e4]; rfl
      · rw [show q = Ks2 q'.1 from e5] at hb
        exact ⟨b, _, rfl, hb, keys_d _⟩
  · exact False.elim hw
/-! ### comprehensions -/
theorem comp_sem {t : T} {it : PL.It} {k : Ec} {e : E} {own : List Nat} {σ : L2.St} {H : Hp} {Q : VK} (hK : isK it = false) (h6 : tOwn t own = true) (h : semE g cf W (.comp t it k e own) σ H Q) : tLc (semI g cf W it) (semG g cf noW t) (semC g cf noW k) (semE g cf noW e) own σ H Q := by
  obtain ⟨ι, ρ, μ, S, R, hw⟩ := h
  have hw : wpR ((evI g.C cf it ρ μ).bind fun w μ1 => (compL w μ1.length (turnF g cf t k e (wipeE ρ own)) w.items (w.start μ1 ++ [.lst []])).bind fun _ μ2 => .ok (.loc μ1.length) (w.stop μ2)) (OkV g ι H Q) (exW g W ι H σ) := hw
  rw [wpR_bind] at hw
  refine ⟨ι, ρ, μ, S, R, wpR_mono (evI_plain hK hw) (fun w μ1 hw1 ι1 H1 J e1 S1 hJ D hD => ?_) fun _ _ z => z⟩
  obtain ⟨hw1, hlk⟩ := hw1
  obtain ⟨z1, z2⟩ := start_plain hlk μ1
  rw [z1, wpR_bind] at hw1
  have en := ext_new S1 hD (.lst [])
  have Sn : Sim g (ι1 ++ [D]) (μ1 ++ [.lst []]) (upd H1 D (.lst [])) := S1.new hD ⟨[], upd_same, rfl⟩
  refine comp_core (Q := fun H => Q (.ref D) H) hJ h6 (R.mono e1) en Sn (l := μ1.length) (by rw [← S1.len]; simp) (wpR_mono hw1 (fun _ μ2 q ι' H' e' S' => ?_) fun _ _ z => z)
  have q : OkV g ι H Q (.loc μ1.length) (w.stop μ2) := q
  rw [(start_plain hlk μ2).2] at q
  exact q ι' H' (.ref D) (e1.trans (en.trans e')) S' ⟨D, rfl, e'.ix (by rw [← S1.len]; simp)⟩
theorem c_comp {t : T} {it : PL.It} {k : Ec} {e : E} {own : List Nat} (ht : SndG Γ g cf t) (hi : isK it = false → SndI Γ g cf it) (hk : SndC Γ g cf k) (he : SndE Γ g cf e) : SndE Γ g cf (.comp t it k e own) := by
  intro sc ex W d X hc x
  cases ex with
  | ListComp el gens scope p =>
    rcases gens with _ | ⟨⟨tg, iter, ifs, as⟩, _ | ⟨g2, gens⟩⟩
    · simp [chkE] at hc
    · by_cases ha0 : as = 0
      · subst ha0
        have hc : (!Γ.hot && chkT Γ t scope tg && chkI Γ it sc iter && chkC Γ k scope ifs && chkE Γ e scope el && blkC Γ.N sc scope (ownOf Γ.N own) && tOwn t own) = true := by
          rw [chkE] at hc
          · exact hc
          all_goals simp
        simp only [Bool.and_eq_true] at hc
        obtain ⟨⟨⟨⟨⟨⟨h0, h1⟩, h2⟩, h3⟩, h4⟩, h5⟩, h6⟩ := hc
        have h0 := notHot h0
        have bo := blk_ok x h5
        have sk : scope.kind = ScopeKind.function := bo.kind
        have nf : ∀ y : Value, foldedSetIterable iter X.env y = pure y := by
          have : NoSet iter = true := by
            cases it with
            | val a => rw [chkI] at h2; exact (chk_plain h2).2.1
            | rng a => cases iter <;> first | rfl | simp [chkI] at h2
            | rng2 a b => cases iter <;> first | rfl | simp [chkI] at h2
            | rng3 a b c => cases iter <;> first | rfl | simp [chkI] at h2
            | keys i => cases iter <;> first | rfl | simp [chkI] at h2
            | rev a => cases iter <;> first | rfl | simp [chkI] at h2
          exact fun y => fold_of this y
        have g1 := fun (s : Shared) (H : Hp) (C : Addr) (cl : List (PySem.Str × Addr)) (fp : List Addr) => ht scope tg noW d _ h1 (x.blk h0 sk s H C cl fp)
        have g2 := fun (s : Shared) (H : Hp) (C : Addr) (cl : List (PySem.Str × Addr)) (fp : List Addr) => hk scope ifs noW d _ h3 (x.blk h0 sk s H C cl fp)
        have g3 := fun (s : Shared) (H : Hp) (C : Addr) (cl : List (PySem.Str × Addr)) (fp : List Addr) => he scope el noW d _ h4 (x.blk h0 sk s H C cl fp)
        by_cases hK : isK it = false
        · refine PE.imp (pe_lc (x.calm h0) x.nd (hi hK sc tg iter W d X h2 x) bo g1 g2 g3 nf) ?_
          rw [ownOf_snd]
          exact fun σ H Q h => comp_sem hK h6 h
        · cases it with
          | keys i =>
            refine PE.imp (pe_lock (pe_lc (x.calm h0) x.nd (keys_walk x h2) bo g1 g2 g3 nf)) ?_
            rw [ownOf_snd]
            rintro σ H Q ⟨ι, ρ, μ, S, R, hw⟩
            have hw : wpR ((evI g.C cf (.keys i) ρ μ).bind fun w μ1 => (compL w μ1.length (turnF g cf t k e (wipeE ρ own)) w.items (w.start μ1 ++ [.lst []])).bind fun _ μ2 => .ok (.loc μ1.length) (w.stop μ2)) (OkV g ι H Q) (exW g W ι H σ) := hw
            rw [wpR_bind] at hw
            obtain ⟨w, dp, u, l, hw1, L⟩ := keys_sem (W := W) S R hw
            refine ⟨dp, u, L.at_, L.mu, fun od => ?_⟩
            obtain ⟨Sl, el, hgo⟩ := L.go od
            refine hgo _ fun J ι1 H1 e1 S1 hJ D hD => ?_
            rw [wpR_bind] at hw1
            have en := ext_new S1 hD (.lst [])
            have Sn : Sim g (ι1 ++ [D]) (w.start μ ++ [.lst []]) (upd H1 D (.lst [])) := S1.new hD ⟨[], upd_same, rfl⟩
            have ll : (w.start μ).length = μ.length := by rw [L.lk]; simp
            have hD1 : (ι1 ++ [D])[μ.length]? = some D := by rw [← ll, ← S1.len]; simp
            refine comp_core (Q := fun H' => H' dp = some (.frz od u) ∧ Q (.ref D) (upd H' dp u)) hJ h6 ((R.mono el).mono e1) en Sn (l := μ.length) hD1 (wpR_mono hw1 (fun _ μ2 q ι' H' e' S' => ?_) fun _ _ z => z)
            have q : OkV g ι H Q (.loc μ.length) (w.stop μ2) := q
            rw [L.un] at q
            have ef := e1.trans (en.trans e')
            have hz : H' dp = some (.frz od u) := ef.fz _ _ _ upd_same
            refine ⟨hz, q ι' _ (.ref D) (ext_unlock (List.mem_of_getElem? L.ix) L.at_ L.nt L.nf ef) (S'.unlock (ef.ix L.ix) hz) ⟨D, rfl, e'.ix hD1⟩⟩
          | _ => exact absurd rfl hK
      · rw [chkE] at hc
        · cases hc
        all_goals (intros; simp_all)
    · simp [chkE] at hc
  | _ => simp [chkE] at hc
end
end PL
end
section
set_option Elab.async false
set_option linter.all false
set_option autoImplicit false
set_option maxRecDepth 100000
set_option maxHeartbeats 400000
/-! Sound11: statements. -/
namespace PL
open PySem PySem.Spec PyProof.Rows L2
def NoLc : Expr → Bool
  | .ListComp _ _ _ _ => false
  | .SetComp _ _ _ _ => false
  | .DictComp _ _ _ _ _ => false
  | _ => true
def celN (sc : Scope) : Expr → Bool
  | .Name x _ => sc.names.lookup x == some .cell
  | _ => false
def notTT (sc : Scope) : Expr → Expr → Bool
  | .Tuple ts _ _, .Tuple vs _ _ => vs.all (foldedForSure 8) || ts.any (celN sc)
  | .List _ _, _ => false
  | .Starred _ _, _ => false
  | _, _ => true
/-- how a comprehension goes to a name: plainly, or by the compiler's swap -/
def lcPlain (sc scope : Scope) (y : PySem.Str) (py p : Pos) : Bool :=
  (scope.names.any fun q => q.1 == y && (q.2 == .local || q.2 == .cell)) || !(py.line == p.line) || (sc.names.lookup y == some .cell)
def locO (sc : Scope) (x : PySem.Str) : Bool := match sc.names.lookup x with
  | some .local => true
  | _ => false
def noKeys : E → Bool
  | .comp _ it _ _ _ => !isK it
  | _ => true
def asgOk (b : Bool) (sc : Scope) (val tg : Expr) : Bool := match val, tg with
  | .ListComp _ _ scope p, .Name y py => lcPlain sc scope y py p || (locO sc y && b)
  | v, _ => NoLc v
def parOk (px py pt : Pos) (x y : PySem.Str) (a b : Expr) : Bool := (px.line == py.line) && !(x == y) && !(foldedForSure 8 a && foldedForSure 8 b) && !(constantsAlone 8 a && constantsAlone 8 b)
def chkRse (Γ : Stat) (ms ks : List Nat) (es : Es) (sc : Scope) : Stmt → Bool
  | .Raise (some (.Call (.Name x _) (a :: l) [] _)) none _ => !Γ.hot && glB sc x && okN x && decide ((x, ms, ks) ∈ Γ.cls) && chkEs Γ es sc (a :: l) && decide ((a :: l).length = ks.length)
  | _ => false
def tryParts : Stmt → Option (List Stmt × List ExceptHandler)
  | .Try body (h :: hds) [] [] _ => some (body, h :: hds)
  | _ => none
def Stat.suite (Γ : Stat) (n : Option Nat) : Stat := { Γ with hot := true, err := n }
/-- tuple([x.replace(a, b) for ..]) -/
def chkSp (Γ : Stat) : E → Scope → Expr → Bool
  | .bf .tuple (.comp t it k (.meth .repl o (.cons (.str [a]) (.cons (.str [b]) .nil))) own), sc, .Call (.Name tn _) [.ListComp (.Call (.Attribute ov r ap) [.Constant (.str y) _ _, .Constant (.str z) _ _] [] cp) [⟨tg, iter, ifs, 0⟩] scope _] [] _ =>
    bltOk Γ sc tn && (decide (tn = ("tuple" : PySem.Str)) && (decide (r = ("replace" : PySem.Str)) && (decide (y = S2 [a]) && (decide (z = S2 [b]) && (!(y == z) && ((ap.endLine == cp.line) && (noSuper ov && (chkT Γ t scope tg && (chkI Γ it sc iter && (!isK it && (chkC Γ k scope ifs && (chkE Γ o scope ov && (blkC Γ.N sc scope (ownOf Γ.N own) && tOwn t own)))))))))))))
  | _, _, _ => false
def chkTl (Γ : Stat) : Es → Scope → List Expr → Bool
  | .nil, _, [] => true
  | .cons e es, sc, y :: l => (chkE Γ e sc y || (NoStar y && chkSp Γ e sc y)) && chkTl Γ es sc l
  | _, _, _ => false
/-- xs.extend([e, ..]), e beginning with a written text -/
def chkX (Γ : Stat) : E → Scope → Expr → Bool
  | .meth .extend o (.cons (.lst (.cons e es)) .nil), sc, .Call (.Attribute ov n ap) [.List (y :: l) _] [] cp =>
    !Γ.hot && (decide (n = ("extend" : PySem.Str)) && (chkE Γ o sc ov && (noSuper ov && ((ap.endLine == cp.line) && (bumpE y && (chkE Γ e sc y && chkTl Γ es sc l))))))
  | _, _, _ => false
mutual
def chkS : Stat → S → Scope → Stmt → Bool
  | Γ, .asg t e, sc, .Assign [tg] val _ => chkT Γ t sc tg && chkE Γ e sc val && notTT sc tg val && asgOk (noKeys e) sc val tg
  | Γ, .par i j a b, sc, .Assign [.Tuple [.Name x px, .Name y py] _ pt] (.Tuple [u, v] _ _) _ => !Γ.hot && decide (Γ.N[i]? = some x) && decide (Γ.N[j]? = some y) && locO sc x && locO sc y && chkE Γ a sc u && chkE Γ b sc v && parOk px py pt x y u v && decide (i ≠ j)
  | Γ, .aug i op e, sc, .AugAssign (.Name x _) o v _ => decide (Γ.N[i]? = some x) && locB sc x && chkE Γ e sc v && decide (o = opP op) && (op == .add || op == .sub) && notErr Γ i
  | Γ, .ex e, sc, .Expr v _ => (chkE Γ e sc v || chkX Γ e sc v) && NoLc v
  | Γ, .ret e, sc, .Return (some v) _ => chkE Γ e sc v
  | _, .retN, _, .Return none _ => true
  | Γ, .ite c a b, sc, .If t x y _ => chkE Γ c sc t && chkSs Γ a sc x && chkSs Γ b sc y
  | Γ, .whl c b, sc, .While t x [] _ => chkE Γ c sc t && chkSs Γ b sc x
  | Γ, .fr t it b, sc, .For tg iter x [] _ => (!Γ.hot || isR it) && chkT Γ t sc tg && chkI Γ it sc iter && chkSs Γ b sc x
  | _, .brk, _, .Break _ => true
  | _, .cont, _, .Continue _ => true
  | _, .pass, _, .Pass _ => true
  | _, .pass, _, .Expr (.Constant (.str _) _ _) _ => true
  | Γ, .rse ms ks es, sc, st => chkRse Γ ms ks es sc st
  | Γ, .tr b hs, sc, st => match tryParts st with
    | some (body, hds) => !Γ.hot && chkSs Γ b sc body && chkHs Γ hs sc hds
    | none => false
  | _, _, _, _ => false
def chkSs : Stat → Ss → Scope → List Stmt → Bool
  | _, .nil, _, [] => true
  | Γ, .cons s ss, sc, x :: l => chkS Γ s sc x && chkSs Γ ss sc l
  | _, _, _, _ => false
def chkHs : Stat → Hs → Scope → List ExceptHandler → Bool
  | _, .nil, _, [] => true
  | Γ, .cons c none b hs, sc, .ExceptHandler (some (.Name x _)) none (s :: l) _ :: r => glB sc x && okN x && decide ((x, c) ∈ Γ.hcl) && chkSs (Γ.suite none) b sc (s :: l) && chkHs Γ hs sc r
  | Γ, .cons c (some i) b hs, sc, .ExceptHandler (some (.Name x _)) (some y) (s :: l) _ :: r => glB sc x && okN x && decide ((x, c) ∈ Γ.hcl) && decide (Γ.N[i]? = some y) && locO sc y && chkSs (Γ.suite (some i)) b sc (s :: l) && chkHs Γ hs sc r
  | _, _, _, _ => false
end
/-- where a statement stands -/
structure XOkS (Γ : Stat) (g : Gd) (cf : CF) (W : WX) (k : Nat) (sc : Scope) (X : Cx) : Prop extends XOk Γ g cf W k sc X where
  stk : X.stack = X.env :: X.outer
  frm : X.env.frame = some X.env.locals
instance {Γ : Stat} {g : Gd} {cf : CF} {W : WX} {k : Nat} {sc : Scope} {X : Cx} : Coe (XOkS Γ g cf W k sc X) (XOk Γ g cf W k sc X) := ⟨XOkS.toXOk⟩
section
variable (g : Gd) (cf : CF) (N : Nat) (W : WX)
/-- what follows a statement's end -/
def wpS (D : Ends) (ι : List Addr) (H : Hp) : SRes → Prop
  | .go .nx ρ μ => ∀ ι' H' σ', Ext ι H ι' H' → Sim g ι' μ H' → RepS g ι' H' ρ σ' → D.nx σ' H'
  | .go .bk ρ μ => ∀ ι' H' σ', Ext ι H ι' H' → Sim g ι' μ H' → RepS g ι' H' ρ σ' → D.bk σ' H'
  | .go .ct ρ μ => ∀ ι' H' σ', Ext ι H ι' H' → Sim g ι' μ H' → RepS g ι' H' ρ σ' → D.ct σ' H'
  | .go (.rt d) ρ μ => ∀ ι' H' v, Ext ι H ι' H' → Sim g ι' μ H' → Rep g ι' H' d v → D.rt v H'
  | .exc x ρ μ => ∀ ι' H' σ' c d, Ext ι H ι' H' → Sim g ι' μ H' → RepS g ι' H' ρ σ' → ExcR g ι' H' x c d → W c d σ' H'
  | .stuck => False
def semS (m : S) : TS := fun D σ H => ∃ ι ρ μ, Sim g ι μ H ∧ RepS g ι H ρ σ ∧ wpS g W D ι H (ex g.C cf N m ρ μ)
def semB (m : Ss) : TS := fun D σ H => ∃ ι ρ μ, Sim g ι μ H ∧ RepS g ι H ρ σ ∧ wpS g W D ι H (exs g.C cf N m ρ μ)
end
theorem wpS_mono {g : Gd} {W : WX} {D : Ends} {ι ι1 : List Addr} {H H1 : Hp} {r : SRes} (e : Ext ι H ι1 H1) (h : wpS g W D ι H r) : wpS g W D ι1 H1 r := by
  cases r with
  | stuck => exact h
  | exc x ρ μ => exact fun ι' H' σ' c d e' => h ι' H' σ' c d (e.trans e')
  | go f ρ μ =>
    cases f with
    | nx => exact fun ι' H' σ' e' => h ι' H' σ' (e.trans e')
    | bk => exact fun ι' H' σ' e' => h ι' H' σ' (e.trans e')
    | ct => exact fun ι' H' σ' e' => h ι' H' σ' (e.trans e')
    | rt d => exact fun ι' H' σ' e' => h ι' H' σ' (e.trans e')
theorem wpS_of {α : Type} {g : Gd} {W : WX} {D : Ends} {ι : List Addr} {H : Hp} {ρ : PL.Env} {σ : L2.St} {r : Res α} {f : α → Store → SRes} (R : RepS g ι H ρ σ) (h : wpS g W D ι H (SRes.of ρ r f)) : wpR r (fun a μ => wpS g W D ι H (f a μ)) (exW g W ι H σ) := by
  cases r with
  | stuck => exact h
  | ok a μ => exact h
  | exc x μ => exact fun ι' H' c d e' S E => h ι' H' σ c d e' S (R.mono e') E
section
variable {Γ : Stat} {g : Gd} {cf : CF} {N : Nat} {W : WX} {σ : L2.St} {H : Hp} {a b c : E} {es : Es}
def SndS (Γ : Stat) (g : Gd) (cf : CF) (N : Nat) (m : S) : Prop := ∀ (sc : Scope) (st : Stmt) (W : WX) (k : Nat) (X : Cx), chkS Γ m sc st = true → XOkS Γ g cf W k sc X → PS X st (semS g cf N W m)
def SndB (Γ : Stat) (g : Gd) (cf : CF) (N : Nat) (m : Ss) : Prop := ∀ (sc : Scope) (st : List Stmt) (W : WX) (k : Nat) (X : Cx), chkSs Γ m sc st = true → XOkS Γ g cf W k sc X → PSs X st (semB g cf N W m)
theorem PSs.imp {X : Cx} {e : List Stmt} {t t' : TS} (h : PSs X e t) (i : ∀ D σ H, t' D σ H → t D σ H) : PSs X e t' := ⟨fun pins s σ H D I q => h.run pins s σ H D I (i D σ H q)⟩
theorem b_nil : SndB Γ g cf N .nil := by
  intro sc l W k X hc x
  cases l with
  | cons _ _ => simp [chkSs] at hc
  | nil =>
    refine PSs.imp pss_nil ?_
    rintro D σ H ⟨ι, ρ, μ, S, R, hw⟩
    exact hw ι H σ (Ext.refl _ _) S R
theorem b_cons {s : S} {ss : Ss} (h1 : SndS Γ g cf N s) (h2 : SndB Γ g cf N ss) : SndB Γ g cf N (.cons s ss) := by
  intro sc l W k X hc x
  cases l with
  | nil => simp [chkSs] at hc
  | cons st l =>
    rw [chkSs, Bool.and_eq_true] at hc
    refine PSs.imp (pss_cons (h1 sc st W k X hc.1 x) (h2 sc l W k X hc.2 x)) ?_
    rintro D σ H ⟨ι, ρ, μ, S, R, hw⟩
    have hw : wpS g W D ι H ((ex g.C cf N s ρ μ).next fun ρ μ => exs g.C cf N ss ρ μ) := hw
    refine ⟨ι, ρ, μ, S, R, ?_⟩
    cases e : ex g.C cf N s ρ μ with
    | stuck => rw [e] at hw; exact hw
    | exc x ρ' μ' => rw [e] at hw; exact hw
    | go f ρ' μ' =>
      rw [e] at hw
      cases f with
      | nx => exact fun ι' H' σ' e' S' R' => ⟨ι', ρ', μ', S', R', wpS_mono e' hw⟩
      | bk => exact hw
      | ct => exact hw
      | rt d => exact hw
theorem s_ret (ha : SndE Γ g cf a) : SndS Γ g cf N (.ret a) := by
  intro sc st W k X hc x
  cases st with
  | Return v p =>
    cases v with
    | none => simp [chkS] at hc
    | some v =>
      rw [chkS] at hc
      refine PS.imp (ps_ret (ha sc v W k X hc x)) ?_
      rintro D σ H ⟨ι, ρ, μ, S, R, hw⟩
      exact ⟨ι, ρ, μ, S, R, wpR_mono (wpS_of R (show wpS g W D ι H (SRes.of ρ (ev g.C cf a ρ μ) fun d μ => .go (.rt d) ρ μ) from hw)) (fun d μ' h => h) fun _ _ z => z⟩
  | _ => simp [chkS] at hc
theorem s_retN : SndS Γ g cf N .retN := by
  intro sc st W k X hc x
  cases st with
  | Return v p =>
    cases v with
    | some v => simp [chkS] at hc
    | none =>
      refine PS.imp ps_retN ?_
      rintro D σ H ⟨ι, ρ, μ, S, R, hw⟩
      exact hw ι H .non (Ext.refl _ _) S rfl
  | _ => simp [chkS] at hc
theorem s_brk : SndS Γ g cf N .brk := by
  intro sc st W k X hc x
  cases st with
  | Break p =>
    refine PS.imp ps_break ?_
    rintro D σ H ⟨ι, ρ, μ, S, R, hw⟩
    exact hw ι H σ (Ext.refl _ _) S R
  | _ => simp [chkS] at hc
theorem s_cont : SndS Γ g cf N .cont := by
  intro sc st W k X hc x
  cases st with
  | Continue p =>
    refine PS.imp ps_continue ?_
    rintro D σ H ⟨ι, ρ, μ, S, R, hw⟩
    exact hw ι H σ (Ext.refl _ _) S R
  | _ => simp [chkS] at hc
theorem s_pass : SndS Γ g cf N .pass := by
  intro sc st W k X hc x
  have fin : ∀ {D : Ends} {σ : L2.St} {H : Hp}, semS g cf N W .pass D σ H → tNext D σ H := by
    rintro D σ H ⟨ι, ρ, μ, S, R, hw⟩
    exact hw ι H σ (Ext.refl _ _) S R
  cases st with
  | Pass p => exact PS.imp ps_pass fun D σ H h => fin h
  | Expr e p =>
    cases e with
    | Constant c j q =>
      cases c with
      | str s => exact PS.imp ps_doc fun D σ H h => fin h
      | _ => simp [chkS] at hc
    | _ => simp [chkS] at hc
  | _ => simp [chkS] at hc
theorem s_ex (ha : SndE Γ g cf a) (hx : ∀ (sc : Scope) (e : Expr) (W : WX) (k : Nat) (X : Cx), chkX Γ a sc e = true → XOk Γ g cf W k sc X → PE X e (semE g cf W a)) : SndS Γ g cf N (.ex a) := by
  intro sc st W k X hc x
  cases st with
  | Expr v p =>
    rw [chkS, Bool.and_eq_true] at hc
    have sw : swapsWith v none p.line X.env = pure false := by
      have := hc.2
      cases v <;> first | rfl | cases this
    have pe : PE X v (semE g cf W a) := by
      rcases Bool.or_eq_true_iff.mp hc.1 with h | h
      · exact ha sc v W k X h x
      · exact hx sc v W k X h x
    refine PS.imp (ps_expr pe sw) ?_
    rintro D σ H ⟨ι, ρ, μ, S, R, hw⟩
    exact ⟨ι, ρ, μ, S, R, wpR_mono (wpS_of R (show wpS g W D ι H (SRes.of ρ (ev g.C cf a ρ μ) fun _ μ => .go .nx ρ μ) from hw)) (fun d μ' h ι' H' v e' S' _ => h ι' H' σ e' S' (R.mono e')) fun _ _ z => z⟩
  | _ => simp [chkS] at hc
theorem s_ite {s t : Ss} (hc' : SndT Γ g cf c) (h1 : SndB Γ g cf N s) (h2 : SndB Γ g cf N t) : SndS Γ g cf N (.ite c s t) := by
  intro sc st W k X hc x
  cases st with
  | If e l r p =>
    rw [chkS, Bool.and_eq_true, Bool.and_eq_true] at hc
    refine PS.imp (ps_if (hc' sc e W k X hc.1.1 x) (h1 sc l W k X hc.1.2 x) (h2 sc r W k X hc.2 x)) ?_
    rintro D σ H ⟨ι, ρ, μ, S, R, hw⟩
    refine ⟨ι, ρ, μ, S, R, wpR_mono (wpS_of R (show wpS g W D ι H (SRes.of ρ (evT g.C cf c ρ μ) fun k μ => if k then exs g.C cf N s ρ μ else exs g.C cf N t ρ μ) from hw)) (fun b μ' h ι' H' e' S' => ?_) fun _ _ z => z⟩
    cases b with
    | true => exact ⟨ι', ρ, μ', S', R.mono e', wpS_mono e' h⟩
    | false => exact ⟨ι', ρ, μ', S', R.mono e', wpS_mono e' h⟩
  | _ => simp [chkS] at hc
/-- behind one turn of a loop -/
theorem loop_end {D : Ends} {Nx : L2.St → Hp → Prop} {ι ι1 : List Addr} {H H1 : Hp} {r : SRes} {F : PL.Env → Store → SRes} (e : Ext ι H ι1 H1)
    (h : wpS g W D ι H (match r with
      | .go .nx ρ2 μ2 => F ρ2 μ2
      | .go .ct ρ2 μ2 => F ρ2 μ2
      | .go .bk ρ2 μ2 => .go .nx ρ2 μ2
      | r => r))
    (hN : ∀ ι' H' σ' ρ' μ', Ext ι1 H1 ι' H' → Sim g ι' μ' H' → RepS g ι' H' ρ' σ' → wpS g W D ι' H' (F ρ' μ') → Nx σ' H') : wpS g W { nx := Nx, rt := D.rt, bk := D.nx, ct := Nx } ι1 H1 r := by
  cases r with
  | stuck => exact h
  | exc x ρ μ => exact fun ι' H' σ' c d e' => h ι' H' σ' c d (e.trans e')
  | go f ρ μ =>
    cases f with
    | nx => exact fun ι' H' σ' e' S' R' => hN ι' H' σ' ρ μ e' S' R' (wpS_mono (e.trans e') h)
    | ct => exact fun ι' H' σ' e' S' R' => hN ι' H' σ' ρ μ e' S' R' (wpS_mono (e.trans e') h)
    | bk => exact fun ι' H' σ' e' S' R' => h ι' H' σ' (e.trans e') S' R'
    | rt d => exact fun ι' H' v e' S' R' => h ι' H' v (e.trans e') S' R'
theorem s_whl {s : Ss} (hc' : SndT Γ g cf c) (h1 : SndB Γ g cf N s) : SndS Γ g cf N (.whl c s) := by
  intro sc st W k X hc x
  cases st with
  | While e l r p =>
    cases r with
    | cons _ _ => simp [chkS] at hc
    | nil =>
      rw [chkS, Bool.and_eq_true] at hc
      refine PS.imp (ps_while x.po (hc' sc e W k X hc.1 x) (h1 sc l W k X hc.2 x)) ?_
      rintro D σ H ⟨ι, ρ, μ, S, R, hw⟩
      refine ⟨fun m σ H => ∃ ι ρ μ, Sim g ι μ H ∧ RepS g ι H ρ σ ∧ wpS g W D ι H (whlL (evT g.C cf c) (exs g.C cf N s) m ρ μ), ⟨N, ι, ρ, μ, S, R, hw⟩, ?_⟩
      rintro m σ H ⟨ι, ρ, μ, S, R, hw⟩
      cases m with
      | zero => exact False.elim hw
      | succ m =>
        have hw := wpS_of R (show wpS g W D ι H (SRes.of ρ (evT g.C cf c ρ μ) fun b μ' => if b then match exs g.C cf N s ρ μ' with
          | .go .nx ρ2 μ2 => whlL (evT g.C cf c) (exs g.C cf N s) m ρ2 μ2
          | .go .ct ρ2 μ2 => whlL (evT g.C cf c) (exs g.C cf N s) m ρ2 μ2
          | .go .bk ρ2 μ2 => .go .nx ρ2 μ2
          | r => r
          else .go .nx ρ μ') from hw)
        refine ⟨ι, ρ, μ, S, R, wpR_mono hw (fun b μ' h ι' H' e' S' => ?_) fun _ _ z => z⟩
        cases b with
        | false => exact h ι' H' σ e' S' (R.mono e')
        | true =>
          refine ⟨fun σ H => ∃ ι ρ μ, Sim g ι μ H ∧ RepS g ι H ρ σ ∧ wpS g W D ι H (whlL (evT g.C cf c) (exs g.C cf N s) m ρ μ), fun σ' H' h' => ⟨m, by omega, h'⟩, ?_⟩
          exact ⟨ι', ρ, μ', S', R.mono e', loop_end e' h fun ι2 H2 σ2 ρ2 μ2 _ S2 R2 h2 => ⟨ι2, ρ2, μ2, S2, R2, h2⟩⟩
  | _ => simp [chkS] at hc
theorem for_core {J : L2.It} {w : Wk} {t : T} {s : Ss} {D : Ends} {ρ : PL.Env} {ι0 : List Addr} {H0 : Hp} {μ1 : Store} (hJ : WkI g w J ι0 H0) (S1 : Sim g ι0 μ1 H0) (R0 : RepS g ι0 H0 ρ σ)
    (hw : wpS g W D ι0 H0 (forL w (asgT g.C cf t) (exs g.C cf N s) w.items ρ μ1)) :
    ∃ V : Nat → Nat → L2.St → Hp → Prop, (∃ m, V 0 m σ H0) ∧ ∀ i m σ H, V i m σ H → J.stop i H ∧ D.nx σ H ∨ J.go i H ∧ ∃ Nx : L2.St → Hp → Prop, (∀ σ' H', Nx σ' H' → ∃ m', m' < m ∧ V (i + 1) m' σ' H') ∧
      ∀ x H', J.yld i H x H' → semG g cf W t x σ H' fun σ2 H2 => semB g cf N W s { nx := Nx, rt := D.rt, bk := D.nx, ct := Nx } σ2 H2 := by
  let V : Nat → Nat → L2.St → Hp → Prop := fun i m σ H => m = w.items.length - i ∧ i ≤ w.items.length ∧ ∃ ι ρ μ, Ext ι0 H0 ι H ∧ Sim g ι μ H ∧ RepS g ι H ρ σ ∧ wpS g W D ι H (forL w (asgT g.C cf t) (exs g.C cf N s) (w.items.drop i) ρ μ)
  refine ⟨V, ⟨_, rfl, Nat.zero_le _, ι0, ρ, μ1, Ext.refl _ _, S1, R0, hw⟩, ?_⟩
  rintro i m σ H ⟨rfl, hi, ι, ρ, μ, ex', S, R, h⟩
  by_cases hn : i = w.items.length
  · have : w.items.drop i = [] := List.drop_eq_nil_of_le (by omega)
    rw [this] at h
    have h : wpS g W D ι H (if w.stands μ then .go .nx ρ μ else .stuck) := h
    split at h
    · rename_i st
      obtain ⟨_, q2, _⟩ := hJ i ι μ H ex' S st
      exact .inl ⟨q2 (by omega), h ι H σ (Ext.refl _ _) S R⟩
    · exact False.elim h
  · have hlt : i < w.items.length := by omega
    rw [List.drop_eq_getElem_cons hlt] at h
    unfold forL at h
    split at h
    · rename_i st
      obtain ⟨q1, _, q3⟩ := hJ i ι μ H ex' S st
      refine .inr ⟨q1 hlt, fun σ' H' => V (i + 1) (w.items.length - (i + 1)) σ' H', fun σ' H' h' => ⟨_, by omega, h'⟩, fun x H' hy => ?_⟩
      obtain ⟨rfl, d, hd, rd⟩ := q3 x H' hy hlt
      have hd' : w.items[i] = d := by
        rw [List.getElem?_eq_getElem hlt] at hd; exact Option.some.inj hd
      rw [hd'] at h
      refine ⟨ι, ρ, μ, d, S, R, rd, wpR_mono (wpS_of R h) (fun ρ2 μ2 h2 ι2 H2 σ2 e2 S2 R2 _ => ?_) fun _ _ z => z⟩
      refine ⟨ι2, ρ2, μ2, S2, R2, loop_end e2 h2 fun ι3 H3 σ3 ρ3 μ3 e3 S3 R3 h3 => ⟨rfl, hlt, ι3, ρ3, μ3, ex'.trans (e2.trans e3), S3, R3, h3⟩⟩
    · exact False.elim h
theorem unlock_plain {w : Wk} (h : w.lk = false) (r : SRes) : unlock w r = r := by
  cases r with
  | go f ρ μ => show SRes.go f ρ (w.stop μ) = _; rw [(start_plain h μ).2]
  | exc x ρ μ => show (if w.lk = true then _ else _) = _; rw [h]; rfl
  | stuck => rfl
/-- the way back from a lock, through a statement -/
theorem wpS_unlock (he : g.en = none) {w : Wk} {D : Ends} {ι ι1 : List Addr} {H H1 : Hp} {dp : Addr} {u : HO} {od : PySem.Obj} {l : Nat} {r : SRes} (hun : ∀ μ', w.stop μ' = μ'.modify l (setLk false)) (hix : ι[l]? = some dp) (hat : H dp = some u) (nt : ∀ vs, u ≠ .tup vs) (nf : ∀ o z, u ≠ .frz o z)
    (e : Ext ι (upd H dp (.frz od u)) ι1 H1) (hx : w.lk = true) (h : wpS g W D ι H (unlock w r)) :
    wpS g W { nx := fun σ' H' => H' dp = some (.frz od u) ∧ D.nx σ' (upd H' dp u), rt := fun v H' => H' dp = some (.frz od u) ∧ D.rt v (upd H' dp u), bk := fun σ' H' => H' dp = some (.frz od u) ∧ D.bk σ' (upd H' dp u), ct := fun σ' H' => H' dp = some (.frz od u) ∧ D.ct σ' (upd H' dp u) } ι1 H1 r := by
  have key : ∀ {ι' : List Addr} {H' : Hp} {μ : Store}, Ext ι1 H1 ι' H' → Sim g ι' μ H' → H' dp = some (.frz od u) ∧ Ext ι H ι' (upd H' dp u) ∧ Sim g ι' (w.stop μ) (upd H' dp u) ∧ Ext0 ι' H' ι' (upd H' dp u) := by
    intro ι' H' μ e' S'
    have ef := e.trans e'
    have hz : H' dp = some (.frz od u) := ef.fz _ _ _ upd_same
    refine ⟨hz, ext_unlock (List.mem_of_getElem? hix) hat nt nf ef, ?_, ext0_unlock (List.mem_of_getElem? (ef.ix hix)) hz⟩
    rw [hun]; exact S'.unlock (ef.ix hix) hz
  cases r with
  | stuck => exact h
  | exc x ρ μ =>
    have h : wpS g W D ι H (if w.lk = true then .stuck else .exc x ρ μ) := h
    rw [if_pos hx] at h
    exact False.elim h
  | go f ρ μ =>
    cases f with
    | nx => exact fun ι' H' σ' e' S' R' => let ⟨q1, q2, q3, q4⟩ := key e' S'; ⟨q1, h ι' _ σ' q2 q3 ⟨R'.len, fun i d hn hd => let ⟨v, y1, y2⟩ := R'.at_ i d hn hd; ⟨v, y1, q4.rep _ _ y2⟩, fun i d hn _ => by rw [he] at hn; cases hn⟩⟩
    | bk => exact fun ι' H' σ' e' S' R' => let ⟨q1, q2, q3, q4⟩ := key e' S'; ⟨q1, h ι' _ σ' q2 q3 ⟨R'.len, fun i d hn hd => let ⟨v, y1, y2⟩ := R'.at_ i d hn hd; ⟨v, y1, q4.rep _ _ y2⟩, fun i d hn _ => by rw [he] at hn; cases hn⟩⟩
    | ct => exact fun ι' H' σ' e' S' R' => let ⟨q1, q2, q3, q4⟩ := key e' S'; ⟨q1, h ι' _ σ' q2 q3 ⟨R'.len, fun i d hn hd => let ⟨v, y1, y2⟩ := R'.at_ i d hn hd; ⟨v, y1, q4.rep _ _ y2⟩, fun i d hn _ => by rw [he] at hn; cases hn⟩⟩
    | rt d => exact fun ι' H' v e' S' r' => let ⟨q1, q2, q3, q4⟩ := key e' S'; ⟨q1, h ι' _ v q2 q3 (q4.rep _ _ r')⟩
end
end PL
end
section
set_option Elab.async false
set_option linter.all false
set_option autoImplicit false
set_option maxRecDepth 100000
set_option maxHeartbeats 400000
/-! SoundT: errors raised, caught, read. -/
namespace PL
open PySem PySem.Spec PyProof.Rows L2
section
variable {Γ : Stat} {g : Gd} {cf : CF} {N : Nat} {W : WX} {σ : L2.St} {H : Hp} {a b c : E} {es : Es}
theorem c_errF (n i : Nat) : SndE Γ g cf (.errF n i) := by
  intro sc e W k X hc x
  cases e with
  | Attribute o f p =>
    cases o with
    | Name y py =>
      simp only [chkE, Bool.and_eq_true, decide_eq_true_eq] at hc
      obtain ⟨⟨⟨⟨q1, q2⟩, q3⟩, q4⟩, q5⟩ := hc
      obtain ⟨n1, n2, _⟩ := okN_parts q4
      refine ⟨fun pins s σ H Q I q => ?_⟩
      obtain ⟨ι, ρ, μ, S, R, hw⟩ := q
      have hw : wpR (match ρ[n]? with
        | some (some (.err _ ks fs)) => okI ((ks.findIdx? fun k => k == i).bind fun j => fs[j]?) μ
        | _ => .stuck) (OkV g ι H Q) (exW g W ι H σ) := hw
      split at hw
      · rename_i ms ks fs e0
        obtain ⟨d, e1, h1⟩ := okI_ok hw
        obtain ⟨v, ms', ks', fs', e2, e3, e4⟩ := R.ea n _ (by rw [x.en]; exact q1) e0
        cases e2
        obtain ⟨a, oe, cls, dd, pn, X0, rfl, hz, hf, her⟩ := (x.er n q1).ex
        rw [her] at e4
        obtain ⟨rfl, ec, em, da, xs, ed, exd_, en, ef⟩ := e4
        obtain ⟨fe, fno⟩ := x.fld f i q5
        have T := (x.xfc ms em).toXfC
        have ec' : cls = .ref (g.clsA (ms.headD 0)) := ec
        obtain ⟨j, hj, hd⟩ : ∃ j, (ks.findIdx? fun k => k == i) = some j ∧ fs[j]? = some d := by
          cases hj : ks.findIdx? fun k => k == i with
          | none => rw [hj] at e1; cases e1
          | some j => rw [hj] at e1; exact ⟨j, rfl, e1⟩
        have hki : ks[j]? = some i := by
          have := List.findIdx?_eq_some_iff_getElem.mp hj
          obtain ⟨h, h2, _⟩ := this
          rw [List.getElem?_eq_getElem h]
          simpa using h2
        obtain ⟨w, l1, r1⟩ := ef j i d hki hj hd
        refine (pe_xf (C := g.clsA (ms.headD 0)) (n := f) T (fno ms em) hz.zc hf (pe_var (i := n) (by rw [x.N]; exact q2) (x.vis q3) n1 n2) (base_of rfl)).run pins s σ H Q I ?_
        exact ⟨.ref a, e3, rfl, ec', da, xs, w, ed, exd_, by rw [← fe]; exact l1, OkV.same S h1 r1⟩
      · exact False.elim hw
    | _ => simp [chkE] at hc
  | _ => simp [chkE] at hc
/-- the classes that stand in a row -/
theorem cls_args {k : Nat} {sc : Scope} {X : Cx} (x : XOk Γ g cf W k sc X) : ∀ {cs : List Nat} {l : List Expr}, clsAre Γ sc cs l = true →
    (∀ c ∈ cs, ∀ ms ∈ g.mros, PySem.W.exmOne X.K (.ref (g.clsA (ms.headD 0))) (.ref (g.clsA c)) = some (ms.contains c)) ∧ True ∧
    ∃ t, PA X l t ∧ ∀ σ H Q, Q (cs.map fun c => V.ref (g.clsA c)) H → t σ H Q
  | [], [], _ => ⟨(fun _ z => nomatch z), trivial, tNil, pa_nil, fun _ _ _ h => h⟩
  | c :: cs, .Name z p :: l, h => by
    simp only [clsAre, Bool.and_eq_true, decide_eq_true_eq] at h
    obtain ⟨⟨⟨h1, h2⟩, h3⟩, h4⟩ := h
    obtain ⟨q1, q2, t, q3, q4⟩ := cls_args x h4
    have C := x.hcl z c h3
    refine ⟨fun d hd => ?_, trivial, _, pa_cons (pe_glob (v := .ref (g.clsA c)) (x.glo h1) C.mg rfl (okN_parts h2).1) q3 (star_of rfl), fun σ H Q hq => q4 σ H _ hq⟩
    rcases List.mem_cons.mp hd with rfl | hd
    · exact C.em
    · exact q1 d hd
  | [], _ :: _, h => by simp [clsAre] at h
  | _ :: _, [], h => by simp [clsAre] at h
theorem kit_any_cls {K : PySem.W.Frag} {ms : List Nat} {D : Addr} {f : Nat → Addr} (T : PySem.W.subIn K (.ref D) (.ref D) = some true) : ∀ {cs : List Nat}, (∀ c ∈ cs, PySem.W.exmOne K (.ref D) (.ref (f c)) = some (ms.contains c)) →
    PySem.W.kitAny K (.ref D) ((cs.map f).map Value.ref) = some (cs.any fun c => ms.contains c)
  | [], _ => rfl
  | c :: cs, h => by
    have h1 := kit_of_exm (h c List.mem_cons_self) T
    have h2 := kit_any_cls (f := f) T (cs := cs) fun d hd => h d (List.mem_cons_of_mem _ hd)
    show (match PySem.W.kitOne K (.ref D) (.ref (f c)) with
      | some true => some true
      | some false => PySem.W.kitAny K (.ref D) ((cs.map f).map Value.ref)
      | none => none) = _
    rw [h1, List.any_cons]
    cases ms.contains c with
    | true => rfl
    | false => exact h2
def isTup : Expr → Bool
  | .Tuple _ _ _ => true
  | _ => false
theorem errIs_pe {n : Nat} {cs : List Nat} {k : Nat} {sc : Scope} {X : Cx} {e : Expr} (hc : chkE Γ (.errIs n cs) sc e = true) (x : XOk Γ g cf W k sc X) : PE X e (fun σ H Q => ∃ ι ρ μ, Sim g ι μ H ∧ RepS g ι H ρ σ ∧ wpR (match ρ[n]? with
    | some (some (.err ms _ _)) => Res.ok (cs.any fun c => ms.contains c) μ
    | _ => .stuck) (OkB g ι H fun b H' => Q (.bl b) H') (exW g W ι H σ)) := by
  cases e with
  | Call fe l kw p =>
    cases fe with
    | Name z pz =>
      have key : ∃ y py ce, kw = [] ∧ l = [.Name y py, ce] := by
        rcases kw with _ | ⟨w, kw⟩
        · rcases l with _ | ⟨e1, _ | ⟨e2, _ | ⟨e3, l⟩⟩⟩ <;> first | (simp [chkE] at hc; done) | (cases e1 <;> first | exact ⟨_, _, _, rfl, rfl⟩ | (simp [chkE] at hc; done))
        · rcases l with _ | ⟨e1, _ | ⟨e2, _ | ⟨e3, l⟩⟩⟩ <;> first | (simp [chkE] at hc; done) | (cases e1 <;> simp [chkE] at hc)
      obtain ⟨y, py, ce, rfl, rfl⟩ := key
      · skip
        simp only [chkE, Bool.and_eq_true, decide_eq_true_eq] at hc
        obtain ⟨⟨⟨⟨⟨⟨h1, rfl⟩, q1⟩, q2⟩, q3⟩, q4⟩, h7⟩ := hc
        obtain ⟨b1, b2, b3, b4⟩ := x.blt h1
        obtain ⟨n1, n2, _⟩ := okN_parts q4
        obtain ⟨a, oe, cls, dd, pn, X0, rfl, hz, hf, her⟩ := (x.er n q1).ex
        have pv := pe_var (X := X0.suite a ((a, oe) :: pn)) (i := n) (pos := py) (by rw [x.N]; exact q2) (x.vis q3) n1 n2
        refine ⟨fun pins s σ H Q I q => ?_⟩
        obtain ⟨ι, ρ, μ, S, R, hw⟩ := q
        split at hw
        · rename_i ms ks fs e0
          obtain ⟨v, ms', ks', fs', e2, e3, e4⟩ := R.ea n _ (by rw [x.en]; exact q1) e0
          cases e2
          rw [her] at e4
          obtain ⟨rfl, ec, em, da, xs, ed, exd_, en, ef⟩ := e4
          have ec' : cls = .ref (g.clsA (ms.headD 0)) := ec
          subst ec' ed
          have T := x.xfc ms em
          have fin : Q (.bl (cs.any fun c => ms.contains c)) H := hw ι H (Ext.refl _ _) S
          have rule := call_isX (X := X0) (a := a) (pn := pn) T hz.zc hf
          have ht : ∃ fs', H da = some (.xd fs') := ⟨_, exd_⟩
          obtain ⟨xs', exd_⟩ := ht
          cases hce : isTup ce with
          | true =>
            obtain ⟨l, k0, p0, rfl⟩ : ∃ l k0 p0, ce = .Tuple l k0 p0 := by
              cases ce <;> first | exact ⟨_, _, _, rfl⟩ | cases hce
            rw [clsArg, Bool.and_eq_true, decide_eq_true_eq] at h7
            obtain ⟨h8, h7⟩ := h7
            obtain ⟨c1, c2, t, pt, ht⟩ := cls_args (X := X0.suite a ((a, oe) :: pn)) x h7
            have lim : cs.length ≤ sizeLine := by have := line_most; rw [show mostLen = 1000000 from rfl] at this; omega
            refine (pe_callB rule b1 b2 (by decide +kernel) (pa_cons pv (pa_cons (pe_tup pt) pa_nil (star_of rfl)) (star_of rfl)) b4 b3 (star_of rfl) (by rfl)).run pins s σ H Q I ?_
            refine ⟨_, e3, ht _ _ _ ⟨by rw [List.length_map]; exact lim, fun tp htp => ?_⟩⟩
            have ex := ext_tup S htp (.tup (cs.map fun c => V.ref (g.clsA c)))
            refine ⟨xs', _, ?_, hw ι _ ex (S.tup htp _), .inr ⟨tp, cs.map g.clsA, rfl, ?_, kit_any_cls T.sf fun c hc => c1 c hc ms em⟩⟩
            · rw [upd_ne (fun z => by rw [z, htp] at exd_; cases exd_)]; exact exd_
            · rw [upd_same, List.map_map]; rfl
          | false =>
            have h7 : (decide (cs.length = 1) && clsAre Γ sc cs [ce]) = true := by
              cases ce <;> first | exact h7 | cases hce
            rw [Bool.and_eq_true, decide_eq_true_eq] at h7
            obtain ⟨h8, h7⟩ := h7
            obtain ⟨c1, c2, t, pt, ht⟩ := cls_args (X := X0.suite a ((a, oe) :: pn)) x h7
            match cs, h8, h7, c1, ht, hw with
            | [c], _, h7, c1, ht, hw =>
              have st : NoStar ce = true := by
                cases ce <;> first | rfl | (simp [clsAre] at h7; done)
              have st2 := star_of (l := []) (env := (X0.suite a ((a, oe) :: pn)).env) st
              refine (pe_callB rule b1 b2 (by decide +kernel) (pa_cons pv pt (star_of rfl)) b4 b3 (star_of rfl) (by rw [st2]; rfl)).run pins s σ H Q I ?_
              refine ⟨_, e3, ht _ _ _ ⟨xs', _, exd_, hw ι H (Ext.refl _ _) S, .inl ⟨g.clsA c, rfl, ?_⟩⟩⟩
              have := kit_of_exm (c1 c List.mem_cons_self ms em) T.sf
              rw [this]; simp
        · exact False.elim hw
    | _ => simp [chkE] at hc
  | _ => simp [chkE] at hc
theorem c_errIs (n : Nat) (cs : List Nat) : SndE Γ g cf (.errIs n cs) := by
  intro sc e W k X hc x
  refine PE.imp (errIs_pe hc x) ?_
  rintro σ H Q ⟨ι, ρ, μ, S, R, hw⟩
  have hw : wpR (match ρ[n]? with
    | some (some (.err ms _ _)) => Res.ok (D.bl (cs.any fun c => ms.contains c)) μ
    | _ => .stuck) (OkV g ι H Q) (exW g W ι H σ) := hw
  refine ⟨ι, ρ, μ, S, R, ?_⟩
  split at hw
  · exact fun ι' H' e S' => hw ι' H' (.bl _) e S' rfl
  · exact False.elim hw
theorem t_errIs (n : Nat) (cs : List Nat) : SndT Γ g cf (.errIs n cs) := by
  intro sc e W k X hc x
  have he : ∀ whole, isTrue e X.env whole = (do let v ← whole; standAt e.pos; holding [v] (truthy v)) := by
    intro whole
    cases e with
    | Call fe l kw p => rfl
    | _ => simp [chkE] at hc
  refine PT.imp (pt_val (errIs_pe hc x) he) ?_
  rintro σ H Q ⟨ι, ρ, μ, S, R, hw⟩
  refine ⟨ι, ρ, μ, S, R, wpR_mono hw (fun b μ' h ι' H' e S' => ⟨b, rfl, h ι' H' e S'⟩) fun _ _ z => z⟩
theorem xd_heap {H1 H' : Hp} {a d : Addr} {C : Addr} {l : List (PySem.Str × V)} (ha : H1 a = none) (hd : d ≠ a) (hk : ∀ b, b ≠ a → b ≠ d → H' b = upd H1 a (exo a C none) b) : upd (del H' a) d (.xd l) = upd H1 d (.xd l) := by
  funext b
  by_cases h1 : b = d
  · rw [h1, upd_same, upd_same]
  · rw [upd_ne h1, upd_ne h1]
    by_cases h2 : b = a
    · rw [h2, del_same, ha]
    · rw [del_ne h2, hk b h2 h1, upd_ne h2]
theorem s_rse (ms ks : List Nat) (hs : SndA Γ g cf es) : SndS Γ g cf N (.rse ms ks es) := by
  intro sc st W k X hc x
  have key : ∃ y py e l p p2, st = .Raise (some (.Call (.Name y py) (e :: l) [] p)) none p2 ∧ (!Γ.hot && glB sc y && okN y && decide ((y, ms, ks) ∈ Γ.cls) && chkEs Γ es sc (e :: l) && decide ((e :: l).length = ks.length)) = true := by
    rw [chkS] at hc
    unfold chkRse at hc
    split at hc
    · exact ⟨_, _, _, _, _, _, rfl, hc⟩
    · cases hc
  obtain ⟨y, py, e, l, p, p2, rfl, hh⟩ := key
  simp only [Bool.and_eq_true, decide_eq_true_eq] at hh
  obtain ⟨⟨⟨⟨⟨q0, q1⟩, q2⟩, q3⟩, q4⟩, q5⟩ := hh
  have q0 := notHot q0
  obtain ⟨mg, mro, T, nd, fI, fd, ps, iC, tI, bd, F1⟩ := x.rse y ms ks q3
  have pl : ∃ m mm, es = .cons m mm ∧ chkE Γ m sc e = true ∧ chkEs Γ mm sc l = true := by
    cases es with
    | nil => simp [chkEs] at q4
    | cons m mm =>
      rw [chkEs, Bool.and_eq_true] at q4
      exact ⟨m, mm, rfl, q4.1, q4.2⟩
  obtain ⟨m, mm, rfl, z1, z2⟩ := pl
  have pa := hs sc (e :: l) W k X q4 x
  have hr := x.room q0
  have hk2 := x.k2
  have pass : Passes (L2N.CX X.prog X.w) X (fun _ _ _ => False) := fun pins σ H s e s' I h => by
    obtain ⟨_, _, _, _, _, _, _, _, _, _, _, _, h⟩ := h
    exact h.elim
  refine PS.imp (L2N.ps_raise (x.calm q0) x.tk (pmk_oexN T iC tI F1 (hr.mono (by omega)) bd pass (x.glo q1) mg pa (okN_parts q2).1 (star_of (chk_plain z1).1) (star_plain z2))) ?_
  rintro D σ H ⟨ι, ρ, μ, S, R, hw⟩
  have hw := wpS_of R (show wpS g W D ι H (SRes.of ρ (evs g.C cf (.cons m mm) ρ μ) fun ds μ => if ds.length = ks.length ∧ ks.length ≤ 900 then .exc ⟨ms, ks, ds⟩ ρ μ else .stuck) from hw)
  refine ⟨ι, ρ, μ, S, R, wpR_mono hw (fun ds μ1 h1 ι1 H1 vs e1 S1 r1 => ?_) fun _ _ z => z⟩
  split at h1
  · rename_i hl
    have lv := r1.length
    refine ⟨by omega, fun a ha => ?_⟩
    rw [List.append_nil]
    refine ⟨a, vs, rfl, by rw [List.length_map]; omega, upd_same, fun d H' hd hda h2 ⟨xl, h3, h4⟩ hk => ?_⟩
    have hd1 : H1 d = none := by rw [← hd, upd_ne hda]
    refine ⟨rfl, d, xl, h2, h3, hd1, ?_⟩
    rw [xd_heap ha hda hk]
    have ex := ext_tup S1 hd1 (.xd xl)
    refine h1 ι1 _ σ _ _ (e1.trans ex) (S1.tup hd1 _) ((R.mono e1).mono ex) ⟨rfl, mro, d, xl, rfl, upd_same, S1.notin hd1, fun i kk dv e3 _ e4 => ?_⟩
    obtain ⟨w, e5, e6⟩ := r1.get e4
    exact ⟨w, h4 i _ w (by rw [List.getElem?_map, e3]; rfl) e5, ex.rep _ _ e6⟩
  · exact False.elim h1
/-! ### suites -/
theorem exc_mono {g : Gb} {ι ι' : List Addr} {H H' : Hp} {x : Exc} {c : Value} {d : Option Addr} (e : Ext ι H ι' H') (h : ExcR g ι H x c d) : ExcR g ι' H' x c d := by
  obtain ⟨h0, h1, p, fs, h2, h3, h4, h5⟩ := h
  refine ⟨h0, h1, p, fs, h2, e.keep p _ h3 h4, fun m => ?_, fun i k dv e1 e2 e3 => ?_⟩
  · have := e.fresh p m h4
    rw [h3] at this; cases this
  · obtain ⟨v, e4, e5⟩ := h5 i k dv e1 e2 e3
    exact ⟨v, e4, e.rep _ _ e5⟩
def Gd.suite (g : Gd) (n : Option Nat) (a : Addr) (cls : Value) (d : Option Addr) : Gd where
  toGb := g.toGb
  en := n
  er := erR g.toGb a cls d
  erm := fun _ _ _ _ _ _ _ _ e h => ⟨h.1, exc_mono e h.2⟩
theorem RepS.other {g g' : Gd} {ι : List Addr} {H : Hp} {ρ : PL.Env} {σ : L2.St} (hb : g'.toGb = g.toGb) (h : g.en = none) (h' : g'.en = none) (r : RepS g ι H ρ σ) : RepS g' ι H ρ σ :=
  ⟨r.len, fun i d _ e => by rw [hb]; exact r.at_ i d (by rw [h]; simp) e, fun i d n _ => by rw [h'] at n; cases n⟩
def clOf (g : Gd) (cf : CF) (N : Nat) : Hs → List Cl
  | .nil => []
  | .cons c n b hs => ⟨.ref (g.clsA c), n, fun a cls d => semB (g.suite n a cls d) cf N noW b⟩ :: clOf g cf N hs
theorem wpS_noExc {D : Ends} {ι : List Addr} {r : SRes} {n : Option Nat} {a : Addr} {cls : Value} {d : Option Addr} (he : g.en = none) (h : wpS g W D ι H (noExc r)) : wpS (g.suite none a cls d) noW D ι H r := by
  cases r with
  | stuck => exact h
  | exc x ρ μ => exact False.elim h
  | go f ρ μ =>
    cases f with
    | nx => exact fun ι' H' σ' e S R => h ι' H' σ' e S (RepS.other (g := g.suite none a cls d) (g' := g) rfl rfl he R)
    | bk => exact fun ι' H' σ' e S R => h ι' H' σ' e S (RepS.other (g := g.suite none a cls d) (g' := g) rfl rfl he R)
    | ct => exact fun ι' H' σ' e S R => h ι' H' σ' e S (RepS.other (g := g.suite none a cls d) (g' := g) rfl rfl he R)
    | rt d => exact fun ι' H' v e S r => h ι' H' v e S r
theorem RepS.unset {ι : List Addr} {ρ : PL.Env} {i : Nat} {a : Addr} {cls : Value} {d : Option Addr} (he : g.en = none) (r : RepS (g.suite (some i) a cls d) ι H ρ σ) : RepS g ι H (ρ.set i none) (σ.set i none) := by
  have r2 := r.drop i
  refine ⟨r2.len, fun j e _ h => ?_, fun j e n _ => by rw [he] at n; cases n⟩
  have hij : i ≠ j := by
    intro z
    subst z
    by_cases hl : i < ρ.length
    · rw [List.getElem?_set_self hl] at h; cases h
    · rw [List.getElem?_eq_none (by simp; omega)] at h; cases h
  exact r2.at_ j e (fun z => hij (Option.some.inj z)) h
theorem wpS_unset {D : Ends} {ι : List Addr} {r : SRes} {i : Nat} {a : Addr} {cls : Value} {d : Option Addr} (he : g.en = none) (h : wpS g W D ι H (unset i r)) : wpS (g.suite (some i) a cls d) noW (goneD i D) ι H r := by
  cases r with
  | stuck => exact h
  | exc x ρ μ => exact False.elim h
  | go f ρ μ =>
    cases f with
    | nx => exact fun ι' H' σ' e S R => h ι' H' _ e S (R.unset he)
    | bk => exact fun ι' H' σ' e S R => h ι' H' _ e S (R.unset he)
    | ct => exact fun ι' H' σ' e S R => h ι' H' _ e S (R.unset he)
    | rt d => exact fun ι' H' v e S r => h ι' H' v e S r
def SndHs (cf : CF) (N : Nat) : Hs → Prop
  | .nil => True
  | .cons c n b hs => (∀ Γ g, SndB Γ g cf N b) ∧ SndHs cf N hs
theorem XOkS.suite {k : Nat} {sc : Scope} {X : Cx} (x : XOkS Γ g cf W k sc X) (h0 : Γ.hot = false) (n : Option Nat) {a : Addr} {oe : PySem.Obj} {cls : Value} {d : Option Addr} {pn : List (Addr × PySem.Obj)} (hz : L2N.Zn cls d oe) (hf : ∃ vs, oe.data = .fields vs) :
    XOkS (Γ.suite n) (g.suite n a cls d) cf noW k sc (X.suite a ((a, oe) :: pn)) where
  N := x.N
  nd := x.nd
  P := x.P
  w := x.w
  K := x.K
  calm := fun h => Bool.noConfusion (show true = false from h)
  room := fun h => Bool.noConfusion (show true = false from h)
  un := x.un
  hc := fun _ => by
    obtain ⟨vs, hf⟩ := hf
    exact ⟨(a, oe), ⟨rfl, vs, hf, hz.2.2 vs hf⟩, List.mem_cons_self ..⟩
  rmH := fun _ => L2H.roomH_mark (x.room h0) _
  k2 := x.k2
  en := rfl
  hotE := fun h => Bool.noConfusion (show true = false from h)
  er := fun _ _ => ⟨a, oe, cls, d, pn, X, rfl, hz, hf, rfl⟩
  tk := takesN_none
  po := PassesOwn.never
  loc := x.loc
  cel := x.cel
  fre := x.fre
  gl := x.gl
  mgS := x.mgS
  mgI := x.mgI
  mgC := x.mgC
  mgB := x.mgB
  bk := x.bk
  fnk := x.fnk
  rse := fun y ms ks h => let r := x.rse y ms ks h; ⟨r.mg, r.mro, r.T, r.nd, r.ini⟩
  hcl := fun y c h => let r := x.hcl y c h; ⟨r.mg, r.em⟩
  fld := fun f i h => let r := x.fld f i h; ⟨r.eq, r.no⟩
  xfc := x.xfc
  stk := x.stk
  frm := x.frm
theorem XOkS.tr {k : Nat} {sc : Scope} {X : Cx} (x : XOkS Γ g cf W k sc X) (h0 : Γ.hot = false) {W' : WX} {pn : List (Addr × PySem.Obj)} {xe : Value → Shared → Prop} (tk : L2N.Takes (X.tr pn xe) W') (po : PassesOwn (model X.prog X.w) X.A X.env xe) : XOkS Γ g cf W' k sc (X.tr pn xe) where
  N := x.N
  nd := x.nd
  P := x.P
  w := x.w
  K := x.K
  calm := x.calm
  room := x.room
  un := x.un
  hc := fun h => by rw [h0] at h; cases h
  rmH := fun h => by rw [h0] at h; cases h
  k2 := x.k2
  en := x.en
  hotE := x.hotE
  er := fun n h => by rw [x.hotE h0] at h; cases h
  tk := tk
  po := po
  loc := x.loc
  cel := x.cel
  fre := x.fre
  gl := x.gl
  mgS := x.mgS
  mgI := x.mgI
  mgC := x.mgC
  mgB := x.mgB
  bk := x.bk
  fnk := x.fnk
  rse := fun y ms ks h => let r := x.rse y ms ks h; ⟨r.mg, r.mro, r.T, r.nd, r.ini⟩
  hcl := fun y c h => let r := x.hcl y c h; ⟨r.mg, r.em⟩
  fld := fun f i h => let r := x.fld f i h; ⟨r.eq, r.no⟩
  xfc := x.xfc
  stk := x.stk
  frm := x.frm
theorem cls_ok {k : Nat} {sc : Scope} {X : Cx} (x : XOkS Γ g cf W k sc X) (h0 : Γ.hot = false) : ∀ {hs : Hs} {hds : List ExceptHandler}, SndHs cf N hs → chkHs Γ hs sc hds = true → ClsOk X hds (clOf g cf N hs)
  | .nil, hds, _, hc => by
    cases hds with
    | nil => exact .nil
    | cons _ _ => simp [chkHs] at hc
  | .cons c n b hs, hds, hS, hc => by
    cases hds with
    | nil => simp [chkHs] at hc
    | cons h hds =>
      obtain ⟨ty, nm, l, p⟩ := h
      have nms : ∀ {y : PySem.Str}, glB sc y = true → okN y = true → (y, c) ∈ Γ.hcl → Names X y (.ref (g.clsA c)) := fun {y} q1 q2 q3 => ⟨x.glo q1, (okN_parts q2).1, .inl (x.hcl y c q3).mg⟩
      cases n with
      | none =>
        rcases ty with _ | ty
        · simp [chkHs] at hc
        cases ty with
        | Name y py =>
          cases nm with
          | some _ => simp [chkHs] at hc
          | none =>
            cases l with
            | nil => simp [chkHs] at hc
            | cons s l =>
              simp only [chkHs, Bool.and_eq_true, decide_eq_true_eq] at hc
              obtain ⟨⟨⟨⟨q1, q2⟩, q3⟩, q4⟩, q5⟩ := hc
              exact .cons (.bare (nms q1 q2 q3) rfl fun a oe cls d pn hz hf => hS.1 _ _ sc (s :: l) noW k _ q4 (x.suite h0 none hz hf)) (cls_ok x h0 hS.2 q5)
        | _ => simp [chkHs] at hc
      | some i =>
        rcases ty with _ | ty
        · simp [chkHs] at hc
        cases ty with
        | Name y py =>
          cases nm with
          | none => simp [chkHs] at hc
          | some z =>
            cases l with
            | nil => simp [chkHs] at hc
            | cons s l =>
              simp only [chkHs, Bool.and_eq_true, decide_eq_true_eq] at hc
              obtain ⟨⟨⟨⟨⟨⟨q1, q2⟩, q3⟩, q6⟩, q7⟩, q4⟩, q5⟩ := hc
              have kz : X.env.kindOf z = some .local := by
                unfold locO at q7
                split at q7
                · exact x.loc _ (by assumption)
                · cases q7
              exact .cons (.named (i := i) (nms q1 q2 q3) rfl (by rw [x.N]; exact q6) kz fun a oe cls d pn hz hf => hS.1 _ _ sc (s :: l) noW k _ q4 (x.suite h0 (some i) hz hf)) (cls_ok x h0 hS.2 q5)
        | _ => simp [chkHs] at hc
theorem exh_wp {K : PySem.W.Frag} {D : Ends} (he : g.en = none) {x : Exc} {cls : Value} {d : Option Addr} {ι : List Addr} {ρ : PL.Env} {μ : Store} (S : Sim g ι μ H) (R : RepS g ι H ρ σ) (hx : ExcR g ι H x cls d) {sc : Scope} (em : ∀ y c, (y, c) ∈ Γ.hcl → PySem.W.exmOne K cls (.ref (g.clsA c)) = some (x.ms.contains c)) :
    ∀ {hs : Hs} {hds : List ExceptHandler}, chkHs Γ hs sc hds = true → wpS g W D ι H (exh g.C cf N hs x ρ μ) → wCl K W D (clOf g cf N hs) cls d σ H
  | .nil, hds, _, h => h ι H σ _ _ (Ext.refl _ _) S R hx
  | .cons c n b hs, hds, hc, h => by
    have hm : ∃ y hds', (y, c) ∈ Γ.hcl ∧ chkHs Γ hs sc hds' = true := by
      cases hds with
      | nil => simp [chkHs] at hc
      | cons h hds =>
        obtain ⟨ty, nm, l, p⟩ := h
        rcases ty with _ | ty
        · cases n <;> simp [chkHs] at hc
        cases ty with
        | Name y py =>
          cases n with
          | none =>
            cases nm with
            | some _ => simp [chkHs] at hc
            | none =>
              cases l with
              | nil => simp [chkHs] at hc
              | cons s l =>
                simp only [chkHs, Bool.and_eq_true, decide_eq_true_eq] at hc
                exact ⟨y, hds, hc.1.1.2, hc.2⟩
          | some i =>
            cases nm with
            | none => simp [chkHs] at hc
            | some z =>
              cases l with
              | nil => simp [chkHs] at hc
              | cons s l =>
                simp only [chkHs, Bool.and_eq_true, decide_eq_true_eq] at hc
                exact ⟨y, hds, hc.1.1.1.1.2, hc.2⟩
        | _ => cases n <;> simp [chkHs] at hc
    obtain ⟨y, hds', m1, m2⟩ := hm
    have e := em y c m1
    have h : wpS g W D ι H (if x.ms.contains c then match (generalizing := false) n with
      | none => noExc (exs g.C cf N b ρ μ)
      | some i => unset i (exs g.C cf N b (ρ.set i (some (.err x.ms x.ks x.fs))) μ)
      else exh g.C cf N hs x ρ μ) := h
    by_cases hq : x.ms.contains c = true
    · rw [if_pos hq] at h
      refine .inl ⟨by rw [← hq]; exact e, fun a ha => ?_⟩
      cases n with
      | none => exact ⟨ι, ρ, μ, S, RepS.other (g := g) (g' := g.suite none a cls d) rfl he rfl R, wpS_noExc (n := none) he h⟩
      | some i =>
        refine ⟨ι, _, μ, S, ?_, wpS_unset he h⟩
        refine ⟨by simp [R.len], fun j dv hn hj => ?_, fun j dv hn hj => ?_⟩
        · have hij : i ≠ j := fun z => hn (by rw [z]; rfl)
          rw [List.getElem?_set_ne hij] at hj
          obtain ⟨v, h1, h2⟩ := R.at_ j dv (by rw [he]; simp) hj
          exact ⟨v, by rw [List.getElem?_set_ne hij]; exact h1, h2⟩
        · have hij : i = j := Option.some.inj hn
          subst hij
          by_cases hl : i < ρ.length
          · rw [List.getElem?_set_self hl] at hj
            cases hj
            exact ⟨.ref a, _, _, _, rfl, List.getElem?_set_self (by rw [← R.len]; exact hl), rfl, hx⟩
          · rw [List.getElem?_eq_none (by simp; omega)] at hj; cases hj
    · have hq : x.ms.contains c = false := by simpa using hq
      rw [hq] at h
      exact .inr ⟨by rw [← hq]; exact e, exh_wp he S R hx em m2 h⟩
theorem s_tr {b : Ss} {hs : Hs} (hb : WX → SndB Γ g cf N b) (hh : SndHs cf N hs) : SndS Γ g cf N (.tr b hs) := by
  intro sc st W k X hc x
  have key : ∃ body h hds p, st = .Try body (h :: hds) [] [] p ∧ (!Γ.hot && chkSs Γ b sc body && chkHs Γ hs sc (h :: hds)) = true := by
    rw [chkS] at hc
    split at hc
    · rename_i body hds e
      unfold tryParts at e
      split at e
      · cases e; exact ⟨_, _, _, _, rfl, hc⟩
      · cases e
    · cases hc
  obtain ⟨body, h, hds, p, rfl, hh2⟩ := key
  simp only [Bool.and_eq_true] at hh2
  obtain ⟨⟨q0, q1⟩, q2⟩ := hh2
  have q0 := notHot q0
  have he : g.en = none := by rw [x.en, x.hotE q0]
  refine PS.imp (ps_tryC (tb := fun W' => semB g cf N W' b) x.stk x.frm x.nd x.tk (fun W' pn xe tk po => hb W' sc body W' k _ q1 (x.tr q0 tk po)) (cls_ok x q0 hh q2)) ?_
  rintro D σ H ⟨ι, ρ, μ, S, R, hw⟩
  have hw : wpS g W D ι H (match exs g.C cf N b ρ μ with
    | .exc x ρ' μ' => exh g.C cf N hs x ρ' μ'
    | r => r) := hw
  refine ⟨ι, ρ, μ, S, R, ?_⟩
  cases e : exs g.C cf N b ρ μ with
  | stuck => rw [e] at hw; exact hw
  | go f ρ' μ' =>
    rw [e] at hw
    cases f <;> exact hw
  | exc y ρ' μ' =>
    rw [e] at hw
    intro ι' H' σ' c d e' S' R' hx
    refine exh_wp (Γ := Γ) he S' R' hx (fun z c' hm => ?_) q2 (wpS_mono e' hw)
    obtain ⟨ec, em, _⟩ := hx
    rw [ec]
    exact (x.hcl z c' hm).em y.ms em
end
end PL
end
section
set_option Elab.async false
set_option linter.all false
set_option autoImplicit false
set_option maxRecDepth 100000
set_option maxHeartbeats 400000
/-! Sound12: loops, assignments; all of Mini. -/
namespace PL
open PySem PySem.Spec PyProof.Rows L2
section
variable {Γ : Stat} {g : Gd} {cf : CF} {N : Nat} {W : WX} {σ : L2.St} {H : Hp} {a b c : E} {es : Es}
theorem chkI_set {it : PL.It} {sc : Scope} {iter : Expr} (h2 : chkI Γ it sc iter = true) : NoSet iter = true := by
  cases it with
  | val a => rw [chkI] at h2; exact (chk_plain h2).2.1
  | rng a => cases iter <;> first | rfl | simp [chkI] at h2
  | rng2 a b => cases iter <;> first | rfl | simp [chkI] at h2
  | rng3 a b c => cases iter <;> first | rfl | simp [chkI] at h2
  | keys i => cases iter <;> first | rfl | simp [chkI] at h2
  | rev a => cases iter <;> first | rfl | simp [chkI] at h2
theorem s_fr {t : T} {it : PL.It} {s : Ss} (ht : SndG Γ g cf t) (hi : isK it = false → SndI Γ g cf it) (hh : SndIH Γ g cf it) (h1 : SndB Γ g cf N s) : SndS Γ g cf N (.fr t it s) := by
  intro sc st W k X hc x
  cases st with
  | For tg iter l r p =>
    cases r with
    | cons _ _ => simp [chkS] at hc
    | nil =>
      rw [chkS, Bool.and_eq_true, Bool.and_eq_true, Bool.and_eq_true] at hc
      obtain ⟨⟨⟨h0, hc1⟩, hc2⟩, hc3⟩ := hc
      have hc : (chkT Γ t sc tg = true ∧ chkI Γ it sc iter = true) ∧ chkSs Γ s sc l = true := ⟨⟨hc1, hc2⟩, hc3⟩
      have nf : ∀ y : Value, foldedSetIterable iter X.env y = pure y := fun y => fold_of (chkI_set hc.1.2) y
      have pg := ht sc tg W k X hc.1.1 x
      have pb := h1 sc l W k X hc.2 x
      have body : isK it = false → ∀ D σ H, semS g cf N W (.fr t it s) D σ H → tFor (semI g cf W it) (semG g cf W t) (semB g cf N W s) D σ H := by
        rintro hK D σ H ⟨ι, ρ, μ, S, R, hw⟩
        have hw := wpS_of R (show wpS g W D ι H (SRes.of ρ (evI g.C cf it ρ μ) fun w μ => unlock w (forL w (asgT g.C cf t) (exs g.C cf N s) w.items ρ (w.start μ))) from hw)
        refine ⟨ι, ρ, μ, S, R, wpR_mono (evI_plain hK hw) (fun w μ1 h ι1 H1 J e1 S1 hJ => ?_) fun _ _ z => z⟩
        obtain ⟨h, hlk⟩ := h
        rw [unlock_plain hlk, (start_plain hlk μ1).1] at h
        exact for_core hJ S1 (R.mono e1) (wpS_mono e1 h)
      cases hot : Γ.hot with
      | true =>
        have hr : isR it = true := by rw [hot] at h0; simpa using h0
        have hK : isK it = false := by cases it <;> first | rfl | cases hr
        exact PS.imp (L2H.ps_forH x.po (x.hc hot) (hh hr sc tg iter W k X hc.1.2 x) pg pb nf) (body hK)
      | false =>
      clear h0
      have h0 := hot
      by_cases hK : isK it = false
      · exact PS.imp (ps_for x.po (x.calm h0) (hi hK sc tg iter W k X hc.1.2 x) pg pb nf) (body hK)
      · cases it with
        | keys i =>
          refine PS.imp (ps_lock (ps_for x.po (x.calm h0) (keys_walk x.toXOk hc.1.2) pg pb nf)) ?_
          rintro D σ H ⟨ι, ρ, μ, S, R, hw⟩
          have hw := wpS_of R (show wpS g W D ι H (SRes.of ρ (evI g.C cf (.keys i) ρ μ) fun w μ => unlock w (forL w (asgT g.C cf t) (exs g.C cf N s) w.items ρ (w.start μ))) from hw)
          obtain ⟨w, dp, u, l', hw1, L⟩ := keys_sem (W := W) S R hw
          refine ⟨dp, u, L.at_, L.mu, fun od => ?_⟩
          obtain ⟨Sl, el, hgo⟩ := L.go od
          refine hgo _ fun J ι1 H1 e1 S1 hJ => ?_
          exact for_core hJ S1 ((R.mono el).mono e1) (wpS_unlock (by rw [x.en, x.hotE h0]) L.un L.ix L.at_ L.nt L.nf e1 L.ck hw1)
        | _ => exact absurd rfl hK
  | _ => simp [chkS] at hc
/-! ### assignments -/
theorem asg_sem {t : T} {D : Ends} (h : semS g cf N W (.asg t a) D σ H) : tAsg (semE g cf W a) (semG g cf W t) D σ H := by
  obtain ⟨ι, ρ, μ, S, R, hw⟩ := h
  have hw := wpS_of R (show wpS g W D ι H (SRes.of ρ (ev g.C cf a ρ μ) fun d μ => SRes.of ρ (asgT g.C cf t d ρ μ) fun ρ μ => .go .nx ρ μ) from hw)
  refine ⟨ι, ρ, μ, S, R, wpR_mono hw (fun d μ1 h1 ι1 H1 v1 e1 S1 r1 => ?_) fun _ _ z => z⟩
  have h1 := wpS_of (R.mono e1) (wpS_mono e1 h1)
  exact ⟨ι1, ρ, μ1, d, S1, R.mono e1, r1, wpR_mono h1 (fun ρ2 μ2 h2 ι2 H2 σ2 e2 S2 R2 _ => h2 ι2 H2 σ2 e2 S2 R2) fun _ _ z => z⟩
/-- with the parts of a comprehension at hand -/
structure Lc (Γ : Stat) (g : Gd) (cf : CF) (e : E) : Prop where
  at_ : ∀ t it k e' own, e = .comp t it k e' own → SndG Γ g cf t ∧ (isK it = false → SndI Γ g cf it) ∧ SndC Γ g cf k ∧ SndE Γ g cf e'
theorem swap_pairs {k : Nat} {sc : Scope} {X : Cx} (x : XOk Γ g cf W k sc X) {tg val : Expr} (h : notTT sc tg val = true) : swappedStores [tg] val X.env = pure none := by
  have other : ∀ {tg val : Expr}, notTT sc tg val = true → (∀ ts a b vs c d, tg = .Tuple ts a b → val = .Tuple vs c d → False) → swappedStores [tg] val X.env = pure none := by
    intro tg val h hn
    unfold swappedStores
    cases tg <;> first | rfl | (cases h; done) | skip
    cases val <;> first | rfl | skip
    exact (hn _ _ _ _ _ _ rfl rfl).elim
  by_cases hh : ∃ ts a b vs c d, tg = .Tuple ts a b ∧ val = .Tuple vs c d
  · obtain ⟨ts, a, b, vs, c, d, rfl, rfl⟩ := hh
    have h : (vs.all (foldedForSure 8) || ts.any (celN sc)) = true := h
    rw [swappedStores.eq_1]
    split
    · rfl
    · split
      · rfl
      · simp only []
        split
        · rfl
        · rename_i h3
          rw [Bool.or_eq_true] at h
          rcases h with h | h
          · rw [if_pos h]
          · exfalso
            apply h3
            obtain ⟨e, he, hc⟩ := List.any_eq_true.mp h
            have hn : ∀ (f : Expr → Option PySem.Str), f e = none → (ts.filterMap f).length ≠ ts.length := by
              intro f hf hl
              have := List.filterMap_length_eq_length.mp hl e he
              rw [hf] at this; cases this
            rw [Bool.or_eq_true]
            left
            have := hn (fun x => match x with
              | .Name id pos => if (X.env.kindOf id == some NameKind.local && pos.line == (Option.map (fun x => x.pos.line) ts.head?).getD 0) = true then some id else none
              | x => none) (by
                cases e with
                | Name y py =>
                  have hy : sc.names.lookup y = some .cell := by
                    have : (sc.names.lookup y == some .cell) = true := hc
                    simpa using this
                  show (if (X.env.kindOf y == some NameKind.local && _) = true then some y else none) = none
                  rw [show X.env.kindOf y = some .cell from (x.cel _ hy).1]
                  rfl
                | _ => rfl)
            rw [bne_iff_ne]
            exact this
  · exact other h fun ts a b vs c d e1 e2 => hh ⟨ts, a, b, vs, c, d, e1, e2⟩
theorem asg_each {tg : Expr} {env : PySem.Env} (h : NoStar tg = true) : List.map (fun x => x.snd) (assignEach [tg] env) = [assign tg env] := by
  cases tg <;> first | rfl | cases h
theorem sw_noLc {tg val : Expr} {line : Nat} {env : PySem.Env} (h : NoLc val = true) : swapsWithSole [tg] val line env = pure false := by
  unfold swapsWithSole swapsWith
  cases val <;> first | rfl | cases h
theorem sw_plain {k : Nat} {sc scope : Scope} {X : Cx} {y : PySem.Str} {py p : Pos} {el : Expr} {gens : List Comprehension} {line : Nat} (x : XOk Γ g cf W k sc X) (h : lcPlain sc scope y py p = true) : swapsWithSole [.Name y py] (.ListComp el gens scope p) line X.env = pure false := by
  show swapsWith (.ListComp el gens scope p) (some (.Name y py)) line X.env = pure false
  show (pure (X.env.blockKind == .function && X.env.kindOf y == some .local && py.line == p.line && !(scope.names.any fun q => q.1 == y && (q.2 == .local || q.2 == .cell))) : Sem Bool) = pure false
  unfold lcPlain at h
  rw [Bool.or_eq_true, Bool.or_eq_true] at h
  rcases h with (h | h) | h
  · rw [h]; simp
  · have h : (py.line == p.line) = false := by simpa using h
    rw [h]; simp
  · have h : sc.names.lookup y = some .cell := by simpa using h
    have h2 : X.env.kindOf y = some .cell := (x.cel _ h).1
    rw [h2]
    have : ((some NameKind.cell : Option NameKind) == some NameKind.local) = false := rfl
    rw [this]; simp
theorem comp_parts {t : T} {it : PL.It} {k : Ec} {e : E} {own : List Nat} {sc scope : Scope} {el : Expr} {gens : List Comprehension} {p : Pos} (hc : chkE Γ (.comp t it k e own) sc (.ListComp el gens scope p) = true) :
    ∃ tg iter ifs, gens = [⟨tg, iter, ifs, 0⟩] ∧ Γ.hot = false ∧ chkT Γ t scope tg = true ∧ chkI Γ it sc iter = true ∧ chkC Γ k scope ifs = true ∧ chkE Γ e scope el = true ∧ blkC Γ.N sc scope (ownOf Γ.N own) = true ∧ tOwn t own = true := by
  rcases gens with _ | ⟨⟨tg, iter, ifs, as⟩, _ | ⟨g2, gens⟩⟩
  · simp [chkE] at hc
  · by_cases ha0 : as = 0
    · subst ha0
      have hc : (!Γ.hot && chkT Γ t scope tg && chkI Γ it sc iter && chkC Γ k scope ifs && chkE Γ e scope el && blkC Γ.N sc scope (ownOf Γ.N own) && tOwn t own) = true := by
        rw [chkE] at hc
        · exact hc
        all_goals simp
      simp only [Bool.and_eq_true] at hc
      obtain ⟨⟨⟨⟨⟨⟨h0, h1⟩, h2⟩, h3⟩, h4⟩, h5⟩, h6⟩ := hc
      exact ⟨tg, iter, ifs, rfl, notHot h0, h1, h2, h3, h4, h5, h6⟩
    · rw [chkE] at hc
      · cases hc
      all_goals (intros; simp_all)
  · simp [chkE] at hc
theorem s_asg {t : T} (ht : SndG Γ g cf t) (ha : SndE Γ g cf a) (hl : Lc Γ g cf a) : SndS Γ g cf N (.asg t a) := by
  intro sc st W k X hc x
  cases st with
  | Assign tgs val p =>
    rcases tgs with _ | ⟨tg, _ | ⟨tg2, tgs⟩⟩
    · simp [chkS] at hc
    · have hc : (chkT Γ t sc tg && chkE Γ a sc val && notTT sc tg val && asgOk (noKeys a) sc val tg) = true := by
        rw [chkS] at hc
        · exact hc
        all_goals simp
      simp only [Bool.and_eq_true] at hc
      obtain ⟨⟨⟨h1, h2⟩, h3⟩, h4⟩ := hc
      have ns : NoStar tg = true := by cases tg <;> first | rfl | (cases val <;> cases h3)
      by_cases hn : NoLc val = true
      · exact PS.imp (ps_asg (ha sc val W k X h2 x) (ht sc tg W k X h1 x) (sw_noLc hn) (swap_pairs x.toXOk h3) (asg_each ns)) fun D σ H h => asg_sem h
      · have hv : ∃ el gens scope q, val = .ListComp el gens scope q := by
          cases val with
          | ListComp el gens scope q => exact ⟨_, _, _, _, rfl⟩
          | _ => first | exact absurd rfl hn | (simp [chkE] at h2; done) | (cases a <;> simp [chkE] at h2)
        obtain ⟨el, gens, scope, q, rfl⟩ := hv
        cases tg with
        | Name y py =>
          have h4 : (lcPlain sc scope y py q || (locO sc y && noKeys a)) = true := h4
          by_cases hp : lcPlain sc scope y py q = true
          · exact PS.imp (ps_asg (ha sc _ W k X h2 x) (ht sc _ W k X h1 x) (sw_plain x.toXOk hp) (swap_pairs x.toXOk h3) (asg_each ns)) fun D σ H h => asg_sem h
          · have hp' : lcPlain sc scope y py q = false := by simpa using hp
            rw [hp', Bool.false_or, Bool.and_eq_true] at h4
            obtain ⟨h4, h5⟩ := h4
            have hloc : sc.names.lookup y = some .local := by
              unfold locO at h4
              split at h4
              · assumption
              · cases h4
            have sw : swapsWith (.ListComp el gens scope q) (some (.Name y py)) p.line X.env = pure true := by
              show (pure (X.env.blockKind == .function && X.env.kindOf y == some .local && py.line == q.line && !(scope.names.any fun q => q.1 == y && (q.2 == .local || q.2 == .cell))) : Sem Bool) = pure true
              unfold lcPlain at hp'
              rw [Bool.or_eq_false_iff, Bool.or_eq_false_iff] at hp'
              have e1 : (py.line == q.line) = true := by simpa using hp'.1.2
              rw [hp'.1.1, e1, x.bk, show X.env.kindOf y = some .local from x.loc _ hloc]
              rfl
            cases a with
            | comp t' it k' e' own =>
              cases t with
              | nm i =>
                rw [chkT, Bool.and_eq_true, Bool.and_eq_true, decide_eq_true_eq] at h1
                have hne := x.ne h1.2
                obtain ⟨y1, y2, y3, y4⟩ := hl.at_ _ _ _ _ _ rfl
                obtain ⟨tg', iter, ifs, rfl, b0, b1, b2, b3, b4, b5, b6⟩ := comp_parts h2
                have hK : isK it = false := by simpa [noKeys] using h5
                have bo := blk_ok x.toXOk b5
                have sk : scope.kind = ScopeKind.function := bo.kind
                have nf : ∀ y : Value, foldedSetIterable iter X.env y = pure y := fun y => fold_of (chkI_set b2) y
                refine PS.imp (ps_setLc (i := i) (x.calm b0) x.nd (by rw [x.N]; exact h1.1.1) (x.loc _ hloc) sw (y2 hK sc tg' iter W k X b2 x) bo
                  (fun s H C cl fp => y1 scope tg' noW k _ b1 (x.blk b0 sk s H C cl fp)) (fun s H C cl fp => y3 scope ifs noW k _ b3 (x.blk b0 sk s H C cl fp)) (fun s H C cl fp => y4 scope el noW k _ b4 (x.blk b0 sk s H C cl fp)) nf) ?_
                rw [ownOf_snd]
                rintro D σ H ⟨ι, ρ, μ, S, R, hw⟩
                have hw := wpS_of R (show wpS g W D ι H (SRes.of ρ (ev g.C cf (.comp t' it k' e' own) ρ μ) fun d μ => .go .nx (ρ.set i (some d)) μ) from hw)
                exact comp_sem hK b6 ⟨ι, ρ, μ, S, R, wpR_mono hw (fun d μ1 h1 ι1 H1 v1 e1 S1 r1 => h1 ι1 H1 _ e1 S1 ((R.mono e1).set i hne r1)) fun _ _ z => z⟩
              | _ => simp [chkT] at h1
            | _ => simp [chkE] at h2
        | _ => exact absurd h4 hn
    · simp [chkS] at hc
  | _ => simp [chkS] at hc
theorem two_names {z y : PySem.Str} (p2 : (z == y) = false) : ([z, y].eraseDups).length = 2 := by
  have p3 : (y == z) = false := by rw [BEq.comm]; exact p2
  rw [List.eraseDups_cons]
  have : List.filter (fun b => !(b == z)) [y] = [y] := by rw [List.filter_cons, p3]; rfl
  rw [this, List.eraseDups_cons]
  rfl
theorem names_two {env : PySem.Env} {z y : PySem.Str} {px py : Pos} (kz : env.kindOf z = some .local) (ky : env.kindOf y = some .local) (e1 : (py.line == px.line) = true) : ([Expr.Name z px, Expr.Name y py].filterMap fun
    | .Name id pos => if env.kindOf id == some .local && pos.line == px.line then some id else none
    | _ => none) = [z, y] := by
  have e0 : ((some NameKind.local : Option NameKind) == some NameKind.local) = true := rfl
  have e2 : (px.line == px.line) = true := BEq.rfl
  simp only [List.filterMap_cons, List.filterMap_nil, kz, ky, e0, e1, e2, Bool.and_self, if_true]
theorem no_stars {u v : Expr} (hu : NoStar u = true) (hv : NoStar v = true) : ([u, v].any fun | .Starred .. => true | _ => false) = false := by
  cases u <;> first | (cases hu; done) | (cases v <;> first | (cases hv; done) | rfl)
theorem swap_par {env : PySem.Env} {z y : PySem.Str} {px py pt pt2 : Pos} {kt k2 : Nat} {u v : Expr} (kz : env.kindOf z = some .local) (ky : env.kindOf y = some .local) (hu : NoStar u = true) (hv : NoStar v = true) (e1 : (py.line == px.line) = true) (p2 : (z == y) = false) (f3 : (foldedForSure 8 u && foldedForSure 8 v) = false) (f4 : (constantsAlone 8 u && constantsAlone 8 v) = false) (hb : env.blockKind = .function) :
    swappedStores [.Tuple [.Name z px, .Name y py] kt pt] (.Tuple [u, v] k2 pt2) env = pure (some [z, y]) := by
  have bk : (env.blockKind != .function) = false := by rw [hb]; rfl
  have f3' : [u, v].all (foldedForSure 8) = false := by rw [List.all_cons, List.all_cons, List.all_nil, Bool.and_true]; exact f3
  have f4' : [u, v].all (constantsAlone 8) = false := by rw [List.all_cons, List.all_cons, List.all_nil, Bool.and_true]; exact f4
  have s1 := no_stars hu hv
  have s2 := names_two kz ky e1
  rw [swappedStores.eq_1, bk]
  refine (if_neg (fun h => Bool.noConfusion (show false = true from h))).trans ?_
  refine (if_neg (fun h => Bool.noConfusion (s1.symm.trans h))).trans ?_
  have hd : (Option.map (fun x : Expr => x.pos.line) ([Expr.Name z px, Expr.Name y py] : List Expr).head?).getD 0 = px.line := rfl
  simp only []
  rw [hd]
  generalize hn : List.filterMap _ [Expr.Name z px, Expr.Name y py] = nm
  have : nm = [z, y] := hn.symm.trans s2
  subst this
  rw [two_names p2, f3', f4']
  rfl
theorem s_par (i j : Nat) (ha : SndE Γ g cf a) (hb : SndE Γ g cf b) : SndS Γ g cf N (.par i j a b) := by
  intro sc st W k X hc x
  have key : ∃ z px y py kt pt u v k2 pt2 p, st = .Assign [.Tuple [.Name z px, .Name y py] kt pt] (.Tuple [u, v] k2 pt2) p ∧ (!Γ.hot && decide (Γ.N[i]? = some z) && decide (Γ.N[j]? = some y) && locO sc z && locO sc y && chkE Γ a sc u && chkE Γ b sc v && parOk px py pt z y u v && decide (i ≠ j)) = true := by
    rw [chkS.eq_def] at hc
    split at hc
    all_goals first | (cases hc; done) | skip
    all_goals first | (rename_i hh; cases hh; done) | skip
    all_goals first | (rename_i hh; obtain ⟨⟩ := hh; exact ⟨_, _, _, _, _, _, _, _, _, _, _, rfl, hc⟩) | skip
    all_goals simp_all
  obtain ⟨z, px, y, py, kt, pt, u, v, k2, pt2, p, rfl, hh⟩ := key
  simp only [Bool.and_eq_true, decide_eq_true_eq] at hh
  obtain ⟨⟨⟨⟨⟨⟨⟨⟨q0, q1⟩, q2⟩, q3⟩, q4⟩, q5⟩, q6⟩, q7⟩, q8⟩ := hh
  have q0 := notHot q0
  have hne : ∀ i, g.en ≠ some i := fun i => by rw [x.en, x.hotE q0]; simp
  have lo : ∀ {z : PySem.Str}, locO sc z = true → X.env.kindOf z = some .local := by
    intro z h
    unfold locO at h
    split at h
    · exact x.loc _ (by assumption)
    · cases h
  unfold parOk at q7
  simp only [Bool.and_eq_true, Bool.not_eq_true'] at q7
  obtain ⟨⟨⟨p1, p2⟩, p3⟩, p4⟩ := q7
  have su := (chk_plain q5).1
  have sv := (chk_plain q6).1
  refine PS.imp (ps_par (i := i) (j := j) (x.calm q0) x.nd (by rw [x.N]; exact q1) (by rw [x.N]; exact q2) q8 (lo q3) (lo q4) (pa_cons (ha sc u W k X q5 x) (pa_cons (hb sc v W k X q6 x) pa_nil (star_of sv)) (star_of su))
    (swap_par (lo q3) (lo q4) su sv (by rw [BEq.comm]; exact p1) p2 p3 p4 x.bk) rfl) ?_
  rintro D σ H ⟨ι, ρ, μ, S, R, hw⟩
  have hw := wpS_of R (show wpS g W D ι H (SRes.of ρ (ev g.C cf a ρ μ) fun x μ => SRes.of ρ (ev g.C cf b ρ μ) fun y μ => .go .nx ((ρ.set i (some x)).set j (some y)) μ) from hw)
  refine ⟨ι, ρ, μ, S, R, wpR_mono hw (fun d1 μ1 h1 ι1 H1 v1 e1 S1 r1 => ?_) fun _ _ z => z⟩
  have h1 := wpS_of (R.mono e1) (wpS_mono e1 h1)
  refine ⟨ι1, ρ, μ1, S1, R.mono e1, wpR_mono h1 (fun d2 μ2 h2 ι2 H2 v2 e2 S2 r2 => ?_) fun _ _ z => z⟩
  refine ⟨v1, v2, rfl, h2 ι2 H2 _ e2 S2 ?_⟩
  exact ((R.mono (e1.trans e2)).set i (hne i) (e2.rep _ _ r1)).set j (hne j) r2
theorem s_aug (i : Nat) (op : Op) (ha : SndE Γ g cf a) : SndS Γ g cf N (.aug i op a) := by
  intro sc st W k X hc x
  cases st with
  | AugAssign tg o v p =>
    cases tg with
    | Name y py =>
      simp only [chkS, Bool.and_eq_true, decide_eq_true_eq] at hc
      obtain ⟨⟨⟨⟨⟨q1, q2⟩, q3⟩, rfl⟩, q5⟩, q6⟩ := hc
      have q6 := x.ne q6
      obtain ⟨l1, l2⟩ := x.lc q2
      have fin : ∀ (f : Int → Int → Int), (∀ m n μ, binF op (.int m) (.int n) μ = .ok (.int (f m n)) μ) → ∀ D σ H, semS g cf N W (.aug i op a) D σ H → tAug i (semE g cf W a) (ipI f) D σ H := by
        rintro f hf D σ H ⟨ι, ρ, μ, S, R, hw⟩
        have hw : wpS g W D ι H (match ρ[i]? with
          | some (some x) => SRes.of ρ (ev g.C cf a ρ μ) fun y μ => match x, y with
            | .int a, .int b => SRes.of ρ (binF op (.int a) (.int b) μ) fun z μ => .go .nx (ρ.set i (some z)) μ
            | _, _ => .stuck
          | _ => .stuck) := hw
        split at hw
        · rename_i d0 e0
          obtain ⟨v0, y1, y2⟩ := R.at_ i d0 q6 e0
          have hw := wpS_of R hw
          refine ⟨v0, y1, ι, ρ, μ, S, R, wpR_mono hw (fun d1 μ1 h1 ι1 H1 v1 e1 S1 r1 => ?_) fun _ _ z => z⟩
          split at h1
          · rename_i m n _
            obtain rfl := y2
            obtain rfl := r1
            rw [hf] at h1
            exact ⟨m, n, rfl, rfl, h1 ι1 H1 _ e1 S1 ((R.mono e1).set i q6 rfl)⟩
          · exact False.elim h1
        · exact False.elim hw
      have pe := ha sc v W k X q3 x
      cases op with
      | add => exact PS.imp (ps_aug x.nd (by rw [x.N]; exact q1) l1 pe ip_add l2) (fin (fun i j => i + j) fun _ _ _ => rfl)
      | sub => exact PS.imp (ps_aug x.nd (by rw [x.N]; exact q1) l1 pe ip_sub l2) (fin (fun i j => i - j) fun _ _ _ => rfl)
      | _ => exact absurd q5 (by decide)
    | _ => simp [chkS] at hc
  | _ => simp [chkS] at hc
/-! ### all of it -/
mutual
theorem sndE (Γ : Stat) (g : Gd) (cf : CF) : ∀ m : E, SndE Γ g cf m ∧ SndT Γ g cf m ∧ SndW Γ g cf m
  | .v i => ⟨c_v i, t_v i, w_none (by intros; simp [chkE])⟩
  | .non => ⟨c_non, t_none (fun _ _ => rfl), w_none (by intros; simp [chkE])⟩
  | .bl k => ⟨c_bl k, t_bl k, w_none (by intros; simp [chkE])⟩
  | .int i => ⟨c_int i, t_none (fun _ _ => rfl), w_none (by intros; simp [chkE])⟩
  | .str s => ⟨c_str s, t_none (fun _ _ => rfl), w_none (by intros; simp [chkE])⟩
  | .glS n s => ⟨c_glS n s, t_none (fun _ _ => rfl), w_none (by intros; simp [chkE])⟩
  | .glI n s => ⟨c_glI n s, t_none (fun _ _ => rfl), w_none (by intros; simp [chkE])⟩
  | .glC n s => ⟨c_glC n s, t_none (fun _ _ => rfl), w_none (by intros; simp [chkE])⟩
  | .tup es => ⟨c_tup (sndA Γ g cf es).1, t_none (fun _ _ => rfl), w_none (by intros; simp [chkE])⟩
  | .lst es => ⟨c_lst (sndA Γ g cf es).1, t_none (fun _ _ => rfl), w_none (by intros; simp [chkE])⟩
  | .dnK => ⟨c_dnK, t_none (fun _ _ => rfl), w_none (by intros; simp [chkE])⟩
  | .dnT => ⟨c_dnT, t_none (fun _ _ => rfl), w_none (by intros; simp [chkE])⟩
  | .disp ks es => ⟨c_disp ks (sndA Γ g cf es).2.1, t_none (fun _ _ => rfl), w_none (by intros; simp [chkE])⟩
  | .call f es => ⟨c_call f (sndA Γ g cf es).1, t_call f (sndA Γ g cf es).1, w_none (by intros; simp [chkE])⟩
  | .callK f pm es => ⟨c_callK f pm (sndK Γ g cf es), t_callK f pm (sndK Γ g cf es), w_none (by intros; simp [chkE])⟩
  | .bf2 b e1 e2 => ⟨c_bf2 b (sndE Γ g cf e1).1 (sndE Γ g cf e2).1, t_none (fun _ _ => rfl), w_none (by intros; simp [chkE])⟩
  | .bf b e => ⟨c_bf b (sndE Γ g cf e).1, t_bf b (sndE Γ g cf e).1, w_none (by intros; simp [chkE])⟩
  | .isi e t => ⟨c_isi t (sndE Γ g cf e).1, t_isi t (sndE Γ g cf e).1, w_none (by intros; simp [chkE])⟩
  | .meth m o es => ⟨c_meth m (sndE Γ g cf o).1 (sndA Γ g cf es).1 (sndA Γ g cf es).2.2.1, t_meth m (sndE Γ g cf o).1 (sndA Γ g cf es).1 (sndA Γ g cf es).2.2.1, w_none (by intros; simp [chkE])⟩
  | .bin op a b => ⟨c_bin op (sndE Γ g cf a).1 (sndE Γ g cf b).1, t_none (fun _ _ => rfl), w_none (by intros; simp [chkE])⟩
  | .neg a => ⟨c_neg (sndE Γ g cf a).1, t_none (fun _ _ => rfl), w_none (by intros; simp [chkE])⟩
  | .cmp c a b => ⟨c_cmp c (sndE Γ g cf a).1 (sndE Γ g cf b).1, t_cmp c (sndE Γ g cf a).1 (sndE Γ g cf b).1, w_none (by intros; simp [chkE])⟩
  | .chain c d a b e => ⟨c_chain c d (sndE Γ g cf a).1 (sndE Γ g cf b).1 (sndE Γ g cf e).1, t_chain c d (sndE Γ g cf a).1 (sndE Γ g cf b).1 (sndE Γ g cf e).1, w_none (by intros; simp [chkE])⟩
  | .and a b => ⟨c_and (sndE Γ g cf a).1 (sndE Γ g cf b).1, t_bool (fun _ _ => and_form) (w_and (sndE Γ g cf a).2.1 (sndE Γ g cf b).2.1 (sndE Γ g cf b).2.2), w_and (sndE Γ g cf a).2.1 (sndE Γ g cf b).2.1 (sndE Γ g cf b).2.2⟩
  | .or a b => ⟨c_or (sndE Γ g cf a).1 (sndE Γ g cf b).1, t_bool (fun _ _ => or_form) (w_or (sndE Γ g cf a).2.1 (sndE Γ g cf b).2.1 (sndE Γ g cf b).2.2), w_or (sndE Γ g cf a).2.1 (sndE Γ g cf b).2.1 (sndE Γ g cf b).2.2⟩
  | .not a => ⟨c_not (sndE Γ g cf a).1, t_not (sndE Γ g cf a).2.1, w_none (by intros; simp [chkE])⟩
  | .ite c a b => ⟨c_ite (sndE Γ g cf c).2.1 (sndE Γ g cf a).1 (sndE Γ g cf b).1, t_none (fun _ _ => rfl), w_none (by intros; simp [chkE])⟩
  | .ix a b => ⟨c_ix (sndE Γ g cf a).1 (sndE Γ g cf b).1, t_ix (sndE Γ g cf a).1 (sndE Γ g cf b).1, w_none (by intros; simp [chkE])⟩
  | .slL a b => ⟨c_slL (sndE Γ g cf a).1 (sndE Γ g cf b).1, t_none (fun _ _ => rfl), w_none (by intros; simp [chkE])⟩
  | .slU a b => ⟨c_slU (sndE Γ g cf a).1 (sndE Γ g cf b).1, t_none (fun _ _ => rfl), w_none (by intros; simp [chkE])⟩
  | .slB a b c => ⟨c_slB (sndE Γ g cf a).1 (sndE Γ g cf b).1 (sndE Γ g cf c).1, t_none (fun _ _ => rfl), w_none (by intros; simp [chkE])⟩
  | .rv a => ⟨c_rv (sndE Γ g cf a).1, t_none (fun _ _ => rfl), w_none (by intros; simp [chkE])⟩
  | .errF n i => ⟨c_errF n i, t_none (fun _ _ => rfl), w_none (by intros; simp [chkE])⟩
  | .errIs n cs => ⟨c_errIs n cs, t_errIs n cs, w_none (by intros; simp [chkE])⟩
  | .comp t it c e own => ⟨c_comp (sndG Γ g cf t) (sndI Γ g cf it) (sndC Γ g cf c) (sndE Γ g cf e).1, t_none (fun _ _ => rfl), w_none (by intros; simp [chkE])⟩
theorem sndA (Γ : Stat) (g : Gd) (cf : CF) : ∀ m : Es, SndA Γ g cf m ∧ SndP Γ g cf m ∧ Es2 Γ g cf m ∧ (∀ a es, m = .cons a es → SndE Γ g cf a)
  | .nil => ⟨a_nil, p_nil, trivial, fun _ _ h => nomatch h⟩
  | .cons a es => ⟨a_cons (sndE Γ g cf a).1 (sndA Γ g cf es).1, p_cons (sndE Γ g cf a).1 (sndA Γ g cf es).2.1, (match es, sndA Γ g cf es with
    | .nil, _ => (sndE Γ g cf a).1
    | .cons b _, h => ⟨(sndE Γ g cf a).1, h.2.2.2 _ _ rfl⟩), fun _ _ h => by cases h; exact (sndE Γ g cf a).1⟩
theorem sndK (Γ : Stat) (g : Gd) (cf : CF) : ∀ m : Es, SndK Γ g cf m
  | .nil => ak_nil
  | .cons a es => ak_cons (sndE Γ g cf a).1 (sndK Γ g cf es)
theorem sndC (Γ : Stat) (g : Gd) (cf : CF) : ∀ m : Ec, SndC Γ g cf m
  | .yes => k_yes
  | .test e => k_test (sndE Γ g cf e).2.1
theorem sndI (Γ : Stat) (g : Gd) (cf : CF) : ∀ m : PL.It, isK m = false → SndI Γ g cf m
  | .val e, _ => i_val (sndE Γ g cf e).1
  | .rng e, _ => i_rng (sndE Γ g cf e).1
  | .rng2 a b, _ => i_rng2 (sndE Γ g cf a).1 (sndE Γ g cf b).1
  | .rng3 a b c, _ => i_rng3 (sndE Γ g cf a).1 (sndE Γ g cf b).1 (sndE Γ g cf c).1
  | .rev e, _ => i_rev (sndE Γ g cf e).1
  | .keys _, h => nomatch h
theorem sndIH (Γ : Stat) (g : Gd) (cf : CF) : ∀ m : PL.It, SndIH Γ g cf m
  | .rng e => ih_rng (sndE Γ g cf e).1
  | .val _ => ih_none rfl
  | .rng2 _ _ => ih_none rfl
  | .rng3 _ _ _ => ih_none rfl
  | .keys _ => ih_none rfl
  | .rev _ => ih_none rfl
theorem sndG (Γ : Stat) (g : Gd) (cf : CF) : ∀ m : T, SndG Γ g cf m
  | .nm i => g_nm i
  | .tp is => g_tp is
  | .sb a b => g_sb (sndE Γ g cf a).1 (sndE Γ g cf b).1
end
theorem lc_of (a : E) : Lc Γ g cf a := ⟨fun t it k e own _ => ⟨sndG Γ g cf t, sndI Γ g cf it, sndC Γ g cf k, (sndE Γ g cf e).1⟩⟩
/-! a written list whose last items want a token that is out -/
def semAT (g : Gd) (cf : CF) (W : WX) (m : Es) : TA := semA g cf W m
theorem repl_S2 {a b : Nat} (h : a ≠ b) (s : Txt) : Txt.replace (S2 s) (S2 [a]) (S2 [b]) = S2 (s.map fun c => if c = a then b else c) := by
  have e := PySem.StrLaws.replace_list (x := S2 s) (y := S2 [a]) (z := S2 [b]) (by rw [S2_len]; exact Nat.le_refl _)
  rw [S2_cps, S2_cps, S2_cps, replL_one h] at e
  have : ∀ z : PySem.Str, z = S2 z.cps.toList := fun z => by cases z; simp [S2]
  rw [this (Txt.replace _ _ _), e]
theorem el_repl {Γ : Stat} {g : Gd} {cf : CF} {k : Nat} {scope : Scope} {X : Cx} {o : E} {ov : Expr} {a b j1 j2 : Nat} {y z : PySem.Str} {c0 c1 ap cp : Pos} (x : XOk Γ g cf noW k scope X) (ho : chkE Γ o scope ov = true) (hy : y = S2 [a]) (hz : z = S2 [b]) (hyz : (y == z) = false)
    (hs : noSuper ov = true) (hl : (ap.endLine == cp.line) = true) : PET X (.Call (.Attribute ov "replace" ap) [.Constant (.str y) j1 c0, .Constant (.str z) j2 c1] [] cp) (semE g cf noW (.meth .repl o (.cons (.str [a]) (.cons (.str [b]) .nil)))) := by
  have pt := CwR.pet_replC (j := j1) (k := j2) (c0 := c0) (c1 := c1) ((sndE Γ g cf o).1 scope ov noW k X ho x) hyz (by rfl) (base_of hs) hl
  intro pins s σ H Q h0 I h
  refine pt pins s σ H Q h0 I ?_
  obtain ⟨ι, ρ, μ, S, R, hw⟩ := h
  have hw : wpR ((ev g.C cf o ρ μ).bind fun d μ => if mfOk .repl d μ then (evs g.C cf (.cons (.str [a]) (.cons (.str [b]) .nil)) ρ μ).bind fun ds μ => methF g.C .repl d ds μ else .stuck) (OkV g ι H Q) (exW g noW ι H σ) := hw
  rw [wpR_bind] at hw
  refine ⟨ι, ρ, μ, S, R, wpR_mono hw (fun d μ1 h1 ι1 H1 v1 e1 S1 r1 => ?_) fun _ _ z => z⟩
  cases d with
  | str s =>
    obtain rfl := r1
    have h1 : wpR (if a ≠ b ∧ s.length ≤ mostLen then Res.ok (D.str (s.map fun c => if c = a then b else c)) μ1 else .stuck) (OkV g ι H Q) (exW g noW ι H σ) := h1
    split at h1
    · rename_i hq
      refine ⟨S2 s, rfl, ?_, ?_⟩
      · rw [S2_len, hz, S2_len]
        have : mostLen = 1000000 := rfl
        show s.length + (s.length + 1) * 1 ≤ 16777216
        omega
      · rw [hy, hz, repl_S2 hq.1]
        exact h1 _ _ _ e1 S1 rfl
    · exact False.elim h1
  | _ => exact False.elim h1
theorem sp_pet {Γ : Stat} {g : Gd} {cf : CF} {e : E} {sc : Scope} {y : Expr} {W : WX} {k : Nat} {X : Cx} (hc : chkSp Γ e sc y = true) (h0 : Γ.hot = false) (x : XOk Γ g cf W k sc X) : PET X y (semE g cf W e) := by
  unfold chkSp at hc
  split at hc
  · rename_i t it kk o a b own tn p1 ov r ap yy j1 c0 zz j2 c1 cp tg iter ifs scope p2 p3
    simp only [Bool.and_eq_true, decide_eq_true_eq, Bool.not_eq_true'] at hc
    obtain ⟨q1, rfl, rfl, q4, q5, q6, q7, q8, q9, q10, q11, q12, q13, q14, q15⟩ := hc
    obtain ⟨b1, b2, b3, b4⟩ := x.blt q1
    have bo := blk_ok x q14
    have sk : scope.kind = ScopeKind.function := bo.kind
    have g1 := fun (s : Shared) (H : Hp) (C : Addr) (cl : List (PySem.Str × Addr)) (fp : List Addr) => sndG Γ g cf t scope tg noW k _ q9 (x.blk h0 sk s H C cl fp)
    have g2 := fun (s : Shared) (H : Hp) (C : Addr) (cl : List (PySem.Str × Addr)) (fp : List Addr) => sndC Γ g cf kk scope ifs noW k _ q12 (x.blk h0 sk s H C cl fp)
    have g3 := fun (s : Shared) (H : Hp) (C : Addr) (cl : List (PySem.Str × Addr)) (fp : List Addr) => el_repl (j1 := j1) (j2 := j2) (c0 := c0) (c1 := c1) (x.blk h0 sk s H C cl fp) q13 q4 q5 q6 q8 q7
    have pl := pet_lc (pos := p2) (x.calm h0) x.nd (sndI Γ g cf it q11 sc tg iter W k X q10 x) bo g1 g2 g3 fun w => fold_of (chkI_set q10) w
    rw [ownOf_snd] at pl
    have pl2 : PET X _ (semE g cf W (.comp t it kk (.meth .repl o (.cons (.str [a]) (.cons (.str [b]) .nil))) own)) := fun pins s σ H Q h1 I h => pl pins s σ H Q h1 I (comp_sem q11 q15 h)
    intro pins s σ H Q h1 I h
    refine wpAny_Call_Name_kw (ld_blt (u := .type "tuple") I b1 b2 (by decide +kernel) ?_ b4 b3)
    exact PyProof.Rows.callWith_type1 (thn (pat_cons pl2 pat_nil (star_of rfl) p3 pins s σ H _ h1 I (sem_b1 h)) fun us s1 ⟨vs, H1, I1, r1, w1⟩ => call_tupleF x.K pins s1 σ H1 vs us Q I1 r1 w1) (star_of rfl) (by rfl)
  · cases hc
theorem tl_pat {Γ : Stat} {g : Gd} {cf : CF} {sc : Scope} {W : WX} {k : Nat} {X : Cx} (h0 : Γ.hot = false) (x : XOk Γ g cf W k sc X) : ∀ {es : Es} {l : List Expr}, chkTl Γ es sc l = true → PAT X l (semA g cf W es)
  | .nil, [], _ => fun pos pins s σ H Q _ I h => ((sndA Γ g cf .nil).1 sc [] W k X (by simp [chkEs]) x).run pos pins s σ H Q I h
  | .cons e es, y :: l, h => by
    rw [chkTl, Bool.and_eq_true] at h
    obtain ⟨h2, h3⟩ := h
    have pt := tl_pat h0 x h3
    intro pos pins s σ H Q h1 I h
    rcases Bool.or_eq_true_iff.mp h2 with h2 | h2
    · exact pat_cons (te := semE g cf W e) (fun pins s σ H Q _ I q => ((sndE Γ g cf e).1 sc y W k X h2 x).run pins s σ H Q I q) pt (star_of (chk_plain h2).1) pos pins s σ H Q h1 I (sem_cons h)
    · rw [Bool.and_eq_true] at h2
      exact pat_cons (sp_pet h2.2 h0 x) pt (star_of h2.1) pos pins s σ H Q h1 I (sem_cons h)
  | .nil, _ :: _, h => by simp [chkTl] at h
  | .cons _ _, [], h => by simp [chkTl] at h
theorem x_pe {Γ : Stat} {g : Gd} {cf : CF} {a : E} {sc : Scope} {e : Expr} {W : WX} {k : Nat} {X : Cx} (hc : chkX Γ a sc e = true) (x : XOk Γ g cf W k sc X) : PE X e (semE g cf W a) := by
  unfold chkX at hc
  split at hc
  · rename_i o e es ov n ap y l p1 cp
    simp only [Bool.and_eq_true, decide_eq_true_eq] at hc
    obtain ⟨q0, rfl, q2, q3, q4, q5, q6, q7⟩ := hc
    have h0 := notHot q0
    have pa : PA X (y :: l) (semA g cf W (.cons e es)) := PA.imp (pa_consB q5 ((sndE Γ g cf e).1 sc y W k X q6 x) (tl_pat h0 x q7)) fun σ H Q h => sem_cons h
    have pl : PE X (.List (y :: l) p1) (semE g cf W (.lst (.cons e es))) := by
      refine PE.imp (pe_lst pa) fun σ H Q h => semA_then (f := fun ds μ => if ds.length ≤ mostLen then PL.new (.lst ds) μ else .stuck) (fun ι1 μ1 H1 ds vs _ S r hw => ?_) h
      split at hw
      · rename_i hl
        exact ⟨by rw [r.length]; exact Nat.le_trans hl line_most, fun p hp => OkV.lst S hw r hp⟩
      · exact False.elim hw
    have pa2 : PA X [.List (y :: l) p1] (semA g cf W (.cons (.lst (.cons e es)) .nil)) := PA.imp (pa_cons pl ((sndA Γ g cf .nil).1 sc [] W k X (by simp [chkEs]) x) (star_of rfl)) fun σ H Q h => sem_cons h
    refine PE.imp (pe_bm PySem.F.plainAttrs_list PySem.F.slot_list_extend rfl (mt_extendF (g := g.toGb)) ((sndE Γ g cf o).1 sc ov W k X q2 x) pa2 (base_of q3) (by rfl) q4 (star_of rfl) (by rfl)) ?_
    rintro σ H Q ⟨ι, ρ, μ, S, R, hw⟩
    have hw : wpR ((ev g.C cf o ρ μ).bind fun d μ => if mfOk .extend d μ then (evs g.C cf (.cons (.lst (.cons e es)) .nil) ρ μ).bind fun ds μ => methF g.C .extend d ds μ else .stuck) (OkV g ι H Q) (exW g W ι H σ) := hw
    rw [wpR_bind] at hw
    refine ⟨ι, ρ, μ, S, R, wpR_mono hw (fun d1 μ1 w1 ι1 H1 v1 e1 S1 r1 => ?_) fun _ _ z => z⟩
    split at w1
    · rename_i hok
      refine ⟨by rw [x.K]; exact ty_lst S1 r1 hok, ?_⟩
      rw [wpR_bind] at w1
      refine ⟨ι1, ρ, μ1, S1, R.mono e1, wpR_mono w1 (fun ds μ2 w2 ι2 H2 vs e2 S2 r2 => ?_) fun _ _ z => z.mono e1⟩
      exact ⟨ι2, μ2, d1, ds, S2, e2.rep _ _ r1, r2, wpR_mono w2 (fun _ _ z => OkV.mono (e1.trans e2) z) fun _ _ _ => trivial⟩
    · exact False.elim w1
  · cases hc
mutual
theorem sndS (Γ : Stat) (g : Gd) (cf : CF) (N : Nat) : ∀ m : S, SndS Γ g cf N m
  | .asg t e => s_asg (sndG Γ g cf t) (sndE Γ g cf e).1 (lc_of e)
  | .par i j a b => s_par i j (sndE Γ g cf a).1 (sndE Γ g cf b).1
  | .aug i op e => s_aug i op (sndE Γ g cf e).1
  | .ex e => s_ex (sndE Γ g cf e).1 fun sc e W k X hc x => x_pe hc x
  | .ret e => s_ret (sndE Γ g cf e).1
  | .retN => s_retN
  | .ite c a b => s_ite (sndE Γ g cf c).2.1 (sndB Γ g cf N a) (sndB Γ g cf N b)
  | .whl c b => s_whl (sndE Γ g cf c).2.1 (sndB Γ g cf N b)
  | .fr t it b => s_fr (sndG Γ g cf t) (sndI Γ g cf it) (sndIH Γ g cf it) (sndB Γ g cf N b)
  | .brk => s_brk
  | .cont => s_cont
  | .pass => s_pass
  | .rse ms ks es => s_rse ms ks (sndA Γ g cf es).1
  | .tr b hs => s_tr (fun W => sndB Γ g cf N b) (sndHs cf N hs)
theorem sndB (Γ : Stat) (g : Gd) (cf : CF) (N : Nat) : ∀ m : Ss, SndB Γ g cf N m
  | .nil => b_nil
  | .cons s ss => b_cons (sndS Γ g cf N s) (sndB Γ g cf N ss)
theorem sndHs (cf : CF) (N : Nat) : ∀ m : Hs, SndHs cf N m
  | .nil => trivial
  | .cons c n b hs => ⟨fun Γ g => sndB Γ g cf N b, sndHs cf N hs⟩
end
end
end PL
end
section
set_option Elab.async false
set_option linter.all false
set_option autoImplicit false
set_option maxRecDepth 100000
set_option maxHeartbeats 400000
/-! SoundC: the __init__ of a class of errors. -/
namespace PL
open PySem PySem.Spec PyProof.Rows L2
def chkInit : List PySem.Str → List Stmt → Bool
  | [], [] => true
  | f :: fs, .Assign [.Attribute (.Name s _) f' _] (.Name y _) _ :: r => decide (s = ("self" : PySem.Str)) && decide (f' = f) && decide (y = f) && okN f && chkInit fs r
  | _, _ => false
def zipr : List PySem.Str → List V → List (PySem.Str × V) → List (PySem.Str × V)
  | f :: fs, w :: ws, l => zipr fs ws ((f, w) :: l)
  | _, _, l => l
theorem zipr_old : ∀ {fs : List PySem.Str} {ws : List V} {l : List (PySem.Str × V)} {f : PySem.Str}, f ∉ fs → (zipr fs ws l).lookup f = l.lookup f
  | [], _, l, f, _ => by cases ‹List V› <;> rfl
  | x :: fs, [], l, f, _ => rfl
  | x :: fs, w :: ws, l, f, h => by
    rw [List.mem_cons, not_or] at h
    show (zipr fs ws ((x, w) :: l)).lookup f = _
    rw [zipr_old h.2, lookup_put, if_neg h.1]
theorem zipr_at : ∀ {fs : List PySem.Str} {ws : List V} {l : List (PySem.Str × V)} {i : Nat} {f : PySem.Str} {w : V}, fs.Nodup → fs[i]? = some f → ws[i]? = some w → (zipr fs ws l).lookup f = some w
  | [], _, _, _, _, _, _, h, _ => by cases h
  | x :: fs, [], _, _, _, _, _, _, h => by cases h
  | x :: fs, y :: ws, l, 0, f, w, hn, h1, h2 => by
    cases h1; cases h2
    show (zipr fs ws ((x, y) :: l)).lookup x = _
    rw [zipr_old (List.nodup_cons.mp hn).1, lookup_put, if_pos rfl]
  | x :: fs, y :: ws, l, i + 1, f, w, hn, h1, h2 => zipr_at (fs := fs) (ws := ws) (i := i) (List.nodup_cons.mp hn).2 h1 h2
theorem upd_upd {H : Hp} {a : Addr} {o u : HO} : upd (upd H a o) a u = upd H a u := by
  funext b
  by_cases h : b = a
  · rw [h, upd_same, upd_same]
  · rw [upd_ne h, upd_ne h, upd_ne h]
theorem upd_id {H : Hp} {a : Addr} {o : HO} (h : H a = some o) : upd H a o = H := by
  funext b
  by_cases e : b = a
  · rw [e, upd_same, h]
  · rw [upd_ne e]
theorem PSs.all {X : Cx} {st : List Stmt} {α : Type} {t : α → TS} (h : ∀ q, PSs X st (t q)) : PSs X st (fun D σ H => ∃ q, t q D σ H) := ⟨fun pins s σ H D I ⟨q, z⟩ => (h q).run pins s σ H D I z⟩
section
variable {X : Cx} {C : Addr}
theorem init_name {x : PySem.Str} {i : Nat} {p : Pos} (hN : X.N[i]? = some x) (hv : Vis X.env.scope x) (ho : okN x = true) : PE X (.Name x p) (tVar i) :=
  pe_var (i := i) hN hv (okN_parts ho).1 (okN_parts ho).2.1
/-- the fields behind the first one -/
theorem init_rest (T : OexC X.K C) (h0 : X.N[0]? = some ("self" : PySem.Str)) (v0 : Vis X.env.scope "self") {a d : Addr} (hda : d ≠ a) : ∀ {fs : List PySem.Str} {body : List Stmt} (i : Nat), chkInit fs body = true → (∀ j f, fs[j]? = some f → X.N[i + j]? = some f) → (∀ f ∈ fs, Vis X.env.scope f ∧ PySem.W.findIn X.K (.ref C) f = some none) →
    ∃ t, PSs X body t ∧ ∀ (D : Ends) (σ : L2.St) (H : Hp) (ws : List V) (l : List (PySem.Str × V)), σ[0]? = some (some (.ref a)) → ws.length = fs.length → (∀ j w, ws[j]? = some w → σ[i + j]? = some (some w)) → H a = some (exo a C (some d)) → H d = some (exd d l) → l.length + fs.length ≤ 900 → D.nx σ (upd H d (exd d (zipr fs ws l))) → t D σ H
  | [], body, i, hc, _, _ => by
    cases body with
    | cons _ _ => simp [chkInit] at hc
    | nil =>
      refine ⟨_, pss_nil, fun D σ H ws l _ hl _ _ hd _ q => ?_⟩
      have : ws = [] := List.length_eq_zero_iff.mp hl
      subst this
      rw [show zipr [] [] l = l from rfl, upd_id hd] at q
      exact q
  | f :: fs, body, i, hc, hN, hv => by
    have key : ∃ p1 p2 p3 p4 r, body = .Assign [.Attribute (.Name "self" p1) f p2] (.Name f p3) p4 :: r ∧ okN f = true ∧ chkInit fs r = true := by
      rw [chkInit.eq_def] at hc
      split at hc
      · rename_i h2; cases h2
      · rename_i f0 fs0 s p1 f' p2 y p3 p4 r h1
        cases h1
        simp only [Bool.and_eq_true, decide_eq_true_eq] at hc
        obtain ⟨⟨⟨⟨rfl, rfl⟩, rfl⟩, h4⟩, h5⟩ := hc
        exact ⟨_, _, _, _, _, rfl, h4, h5⟩
      · cases hc
    obtain ⟨p1, p2, p3, p4, r, rfl, ho, hr⟩ := key
    obtain ⟨vf, nf⟩ := hv f (List.mem_cons_self ..)
    obtain ⟨t, ht, tr⟩ := init_rest T h0 v0 hda (fs := fs) (body := r) (i + 1) hr (fun j g e => by rw [Nat.add_right_comm]; exact hN (j + 1) g e) (fun g hg => hv g (List.mem_cons_of_mem _ hg))
    refine ⟨_, pss_cons (ps_ost (init_name h0 v0 (by decide)) (init_name (hN 0 f rfl) vf ho)) ht, fun D σ H ws l s0 hl hs ha hd hn q => ?_⟩
    cases ws with
    | nil => cases hl
    | cons w ws =>
      refine ⟨w, hs 0 w rfl, .ref a, s0, a, C, rfl, T, nf, .inr ⟨d, l, ha, hd, by omega, ?_⟩⟩
      refine tr D σ _ ws ((f, w) :: l) s0 (by simpa using hl) (fun j w' e => by rw [Nat.add_right_comm]; exact hs (j + 1) w' e) (by rw [upd_ne (Ne.symm hda)]; exact ha) upd_same (by simp at hn ⊢; omega) ?_
      rw [upd_upd]
      exact q
/-- all fields -/
theorem init_walk (T : OexC X.K C) (h0 : X.N[0]? = some ("self" : PySem.Str)) (v0 : Vis X.env.scope "self") {fs : List PySem.Str} {body : List Stmt} (hpos : 0 < fs.length) (hle : fs.length ≤ 900) (hnd : fs.Nodup) (hc : chkInit fs body = true) (hN : ∀ j f, fs[j]? = some f → X.N[1 + j]? = some f) (hv : ∀ f ∈ fs, Vis X.env.scope f ∧ PySem.W.findIn X.K (.ref C) f = some none) :
    ∃ t, PSs X body t ∧ ∀ (Q : VK) (E : XK) (σ : L2.St) (H : Hp) (vs : List V), σ = vs.map some → spI C fs vs H Q E → t { nx := fun _ H' => Q .non H', rt := Q } σ H := by
  cases fs with
  | nil => cases hpos
  | cons f fs =>
    have key : ∃ p1 p2 p3 p4 r, body = .Assign [.Attribute (.Name "self" p1) f p2] (.Name f p3) p4 :: r ∧ okN f = true ∧ chkInit fs r = true := by
      rw [chkInit.eq_def] at hc
      split at hc
      · rename_i h2; cases h2
      · rename_i f0 fs0 s p1 f' p2 y p3 p4 r h1
        cases h1
        simp only [Bool.and_eq_true, decide_eq_true_eq] at hc
        obtain ⟨⟨⟨⟨rfl, rfl⟩, rfl⟩, h4⟩, h5⟩ := hc
        exact ⟨_, _, _, _, _, rfl, h4, h5⟩
      · cases hc
    obtain ⟨p1, p2, p3, p4, r, rfl, ho, hr⟩ := key
    obtain ⟨vf, nf⟩ := hv f (List.mem_cons_self ..)
    have R := fun (a d : Addr) (hda : d ≠ a) => init_rest T h0 v0 hda (fs := fs) (body := r) 2 hr (fun j g e => by have := hN (j + 1) g e; rw [show 2 + j = 1 + (j + 1) by omega]; exact this) (fun g hg => hv g (List.mem_cons_of_mem _ hg))
    -- one reading for all places
    refine ⟨_, pss_cons (ps_ost (init_name h0 v0 (by decide)) (init_name (hN 0 f rfl) vf ho)) (PSs.all fun (q : { z : Addr × Addr // z.2 ≠ z.1 }) => (R q.1.1 q.1.2 q.2).choose_spec.1), fun Q E σ H vs hσ hsp => ?_⟩
    obtain ⟨a, ws, rfl, hl, ha, hq⟩ := hsp
    cases ws with
    | nil => cases hl
    | cons w ws =>
      subst hσ
      refine ⟨w, rfl, .ref a, rfl, a, C, rfl, T, nf, .inl ⟨ha, fun d hd hda => ⟨⟨(a, d), hda⟩, ?_⟩⟩⟩
      have hs : ∀ j v, ws[j]? = some v → (List.map some (V.ref a :: w :: ws))[2 + j]? = some (some v) := by
        intro j v e
        rw [Nat.add_comm]
        show (List.map some ws)[j]? = _
        rw [List.getElem?_map, e]; rfl
      refine (R a d hda).choose_spec.2 _ _ _ ws [(f, w)] rfl (by simpa using hl) hs upd_same (by rw [upd_ne hda]; exact upd_same) (by simp at hle ⊢; omega) ?_
      refine hq d _ hd hda (by rw [upd_ne (Ne.symm hda)]; exact upd_same) ⟨_, upd_same, fun i g v e1 e2 => ?_⟩ fun b h1 h2 => by rw [upd_ne h2, upd_ne h1, upd_ne h2]
      exact zipr_at (fs := f :: fs) (ws := w :: ws) (l := []) hnd e1 e2
end
end PL
end
section
set_option Elab.async false
set_option linter.all false
set_option autoImplicit false
set_option maxRecDepth 100000
set_option maxHeartbeats 400000
/-! Sound13: defs, calls. -/
namespace PL
open PySem PySem.Spec PyProof.Rows L2
open L2H (RoomH HotC FnH Hot1 PinOk cxH fn_ofH)
/-! ### stores joined -/
def NoFr (H : Hp) (ι : List Addr) : Prop := ∀ a o vs, H a = some (.frz o (.lst vs)) ∨ H a = some (.frz o (.tup vs)) → a ∉ ι
section
variable {g : Gb} {ι1 ι2 : List Addr} {H : Hp}
mutual
theorem rep_move (hn : NoFr H ι2) : ∀ (d : D) (v : V), D.data d = true → Rep g ι1 H d v → Rep g ι2 H d v
  | .non, _, _, h => h
  | .bl _, _, _, h => h
  | .int _, _, _, h => h
  | .str _, _, _, h => h
  | .cst _, _, _, h => h
  | .err _ _ _, _, _, h => h
  | .ftup ds, _, hd, h => by
    obtain ⟨a, vs, o, rfl, ha, ⟨h1, h2, _⟩, hr⟩ := h
    exact ⟨a, vs, o, rfl, ha, ⟨h1, h2, hn a o vs (.inr ha)⟩, rep_moveL hn ds vs (by rw [D.data] at hd; exact hd) hr⟩
  | .loc _, _, hd, _ => by rw [D.data] at hd; cases hd
  | .tup ds, _, hd, h => by
    obtain ⟨a, vs, rfl, ha, hr⟩ := h
    exact ⟨a, vs, rfl, ha, rep_moveL hn ds vs (by rw [D.data] at hd; exact hd) hr⟩
  | .ktp ds, _, hd, h => by
    obtain ⟨a, vs, rfl, ha, hr⟩ := h
    exact ⟨a, vs, rfl, ha, rep_moveL hn ds vs (by rw [D.data] at hd; exact hd) hr⟩
  | .rol ds, _, hd, h => by
    obtain ⟨a, vs, rfl, ha, hr⟩ := h
    refine ⟨a, vs, rfl, ?_, rep_moveL hn ds vs (by rw [D.data] at hd; exact hd) hr⟩
    rcases ha with ⟨o, h1, _⟩ | h1
    · exact .inl ⟨o, h1, hn a o vs (.inl h1)⟩
    · exact .inr h1
theorem rep_moveL (hn : NoFr H ι2) : ∀ (ds : List D) (vs : List V), D.dataL ds = true → RepL g ι1 H ds vs → RepL g ι2 H ds vs
  | [], _, _, h => h
  | d :: ds, _, hd, h => by
    obtain ⟨v, r, rfl, h1, h2⟩ := h
    rw [D.dataL, Bool.and_eq_true] at hd
    exact ⟨v, r, rfl, rep_move hn d v hd.1 h1, rep_moveL hn ds r hd.2 h2⟩
end
mutual
theorem rep_shift (hn : NoFr H ι1) : ∀ (d : D) (v : V), Rep g ι2 H d v → Rep g (ι1 ++ ι2) H (d.shift ι1.length) v
  | .non, _, h => h
  | .bl _, _, h => h
  | .int _, _, h => h
  | .str _, _, h => h
  | .cst _, _, h => h
  | .err _ _ _, _, h => h
  | .ftup ds, _, h => by
    obtain ⟨a, vs, o, rfl, ha, ⟨h1, h2, h3⟩, hr⟩ := h
    exact ⟨a, vs, o, rfl, ha, ⟨h1, h2, fun m => (List.mem_append.mp m).elim (hn a o vs (.inr ha)) h3⟩, rep_shiftL hn ds vs hr⟩
  | .loc l, _, h => by
    obtain ⟨a, rfl, ha⟩ := h
    refine ⟨a, rfl, ?_⟩
    show (ι1 ++ ι2)[ι1.length + l]? = some a
    rw [List.getElem?_append_right (by omega), Nat.add_sub_cancel_left]
    exact ha
  | .tup ds, _, h => by
    obtain ⟨a, vs, rfl, ha, hr⟩ := h
    exact ⟨a, vs, rfl, ha, rep_shiftL hn ds vs hr⟩
  | .ktp ds, _, h => by
    obtain ⟨a, vs, rfl, ha, hr⟩ := h
    exact ⟨a, vs, rfl, ha, rep_shiftL hn ds vs hr⟩
  | .rol ds, _, h => by
    obtain ⟨a, vs, rfl, ha, hr⟩ := h
    refine ⟨a, vs, rfl, ?_, rep_shiftL hn ds vs hr⟩
    rcases ha with ⟨o, h1, h2⟩ | h1
    · exact .inl ⟨o, h1, fun m => (List.mem_append.mp m).elim (hn a o vs (.inl h1)) h2⟩
    · exact .inr h1
theorem rep_shiftL (hn : NoFr H ι1) : ∀ (ds : List D) (vs : List V), RepL g ι2 H ds vs → RepL g (ι1 ++ ι2) H (D.shiftL ι1.length ds) vs
  | [], _, h => h
  | d :: ds, _, h => by
    obtain ⟨v, r, rfl, h1, h2⟩ := h
    exact ⟨v, r, rfl, rep_shift hn d v h1, rep_shiftL hn ds r h2⟩
end
theorem repKV_shift {κ κ' : Type} {f : κ → κ'} (hn : NoFr H ι1) : ∀ (kvs : List (κ × D)) (vs : List (κ' × V)), RepKV g f ι2 H kvs vs → RepKV g f (ι1 ++ ι2) H (kvs.map fun p => (p.1, p.2.shift ι1.length)) vs
  | [], _, h => h
  | p :: kvs, _, h => by
    obtain ⟨v, r, rfl, h1, h2⟩ := h
    exact ⟨v, r, rfl, rep_shift hn _ v h1, repKV_shift hn kvs r h2⟩
theorem objR_shift (hn : NoFr H ι1) {o : PL.Obj} {a : Addr} (h : ObjR g ι2 H o a) : ObjR g (ι1 ++ ι2) H (o.shift ι1.length) a := by
  cases o with
  | lst ds => obtain ⟨vs, h1, h2⟩ := h; exact ⟨vs, h1, rep_shiftL hn ds vs h2⟩
  | dK b kvs =>
    cases b with
    | false => obtain ⟨vs, h1, h2⟩ := h; exact ⟨vs, h1, repKV_shift hn kvs vs h2⟩
    | true => obtain ⟨o, vs, h1, h2⟩ := h; exact ⟨o, vs, h1, repKV_shift hn kvs vs h2⟩
  | dT b kvs =>
    cases b with
    | false => obtain ⟨vs, h1, h2⟩ := h; exact ⟨vs, h1, repKV_shift hn kvs vs h2⟩
    | true => obtain ⟨o, vs, h1, h2⟩ := h; exact ⟨o, vs, h1, repKV_shift hn kvs vs h2⟩
theorem ObjR.noFrzL {ι : List Addr} {o : PL.Obj} {a : Addr} (h : ObjR g ι H o a) : ∀ y vs, ¬ (H a = some (.frz y (.lst vs)) ∨ H a = some (.frz y (.tup vs))) := by
  intro y ws e
  cases o with
  | lst ds => obtain ⟨vs, h1, h2⟩ := h; rcases e with e | e <;> (rw [e] at h1; cases h1)
  | dK b kvs =>
    cases b with
    | false => obtain ⟨vs, h1, h2⟩ := h; rcases e with e | e <;> (rw [e] at h1; cases h1)
    | true => obtain ⟨o, vs, h1, h2⟩ := h; rcases e with e | e <;> (rw [e] at h1; cases h1)
  | dT b kvs =>
    cases b with
    | false => obtain ⟨vs, h1, h2⟩ := h; rcases e with e | e <;> (rw [e] at h1; cases h1)
    | true => obtain ⟨o, vs, h1, h2⟩ := h; rcases e with e | e <;> (rw [e] at h1; cases h1)
theorem Sim.noFrzL {ι : List Addr} {μ : Store} (S : Sim g ι μ H) : NoFr H ι := by
  intro a o vs e m
  obtain ⟨l, hl, e2⟩ := List.mem_iff_getElem.mp m
  have hx : μ[l]? = some (μ[l]'(by rw [← S.len]; exact hl)) := List.getElem?_eq_getElem _
  exact (S.ob l _ a hx (by rw [List.getElem?_eq_getElem hl, e2])).noFrzL o vs e
end
section
variable {g : Gb} {ι ι' : List Addr} {H H' : Hp} {μ μ' : Store}
/-- a heap that grew from an empty store keeps all -/
theorem ext_nil (S : Sim g ι μ H) (e : Ext [] H ι' H') : Ext ι H ι H' ∧ Sim g ι μ H' ∧ (∀ a, a ∈ ι' → a ∉ ι) := by
  have k : ∀ a o, H a = some o → H' a = some o := fun a o h => e.keep a o h (by simp)
  have ex : Ext ι H ι H' := ⟨⟨List.prefix_refl _, fun a o h _ => k a o h, fun _ m n => absurd m n, e.tup, e.nn⟩, e.fz⟩
  refine ⟨ex, S.of ex.toExt0 fun a m => ?_, fun a m n => ?_⟩
  · obtain ⟨u, hu, _⟩ := S.there m
    rw [hu]; exact k a u hu
  · obtain ⟨u, hu, _⟩ := S.there n
    have := e.fresh a m (by simp)
    rw [hu] at this; cases this
theorem dataL_get : ∀ {ds : List D} {i : Nat} {d : D}, D.dataL ds = true → ds[i]? = some d → D.data d = true
  | [], _, _, _, e => by cases e
  | _ :: _, 0, _, h, e => by
    rw [D.dataL, Bool.and_eq_true] at h
    cases e; exact h.1
  | _ :: _, i + 1, _, h, e => by
    rw [D.dataL, Bool.and_eq_true] at h
    exact dataL_get (i := i) h.2 e
theorem excR_move {ι2 : List Addr} {x : Exc} {c : Value} {d : Option Addr} (S : Sim g ι2 μ' H) (hd : D.dataL x.fs = true) (h : ExcR g ι H x c d) : ExcR g ι2 H x c d := by
  obtain ⟨rfl, hm, p, fs, rfl, h1, h2, h3⟩ := h
  refine ⟨rfl, hm, p, fs, rfl, h1, fun m => ?_, fun i f dv h4 h4' h5 => ?_⟩
  · obtain ⟨l, hl, e2⟩ := List.mem_iff_getElem.mp m
    have hx : μ'[l]? = some (μ'[l]'(by rw [← S.len]; exact hl)) := List.getElem?_eq_getElem _
    have := S.ob l _ p hx (by rw [List.getElem?_eq_getElem hl, e2])
    generalize μ'[l]'(by rw [← S.len]; exact hl) = o at this
    cases o with
    | lst ds => obtain ⟨vs, q, _⟩ := this; rw [h1] at q; cases q
    | dK b kvs =>
      cases b with
      | false => obtain ⟨vs, q, _⟩ := this; rw [h1] at q; cases q
      | true => obtain ⟨o, vs, q, _⟩ := this; rw [h1] at q; cases q
    | dT b kvs =>
      cases b with
      | false => obtain ⟨vs, q, _⟩ := this; rw [h1] at q; cases q
      | true => obtain ⟨o, vs, q, _⟩ := this; rw [h1] at q; cases q
  · obtain ⟨v, h6, h7⟩ := h3 i f dv h4 h4' h5
    exact ⟨v, h6, rep_move S.noFrzL dv v (dataL_get hd h5) h7⟩
theorem sim_join (S : Sim g ι μ H) (e : Ext [] H ι' H') (S' : Sim g ι' μ' H') : Sim g (ι ++ ι') (μ ++ μ'.map (PL.Obj.shift μ.length)) H' ∧ Ext ι H (ι ++ ι') H' := by
  obtain ⟨ex, S2, hd⟩ := ext_nil S e
  have hn := S2.noFrzL
  have ej : Ext ι H (ι ++ ι') H' := ⟨⟨⟨ι', rfl⟩, ex.keep, fun a m n => by
    rcases List.mem_append.mp m with m | m
    · exact absurd m n
    · exact e.fresh a m (by simp), ex.tup, ex.nn⟩, ex.fz⟩
  refine ⟨⟨?_, by simp [S.len, S'.len], fun l o a h1 h2 => ?_⟩, ej⟩
  · rw [List.nodup_append]
    exact ⟨S.nd, S'.nd, fun a h1 b h2 z => hd b h2 (z ▸ h1)⟩
  · by_cases hl : l < μ.length
    · rw [List.getElem?_append_left hl] at h1
      rw [List.getElem?_append_left (by rw [S.len]; exact hl)] at h2
      obtain ⟨u, hu, _⟩ := S.there (List.mem_of_getElem? h2)
      exact (S.ob l o a h1 h2).mono ej.toExt0 (by rw [hu]; exact e.keep a u hu (by simp))
    · rw [List.getElem?_append_right (by omega)] at h1
      rw [List.getElem?_append_right (by rw [S.len]; omega)] at h2
      rw [List.getElem?_map] at h1
      rw [S.len] at h2
      cases e3 : μ'[l - μ.length]? with
      | none => rw [e3] at h1; cases h1
      | some o' =>
        rw [e3] at h1; cases h1
        rw [← S.len]
        exact objR_shift hn (S'.ob _ o' a e3 h2)
/-- what is said of the end of a call of data, said of its own store -/
theorem graft_ok {Q : VK} {E : XK} {r : Res D} (S : Sim g ι μ H) (h : wpR (graft r μ) (OkV g ι H Q) (ExW g ι H E)) : wpR r (OkV g [] H Q) (ExW g [] H E) := by
  cases r with
  | stuck => exact h
  | exc x μ' =>
    have h : wpR (if D.dataL x.fs = true then (.exc x μ : Res D) else .stuck) (OkV g ι H Q) (ExW g ι H E) := h
    split at h
    · rename_i hd
      intro ι' H' c d e S' R
      obtain ⟨ex, S2, _⟩ := ext_nil S e
      exact h ι H' c d ex S2 (excR_move S2 hd R)
    · exact False.elim h
  | ok d μ' =>
    intro ι' H' v e S' R
    obtain ⟨ex, S2, hd⟩ := ext_nil S e
    have hn := S2.noFrzL
    unfold graft at h
    simp only at h
    have gen : wpR (.ok (d.shift μ.length) (μ ++ μ'.map (PL.Obj.shift μ.length)) : Res D) (OkV g ι H Q) (ExW g ι H E) → Q v H' := fun h => by
      obtain ⟨sj, ej⟩ := sim_join S e S'
      refine h (ι ++ ι') H' v ej sj ?_
      rw [← S.len]; exact rep_shift hn d v R
    split at h
    · rename_i hdat
      exact h ι H' v ex S2 (rep_move hn d v hdat R)
    · split at h
      · rename_i l _
        split at h
        · rename_i xs ex0
          split at h
          · rename_i hdat
            obtain ⟨a, rfl, ha⟩ := R
            have hm : a ∈ ι' := List.mem_of_getElem? ha
            obtain ⟨vs, q1, q2⟩ := S'.ob l _ a ex0 ha
            have hna : a ∉ ι := hd a hm
            have hn2 : NoFr H' (ι ++ [a]) := by
              intro b o vs' hb m
              rcases List.mem_append.mp m with m | m
              · exact hn b o vs' hb m
              · rw [List.mem_singleton.mp m, q1] at hb
                rcases hb with hb | hb <;> cases hb
            have ea : Ext ι H (ι ++ [a]) H' := ⟨⟨⟨[a], rfl⟩, ex.keep, fun b m n => by
              rcases List.mem_append.mp m with m | m
              · exact absurd m n
              · rw [List.mem_singleton.mp m]; exact e.fresh a hm (by simp), ex.tup, ex.nn⟩, ex.fz⟩
            refine h (ι ++ [a]) H' _ ea ⟨?_, by simp [S.len], fun k o b h1 h2 => ?_⟩ ⟨a, rfl, by rw [← S.len]; simp⟩
            · rw [List.nodup_append]
              exact ⟨S.nd, by simp, fun x h1 y h2 z => hna (by rw [List.mem_singleton.mp h2] at z; exact z ▸ h1)⟩
            · by_cases hl : k < μ.length
              · rw [List.getElem?_append_left hl] at h1
                rw [List.getElem?_append_left (by rw [S.len]; exact hl)] at h2
                obtain ⟨u, hu, _⟩ := S.there (List.mem_of_getElem? h2)
                exact (S.ob k o b h1 h2).mono ea.toExt0 (by rw [hu]; exact e.keep b u hu (by simp))
              · rw [List.getElem?_append_right (by omega)] at h1
                rw [List.getElem?_append_right (by rw [S.len]; omega)] at h2
                have hz : k - μ.length = 0 := by
                  have := (List.getElem?_eq_some_iff.mp h1).1
                  simp at this; omega
                rw [S.len] at h2
                rw [hz] at h1 h2
                cases h1
                cases h2
                exact ⟨vs, q1, rep_moveL hn2 xs vs hdat q2⟩
          · exact gen h
        · exact gen h
      · exact gen h
end
/-! ### a def -/
theorem repL_nil {g : Gb} {ι : List Addr} {H : Hp} {ds : List D} {vs : List V} (hd : D.dataL ds = true) (h : RepL g ι H ds vs) : RepL g [] H ds vs := rep_moveL (fun _ _ _ _ => by simp) ds vs hd h
theorem start_rep {g : Gb} {ι : List Addr} {H : Hp} {N : List PySem.Str} {np : Nat} {ds : List D} {vs : List V} (r : RepL g ι H ds vs) (hl : ds.length = np) : RepS g.cold ι H (startE np N.length ds) (L2.start N vs) := by
  have l2 := r.length
  refine ⟨by simp [startE, L2.start]; omega, fun i d _ h => ?_, fun i d n _ => by cases n⟩
  unfold startE at h
  unfold L2.start
  by_cases hi : i < ds.length
  · rw [List.getElem?_append_left (by simpa using hi), List.getElem?_map] at h
    rw [List.getElem?_append_left (by rw [List.length_map]; omega), List.getElem?_map]
    cases e : ds[i]? with
    | none => rw [e] at h; cases h
    | some d' =>
      rw [e] at h
      cases h
      obtain ⟨v, e1, e2⟩ := r.get e
      exact ⟨v, by rw [e1]; rfl, e2⟩
  · rw [List.getElem?_append_right (by simpa using hi), List.getElem?_replicate] at h
    split at h <;> cases h
theorem handed_wp {g : Gd} {ι : List Addr} {H : Hp} {Q : VK} {E : XK} {r : SRes} (h : wpR (handed r) (OkV g ι H Q) (ExW g ι H E)) : wpS g (fun c d _ H => E c d H) { nx := fun _ H' => Q .non H', rt := Q } ι H r := by
  cases r with
  | stuck => exact h
  | exc x ρ μ => exact fun ι' H' σ' c d e S _ R => h ι' H' c d e S R
  | go f ρ μ =>
    cases f with
    | nx => exact fun ι' H' σ' e S _ => h ι' H' .non e S rfl
    | rt d => exact fun ι' H' v e S R => h ι' H' v e S R
    | bk => exact False.elim h
    | ct => exact False.elim h
/-- a def of the text: its number, its name, its text, its slots, its parameters -/
structure DefT where
  id : Nat
  name : PySem.Str
  st : Stmt
  N : List PySem.Str
  np : Nat
def DefT.ps (d : DefT) : List PySem.Str := d.N.take d.np
def scopeOk (N ps : List PySem.Str) (sc : Scope) : Bool :=
  (match sc.kind with
    | .function => true
    | _ => false) && !sc.isCoroutine && !sc.isGenerator && decide N.Nodup && decide (N.take ps.length = ps) && (ps.all fun x => match sc.names.lookup x with
    | some .local => true
    | some .cell => true
    | _ => false) && sc.names.all fun y => match y.2 with
      | .free => false
      | _ => true
def chkDef (Γ : Stat) (P : Prog) (d : DefT) : Bool := match P.fns d.id with
  | some fn => decide (fn.np = d.np) && decide (fn.ns = d.N.length) && decide (d.np ≤ d.N.length) && scopeOk d.N d.ps (defScope d.st) && chkSs { Γ with N := d.N } fn.body (defScope d.st) (defBody d.st) && (!decide (d.name ∈ Γ.hfn) || chkSs { Γ with N := d.N, hot := true } fn.body (defScope d.st) (defBody d.st))
  | none => false
theorem scope_ok {N ps : List PySem.Str} {sc : Scope} (h : scopeOk N ps sc = true) : FnScope N ps sc := by
  unfold scopeOk at h
  simp only [Bool.and_eq_true, Bool.not_eq_true', decide_eq_true_eq, List.all_eq_true] at h
  obtain ⟨⟨⟨⟨⟨⟨h1, h2⟩, h3⟩, h4⟩, h5⟩, h6⟩, h7⟩ := h
  refine ⟨?_, h2, h3, h4, h5, fun x hx => ?_, fun y hy e => ?_⟩
  · generalize sc.kind = k at h1 ⊢
    cases k <;> first | rfl | cases h1
  · have := h6 x hx
    split at this
    · exact .inl (by assumption)
    · exact .inr (by assumption)
    · cases this
  · have := h7 y hy
    rw [e] at this; cases this
/-- a class of errors of the text: its name, its number and its bases', its fields' numbers, its __init__ -/
structure ClsT where
  name : PySem.Str
  qual : PySem.Str
  ms : List Nat
  ks : List Nat
  st : Stmt
  fs : List PySem.Str
def ClsT.ps (c : ClsT) : List PySem.Str := "self" :: c.fs
def chkCls (c : ClsT) : Bool := decide (0 < c.fs.length) && decide (c.fs.length ≤ 900) && decide c.fs.Nodup && decide c.ks.Nodup && scopeOk c.ps c.ps (defScope c.st) && chkInit c.fs (defBody c.st)
/-- what the head says of such a class at C -/
structure ClsH (g : Gb) (mg : PySem.Str → Option Value) (c : ClsT) : Prop where
  mgc : mg c.name = some (.ref (g.clsA (c.ms.headD 0)))
  mro : c.ms ∈ g.mros
  T : OexC g.K (g.clsA (c.ms.headD 0))
  fld : c.ks.map g.fld = c.fs
  no : ∀ f ∈ c.fs, PySem.W.findIn g.K (.ref (g.clsA (c.ms.headD 0))) f = some none
  ini : ∃ fI fd, PySem.W.findIn g.K (.ref (g.clsA (c.ms.headD 0))) "__init__" = some (some (.ref fI)) ∧ PySem.W.typeIn g.K (.ref fI) = some (.type "function") ∧ FunD g.K "__init__" c.qual (defArgs c.st) (defBody c.st) (defScope c.st) [] [] fI fd
  bnd : ∀ (kV doc pm : Value) (an : Option Addr) (cdv ct : Value) (us : List Value), us.length = c.ps.length → bindArgs (PySem.W.fnOf "__init__" c.qual (defArgs c.st) (defBody c.st) (defScope c.st) .none kV doc pm an cdv ct) { pos := us } = pure (c.ps.zip us)
/-- a class that clauses name, at c -/
structure CatchH (g : Gb) (mg : PySem.Str → Option Value) (x : PySem.Str) (c : Nat) : Prop where
  mg : mg x = some (.ref (g.clsA c))
  em : ∀ ms ∈ g.mros, PySem.W.exmOne g.K (.ref (g.clsA (ms.headD 0))) (.ref (g.clsA c)) = some (ms.contains c)
/-- the names of a text, where its head has built them -/
structure Glob (Γ : Stat) (g : Gb) (mg : PySem.Str → Option Value) (ds : List DefT) (cs : List ClsT) : Prop where
  cold : Γ.hot = false ∧ Γ.err = none
  mgS : ∀ x s, (x, s) ∈ Γ.gS → ∃ t, mg x = some (.str (S2 s) t)
  mgI : ∀ x i, (x, i) ∈ Γ.gI → ∃ t, mg x = some (.int i t)
  mgC : ∀ x c, (x, c) ∈ Γ.gC → mg x = some (.ref (g.cA c)) ∧ CstAt g.K g.w (g.cA c) (g.C c)
  mgB : ∀ x, x ∈ Γ.bl → mg x = none
  fns : ∀ x f, (x, f) ∈ Γ.fns → ∃ d ∈ ds, d.name = x ∧ d.id = f
  def_ : ∀ d ∈ ds, ∃ a fd, mg d.name = some (.ref a) ∧ FunD g.K d.name d.name (defArgs d.st) (defBody d.st) (defScope d.st) [] [] a fd
  bnd : ∀ d ∈ ds, ∀ (kV doc pm : Value) (an : Option Addr) (cdv ct : Value) (us : List Value), us.length = d.ps.length → bindArgs (PySem.W.fnOf d.name d.name (defArgs d.st) (defBody d.st) (defScope d.st) .none kV doc pm an cdv ct) { pos := us } = pure (d.ps.zip us)
  kwb : ∀ x ks pm, (x, ks, pm) ∈ Γ.kw → ∀ d ∈ ds, d.name = x → ∀ (kV doc pm' : Value) (an : Option Addr) (cdv ct : Value) (us : List Value), us.length = ks.length → bindArgs (PySem.W.fnOf d.name d.name (defArgs d.st) (defBody d.st) (defScope d.st) .none kV doc pm' an cdv ct) ⟨[], ks.zip us⟩ = pure (d.ps.zip (pm.map fun i => us.getD i .none))
  cls : ∀ x ms ks, (x, ms, ks) ∈ Γ.cls → ∃ c ∈ cs, c.name = x ∧ c.ms = ms ∧ c.ks = ks
  clsH : ∀ c ∈ cs, ClsH g mg c ∧ chkCls c = true
  hcl : ∀ x c, (x, c) ∈ Γ.hcl → CatchH g mg x c
  fld : ∀ f k, (f, k) ∈ Γ.fld → g.fld k = f ∧ ∀ ms ∈ g.mros, PySem.W.findIn g.K (.ref (g.clsA (ms.headD 0))) f = some none
  xfc : ∀ ms ∈ g.mros, XfI g.K (g.clsA (ms.headD 0))
theorem init_fn {g : Gb} {mg : PySem.Str → Option Value} {c : ClsT} (h : ClsH g mg c) (hc : chkCls c = true) (base : Heap) : ∃ fI fd ps, PySem.W.findIn g.K (.ref (g.clsA (c.ms.headD 0))) "__init__" = some (some (.ref fI)) ∧ PySem.W.typeIn g.K (.ref fI) = some (.type "function") ∧ Binds g.K fd ps [] ∧
    FnOk g.P g.w g.K mg base (L2N.CX g.P g.w) 1 fI fd ps (spI (g.clsA (c.ms.headD 0)) (c.ks.map g.fld)) := by
  obtain ⟨fI, fd, q1, q2, F⟩ := h.ini
  unfold chkCls at hc
  simp only [Bool.and_eq_true, decide_eq_true_eq] at hc
  obtain ⟨⟨⟨⟨⟨c1, c2⟩, c3⟩, c4⟩, c5⟩, c6⟩ := hc
  have sc := scope_ok c5
  refine ⟨fI, fd, c.ps, q1, q2, F.bindsN h.bnd, ?_⟩
  rw [h.fld]
  refine F.ok sc (fun vs H Q E hs => ?_) fun cdv A outer s H vs Q E hr hs => ?_
  · obtain ⟨a, ws, rfl, hl, _⟩ := hs
    simp [ClsT.ps, hl]
  · let X := cxOf (L2N.CX g.P g.w) g.P g.w g.K mg base c.ps c.qual (defScope c.st) fI cdv A outer s H E
    have vis : ∀ x ∈ c.ps, Vis X.env.scope x := fun x hx => by
      rcases sc.par x hx with q | q
      · exact .inl q
      · exact .inr (.inl q)
    obtain ⟨t, h1, h2⟩ := init_walk (X := X) h.T rfl (vis _ (List.mem_cons_self ..)) c1 c2 c3 c6 (fun j f e => by rw [Nat.add_comm]; exact e) fun f hf => ⟨vis f (List.mem_cons_of_mem _ hf), h.no f hf⟩
    refine ⟨t, h1, h2 Q E _ H vs ?_ hs⟩
    obtain ⟨a, ws, rfl, hl, _⟩ := hs
    unfold L2.start
    rw [show c.ps.length - (V.ref a :: ws).length = 0 by simp [ClsT.ps, hl]]
    simp
/-- such a def, within a suite -/
theorem funD_okH {P : Program} {w : World} {K : PySem.W.Frag} {mg : PySem.Str → Option Value} {base : Heap} {x qual : PySem.Str} {params : Arguments} {body : List Stmt} {scope : Scope} {dvs : List V} {kws : List (PySem.Str × V)} {f : Addr} {fd : FuncData} {CX : CXT} {N ps : List PySem.Str} {k : Nat} {sp : Sp} (F : FunD K x qual params body scope dvs kws f fd) (S : FnScope N ps scope) (len : ∀ vs H Q E, sp vs H Q E → vs.length = ps.length)
    (hbody : ∀ (cdv : Value) (A : Around) (outer : List PySem.Env) (s : Shared) (H : Hp) (vs : List V) (Q : VK) (E : XK) (p : Addr × PySem.Obj), Hot1 A p → RoomH k (A.deeper (envOfC qual scope s.heap.objs.size f cdv)) → sp vs H Q E →
      ∃ t, PSs (cxH CX P w K mg base N qual scope f cdv A outer s H E p) body t ∧ t { nx := fun _ H' => Q .non H', rt := Q } (L2.start N vs) H) : FnH P w K mg base CX (k + 1) f fd ps sp := by
  obtain ⟨oc, od, dV, kV, doc, pm, an, cdv, ct, osl, rfl, lk, hcd, _, _⟩ := F.ex
  exact fn_ofH lk hcd S len fun A outer s H vs Q E p hot hr hsp => hbody cdv A outer s H vs Q E p hot hr hsp
theorem funD_kw {K : PySem.W.Frag} {x qual : PySem.Str} {params : Arguments} {body : List Stmt} {scope : Scope} {kws : List (PySem.Str × V)} {f : Addr} {fd : FuncData} {ps ks : List PySem.Str} {pm : List Nat} (F : FunD K x qual params body scope [] kws f fd)
    (h : ∀ (kV doc pm' : Value) (an : Option Addr) (cdv ct : Value) (us : List Value), us.length = ks.length → bindArgs (PySem.W.fnOf x qual params body scope .none kV doc pm' an cdv ct) ⟨[], ks.zip us⟩ = pure (ps.zip (pm.map fun i => us.getD i .none))) : NBinds fd ps ks pm := by
  obtain ⟨oc, od, dV, kV, doc, pm', an, cdv, ct, osl, rfl, lk, hcd, hD, hK⟩ := F.ex
  rcases hD with ⟨_, rfl⟩ | ⟨e, _⟩
  · exact fun us hl => h kV doc pm' an cdv ct us hl
  · exact absurd rfl e
theorem fn_all {Γ : Stat} {g : Gb} {mg : PySem.Str → Option Value} {ds : List DefT} {cs : List ClsT} {P : Prog} {M : Nat} (G : Glob Γ g mg ds cs) (hC : g.C = P.cst) (hc : ∀ d ∈ ds, chkDef Γ P d = true) : ∀ (k : Nat) (base : Heap) (d : DefT), d ∈ ds → ∀ a fd, mg d.name = some (.ref a) →
    FunD g.K d.name d.name (defArgs d.st) (defBody d.st) (defScope d.st) [] [] a fd → FnOk g.P g.w g.K mg base (L2N.CX g.P g.w) (k + 2) a fd d.ps (spF g (callF P M k) d.id d.ps.length) ∧
      (d.name ∈ Γ.hfn → FnH g.P g.w g.K mg base (L2N.CX g.P g.w) (k + 2) a fd d.ps (spF g (callF P M k) d.id d.ps.length))
  | 0, base, d, hd, a, fd, ha, F => ⟨⟨fun vs H Q E h => h.1, fun A outer s H args us vs Q E _ _ _ _ h => by
    obtain ⟨_, ι, μ, es, _, _, hw⟩ := h
    exact False.elim hw⟩, fun _ => ⟨fun vs H Q E h => h.1, fun A outer s H args us vs Q E _ _ _ _ _ _ _ h => by
    obtain ⟨_, ι, μ, es, _, _, hw⟩ := h
    exact False.elim hw⟩⟩
  | k + 1, base, d, hd, a, fd, ha, F => by
    have hcd := hc d hd
    unfold chkDef at hcd
    split at hcd
    · rename_i fn efn
      simp only [Bool.and_eq_true, decide_eq_true_eq] at hcd
      obtain ⟨⟨⟨⟨⟨c1, c2⟩, c3⟩, c4⟩, c5⟩, c6⟩ := hcd
      have sc := scope_ok c4
      have lps : d.ps.length = d.np := by unfold DefT.ps; rw [List.length_take]; omega
      have fnk : ∀ (base : Heap) x f, (x, f) ∈ Γ.fns → ∃ a fd ps, mg x = some (.ref a) ∧ PySem.W.keepIn g.K (.ref a) = true ∧ Binds g.K fd ps [] ∧ (∀ es μ, es.length ≠ ps.length → callF P M k f es μ = .stuck) ∧
          FnOk g.P g.w g.K mg base (L2N.CX g.P g.w) (k + 2) a fd ps (spF g (callF P M k) f ps.length) ∧ (x ∈ Γ.hfn → FnH g.P g.w g.K mg base (L2N.CX g.P g.w) (k + 2) a fd ps (spF g (callF P M k) f ps.length)) ∧ (∀ ks pm, (x, ks, pm) ∈ Γ.kw → NBinds fd ps ks pm) := fun base x f hf => by
        obtain ⟨d', hd', rfl, rfl⟩ := G.fns x f hf
        obtain ⟨a', fd', m1, F'⟩ := G.def_ d' hd'
        obtain ⟨r1, r2⟩ := fn_all G hC hc k base d' hd' a' fd' m1 F'
        refine ⟨a', fd', d'.ps, m1, F'.kp, F'.bindsN (G.bnd d' hd'), fun es' μ' hne => ?_, r1, r2, fun ks pm hk => funD_kw F' (G.kwb _ ks pm hk d' hd' rfl)⟩
        cases k with
        | zero => rfl
        | succ k =>
          have hcd' := hc d' hd'
          unfold chkDef at hcd'
          split at hcd'
          · rename_i fn' efn'
            simp only [Bool.and_eq_true, decide_eq_true_eq] at hcd'
            have lps' : d'.ps.length = d'.np := by unfold DefT.ps; rw [List.length_take]; omega
            show (match P.fns d'.id with
              | some fn => if es'.length = fn.np then (if D.dataL es' then graft (callB P M (callF P M k) fn es' []) μ' else callB P M (callF P M k) fn es' μ') else .stuck
              | none => .stuck) = _
            rw [efn']
            simp only
            rw [if_neg]
            rw [hcd'.1.1.1.1.1, ← lps']
            exact hne
          · cases hcd'
      have rse : ∀ (base : Heap) x ms ks, (x, ms, ks) ∈ Γ.cls → mg x = some (.ref (g.clsA (ms.headD 0))) ∧ ms ∈ g.mros ∧ OexC g.K (g.clsA (ms.headD 0)) ∧ ks.Nodup ∧ ∃ fI fd ps, PySem.W.findIn g.K (.ref (g.clsA (ms.headD 0))) "__init__" = some (some (.ref fI)) ∧ PySem.W.typeIn g.K (.ref fI) = some (.type "function") ∧ Binds g.K fd ps [] ∧ FnOk g.P g.w g.K mg base (L2N.CX g.P g.w) 1 fI fd ps (spI (g.clsA (ms.headD 0)) (ks.map g.fld)) := fun base x ms ks h => by
        obtain ⟨c, hc1, rfl, rfl, rfl⟩ := G.cls x ms ks h
        obtain ⟨ch, ck⟩ := G.clsH c hc1
        exact ⟨ch.mgc, ch.mro, ch.T, by unfold chkCls at ck; simp only [Bool.and_eq_true, decide_eq_true_eq] at ck; exact ck.1.1.2, init_fn ch ck base⟩
      have fin : ∀ {Γ' : Stat} {X : Cx} {W : WX} {H : Hp} {vs : List V} {Q : VK} {E : XK}, W = (fun c d _ H => E c d H) → chkSs Γ' fn.body (defScope d.st) (defBody d.st) = true → XOkS Γ' g.cold (callF P M k) W (k + 2) (defScope d.st) X → spF g (callF P M (k + 1)) d.id d.ps.length vs H Q E →
          ∃ t, PSs X (defBody d.st) t ∧ t { nx := fun _ H' => Q .non H', rt := Q } (L2.start d.N vs) H := by
        intro Γ' X W H vs Q E hW hcs xok h
        obtain ⟨hl, ι, μ, es, S, r, hw⟩ := h
        have hw : wpR (match P.fns d.id with
          | some fn => if es.length = fn.np then (if D.dataL es then graft (callB P M (callF P M k) fn es []) μ else callB P M (callF P M k) fn es μ) else .stuck
          | none => .stuck) (OkV g ι H Q) (ExW g ι H E) := hw
        rw [efn] at hw
        simp only at hw
        refine ⟨semB g.cold (callF P M k) M W fn.body, sndB Γ' g.cold (callF P M k) M fn.body _ _ W (k + 2) X hcs xok, ?_⟩
        subst hW
        split at hw
        · rename_i hne
          have key : ∀ {ι0 : List Addr} {μ0 : Store}, Sim g ι0 μ0 H → RepL g ι0 H es vs → wpR (callB P M (callF P M k) fn es μ0) (OkV g ι0 H Q) (ExW g ι0 H E) → semB g.cold (callF P M k) M (fun c d _ H => E c d H) fn.body { nx := fun _ H' => Q .non H', rt := Q } (L2.start d.N vs) H := by
            intro ι0 μ0 S0 r0 h0
            refine ⟨ι0, startE fn.np fn.ns es, μ0, S0, by rw [c2]; exact start_rep r0 hne, ?_⟩
            unfold callB at h0
            rw [← hC] at h0
            exact handed_wp (g := g.cold) h0
          split at hw
          · rename_i hdat
            have S0 : Sim g [] [] H := ⟨List.nodup_nil, rfl, fun l o a h1 _ => by simp at h1⟩
            exact key S0 (repL_nil hdat r) (graft_ok S hw)
          · exact key S r hw
        · exact False.elim hw
      have nofre : ∀ x, (defScope d.st).names.lookup x = some .free → False := fun x h => by
        obtain ⟨l1, hm, e5, _⟩ := List.lookup_eq_some_iff.mp h
        refine sc.nofree (x, .free) ?_ rfl
        rw [e5]; simp
      have kind : (if (defScope d.st).kind.isAnnotationScope then ScopeKind.function else (defScope d.st).kind) = ScopeKind.function := by rw [sc.kind]; rfl
      refine ⟨F.ok sc (fun vs H Q E h => h.1) fun cdv A outer s H vs Q E hr h => ?_, fun hh => funD_okH F sc (fun vs H Q E h => h.1) fun cdv A outer s H vs Q E p hot hr h => ?_⟩
      · have hh := hr.un
        exact fin (Γ' := { Γ with N := d.N }) (X := cxOf (L2N.CX g.P g.w) g.P g.w g.K mg base d.N d.name (defScope d.st) a cdv A outer s H E) (W := fun c d _ H => E c d H) rfl c5 {
          N := rfl
          nd := sc.nd
          P := rfl
          w := rfl
          K := rfl
          calm := fun _ => rfl
          room := fun _ => hr
          un := by show (A.deeper _).units + 100 < cLine; omega
          hc := fun h => by rw [show ({ Γ with N := d.N } : Stat).hot = false from G.cold.1] at h; cases h
          rmH := fun h => by rw [show ({ Γ with N := d.N } : Stat).hot = false from G.cold.1] at h; cases h
          k2 := by omega
          en := G.cold.2.symm
          hotE := fun _ => G.cold.2
          er := fun n h => by rw [show ({ Γ with N := d.N } : Stat).err = none from G.cold.2] at h; cases h
          rse := fun x ms ks h => let ⟨r1, r2, r3, r4, r5⟩ := rse base x ms ks h; ⟨r1, r2, r3, r4, r5⟩
          hcl := fun x c h => let q := G.hcl x c h; ⟨q.mg, q.em⟩
          fld := fun f i h => let q := G.fld f i h; ⟨q.1, q.2⟩
          xfc := G.xfc
          stk := rfl
          frm := rfl
          tk := L2N.takes_of (E := E) rfl rfl rfl rfl
          po := passes_of rfl
          loc := fun x h => h
          cel := fun x h => ⟨h, rfl⟩
          fre := fun x h => (nofre x h).elim
          gl := fun x h => h
          mgS := G.mgS
          mgI := G.mgI
          mgC := G.mgC
          mgB := G.mgB
          bk := kind
          fnk := fnk base } h
      · have hun := hr.un
        have c7 : chkSs { Γ with N := d.N, hot := true } fn.body (defScope d.st) (defBody d.st) = true := by
          rw [Bool.or_eq_true, Bool.not_eq_true', decide_eq_false_iff_not] at c6
          exact c6.resolve_left fun z => z hh
        exact fin (Γ' := { Γ with N := d.N, hot := true }) (X := cxH (L2N.CX g.P g.w) g.P g.w g.K mg base d.N d.name (defScope d.st) a cdv A outer s H E p) (W := fun c d _ H => E c d H) rfl c7 {
          N := rfl
          nd := sc.nd
          P := rfl
          w := rfl
          K := rfl
          calm := fun h => Bool.noConfusion (show true = false from h)
          room := fun h => Bool.noConfusion (show true = false from h)
          un := by show (A.deeper _).units + 100 < cLine; omega
          hc := fun _ => ⟨p, hot, List.mem_cons_self ..⟩
          rmH := fun _ => hr
          k2 := by omega
          en := G.cold.2.symm
          hotE := fun _ => G.cold.2
          er := fun n h => by rw [show ({ Γ with N := d.N, hot := true } : Stat).err = none from G.cold.2] at h; cases h
          rse := fun x ms ks h => let ⟨r1, r2, r3, r4, r5⟩ := rse base x ms ks h; ⟨r1, r2, r3, r4, r5⟩
          hcl := fun x c h => let q := G.hcl x c h; ⟨q.mg, q.em⟩
          fld := fun f i h => let q := G.fld f i h; ⟨q.1, q.2⟩
          xfc := G.xfc
          stk := rfl
          frm := rfl
          tk := L2N.takes_of (E := E) rfl rfl rfl rfl
          po := passes_of rfl
          loc := fun x h => h
          cel := fun x h => ⟨h, rfl⟩
          fre := fun x h => (nofre x h).elim
          gl := fun x h => h
          mgS := G.mgS
          mgI := G.mgI
          mgC := G.mgC
          mgB := G.mgB
          bk := kind
          fnk := fnk base } h
    · cases hcd
end PL
end
section
set_option Elab.async false
set_option linter.all false
set_option autoImplicit false
set_option maxRecDepth 100000
set_option maxHeartbeats 400000
/-! Sound14: tables of the written part; a law's head. -/
namespace PL
open PySem PySem.Spec PyProof.Rows L2
/-! ### constants of the written part -/
section
variable (K : PySem.W.Frag)
mutual
def relD : D → Value → Bool
  | .non, .none => true
  | .bl b, .bool c => b == c
  | .int i, .int j _ => decide (i = j)
  | .str s, .str z _ => decide (z = S2 s)
  | .ktp ds, .ref a => match K.lookup a with
    | some { cls := .type c, data := .seq its _, .. } => decide (c = "tuple") && decide (its.size ≤ sizeLine) && relDL ds its.toList
    | _ => false
  | _, _ => false
def relDL : List D → List Value → Bool
  | [], [] => true
  | d :: ds, u :: us => relD d u && relDL ds us
  | _, _ => false
end
mutual
theorem relD_ok : ∀ (d : D) (u : Value), relD K d u = true → ∃ v, RelV v u ∧ RepK K d v
  | .non, u, h => by
    cases u with
    | none => exact ⟨.non, rfl, rfl⟩
    | _ => simp [relD] at h
  | .bl b, u, h => by
    cases u with
    | bool c =>
      rw [relD] at h
      have : b = c := by simpa using h
      subst this
      exact ⟨.bl b, rfl, rfl⟩
    | _ => simp [relD] at h
  | .int i, u, h => by
    cases u with
    | int j t =>
      rw [relD] at h
      have : i = j := by simpa using h
      subst this
      exact ⟨.int i, ⟨t, rfl⟩, rfl⟩
    | _ => simp [relD] at h
  | .str s, u, h => by
    cases u with
    | str z t =>
      rw [relD] at h
      have : z = S2 s := by simpa using h
      subst this
      exact ⟨.str (S2 s), ⟨t, rfl⟩, rfl⟩
    | _ => simp [relD] at h
  | .ktp ds, u, h => by
    cases u with
    | ref a =>
      rw [relD] at h
      split at h
      · rename_i c dd its n sl e
        simp only [Bool.and_eq_true, decide_eq_true_eq] at h
        obtain ⟨⟨h1, h2⟩, h3⟩ := h
        obtain ⟨vs, q1, q2⟩ := relDL_ok ds its.toList h3
        exact ⟨.ref a, rfl, a, vs, rfl, ⟨_, its, n, e, by rw [h1], rfl, h2, q1⟩, q2⟩
      · cases h
    | _ => simp [relD] at h
  | .tup _, u, h => by cases u <;> simp [relD] at h
  | .rol _, u, h => by cases u <;> simp [relD] at h
  | .loc _, u, h => by cases u <;> simp [relD] at h
  | .cst _, u, h => by cases u <;> simp [relD] at h
  | .err _ _ _, u, h => by cases u <;> simp [relD] at h
  | .ftup _, u, h => by cases u <;> simp [relD] at h
theorem relDL_ok : ∀ (ds : List D) (us : List Value), relDL K ds us = true → ∃ vs, Vals vs us ∧ RepKL K ds vs
  | [], us, h => by
    cases us with
    | nil => exact ⟨[], .nil, rfl⟩
    | cons _ _ => simp [relDL] at h
  | d :: ds, us, h => by
    cases us with
    | nil => simp [relDL] at h
    | cons u us =>
      rw [relDL, Bool.and_eq_true] at h
      obtain ⟨v, q1, q2⟩ := relD_ok d u h.1
      obtain ⟨vs, q3, q4⟩ := relDL_ok ds us h.2
      exact ⟨v :: vs, .cons q1 q3, v, vs, rfl, q2, q4⟩
end
def entB : List DictEntry → List (PL.Key × D) → Bool
  | [], [] => true
  | e :: es, (.inr s, d) :: kvs => (match e.key with
    | .str z _ => decide (z = S2 s)
    | _ => false) && relD K d e.val && entB es kvs
  | _, _ => false
theorem ent_get : ∀ {es : List DictEntry} {kvs : List (PL.Key × D)}, entB K es kvs = true → ∀ s : Txt, (es.any fun x => x.refKey) = false ∧
    ((look kvs (.inr s) = none ∧ es.find? (fun x => x.key.isStr (S2 s)) = none) ∨ ∃ d e, look kvs (.inr s) = some d ∧ es.find? (fun x => x.key.isStr (S2 s)) = some e ∧ relD K d e.val = true)
  | [], [], _, s => ⟨rfl, .inl ⟨rfl, rfl⟩⟩
  | [], _ :: _, h, _ => by simp [entB] at h
  | _ :: _, [], h, _ => by simp [entB] at h
  | e :: es, (.inl _, _) :: kvs, h, _ => by simp [entB] at h
  | e :: es, (.inr z, d) :: kvs, h, s => by
    simp only [entB, Bool.and_eq_true] at h
    obtain ⟨⟨h1, h2⟩, h3⟩ := h
    obtain ⟨q1, q2⟩ := ent_get h3 s
    have hk : ∃ t, e.key = .str (S2 z) t := by
      generalize e.key = y at h1
      cases y with
      | str w t => exact ⟨t, by rw [show w = S2 z by simpa using h1]⟩
      | _ => cases h1
    obtain ⟨t, hk⟩ := hk
    have r0 : e.refKey = false := by unfold DictEntry.refKey; rw [hk]
    refine ⟨by rw [List.any_cons, r0, q1]; rfl, ?_⟩
    have is : e.key.isStr (S2 s) = (S2 z == S2 s) := by rw [hk]; rfl
    rw [look_cons, List.find?_cons, is]
    by_cases hz : z = s
    · subst hz
      refine .inr ⟨d, e, by rw [if_pos rfl], ?_, h2⟩
      rw [BEq.rfl]
    · have n1 : (S2 z == S2 s) = false := by
        rw [beq_eq_false_iff_ne]; exact fun e => hz (S2_inj.mp e)
      rw [n1, if_neg (fun e => hz (by cases e; rfl))]
      exact q2
def cstB (a : Addr) (kvs : List (PL.Key × D)) : Bool := match K.lookup a with
  | some { data := .dict es _, .. } => entB K es.toList kvs
  | _ => false
theorem cst_at {w : World} {a : Addr} {kvs : List (PL.Key × D)} (hk : ∃ es n, KDict K w a es n) (h : cstB K a kvs = true) : CstAt K w a kvs := by
  refine ⟨hk, fun s => ?_⟩
  unfold cstB at h
  split at h
  · rename_i c dd es n sl e
    obtain ⟨q1, q2⟩ := ent_get K h s
    have hn : PySem.W.nsIn K a (S2 s) = match es.toList.find? (fun x => x.key.isStr (S2 s)) with
      | some e => some (some e.val)
      | none => if (es.toList.any fun x => x.refKey) = true then none else some none := by
      unfold PySem.W.nsIn
      rw [e]
      rfl
    rcases q2 with ⟨a1, a2⟩ | ⟨d, ee, a1, a2, a3⟩
    · left
      refine ⟨a1, ?_⟩
      rw [hn, a2, q1]; rfl
    · right
      obtain ⟨v, b1, b2⟩ := relD_ok K d ee.val a3
      exact ⟨d, ee.val, v, a1, by rw [hn, a2], b1, b2⟩
  · cases h
end
/-! ### classes of errors -/
section
variable (K : PySem.W.Frag)
def oexB (C : Addr) : Bool := (match K.lookup C with
  | some ⟨.type c, _, .cls cd, sl⟩ => decide (c = "type") && (match cd.mro, sl.toList with
    | .ref C' :: bm, [_, _, _, _, some (.builtin n), _] => decide (C' = C) && decide (n = "ValueError.__new__") && cd.hasDict && !cd.hasDel && HandSPX.refsVE bm
    | _, _ => false)
  | _ => false) && decide (PySem.W.findIn K (.ref C) "__setattr__" = some (some (.builtin "object.__setattr__"))) && decide (PySem.W.subIn K (.ref C) (.type "BaseException") = some true) && decide (PySem.W.typeIn K (.ref C) = some (.type "type")) && PySem.W.keepIn K (.ref C)
theorem oexB_ok {C : Addr} (h : oexB K C = true) : OexC K C := by
  unfold oexB at h
  simp only [Bool.and_eq_true, decide_eq_true_eq] at h
  obtain ⟨⟨⟨⟨h1, h2⟩, h3⟩, h4⟩, h5⟩ := h
  refine ⟨?_, h2, h3, h4, h5⟩
  split at h1
  · rename_i c dd cd sl e
    obtain ⟨hc, h1⟩ := Bool.and_eq_true_iff.mp h1
    have hc : c = "type" := of_decide_eq_true hc
    subst hc
    obtain ⟨nm, bs, mro, ns, qn, hd, sn, sb, ab, col, del⟩ := cd
    simp only at h1
    split at h1
    · rename_i C' bm k0 k1 k2 k3 n k5 e1 e2
      clear e2
      rename_i q
      have q : (decide (C' = C) && decide (n = "ValueError.__new__") && hd && !del && HandSPX.refsVE bm) = true := by assumption
      simp only [Bool.and_eq_true, decide_eq_true_eq, Bool.not_eq_true'] at q
      obtain ⟨⟨⟨⟨q1, q2⟩, q3⟩, q4⟩, q5⟩ := q
      subst q1 q2 q3 q4
      obtain ⟨sl⟩ := sl
      simp only at e1
      subst e1
      exact ⟨_, _, _, _, _, _, _, _, _, _, _, _, _, _, _, e, q5⟩
    · cases h1
  · cases h1
end
/-! ### a law's table -/
structure LawT where
  P : Prog
  ds : List DefT
  gS : List (PySem.Str × Txt)
  gC : List PySem.Str
  bl : List PySem.Str
  cs : List ClsT
  hcl : List (PySem.Str × Nat)
  fld : List (PySem.Str × Nat)
  gI : List (PySem.Str × Int)
  /-- calls by names -/
  kw : List (DefT × List PySem.Str × List Nat)
  /-- defs that suites call -/
  hfn : List PySem.Str
def nameOf (l : List (PySem.Str × Nat)) (k : Nat) : PySem.Str := match l.find? fun p => p.2 == k with
  | some p => p.1
  | none => ""
def LawT.stat (L : LawT) : Stat := { N := [], fns := L.ds.map fun d => (d.name, d.id), gS := L.gS, gC := L.gC.zipIdx, bl := L.bl, cls := L.cs.map fun c => (c.name, c.ms, c.ks), hcl := L.hcl, fld := L.fld, hot := false, err := none, gI := L.gI, kw := L.kw.map fun p => (p.1.name, p.2.1, p.2.2), hfn := L.hfn }
def LawT.fa (L : LawT) : List He.Fa := L.ds.map (fun d => .glo d.name) ++ (L.gC.map .glo ++ (L.gS.map (fun p => .str p.1 (S2 p.2)) ++ (L.bl.map .free ++ (L.hcl.map (fun p => .glo p.1) ++ L.gI.map fun p => .int p.1 p.2))))
def DefT.dd (d : DefT) : He.DefD := ⟨(d.name, none), d.name, d.name, defArgs d.st, defBody d.st, defScope d.st, [], []⟩
def ClsT.dd (c : ClsT) : He.DefD := ⟨(c.name, some "__init__"), "__init__", c.qual, defArgs c.st, defBody c.st, defScope c.st, [], []⟩
def LawT.fn (L : LawT) : List He.DefD := L.ds.map DefT.dd ++ L.cs.map ClsT.dd
def keyT : PL.Key → PySem.Str
  | .inr s => S2 s
  | .inl _ => ""
def LawT.ts (L : LawT) : List He.Tab := L.gC.zipIdx.map fun p => (fun K => He.ga K p.1, (L.P.cst p.2).map fun q => keyT q.1)
/-- what is asked of the classes in the written part -/
def LawT.chkC (L : LawT) (K : PySem.W.Frag) : Bool := (L.cs.all fun c => let C := He.ga K c.name
    oexB K C && xfiB K C && (c.fs.all fun f => decide (PySem.W.findIn K (.ref C) f = some none)) && (L.fld.all fun p => decide (PySem.W.findIn K (.ref C) p.1 = some none)) &&
    decide (PySem.W.findIn K (.ref C) "__init__" = some (some (.ref (He.ma K C "__init__")))) && decide (PySem.W.typeIn K (.ref (He.ma K C "__init__")) = some (.type "function")) &&
    L.hcl.all fun p => decide (PySem.W.exmOne K (.ref C) (.ref (He.ga K p.1)) = some (c.ms.contains p.2)))
def LawT.chk (L : LawT) (K : PySem.W.Frag) : Bool := (L.gC.zipIdx.all fun p => cstB K (He.ga K p.1) (L.P.cst p.2)) && L.chkC K
/-- what is asked of the tables alone -/
def LawT.okT (L : LawT) : Bool := (L.cs.all fun c => decide (nameOf L.hcl (c.ms.headD 0) = c.name) && decide ((c.name, c.ms.headD 0) ∈ L.hcl) && chkCls c && decide (c.ks.map (nameOf L.fld) = c.fs)) && (L.hcl.all fun p => decide (nameOf L.hcl p.2 = p.1)) && (L.fld.all fun p => decide (nameOf L.fld p.2 = p.1)) && decide (L.ds.map (·.name)).Nodup
def LawT.obs (L : LawT) (n : Nat) (g : Addr → Option PySem.Obj) : He.AlT × Bool := (He.obsTG n L.fa L.fn L.ts g, L.chk (He.frG g (He.asD g n)))
def LawT.hook (L : LawT) (n : Nat) : PySem.W.Hook where
  α := He.AlT × Bool
  obs := fun s => L.obs n s.heap.get?
  val := fun w => (He.valT L.fn L.ts w, true)
  says := fun w h => ∃ K, K.In h ∧ He.SaysT L.fa L.fn L.ts w K ∧ L.chk K = true
  of := fun w s h => by
    have h : (He.obsTG n L.fa L.fn L.ts s.heap.get?, L.chk (He.frG s.heap.get? (He.asD s.heap.get? n))) = (He.valT L.fn L.ts w, true) := h
    rw [Prod.mk.injEq] at h
    exact ⟨_, He.frG_in, h.1, h.2⟩
  keeps := fun w h h' ⟨K, q1, q2, q3⟩ k => ⟨K, fun a o e => k a o (q1 a o e), q2, q3⟩
def LawT.gd (L : LawT) (P : Program) (w : World) (K : PySem.W.Frag) : Gb := { P := P, w := w, K := K, C := L.P.cst, cA := fun c => He.ga K (L.gC.getD c ""), clsA := fun k => He.ga K (nameOf L.hcl k), mros := L.cs.map (·.ms), fld := nameOf L.fld }
theorem fa_ok {L : LawT} {K : PySem.W.Frag} (c : He.SaysD L.fa L.fn K) {f : He.Fa} (h : f ∈ L.fa) : He.Fa.ok K f = true := by
  obtain ⟨i, hi, e⟩ := List.mem_iff_getElem.mp h
  exact c.fact i (by rw [List.getElem?_eq_getElem hi, e])
theorem glob_of {L : LawT} {P : Program} {w : World} {K : PySem.W.Frag} {h : Heap} {mg : PySem.Str → Option Value} (X : K.In h) (G : h.Ns mainGlobals mg) (c : He.SaysT L.fa L.fn L.ts w K) (hk : L.chk K = true) (hT : L.okT = true)
    (hb : ∀ d ∈ L.ds, ∀ (kV doc pm : Value) (an : Option Addr) (cdv ct : Value) (us : List Value), us.length = d.ps.length → bindArgs (PySem.W.fnOf d.name d.name (defArgs d.st) (defBody d.st) (defScope d.st) .none kV doc pm an cdv ct) { pos := us } = pure (d.ps.zip us))
    (hb2 : ∀ c ∈ L.cs, ∀ (kV doc pm : Value) (an : Option Addr) (cdv ct : Value) (us : List Value), us.length = c.ps.length → bindArgs (PySem.W.fnOf "__init__" c.qual (defArgs c.st) (defBody c.st) (defScope c.st) .none kV doc pm an cdv ct) { pos := us } = pure (c.ps.zip us)) (hb3 : ∀ p ∈ L.kw, p.1 ∈ L.ds ∧ ∀ (kV doc pm' : Value) (an : Option Addr) (cdv ct : Value) (us : List Value), us.length = p.2.1.length → bindArgs (PySem.W.fnOf p.1.name p.1.name (defArgs p.1.st) (defBody p.1.st) (defScope p.1.st) .none kV doc pm' an cdv ct) ⟨[], p.2.1.zip us⟩ = pure (p.1.ps.zip (p.2.2.map fun i => us.getD i .none))) :
    Glob L.stat (L.gd P w K) mg L.ds L.cs := by
  obtain ⟨hk1, hk2⟩ := Bool.and_eq_true_iff.mp hk
  unfold LawT.okT at hT
  rw [Bool.and_eq_true, Bool.and_eq_true, Bool.and_eq_true, decide_eq_true_eq] at hT
  obtain ⟨⟨⟨t1, t2⟩, t3⟩, t4⟩ := hT
  have glo : ∀ {x : PySem.Str}, He.Fa.glo x ∈ L.fa → mg x = some (.ref (He.ga K x)) := fun hm => He.glo_ok X G (fa_ok c.d hm)
  have T1 : ∀ q ∈ L.cs, nameOf L.hcl (q.ms.headD 0) = q.name ∧ (q.name, q.ms.headD 0) ∈ L.hcl ∧ chkCls q = true ∧ q.ks.map (nameOf L.fld) = q.fs := fun q hq => by
    have := List.all_eq_true.mp t1 q hq
    simp only [Bool.and_eq_true, decide_eq_true_eq] at this
    exact ⟨this.1.1.1, this.1.1.2, this.1.2, this.2⟩
  have T2 : ∀ p ∈ L.hcl, nameOf L.hcl p.2 = p.1 := fun p hp => of_decide_eq_true (List.all_eq_true.mp t2 p hp)
  have T3 : ∀ p ∈ L.fld, nameOf L.fld p.2 = p.1 := fun p hp => of_decide_eq_true (List.all_eq_true.mp t3 p hp)
  have hgl : ∀ p ∈ L.hcl, mg p.1 = some (.ref (He.ga K p.1)) := fun p hp => glo (by
    refine List.mem_append_right _ (List.mem_append_right _ (List.mem_append_right _ (List.mem_append_right _ (List.mem_append_left _ ?_))))
    exact List.mem_map.mpr ⟨p, hp, rfl⟩)
  have CK : ∀ q ∈ L.cs, OexC K (He.ga K q.name) ∧ XfI K (He.ga K q.name) ∧ (∀ f ∈ q.fs, PySem.W.findIn K (.ref (He.ga K q.name)) f = some none) ∧ (∀ p ∈ L.fld, PySem.W.findIn K (.ref (He.ga K q.name)) p.1 = some none) ∧
      PySem.W.findIn K (.ref (He.ga K q.name)) "__init__" = some (some (.ref (He.ma K (He.ga K q.name) "__init__"))) ∧ PySem.W.typeIn K (.ref (He.ma K (He.ga K q.name) "__init__")) = some (.type "function") ∧
      ∀ p ∈ L.hcl, PySem.W.exmOne K (.ref (He.ga K q.name)) (.ref (He.ga K p.1)) = some (q.ms.contains p.2) := fun q hq => by
    have := List.all_eq_true.mp hk2 q hq
    simp only [Bool.and_eq_true, decide_eq_true_eq, List.all_eq_true] at this
    obtain ⟨⟨⟨⟨⟨⟨h1, h2⟩, h3⟩, h4⟩, h5⟩, h6⟩, h7⟩ := this
    exact ⟨oexB_ok K h1, xfiB_ok h2, h3, h4, h5, h6, h7⟩
  have mr : ∀ ms ∈ (L.gd P w K).mros, ∃ q ∈ L.cs, q.ms = ms ∧ (L.gd P w K).clsA (ms.headD 0) = He.ga K q.name := fun ms hm => by
    obtain ⟨q, hq, rfl⟩ := List.mem_map.mp hm
    exact ⟨q, hq, rfl, by show He.ga K (nameOf L.hcl _) = _; rw [(T1 q hq).1]⟩
  exact {
  cold := ⟨rfl, rfl⟩
  mgS := fun x s hm => He.str_ok X G (fa_ok c.d (by
    refine List.mem_append_right _ (List.mem_append_right _ (List.mem_append_left _ ?_))
    exact List.mem_map.mpr ⟨(x, s), hm, rfl⟩))
  mgI := fun x i hm => He.int_ok X G (fa_ok c.d (by
    refine List.mem_append_right _ (List.mem_append_right _ (List.mem_append_right _ (List.mem_append_right _ (List.mem_append_right _ ?_))))
    exact List.mem_map.mpr ⟨(x, i), hm, rfl⟩))
  kwb := fun x ks pm hm d hd hx => by
    obtain ⟨p, hp, e⟩ := List.mem_map.mp hm
    cases e
    obtain ⟨h1, h2⟩ := hb3 p hp
    have : d = p.1 := by
      obtain ⟨i, hi, ei⟩ := List.mem_iff_getElem.mp hd
      obtain ⟨j, hj, ej⟩ := List.mem_iff_getElem.mp h1
      have : i = j := (List.getElem_inj (h₀ := by rw [List.length_map]; exact hi) (h₁ := by rw [List.length_map]; exact hj) t4).mp (by rw [List.getElem_map, List.getElem_map, ei, ej]; exact hx)
      subst this
      rw [← ei, ← ej]
    subst this
    exact h2
  mgC := fun x i hm => by
    have hm : (x, i) ∈ L.gC.zipIdx := hm
    have hx : L.gC.getD i "" = x := by
      have := List.mem_zipIdx_iff_getElem?.mp hm
      rw [List.getD_eq_getElem?_getD, this]; rfl
    have hx' : x ∈ L.gC := List.fst_mem_of_mem_zipIdx hm
    refine ⟨?_, ?_⟩
    · show mg x = some (.ref (He.ga K (L.gC.getD i "")))
      rw [hx]
      exact glo (List.mem_append_right _ (List.mem_append_left _ (List.mem_map.mpr ⟨x, hx', rfl⟩)))
    · show CstAt K w (He.ga K (L.gC.getD i "")) (L.P.cst i)
      rw [hx]
      refine cst_at K ?_ ?_
      · obtain ⟨j, hj, e⟩ := List.mem_iff_getElem.mp hm
        exact c.tab j (t := (fun K => He.ga K x, (L.P.cst i).map fun q => keyT q.1)) (by
          show (L.gC.zipIdx.map _)[j]? = _
          rw [List.getElem?_map, List.getElem?_eq_getElem hj, e]; rfl)
      · exact List.all_eq_true.mp hk1 (x, i) hm
  mgB := fun x hm => He.free_ok X G (fa_ok c.d (List.mem_append_right _ (List.mem_append_right _ (List.mem_append_right _ (List.mem_append_left _ (List.mem_map.mpr ⟨x, hm, rfl⟩))))))
  fns := fun x f hm => by
    obtain ⟨d, hd, e⟩ := List.mem_map.mp hm
    cases e
    exact ⟨d, hd, rfl, rfl⟩
  def_ := fun d hd => by
    obtain ⟨i, hi, e⟩ := List.mem_iff_getElem.mp hd
    obtain ⟨fd, F⟩ := c.d.def_ i (d := d.dd) (by
      show (L.ds.map DefT.dd ++ L.cs.map ClsT.dd)[i]? = _
      rw [List.getElem?_append_left (by rw [List.length_map]; exact hi), List.getElem?_map, List.getElem?_eq_getElem hi, e]; rfl)
    refine ⟨He.ga K d.name, fd, glo (List.mem_append_left _ (List.mem_map.mpr ⟨d, hd, rfl⟩)), F⟩
  bnd := hb
  cls := fun x ms ks hm => by
    obtain ⟨q, hq, e⟩ := List.mem_map.mp hm
    cases e
    exact ⟨q, hq, rfl, rfl, rfl⟩
  clsH := fun q hq => by
    obtain ⟨n1, n2, n3, n4⟩ := T1 q hq
    obtain ⟨k1, k2, k3, k4, k5, k6, k7⟩ := CK q hq
    have eC : (L.gd P w K).clsA (q.ms.headD 0) = He.ga K q.name := by show He.ga K (nameOf L.hcl _) = _; rw [n1]
    refine ⟨⟨?_, List.mem_map.mpr ⟨q, hq, rfl⟩, ?_, n4, ?_, ?_, hb2 q hq⟩, n3⟩
    · rw [eC]; exact hgl _ n2
    · rw [eC]; exact k1
    · rw [eC]; exact k3
    · rw [eC]
      obtain ⟨i, hi, e⟩ := List.mem_iff_getElem.mp hq
      obtain ⟨fd, F⟩ := c.d.def_ (L.ds.length + i) (d := q.dd) (by
        show (L.ds.map DefT.dd ++ L.cs.map ClsT.dd)[L.ds.length + i]? = _
        rw [List.getElem?_append_right (by rw [List.length_map]; omega), List.length_map, Nat.add_sub_cancel_left, List.getElem?_map, List.getElem?_eq_getElem hi, e]; rfl)
      exact ⟨He.ma K (He.ga K q.name) "__init__", fd, k5, k6, F⟩
  hcl := fun x k hm => by
    have e : nameOf L.hcl k = x := T2 (x, k) hm
    refine ⟨by show mg x = some (.ref (He.ga K (nameOf L.hcl k))); rw [e]; exact hgl _ hm, fun ms hms => ?_⟩
    obtain ⟨q, hq, rfl, e2⟩ := mr ms hms
    rw [e2]
    show PySem.W.exmOne K (.ref (He.ga K q.name)) (.ref (He.ga K (nameOf L.hcl k))) = _
    rw [e]
    exact (CK q hq).2.2.2.2.2.2 (x, k) hm
  fld := fun f k hm => by
    refine ⟨T3 (f, k) hm, fun ms hms => ?_⟩
    obtain ⟨q, hq, rfl, e2⟩ := mr ms hms
    rw [e2]
    exact (CK q hq).2.2.2.1 (f, k) hm
  xfc := fun ms hms => by
    obtain ⟨q, hq, rfl, e2⟩ := mr ms hms
    rw [e2]
    exact (CK q hq).2.1 }
/-- a script, as Mini takes it -/
def scriptD (ns : List Int) : D := .rol (ns.map .int)
theorem ints_rep {g : Gb} {ι : List Addr} {H : Hp} : ∀ ns : List Int, RepL g ι H (ns.map .int) (ns.map V.int)
  | [] => rfl
  | n :: ns => ⟨_, _, rfl, rfl, ints_rep ns⟩
theorem dataL_ints : ∀ ns : List Int, D.dataL (ns.map .int) = true
  | [] => rfl
  | n :: ns => by rw [List.map_cons, D.dataL, dataL_ints ns]; rfl
theorem law_sp {g : Gb} {cf : CF} {f n : Nat} (hit : ∀ ns : List Int, ns.length ≤ n → ∃ μ, cf f [scriptD ns] [] = .ok (.bl true) μ) {H : Hp} {a : Addr} {ns : List Int} (hl : ns.length ≤ n) (ho : Only H) (hs : SqL g.K H a (ns.map V.int)) :
    spF g cf f 1 [.ref a] H (fun v _ => v = .bl true) (fun _ _ _ => False) := by
  obtain ⟨μ, e⟩ := hit ns hl
  refine ⟨rfl, [], [], [scriptD ns], ⟨List.nodup_nil, rfl, fun l o a h1 _ => by simp at h1⟩, ⟨_, _, rfl, ⟨a, _, rfl, ?_, ints_rep ns⟩, rfl⟩, ?_⟩
  · rcases hs with h | h
    · rcases ho a with h0 | ⟨o, xs, h0⟩
      · rcases h with h | ⟨o, h⟩ <;> rw [h0] at h <;> cases h
      · rcases h with h | ⟨o', h⟩
        · rw [h0] at h; cases h
        · exact .inl ⟨o', h, by simp⟩
    · exact .inr h
  · rw [e]
    exact fun ι' H' v _ _ r => r
theorem cx_no {P : Program} {w : World} (H : Hp) (s : Shared) (e : Value) (s' : Shared) (h : L2N.CX P w [] H s (fun _ _ _ => False) e s') : False := by
  obtain ⟨_, _, _, _, _, _, _, _, _, _, _, _, h⟩ := h
  exact h
/-- the walk of a law whose def is d -/
theorem law_walk {L : LawT} {l : PySem.W.OpenLaw} {n m k M : Nat} {q : Program} {loose : List PySem.Str} {XP : (PySem.Str → Option Value) → Heap → Prop} {rec : DefRec} {x : PySem.Str} (d : DefT)
    (hn : l.most = some n) (hn2 : n ≤ sizeLine) (hdf : rec.params.defaults = []) (hr : Room (k + 2) callerA) (hd : d ∈ L.ds) (hname : rec.name = d.name) (hps : d.ps = [x])
    (hc : ∀ d ∈ L.ds, chkDef L.stat L.P d = true)
    (hb : ∀ d ∈ L.ds, ∀ (kV doc pm : Value) (an : Option Addr) (cdv ct : Value) (us : List Value), us.length = d.ps.length → bindArgs (PySem.W.fnOf d.name d.name (defArgs d.st) (defBody d.st) (defScope d.st) .none kV doc pm an cdv ct) { pos := us } = pure (d.ps.zip us))
    (hb2 : ∀ c ∈ L.cs, ∀ (kV doc pm : Value) (an : Option Addr) (cdv ct : Value) (us : List Value), us.length = c.ps.length → bindArgs (PySem.W.fnOf "__init__" c.qual (defArgs c.st) (defBody c.st) (defScope c.st) .none kV doc pm an cdv ct) { pos := us } = pure (c.ps.zip us)) (hT : L.okT = true) (hb3 : ∀ p ∈ L.kw, p.1 ∈ L.ds ∧ ∀ (kV doc pm' : Value) (an : Option Addr) (cdv ct : Value) (us : List Value), us.length = p.2.1.length → bindArgs (PySem.W.fnOf p.1.name p.1.name (defArgs p.1.st) (defBody p.1.st) (defScope p.1.st) .none kV doc pm' an cdv ct) ⟨[], p.2.1.zip us⟩ = pure (p.1.ps.zip (p.2.2.map fun i => us.getD i .none)))
    (hit : ∀ ns : List Int, ns.length ≤ n → ∃ μ, callF L.P M k d.id [scriptD ns] [] = .ok (.bl true) μ) :
    PySem.W.WalkO q loose XP (L.hook m).says l.row.toRowW rec [] fun f vs => call f vs := by
  intro w s₀ s₁ mg mb Gr Y
  refine (L2.walk_ofE (l := l) (n := n) (k := k + 2) (x := x) (CX := L2N.CX l.prog w) (YP := fun w' h => w' = w ∧ (L.hook m).says w' h) (XP := XP) (q := q) (loose := loose) (d := rec) hn hn2 hdf hr ?_ cx_no) w s₀ s₁ mg mb Gr ⟨rfl, Y⟩
  rintro w' mg fa h ⟨rfl, K, KX, c, hk⟩ Y hmg0
  have G := glob_of (P := l.prog) KX Y c hk hT hb hb2 hb3
  obtain ⟨a, fd, e, F⟩ := G.def_ d hd
  have ea : fa = a := by
    rw [hname] at hmg0
    have := hmg0.symm.trans e
    cases this; rfl
  subst ea
  refine ⟨K, fd, spF (L.gd l.prog w' K) (callF L.P M k) d.id d.ps.length, KX, fun s u => ?_, fun H a ns hl ho hs => ?_, fun base _ _ => ?_⟩
  · have := FunD.bindsA (ps := d.ps) F (hb d hd) s [u] (by rw [hps]; rfl)
    rw [hps] at this
    exact this
  · rw [hps]
    exact law_sp hit hl ho hs
  · have := (fn_all (M := M) G rfl hc k base d hd fa fd e F).1
    rw [hps] at this ⊢
    exact this
end PL
end
section
set_option autoImplicit false
set_option linter.all false
/-! Ev: rules for evaluating Mini by simp. -/
namespace PL
section
variable (C : Nat → List (Key × D)) (cf : CF) (N : Nat) (ρ : Env) (μ : Store)
def getV (o : Option (Option D)) (μ : Store) : Res D := match o with
  | some (some d) => .ok d μ
  | _ => .stuck
@[simp] theorem getV_some (d : D) : getV (some (some d)) μ = .ok d μ := rfl
@[simp] theorem ev_v (i : Nat) : ev C cf (.v i) ρ μ = getV ρ[i]? μ := rfl
@[simp] theorem bind_ok {α β : Type} (a : α) (μ : Store) (f : α → Store → Res β) : (Res.ok a μ).bind f = f a μ := rfl
@[simp] theorem of_ok {α : Type} (ρ : Env) (a : α) (μ : Store) (f : α → Store → SRes) : SRes.of ρ (.ok a μ) f = f a μ := rfl
@[simp] theorem next_nx (f : Env → Store → SRes) : (SRes.go .nx ρ μ).next f = f ρ μ := rfl
@[simp] theorem next_rt (d : D) (f : Env → Store → SRes) : (SRes.go (.rt d) ρ μ).next f = .go (.rt d) ρ μ := rfl
@[simp] theorem next_bk (f : Env → Store → SRes) : (SRes.go .bk ρ μ).next f = .go .bk ρ μ := rfl
@[simp] theorem next_ct (f : Env → Store → SRes) : (SRes.go .ct ρ μ).next f = .go .ct ρ μ := rfl
@[simp] theorem handed_nx : handed (.go .nx ρ μ) = .ok .non μ := rfl
@[simp] theorem handed_rt (d : D) : handed (.go (.rt d) ρ μ) = .ok d μ := rfl
@[simp] theorem ev_non : ev C cf .non ρ μ = .ok .non μ := rfl
@[simp] theorem ev_bl (b : Bool) : ev C cf (.bl b) ρ μ = .ok (.bl b) μ := rfl
@[simp] theorem ev_int (i : Int) : ev C cf (.int i) ρ μ = .ok (.int i) μ := rfl
@[simp] theorem ev_str (s : Txt) : ev C cf (.str s) ρ μ = .ok (.str s) μ := rfl
@[simp] theorem ev_glS (x : Nat) (s : Txt) : ev C cf (.glS x s) ρ μ = .ok (.str s) μ := rfl
@[simp] theorem ev_glC (x c : Nat) : ev C cf (.glC x c) ρ μ = .ok (.cst c) μ := rfl
@[simp] theorem ev_glI (x : Nat) (i : Int) : ev C cf (.glI x i) ρ μ = .ok (.int i) μ := rfl
@[simp] theorem ev_callK (f : Nat) (pm : List Nat) (es : Es) : ev C cf (.callK f pm es) ρ μ = (evs C cf es ρ μ).bind fun ds μ => (okI (permD pm ds) μ).bind fun ds μ => cf f ds μ := rfl
@[simp] theorem ev_bf2 (b : B2) (a c : E) : ev C cf (.bf2 b a c) ρ μ = (ev C cf a ρ μ).bind fun x μ => (ev C cf c ρ μ).bind fun y μ => bf2F b x y μ := rfl
@[simp] theorem evI_rev (e : E) : evI C cf (.rev e) ρ μ = (ev C cf e ρ μ).bind fun d μ => okI (revF d μ) μ := rfl
@[simp] theorem max2_int (i j : Int) : bf2F .max2 (.int i) (.int j) μ = .ok (.int (if j > i then j else i)) μ := rfl
@[simp] theorem min2_int (i j : Int) : bf2F .min2 (.int i) (.int j) μ = .ok (.int (if j < i then j else i)) μ := rfl
@[simp] theorem ev_tup (es : Es) : ev C cf (.tup es) ρ μ = (evs C cf es ρ μ).bind fun ds μ => if ds.length ≤ mostLen then .ok (.tup ds) μ else .stuck := rfl
@[simp] theorem ev_lst (es : Es) : ev C cf (.lst es) ρ μ = (evs C cf es ρ μ).bind fun ds μ => if ds.length ≤ mostLen then new (.lst ds) μ else .stuck := rfl
@[simp] theorem ev_dnK : ev C cf .dnK ρ μ = new (.dK false []) μ := rfl
@[simp] theorem ev_dnT : ev C cf .dnT ρ μ = new (.dT false []) μ := rfl
@[simp] theorem ev_call (f : Nat) (es : Es) : ev C cf (.call f es) ρ μ = (evs C cf es ρ μ).bind fun ds μ => cf f ds μ := rfl
@[simp] theorem ev_bf (b : Bf) (e : E) : ev C cf (.bf b e) ρ μ = (ev C cf e ρ μ).bind fun d μ => bfF b d μ := rfl
@[simp] theorem ev_isi (e : E) (t : Ty) : ev C cf (.isi e t) ρ μ = (ev C cf e ρ μ).bind fun d μ => (isiF d t μ).bind fun b μ => .ok (.bl b) μ := rfl
@[simp] theorem ev_meth (m : Mf) (o : E) (es : Es) : ev C cf (.meth m o es) ρ μ = (ev C cf o ρ μ).bind fun d μ => if mfOk m d μ then (evs C cf es ρ μ).bind fun ds μ => methF C m d ds μ else .stuck := rfl
@[simp] theorem ev_bin (op : Op) (a b : E) : ev C cf (.bin op a b) ρ μ = (ev C cf a ρ μ).bind fun x μ => (ev C cf b ρ μ).bind fun y μ => binF op x y μ := rfl
@[simp] theorem ev_neg (i : Int) : ev C cf (.neg (.int i)) ρ μ = .ok (.int (-i)) μ := rfl
@[simp] theorem ev_cmp (c : Cm) (a b : E) : ev C cf (.cmp c a b) ρ μ = (ev C cf a ρ μ).bind fun x μ => (ev C cf b ρ μ).bind fun y μ => (cmpF C c x y μ).bind fun k μ => .ok (.bl k) μ := rfl
@[simp] theorem ev_chain (c d : Cm) (a b e : E) : ev C cf (.chain c d a b e) ρ μ = (ev C cf a ρ μ).bind fun x μ => (ev C cf b ρ μ).bind fun y μ => (cmpF C c x y μ).bind fun k μ =>
    if k then (ev C cf e ρ μ).bind fun z μ => (cmpF C d y z μ).bind fun k μ => .ok (.bl k) μ else .ok (.bl false) μ := rfl
/-- the second part of and, or: by the first's answer -/
def andF (C : Nat → List (Key × D)) (cf : CF) (b : E) (ρ : Env) (x : D) (μ : Store) : Res D := match x with
  | .bl k => if k then ev C cf b ρ μ else .ok (.bl false) μ
  | _ => .stuck
def orF (C : Nat → List (Key × D)) (cf : CF) (b : E) (ρ : Env) (x : D) (μ : Store) : Res D := match x with
  | .bl k => if k then .ok (.bl true) μ else ev C cf b ρ μ
  | _ => .stuck
def notF (x : D) (μ : Store) : Res D := match x with
  | .bl k => .ok (.bl (!k)) μ
  | _ => .stuck
@[simp] theorem ev_and (a b : E) : ev C cf (.and a b) ρ μ = (ev C cf a ρ μ).bind fun x μ => andF C cf b ρ x μ := rfl
@[simp] theorem ev_or (a b : E) : ev C cf (.or a b) ρ μ = (ev C cf a ρ μ).bind fun x μ => orF C cf b ρ x μ := rfl
@[simp] theorem ev_not (a : E) : ev C cf (.not a) ρ μ = (ev C cf a ρ μ).bind fun x μ => notF x μ := rfl
@[simp] theorem andF_bl (b : E) (k : Bool) : andF C cf b ρ (.bl k) μ = if k then ev C cf b ρ μ else .ok (.bl false) μ := rfl
@[simp] theorem orF_bl (b : E) (k : Bool) : orF C cf b ρ (.bl k) μ = if k then .ok (.bl true) μ else ev C cf b ρ μ := rfl
@[simp] theorem notF_bl (k : Bool) : notF (.bl k) μ = .ok (.bl (!k)) μ := rfl
@[simp] theorem ev_ite (c a b : E) : ev C cf (.ite c a b) ρ μ = (evT C cf c ρ μ).bind fun k μ => if k then ev C cf a ρ μ else ev C cf b ρ μ := rfl
@[simp] theorem ev_ix (a b : E) : ev C cf (.ix a b) ρ μ = (ev C cf a ρ μ).bind fun x μ => (ev C cf b ρ μ).bind fun y μ => ixF C x y μ := rfl
def sl1 (x : D) (y : D) (μ : Store) : Res D := match y with
  | .int i => slF x (some i) none μ
  | _ => .stuck
def sl2 (x : D) (y : D) (μ : Store) : Res D := match y with
  | .int i => slF x none (some i) μ
  | _ => .stuck
@[simp] theorem ev_slL (a lo : E) : ev C cf (.slL a lo) ρ μ = (ev C cf a ρ μ).bind fun x μ => (ev C cf lo ρ μ).bind fun y μ => sl1 x y μ := rfl
@[simp] theorem ev_slU (a hi : E) : ev C cf (.slU a hi) ρ μ = (ev C cf a ρ μ).bind fun x μ => (ev C cf hi ρ μ).bind fun y μ => sl2 x y μ := rfl
@[simp] theorem sl1_int (x : D) (i : Int) : sl1 x (.int i) μ = slF x (some i) none μ := rfl
@[simp] theorem sl2_int (x : D) (i : Int) : sl2 x (.int i) μ = slF x none (some i) μ := rfl
@[simp] theorem ev_comp (t : T) (it : It) (c : Ec) (e : E) (own : List Nat) : ev C cf (.comp t it c e own) ρ μ = (evI C cf it ρ μ).bind fun w μ1 =>
    (compL w μ1.length (fun x μ => (asgT C cf t x (wipeE ρ own) μ).bind fun ρ2 μ => (evC C cf c ρ2 μ).bind fun k μ =>
      if k then (ev C cf e ρ2 μ).bind fun d μ => .ok (some d) μ else .ok none μ) w.items (w.start μ1 ++ [.lst []])).bind fun _ μ2 => .ok (.loc μ1.length) (w.stop μ2) := rfl
@[simp] theorem evs_nil : evs C cf .nil ρ μ = .ok [] μ := rfl
@[simp] theorem evs_cons (e : E) (es : Es) : evs C cf (.cons e es) ρ μ = (ev C cf e ρ μ).bind fun d μ => (evs C cf es ρ μ).bind fun ds μ => .ok (d :: ds) μ := rfl
@[simp] theorem evC_yes : evC C cf .yes ρ μ = .ok true μ := rfl
@[simp] theorem evC_test (e : E) : evC C cf (.test e) ρ μ = evT C cf e ρ μ := rfl
@[simp] theorem evT_and (a b : E) : evT C cf (.and a b) ρ μ = (evT C cf a ρ μ).bind fun k μ => if k then evT C cf b ρ μ else .ok false μ := rfl
@[simp] theorem evT_or (a b : E) : evT C cf (.or a b) ρ μ = (evT C cf a ρ μ).bind fun k μ => if k then .ok true μ else evT C cf b ρ μ := rfl
@[simp] theorem evT_not (a : E) : evT C cf (.not a) ρ μ = (evT C cf a ρ μ).bind fun k μ => .ok (!k) μ := rfl
@[simp] theorem evT_cmp (c : Cm) (a b : E) : evT C cf (.cmp c a b) ρ μ = (ev C cf a ρ μ).bind fun x μ => (ev C cf b ρ μ).bind fun y μ => cmpF C c x y μ := rfl
@[simp] theorem evT_chain (c d : Cm) (a b e : E) : evT C cf (.chain c d a b e) ρ μ = (ev C cf a ρ μ).bind fun x μ => (ev C cf b ρ μ).bind fun y μ => (cmpF C c x y μ).bind fun k μ =>
    if k then (ev C cf e ρ μ).bind fun z μ => cmpF C d y z μ else .ok false μ := rfl
@[simp] theorem evT_bf (b : Bf) (e : E) : evT C cf (.bf b e) ρ μ = ((ev C cf e ρ μ).bind fun d μ => bfF b d μ).bind truthF := rfl
@[simp] theorem evT_ix (a b : E) : evT C cf (.ix a b) ρ μ = ((ev C cf a ρ μ).bind fun x μ => (ev C cf b ρ μ).bind fun y μ => ixF C x y μ).bind truthF := rfl
@[simp] theorem truth_bl (k : Bool) (μ : Store) : truthF (.bl k) μ = .ok k μ := rfl
@[simp] theorem evT_bl (b : Bool) : evT C cf (.bl b) ρ μ = .ok b μ := rfl
@[simp] theorem evT_isi (e : E) (t : Ty) : evT C cf (.isi e t) ρ μ = (ev C cf e ρ μ).bind fun d μ => isiF d t μ := rfl
@[simp] theorem evT_call (f : Nat) (es : Es) : evT C cf (.call f es) ρ μ = ((evs C cf es ρ μ).bind fun ds μ => cf f ds μ).bind truthF := rfl
@[simp] theorem evI_val (e : E) : evI C cf (.val e) ρ μ = (ev C cf e ρ μ).bind fun d μ => okI (walkF d μ) μ := rfl
def rng1 (d : D) (μ : Store) : Res Wk := match d with
  | .int n => rngF 0 n μ
  | _ => .stuck
@[simp] theorem evI_rng (e : E) : evI C cf (.rng e) ρ μ = (ev C cf e ρ μ).bind fun d μ => rng1 d μ := rfl
/-- a walk of a range -/
def rngW (n : Int) : Wk := .row ((List.range n.toNat).map fun (k : Nat) => D.int (k : Int))
theorem rng1_int {n : Int} (h : 0 ≤ n) (h2 : n < 2 ^ 61) : rng1 (.int n) μ = .ok (rngW n) μ := by
  show rngF 0 n μ = _
  unfold rngF rngW
  rw [if_pos (by omega)]
  simp
@[simp] theorem asgT_nm (i : Nat) (d : D) : asgT C cf (.nm i) d ρ μ = .ok (ρ.set i (some d)) μ := rfl
@[simp] theorem asgT_tp (is : List Nat) (d : D) : asgT C cf (.tp is) d ρ μ = unpackF is d ρ μ := rfl
@[simp] theorem asgT_sb (o i : E) (d : D) : asgT C cf (.sb o i) d ρ μ = (ev C cf o ρ μ).bind fun x μ => (ev C cf i ρ μ).bind fun y μ => (setF x y d μ).bind fun _ μ => .ok ρ μ := rfl
@[simp] theorem unpack_2 (i j : Nat) (a b : D) : unpackF [i, j] (.tup [a, b]) ρ μ = .ok ((ρ.set i (some a)).set j (some b)) μ := rfl
@[simp] theorem unpack_3 (i j k : Nat) (a b c : D) : unpackF [i, j, k] (.tup [a, b, c]) ρ μ = .ok (((ρ.set i (some a)).set j (some b)).set k (some c)) μ := rfl
@[simp] theorem unpack_2k (i j : Nat) (a b : D) : unpackF [i, j] (.ktp [a, b]) ρ μ = .ok ((ρ.set i (some a)).set j (some b)) μ := rfl
@[simp] theorem ex_asg (t : T) (e : E) : ex C cf N (.asg t e) ρ μ = SRes.of ρ (ev C cf e ρ μ) fun d μ => SRes.of ρ (asgT C cf t d ρ μ) fun ρ μ => .go .nx ρ μ := rfl
@[simp] theorem ex_ex (e : E) : ex C cf N (.ex e) ρ μ = SRes.of ρ (ev C cf e ρ μ) fun _ μ => .go .nx ρ μ := rfl
@[simp] theorem ex_par (i j : Nat) (a b : E) : ex C cf N (.par i j a b) ρ μ = SRes.of ρ (ev C cf a ρ μ) fun x μ => SRes.of ρ (ev C cf b ρ μ) fun y μ => .go .nx ((ρ.set i (some x)).set j (some y)) μ := rfl
@[simp] theorem ex_ret (e : E) : ex C cf N (.ret e) ρ μ = SRes.of ρ (ev C cf e ρ μ) fun d μ => .go (.rt d) ρ μ := rfl
@[simp] theorem ex_retN : ex C cf N .retN ρ μ = .go (.rt .non) ρ μ := rfl
@[simp] theorem ex_ite (c : E) (a b : Ss) : ex C cf N (.ite c a b) ρ μ = SRes.of ρ (evT C cf c ρ μ) fun k μ => if k then exs C cf N a ρ μ else exs C cf N b ρ μ := rfl
@[simp] theorem ex_whl (c : E) (b : Ss) : ex C cf N (.whl c b) ρ μ = whlL (evT C cf c) (exs C cf N b) N ρ μ := rfl
@[simp] theorem ex_fr (t : T) (it : It) (b : Ss) : ex C cf N (.fr t it b) ρ μ = SRes.of ρ (evI C cf it ρ μ) fun w μ => unlock w (forL w (asgT C cf t) (exs C cf N b) w.items ρ (w.start μ)) := rfl
@[simp] theorem exs_nil : exs C cf N .nil ρ μ = .go .nx ρ μ := rfl
@[simp] theorem exs_cons (s : S) (ss : Ss) : exs C cf N (.cons s ss) ρ μ = (ex C cf N s ρ μ).next fun ρ μ => exs C cf N ss ρ μ := rfl
/-! what operations do, by kinds -/
@[simp] theorem okI_some {α : Type} (a : α) : okI (some a) μ = .ok a μ := rfl
@[simp] theorem add_int (i j : Int) : binF .add (.int i) (.int j) μ = .ok (.int (i + j)) μ := rfl
@[simp] theorem sub_int (i j : Int) : binF .sub (.int i) (.int j) μ = .ok (.int (i - j)) μ := rfl
@[simp] theorem add_str (a b : Txt) : binF .add (.str a) (.str b) μ = if a.length + b.length ≤ mostLen then .ok (.str (a ++ b)) μ else .stuck := rfl
@[simp] theorem add_tup (a b : List D) : binF .add (.tup a) (.tup b) μ = if a.length + b.length ≤ mostLen then .ok (.tup (a ++ b)) μ else .stuck := rfl
@[simp] theorem len_tup (xs : List D) : bfF .len (.tup xs) μ = .ok (.int xs.length) μ := rfl
@[simp] theorem len_str (s : Txt) : bfF .len (.str s) μ = if s.length ≤ mostLen then .ok (.int s.length) μ else .stuck := rfl
@[simp] theorem lt_int (i j : Int) : cmpF C .lt (.int i) (.int j) μ = .ok (decide (i < j)) μ := rfl
@[simp] theorem le_int (i j : Int) : cmpF C .le (.int i) (.int j) μ = .ok (decide (i ≤ j)) μ := rfl
@[simp] theorem gt_int (i j : Int) : cmpF C .gt (.int i) (.int j) μ = .ok (decide (j < i)) μ := rfl
@[simp] theorem ge_int (i j : Int) : cmpF C .ge (.int i) (.int j) μ = .ok (decide (j ≤ i)) μ := rfl
@[simp] theorem eq_int (i j : Int) : cmpF C .eq (.int i) (.int j) μ = .ok (i == j) μ := rfl
@[simp] theorem ne_int (i j : Int) : cmpF C .ne (.int i) (.int j) μ = .ok (!(i == j)) μ := rfl
@[simp] theorem eq_str (i j : Txt) : cmpF C .eq (.str i) (.str j) μ = .ok (i == j) μ := rfl
@[simp] theorem ne_str (i j : Txt) : cmpF C .ne (.str i) (.str j) μ = .ok (!(i == j)) μ := rfl
@[simp] theorem is_non (d : D) : cmpF C .is d .non μ = .ok d.isNon μ := rfl
@[simp] theorem isn_non (d : D) : cmpF C .isn d .non μ = .ok (!d.isNon) μ := rfl
@[simp] theorem isNon_non : D.isNon .non = true := rfl
@[simp] theorem isNon_tup (xs : List D) : D.isNon (.tup xs) = false := rfl
@[simp] theorem ix_tup (xs : List D) (i : Int) : ixF C (.tup xs) (.int i) μ = okI (atIx xs i) μ := rfl
@[simp] theorem ix_str (s : Txt) (i : Int) : ixF C (.str s) (.int i) μ = if s.length ≤ mostLen then okI ((atIx s i).map fun c => D.str [c]) μ else .stuck := rfl
theorem ix_lst {l : Nat} {xs : List D} {i : Int} (h : μ[l]? = some (.lst xs)) : ixF C (.loc l) (.int i) μ = okI (atIx xs i) μ := by
  unfold ixF; simp only [h]
theorem len_lst {l : Nat} {xs : List D} (h : μ[l]? = some (.lst xs)) : bfF .len (.loc l) μ = .ok (.int xs.length) μ := by
  unfold bfF; simp only [h]
@[simp] theorem tuple_tup (xs : List D) : bfF .tuple (.tup xs) μ = .ok (.tup xs) μ := rfl
theorem tuple_lst {l : Nat} {xs : List D} (h : μ[l]? = some (.lst xs)) : bfF .tuple (.loc l) μ = .ok (.tup xs) μ := by
  unfold bfF rowF; simp only [h]
theorem append_lst {l : Nat} {xs : List D} {d : D} (h : μ[l]? = some (.lst xs)) (hl : xs.length < mostLen) : methF C .append (.loc l) [d] μ = .ok .non (μ.set l (.lst (xs ++ [d]))) := by
  unfold methF; simp only [h, if_pos hl]
theorem mfOk_lst {l : Nat} {xs : List D} (h : μ[l]? = some (.lst xs)) : isLstD (.loc l) μ = true := by
  unfold isLstD; simp only [h]
@[simp] theorem mfOk_append (d : D) : mfOk .append d μ = isLstD d μ := rfl
@[simp] theorem mfOk_pop (d : D) : mfOk .pop d μ = isLstD d μ := rfl
@[simp] theorem mfOk_popAt (d : D) : mfOk .popAt d μ = isLstD d μ := rfl
@[simp] theorem mfOk_extend (d : D) : mfOk .extend d μ = isLstD d μ := rfl
@[simp] theorem mfOk_join (s : Txt) : mfOk .join (.str s) μ = true := rfl
@[simp] theorem mfOk_index (s : Txt) : mfOk .index (.str s) μ = true := rfl
@[simp] theorem walk_tup (xs : List D) : walkF (.tup xs) μ = some (.row xs) := rfl
theorem walk_lst {l : Nat} {xs : List D} (h : μ[l]? = some (.lst xs)) : walkF (.loc l) μ = some (.lst l xs) := by
  unfold walkF; simp only [h]
@[simp] theorem items_row (xs : List D) : (Wk.row xs).items = xs := rfl
@[simp] theorem items_lst (l : Nat) (xs : List D) : (Wk.lst l xs).items = xs := rfl
@[simp] theorem start_row (xs : List D) : (Wk.row xs).start μ = μ := rfl
@[simp] theorem start_lst (l : Nat) (xs : List D) : (Wk.lst l xs).start μ = μ := rfl
@[simp] theorem stop_row (xs : List D) : (Wk.row xs).stop μ = μ := rfl
@[simp] theorem stop_lst (l : Nat) (xs : List D) : (Wk.lst l xs).stop μ = μ := rfl
theorem mostLen_eq : mostLen = 1000000 := rfl
end
/-! loops -/
section
variable {w : Wk} {asg : D → Env → Store → Res Env} {body : Env → Store → SRes}
/-- a for that comes to its end: I holds ahead of each turn -/
theorem for_inv {μ0 : Store} {ρ0 : Env} (I : Nat → Env → Store → Prop) (h0 : I 0 ρ0 μ0)
    (st : ∀ i ρ μ, I i ρ μ → w.stands μ)
    (step : ∀ i (x : D) ρ μ, w.items[i]? = some x → I i ρ μ → ∃ ρ1 μ1 ρ2 μ2, asg x ρ μ = .ok ρ1 μ1 ∧ (body ρ1 μ1 = .go .nx ρ2 μ2 ∨ body ρ1 μ1 = .go .ct ρ2 μ2) ∧ I (i + 1) ρ2 μ2) :
    ∃ ρ μ, forL w asg body w.items ρ0 μ0 = .go .nx ρ μ ∧ I w.items.length ρ μ := by
  have key : ∀ n i ρ μ, i + n = w.items.length → I i ρ μ → ∃ ρ' μ', forL w asg body (w.items.drop i) ρ μ = .go .nx ρ' μ' ∧ I w.items.length ρ' μ' := by
    intro n
    induction n with
    | zero =>
      intro i ρ μ hn hI
      have hi : i = w.items.length := by omega
      subst hi
      refine ⟨ρ, μ, ?_, hI⟩
      rw [List.drop_eq_nil_of_le (Nat.le_refl _)]
      show (if w.stands μ then SRes.go .nx ρ μ else .stuck) = _
      rw [if_pos (st _ ρ μ hI)]
    | succ n ih =>
      intro i ρ μ hn hI
      have hi : i < w.items.length := by omega
      obtain ⟨ρ1, μ1, ρ2, μ2, e1, e2, h2⟩ := step i _ ρ μ (List.getElem?_eq_getElem hi) hI
      obtain ⟨ρ', μ', e3, h3⟩ := ih (i + 1) ρ2 μ2 (by omega) h2
      refine ⟨ρ', μ', ?_, h3⟩
      rw [List.drop_eq_getElem_cons hi]
      show (if w.stands μ then SRes.of ρ (asg w.items[i] ρ μ) fun ρ' μ' => match body ρ' μ' with
        | .go .nx ρ2 μ2 => forL w asg body (w.items.drop (i + 1)) ρ2 μ2
        | .go .ct ρ2 μ2 => forL w asg body (w.items.drop (i + 1)) ρ2 μ2
        | .go .bk ρ2 μ2 => .go .nx ρ2 μ2
        | r => r
        else .stuck) = _
      rw [if_pos (st _ ρ μ hI), e1, of_ok]
      rcases e2 with e2 | e2 <;> rw [e2] <;> exact e3
  have := key w.items.length 0 ρ0 μ0 (by omega) h0
  simpa using this
/-- a comprehension that comes to its end -/
theorem comp_inv {l : Nat} {turn : D → Store → Res (Option D)} {μ0 : Store} (I : Nat → Store → Prop) (h0 : I 0 μ0)
    (st : ∀ i μ, I i μ → w.stands μ)
    (step : ∀ i (x : D) μ, w.items[i]? = some x → I i μ → (∃ μ1, turn x μ = .ok none μ1 ∧ I (i + 1) μ1) ∨ ∃ d μ1 acc, turn x μ = .ok (some d) μ1 ∧ μ1[l]? = some (.lst acc) ∧ acc.length < mostLen ∧ I (i + 1) (μ1.set l (.lst (acc ++ [d])))) :
    ∃ μ, compL w l turn w.items μ0 = .ok () μ ∧ I w.items.length μ := by
  have key : ∀ n i μ, i + n = w.items.length → I i μ → ∃ μ', compL w l turn (w.items.drop i) μ = .ok () μ' ∧ I w.items.length μ' := by
    intro n
    induction n with
    | zero =>
      intro i μ hn hI
      have hi : i = w.items.length := by omega
      subst hi
      refine ⟨μ, ?_, hI⟩
      rw [List.drop_eq_nil_of_le (Nat.le_refl _)]
      show (if w.stands μ then Res.ok () μ else .stuck) = _
      rw [if_pos (st _ μ hI)]
    | succ n ih =>
      intro i μ hn hI
      have hi : i < w.items.length := by omega
      rw [List.drop_eq_getElem_cons hi]
      have un : compL w l turn (w.items[i] :: w.items.drop (i + 1)) μ = if w.stands μ then match turn w.items[i] μ with
        | .ok none μ' => compL w l turn (w.items.drop (i + 1)) μ'
        | .ok (some d) μ' => match μ'[l]? with
          | some (.lst acc) => if acc.length < mostLen then compL w l turn (w.items.drop (i + 1)) (μ'.set l (.lst (acc ++ [d]))) else .stuck
          | _ => .stuck
        | _ => .stuck
        else .stuck := rfl
      rw [un, if_pos (st _ μ hI)]
      rcases step i _ μ (List.getElem?_eq_getElem hi) hI with ⟨μ1, e1, h1⟩ | ⟨d, μ1, acc, e1, e2, e3, h1⟩
      · obtain ⟨μ', e4, h4⟩ := ih (i + 1) μ1 (by omega) h1
        exact ⟨μ', by rw [e1]; exact e4, h4⟩
      · obtain ⟨μ', e4, h4⟩ := ih (i + 1) _ (by omega) h1
        refine ⟨μ', ?_, h4⟩
        rw [e1]
        simp only [e2]
        rw [if_pos e3]
        exact e4
  have := key w.items.length 0 μ0 (by omega) h0
  simpa using this
end
end PL
end
section
set_option autoImplicit false
set_option linter.all false
/-! Wp: what holds where an evaluation comes to its end. -/
namespace PL
def okR {α : Type} (r : Res α) (Q : α → Store → Prop) : Prop := match r with
  | .ok a μ => Q a μ
  | _ => False
def okS (r : SRes) (Q : Flow → Env → Store → Prop) : Prop := match r with
  | .go f ρ μ => Q f ρ μ
  | _ => False
theorem okR_mono {α : Type} {r : Res α} {Q Q' : α → Store → Prop} (h : okR r Q) (i : ∀ a μ, Q a μ → Q' a μ) : okR r Q' := by
  cases r with
  | ok a μ => exact i a μ h
  | _ => exact h
theorem okS_mono {r : SRes} {Q Q' : Flow → Env → Store → Prop} (h : okS r Q) (i : ∀ f ρ μ, Q f ρ μ → Q' f ρ μ) : okS r Q' := by
  cases r with
  | go f ρ μ => exact i f ρ μ h
  | _ => exact h
theorem okR_ex {α : Type} {r : Res α} {Q : α → Store → Prop} : okR r Q ↔ ∃ a μ, r = .ok a μ ∧ Q a μ := by
  cases r with
  | ok a μ => exact ⟨fun h => ⟨a, μ, rfl, h⟩, fun ⟨_, _, e, h⟩ => by cases e; exact h⟩
  | exc x μ => exact ⟨fun h => h.elim, fun ⟨_, _, e, _⟩ => by cases e⟩
  | stuck => exact ⟨fun h => h.elim, fun ⟨_, _, e, _⟩ => by cases e⟩
theorem okS_ex {r : SRes} {Q : Flow → Env → Store → Prop} : okS r Q ↔ ∃ f ρ μ, r = .go f ρ μ ∧ Q f ρ μ := by
  cases r with
  | go f ρ μ => exact ⟨fun h => ⟨f, ρ, μ, rfl, h⟩, fun ⟨_, _, _, e, h⟩ => by cases e; exact h⟩
  | exc x ρ μ => exact ⟨fun h => h.elim, fun ⟨_, _, _, e, _⟩ => by cases e⟩
  | stuck => exact ⟨fun h => h.elim, fun ⟨_, _, _, e, _⟩ => by cases e⟩
@[simp] theorem okR_ok {α : Type} (a : α) (μ : Store) (Q : α → Store → Prop) : okR (.ok a μ) Q = Q a μ := rfl
@[simp] theorem okS_go (f : Flow) (ρ : Env) (μ : Store) (Q : Flow → Env → Store → Prop) : okS (.go f ρ μ) Q = Q f ρ μ := rfl
@[simp] theorem okR_bind {α β : Type} (r : Res α) (f : α → Store → Res β) (Q : β → Store → Prop) : okR (r.bind f) Q = okR r fun a μ => okR (f a μ) Q := by
  cases r <;> rfl
@[simp] theorem okS_of {α : Type} (ρ : Env) (r : Res α) (f : α → Store → SRes) (Q : Flow → Env → Store → Prop) : okS (SRes.of ρ r f) Q = okR r fun a μ => okS (f a μ) Q := by
  cases r <;> rfl
/-- what is asked behind a statement that others follow -/
def thenS (f : Env → Store → SRes) (Q : Flow → Env → Store → Prop) : Flow → Env → Store → Prop := fun fl ρ μ => match fl with
  | .nx => okS (f ρ μ) Q
  | fl => Q fl ρ μ
@[simp] theorem okS_next (r : SRes) (f : Env → Store → SRes) (Q : Flow → Env → Store → Prop) : okS (r.next f) Q = okS r (thenS f Q) := by
  cases r with
  | go fl ρ μ => cases fl <;> rfl
  | _ => rfl
@[simp] theorem thenS_nx (f : Env → Store → SRes) (Q : Flow → Env → Store → Prop) (ρ : Env) (μ : Store) : thenS f Q .nx ρ μ = okS (f ρ μ) Q := rfl
@[simp] theorem thenS_rt (f : Env → Store → SRes) (Q : Flow → Env → Store → Prop) (d : D) (ρ : Env) (μ : Store) : thenS f Q (.rt d) ρ μ = Q (.rt d) ρ μ := rfl
@[simp] theorem thenS_bk (f : Env → Store → SRes) (Q : Flow → Env → Store → Prop) (ρ : Env) (μ : Store) : thenS f Q .bk ρ μ = Q .bk ρ μ := rfl
@[simp] theorem thenS_ct (f : Env → Store → SRes) (Q : Flow → Env → Store → Prop) (ρ : Env) (μ : Store) : thenS f Q .ct ρ μ = Q .ct ρ μ := rfl
def handQ (Q : D → Store → Prop) : Flow → Env → Store → Prop := fun fl _ μ => match fl with
  | .nx => Q .non μ
  | .rt d => Q d μ
  | _ => False
@[simp] theorem okR_handed (r : SRes) (Q : D → Store → Prop) : okR (handed r) Q = okS r (handQ Q) := by
  cases r with
  | go fl ρ μ => cases fl <;> rfl
  | _ => rfl
@[simp] theorem handQ_nx (Q : D → Store → Prop) (ρ : Env) (μ : Store) : handQ Q .nx ρ μ = Q .non μ := rfl
@[simp] theorem handQ_rt (Q : D → Store → Prop) (d : D) (ρ : Env) (μ : Store) : handQ Q (.rt d) ρ μ = Q d μ := rfl
def goS (Q : Env → Store → Prop) : Flow → Env → Store → Prop := fun fl ρ μ => match fl with
  | .nx => Q ρ μ
  | .ct => Q ρ μ
  | _ => False
@[simp] theorem goS_nx (Q : Env → Store → Prop) (ρ : Env) (μ : Store) : goS Q .nx ρ μ = Q ρ μ := rfl
@[simp] theorem goS_ct (Q : Env → Store → Prop) (ρ : Env) (μ : Store) : goS Q .ct ρ μ = Q ρ μ := rfl
@[simp] theorem goS_rt (Q : Env → Store → Prop) (d : D) (ρ : Env) (μ : Store) : goS Q (.rt d) ρ μ = False := rfl
@[simp] theorem goS_bk (Q : Env → Store → Prop) (ρ : Env) (μ : Store) : goS Q .bk ρ μ = False := rfl
/-- a turn's end: on, or out -/
def retS (I : Env → Store → Prop) (Q : Flow → Env → Store → Prop) : Flow → Env → Store → Prop := fun fl ρ μ => match fl with
  | .nx => I ρ μ
  | .ct => I ρ μ
  | .bk => Q .nx ρ μ
  | .rt d => Q (.rt d) ρ μ
@[simp] theorem retS_nx (I : Env → Store → Prop) (Q : Flow → Env → Store → Prop) (ρ : Env) (μ : Store) : retS I Q .nx ρ μ = I ρ μ := rfl
@[simp] theorem retS_ct (I : Env → Store → Prop) (Q : Flow → Env → Store → Prop) (ρ : Env) (μ : Store) : retS I Q .ct ρ μ = I ρ μ := rfl
@[simp] theorem retS_bk (I : Env → Store → Prop) (Q : Flow → Env → Store → Prop) (ρ : Env) (μ : Store) : retS I Q .bk ρ μ = Q .nx ρ μ := rfl
@[simp] theorem retS_rt (I : Env → Store → Prop) (Q : Flow → Env → Store → Prop) (d : D) (ρ : Env) (μ : Store) : retS I Q (.rt d) ρ μ = Q (.rt d) ρ μ := rfl
theorem okS_ite {c : Prop} [Decidable c] {a b : SRes} {Q : Flow → Env → Store → Prop} : okS (if c then a else b) Q ↔ (c → okS a Q) ∧ (¬ c → okS b Q) := by
  split <;> simp [*]
theorem okR_ite {α : Type} {c : Prop} [Decidable c] {a b : Res α} {Q : α → Store → Prop} : okR (if c then a else b) Q ↔ (c → okR a Q) ∧ (¬ c → okR b Q) := by
  split <;> simp [*]
section
variable {w : Wk} {asg : D → Env → Store → Res Env} {body : Env → Store → SRes}
/-- a for, its invariant -/
theorem for_wp {μ0 : Store} {ρ0 : Env} {xs : List D} (I : Nat → Env → Store → Prop) (hx : w.items = xs) (h0 : I 0 ρ0 μ0) (st : ∀ i ρ μ, I i ρ μ → w.stands μ)
    (step : ∀ i (x : D) ρ μ, xs[i]? = some x → I i ρ μ → okR (asg x ρ μ) fun ρ1 μ1 => okS (body ρ1 μ1) (goS (I (i + 1))))
    {Q : Flow → Env → Store → Prop} (hQ : ∀ ρ μ, I xs.length ρ μ → Q .nx ρ μ) : okS (forL w asg body xs ρ0 μ0) Q := by
  subst hx
  obtain ⟨ρ, μ, e, h⟩ := for_inv I h0 st fun i x ρ μ hx hI => by
    obtain ⟨ρ1, μ1, e1, h1⟩ := okR_ex.mp (step i x ρ μ hx hI)
    obtain ⟨f, ρ2, μ2, e2, h2⟩ := okS_ex.mp h1
    cases f with
    | nx => exact ⟨ρ1, μ1, ρ2, μ2, e1, .inl e2, h2⟩
    | ct => exact ⟨ρ1, μ1, ρ2, μ2, e1, .inr e2, h2⟩
    | _ => exact False.elim h2
  rw [e]
  exact hQ ρ μ h
/-- a for that may end by a return or a break -/
theorem for_ret {μ0 : Store} {ρ0 : Env} {xs : List D} {Q : Flow → Env → Store → Prop} (I : Nat → Env → Store → Prop) (hx : w.items = xs) (h0 : I 0 ρ0 μ0) (st : ∀ i ρ μ, I i ρ μ → w.stands μ)
    (step : ∀ i (x : D) ρ μ, xs[i]? = some x → I i ρ μ → okR (asg x ρ μ) fun ρ1 μ1 => okS (body ρ1 μ1) (retS (I (i + 1)) Q))
    (hQ : ∀ ρ μ, I xs.length ρ μ → Q .nx ρ μ) : okS (forL w asg body xs ρ0 μ0) Q := by
  subst hx
  have key : ∀ n i ρ μ, i + n = w.items.length → I i ρ μ → okS (forL w asg body (w.items.drop i) ρ μ) Q := by
    intro n
    induction n with
    | zero =>
      intro i ρ μ hn hI
      have hi : i = w.items.length := by omega
      subst hi
      rw [List.drop_eq_nil_of_le (Nat.le_refl _)]
      show okS (if w.stands μ then SRes.go .nx ρ μ else .stuck) Q
      rw [if_pos (st _ ρ μ hI)]
      exact hQ ρ μ hI
    | succ n ih =>
      intro i ρ μ hn hI
      have hi : i < w.items.length := by omega
      rw [List.drop_eq_getElem_cons hi]
      show okS (if w.stands μ then SRes.of ρ (asg w.items[i] ρ μ) fun ρ' μ' => match body ρ' μ' with
        | .go .nx ρ2 μ2 => forL w asg body (w.items.drop (i + 1)) ρ2 μ2
        | .go .ct ρ2 μ2 => forL w asg body (w.items.drop (i + 1)) ρ2 μ2
        | .go .bk ρ2 μ2 => .go .nx ρ2 μ2
        | r => r
        else .stuck) Q
      rw [if_pos (st _ ρ μ hI), okS_of]
      refine okR_mono (step i _ ρ μ (List.getElem?_eq_getElem hi) hI) fun ρ1 μ1 h => ?_
      cases e : body ρ1 μ1 with
      | stuck => rw [e] at h; exact h
      | exc x ρ2 μ2 => rw [e] at h; exact h
      | go f ρ2 μ2 =>
        rw [e] at h
        cases f with
        | nx => exact ih (i + 1) ρ2 μ2 (by omega) h
        | ct => exact ih (i + 1) ρ2 μ2 (by omega) h
        | bk => exact h
        | rt d => exact h
  have := key w.items.length 0 ρ0 μ0 (by omega) h0
  simpa using this
theorem comp_wp {l : Nat} {turn : D → Store → Res (Option D)} {μ0 : Store} {xs : List D} (I : Nat → Store → Prop) (hx : w.items = xs) (h0 : I 0 μ0) (st : ∀ i μ, I i μ → w.stands μ)
    (step : ∀ i (x : D) μ, xs[i]? = some x → I i μ → okR (turn x μ) fun o μ1 => match o with
      | none => I (i + 1) μ1
      | some d => ∃ acc, μ1[l]? = some (.lst acc) ∧ acc.length < mostLen ∧ I (i + 1) (μ1.set l (.lst (acc ++ [d]))))
    {Q : Unit → Store → Prop} (hQ : ∀ μ, I xs.length μ → Q () μ) : okR (compL w l turn xs μ0) Q := by
  subst hx
  obtain ⟨μ, e, h⟩ := comp_inv (l := l) I h0 st fun i x μ hx hI => by
    obtain ⟨o, μ1, e1, h1⟩ := okR_ex.mp (step i x μ hx hI)
    cases o with
    | none => exact .inl ⟨μ1, e1, h1⟩
    | some d =>
      obtain ⟨acc, h2, h3, h4⟩ := h1
      exact .inr ⟨d, μ1, acc, e1, h2, h3, h4⟩
  rw [e]
  exact hQ μ h
end
/-- a while, by a measure -/
theorem whl_wp {test : Env → Store → Res Bool} {body : Env → Store → SRes} (I : Nat → Env → Store → Prop) {Q : Flow → Env → Store → Prop}
    (step : ∀ n ρ μ, I n ρ μ → okR (test ρ μ) fun b μ1 => if b then okS (body ρ μ1) fun f ρ2 μ2 => match f with
      | .nx => ∃ m, m < n ∧ I m ρ2 μ2
      | .ct => ∃ m, m < n ∧ I m ρ2 μ2
      | .bk => Q .nx ρ2 μ2
      | .rt d => Q (.rt d) ρ2 μ2 else Q .nx ρ μ1) : ∀ (N n : Nat) (ρ : Env) (μ : Store), n < N → I n ρ μ → okS (whlL test body N ρ μ) Q := by
  intro N
  induction N with
  | zero => intro n ρ μ h; omega
  | succ N ih =>
    intro n ρ μ hn hI
    have un : whlL test body (N + 1) ρ μ = SRes.of ρ (test ρ μ) fun b μ' => if b then match body ρ μ' with
      | .go .nx ρ2 μ2 => whlL test body N ρ2 μ2
      | .go .ct ρ2 μ2 => whlL test body N ρ2 μ2
      | .go .bk ρ2 μ2 => .go .nx ρ2 μ2
      | r => r
      else .go .nx ρ μ' := rfl
    rw [un, okS_of]
    refine okR_mono (step n ρ μ hI) fun b μ1 h => ?_
    cases b with
    | false => exact h
    | true =>
      have h : okS (body ρ μ1) _ := h
      rw [if_pos rfl]
      cases e : body ρ μ1 with
      | stuck => rw [e] at h; exact h
      | exc x ρ2 μ2 => rw [e] at h; exact h
      | go f ρ2 μ2 =>
        rw [e] at h
        cases f with
        | nx => obtain ⟨m, h1, h2⟩ := h; exact ih m ρ2 μ2 (by omega) h2
        | ct => obtain ⟨m, h1, h2⟩ := h; exact ih m ρ2 μ2 (by omega) h2
        | bk => exact h
        | rt d => exact h
/-- a for over a list of Lean, whose body adds to a list of the store -/
theorem for_fm {α : Type} {w : Wk} {asg : D → Env → Store → Res Env} {body : Env → Store → SRes} {ρ0 : Env} {xs : List D} (L : List α) (e : α → D) (h : α → List D) (R : Env → Prop) (σ : List D → Store) {acc0 : List D} {μ0 : Store}
    (hx : w.items = xs) (hL : xs = L.map e) (hμ : μ0 = σ acc0) (h0 : R ρ0) (st : ∀ acc, w.stands (σ acc))
    (step : ∀ a ∈ L, ∀ ρ acc, R ρ → acc.length + (h a).length ≤ acc0.length + (L.flatMap h).length → okR (asg (e a) ρ (σ acc)) fun ρ1 μ1 => okS (body ρ1 μ1) (goS fun ρ2 μ2 => R ρ2 ∧ μ2 = σ (acc ++ h a)))
    {Q : Flow → Env → Store → Prop} (hQ : ∀ ρ, R ρ → Q .nx ρ (σ (acc0 ++ L.flatMap h))) : okS (forL w asg body xs ρ0 μ0) Q := by
  subst hμ
  refine for_wp (fun i ρ μ => R ρ ∧ μ = σ (acc0 ++ (L.take i).flatMap h)) hx ⟨h0, by simp⟩ (fun i ρ μ hI => by rw [hI.2]; exact st _) ?_ ?_
  · rintro i x ρ μ hx' ⟨hR, rfl⟩
    rw [hL, List.getElem?_map] at hx'
    cases ea : L[i]? with
    | none => rw [ea] at hx'; cases hx'
    | some a =>
      rw [ea] at hx'
      have : e a = x := Option.some.inj hx'
      subst this
      have ht : L.take (i + 1) = L.take i ++ [a] := by rw [List.take_add_one, ea]; rfl
      have hm : a ∈ L := List.mem_of_getElem? ea
      have hb : (acc0 ++ (L.take i).flatMap h).length + (h a).length ≤ acc0.length + (L.flatMap h).length := by
        have h1 : (L.take (i + 1)).flatMap h = (L.take i).flatMap h ++ h a := by rw [ht, List.flatMap_append]; simp
        have h2 : (L.flatMap h).length = ((L.take (i + 1)).flatMap h).length + ((L.drop (i + 1)).flatMap h).length := by
          rw [← List.length_append, ← List.flatMap_append, List.take_append_drop]
        rw [h2, h1, List.length_append, List.length_append]
        omega
      refine okR_mono (step a hm ρ _ hR hb) fun ρ1 μ1 h1 => okS_mono h1 fun f ρ2 μ2 h2 => ?_
      have e3 : acc0 ++ (L.take (i + 1)).flatMap h = acc0 ++ (L.take i).flatMap h ++ h a := by rw [ht, List.flatMap_append]; simp
      cases f with
      | nx => exact ⟨h2.1, by rw [e3]; exact h2.2⟩
      | ct => exact ⟨h2.1, by rw [e3]; exact h2.2⟩
      | bk => exact h2
      | rt d => exact h2
  · rintro ρ μ ⟨hR, rfl⟩
    have : L.take xs.length = L := List.take_of_length_le (by rw [hL, List.length_map]; exact Nat.le_refl _)
    rw [this]
    exact hQ ρ hR
/-- a comprehension over a list of Lean -/
theorem comp_fm {α : Type} {w : Wk} {turn : D → Store → Res (Option D)} {xs : List D} {l : Nat} {μ0 : Store} (L : List α) (e : α → D) (p : α → Bool) (g : α → D) (pre : Store)
    (hx : w.items = xs) (hL : xs = L.map e) (hl : l = pre.length) (hμ : μ0 = pre ++ [.lst []]) (hb : L.length < mostLen) (st : ∀ acc, w.stands (pre ++ [.lst acc]))
    (step : ∀ a ∈ L, ∀ acc, turn (e a) (pre ++ [.lst acc]) = .ok (if p a then some (g a) else none) (pre ++ [.lst acc])) :
    compL w l turn xs μ0 = .ok () (pre ++ [.lst ((L.filter p).map g)]) := by
  subst hμ hl
  have key : okR (compL w pre.length turn xs (pre ++ [.lst []])) (fun _ μ => μ = pre ++ [.lst ((L.filter p).map g)]) := by
    refine comp_wp (fun i μ => μ = pre ++ [.lst (((L.take i).filter p).map g)]) hx (by simp) (fun i μ hI => by rw [hI]; exact st _) ?_ ?_
    · rintro i x μ hx' rfl
      rw [hL, List.getElem?_map] at hx'
      cases ea : L[i]? with
      | none => rw [ea] at hx'; cases hx'
      | some a =>
        rw [ea] at hx'
        have : e a = x := Option.some.inj hx'
        subst this
        have ht : L.take (i + 1) = L.take i ++ [a] := by rw [List.take_add_one, ea]; rfl
        rw [step a (List.mem_of_getElem? ea)]
        by_cases hp : p a = true
        · rw [if_pos hp]
          refine ⟨((L.take i).filter p).map g, by simp, ?_, ?_⟩
          · rw [List.length_map]
            refine Nat.lt_of_le_of_lt (Nat.le_trans (List.length_filter_le _ _) ?_) hb
            rw [List.length_take]; exact Nat.min_le_right _ _
          · rw [ht, List.filter_append]
            simp [hp]
        · have hp' : p a = false := by simpa using hp
          rw [hp']
          show _ = _
          rw [ht, List.filter_append]
          simp [hp']
    · rintro μ rfl
      have : L.take xs.length = L := List.take_of_length_le (by rw [hL, List.length_map]; exact Nat.le_refl _)
      rw [this]
  obtain ⟨u, μ, e1, e2⟩ := okR_ex.mp key
  rw [e1, e2]
theorem comp_fm_wp {α : Type} {w : Wk} {turn : D → Store → Res (Option D)} {xs : List D} {l : Nat} {μ0 : Store} {Q : Unit → Store → Prop} (L : List α) (e : α → D) (p : α → Bool) (g : α → D) (pre : Store)
    (hx : w.items = xs) (hL : xs = L.map e) (hl : l = pre.length) (hμ : μ0 = pre ++ [.lst []]) (hb : L.length < mostLen) (st : ∀ acc, w.stands (pre ++ [.lst acc]))
    (step : ∀ a ∈ L, ∀ acc, turn (e a) (pre ++ [.lst acc]) = .ok (if p a then some (g a) else none) (pre ++ [.lst acc]))
    (hQ : Q () (pre ++ [.lst ((L.filter p).map g)])) : okR (compL w l turn xs μ0) Q := by
  rw [comp_fm L e p g pre hx hL hl hμ hb st step]
  exact hQ
/-- a for over a list of Lean, whose body adds to what the store holds -/
theorem for_fmT {α β : Type} {w : Wk} {asg : D → Env → Store → Res Env} {body : Env → Store → SRes} {ρ0 : Env} {xs : List D} (L : List α) (e : α → D) (h : α → List β) (R : Env → Prop) (T : List β → Store → Prop) {acc0 : List β} {μ0 : Store}
    (hx : w.items = xs) (hL : xs = L.map e) (hμ : T acc0 μ0) (h0 : R ρ0) (st : ∀ acc μ, T acc μ → w.stands μ)
    (step : ∀ a ∈ L, ∀ ρ acc μ, R ρ → T acc μ → acc.length + (h a).length ≤ acc0.length + (L.flatMap h).length → okR (asg (e a) ρ μ) fun ρ1 μ1 => okS (body ρ1 μ1) (goS fun ρ2 μ2 => R ρ2 ∧ T (acc ++ h a) μ2))
    {Q : Flow → Env → Store → Prop} (hQ : ∀ ρ μ, R ρ → T (acc0 ++ L.flatMap h) μ → Q .nx ρ μ) : okS (forL w asg body xs ρ0 μ0) Q := by
  refine for_wp (fun i ρ μ => R ρ ∧ T (acc0 ++ (L.take i).flatMap h) μ) hx ⟨h0, by simpa using hμ⟩ (fun i ρ μ hI => st _ _ hI.2) ?_ ?_
  · rintro i x ρ μ hx' ⟨hR, hT⟩
    rw [hL, List.getElem?_map] at hx'
    cases ea : L[i]? with
    | none => rw [ea] at hx'; cases hx'
    | some a =>
      rw [ea] at hx'
      have : e a = x := Option.some.inj hx'
      subst this
      have ht : L.take (i + 1) = L.take i ++ [a] := by rw [List.take_add_one, ea]; rfl
      have hm : a ∈ L := List.mem_of_getElem? ea
      have hb : (acc0 ++ (L.take i).flatMap h).length + (h a).length ≤ acc0.length + (L.flatMap h).length := by
        have h1 : (L.take (i + 1)).flatMap h = (L.take i).flatMap h ++ h a := by rw [ht, List.flatMap_append]; simp
        have h2 : (L.flatMap h).length = ((L.take (i + 1)).flatMap h).length + ((L.drop (i + 1)).flatMap h).length := by
          rw [← List.length_append, ← List.flatMap_append, List.take_append_drop]
        rw [h2, h1, List.length_append, List.length_append]
        omega
      refine okR_mono (step a hm ρ _ μ hR hT hb) fun ρ1 μ1 h1 => okS_mono h1 fun f ρ2 μ2 h2 => ?_
      have e3 : acc0 ++ (L.take (i + 1)).flatMap h = acc0 ++ (L.take i).flatMap h ++ h a := by rw [ht, List.flatMap_append]; simp
      cases f with
      | nx => exact ⟨h2.1, by rw [e3]; exact h2.2⟩
      | ct => exact ⟨h2.1, by rw [e3]; exact h2.2⟩
      | bk => exact h2
      | rt d => exact h2
  · rintro ρ μ ⟨hR, hT⟩
    have : L.take xs.length = L := List.take_of_length_le (by rw [hL, List.length_map]; exact Nat.le_refl _)
    rw [this] at hT
    exact hQ ρ μ hR hT
theorem extend_lst {C : Nat → List (Key × D)} {μ : Store} {l r : Nat} {xs ys : List D} (h1 : μ[l]? = some (.lst xs)) (h2 : μ[r]? = some (.lst ys)) (h3 : xs.length + ys.length ≤ mostLen) (h4 : l ≠ r) : methF C .extend (.loc l) [.loc r] μ = .ok .non (μ.set l (.lst (xs ++ ys))) := by
  unfold methF
  simp only [h1, h2]
  rw [if_pos ⟨h3, h4⟩]
theorem flatMap_filter {α β : Type} (p : α → Bool) (f : α → List β) : ∀ l : List α, (l.filter p).flatMap f = l.flatMap fun a => if p a then f a else []
  | [] => rfl
  | a :: l => by
    rw [List.flatMap_cons, ← flatMap_filter p f l, List.filter_cons]
    split <;> simp
theorem flatMap_ext {α β : Type} {f g : α → List β} : ∀ {l : List α}, (∀ a ∈ l, f a = g a) → l.flatMap f = l.flatMap g
  | [], _ => rfl
  | a :: l, h => by
    rw [List.flatMap_cons, List.flatMap_cons, h a (List.mem_cons_self ..), flatMap_ext fun b hb => h b (List.mem_cons_of_mem _ hb)]
end PL
end
section
set_option autoImplicit false
set_option linter.all false
/-! Wpx: what holds where an evaluation comes to its end or raises; loops by what is left of them. -/
namespace PL
@[irreducible] def xR {α : Type} (r : Res α) (Q : α → Store → Prop) (E : Exc → Store → Prop) : Prop := match r with
  | .ok a μ => Q a μ
  | .exc x μ => E x μ
  | .stuck => False
@[irreducible] def xS (r : SRes) (Q : Flow → Env → Store → Prop) (E : Exc → Env → Store → Prop) : Prop := match r with
  | .go f ρ μ => Q f ρ μ
  | .exc x ρ μ => E x ρ μ
  | .stuck => False
def noX : Exc → Store → Prop := fun _ _ => False
def noXS : Exc → Env → Store → Prop := fun _ _ _ => False
theorem xR_mono {α : Type} {r : Res α} {Q Q' : α → Store → Prop} {E E' : Exc → Store → Prop} (h : xR r Q E) (i : ∀ a μ, Q a μ → Q' a μ) (j : ∀ x μ, E x μ → E' x μ) : xR r Q' E' := by
  unfold xR at *
  cases r with
  | ok a μ => exact i a μ h
  | exc x μ => exact j x μ h
  | stuck => exact h
theorem xS_mono {r : SRes} {Q Q' : Flow → Env → Store → Prop} {E E' : Exc → Env → Store → Prop} (h : xS r Q E) (i : ∀ f ρ μ, Q f ρ μ → Q' f ρ μ) (j : ∀ x ρ μ, E x ρ μ → E' x ρ μ) : xS r Q' E' := by
  unfold xS at *
  cases r with
  | go f ρ μ => exact i f ρ μ h
  | exc x ρ μ => exact j x ρ μ h
  | stuck => exact h
theorem xR_ok {α : Type} (a : α) (μ : Store) (Q : α → Store → Prop) (E : Exc → Store → Prop) : xR (.ok a μ) Q E = Q a μ := by unfold xR; rfl
theorem xR_exc {α : Type} (x : Exc) (μ : Store) (Q : α → Store → Prop) (E : Exc → Store → Prop) : xR (.exc x μ) Q E = E x μ := by unfold xR; rfl
theorem xS_go (f : Flow) (ρ : Env) (μ : Store) (Q : Flow → Env → Store → Prop) (E : Exc → Env → Store → Prop) : xS (.go f ρ μ) Q E = Q f ρ μ := by unfold xS; rfl
theorem xS_exc (x : Exc) (ρ : Env) (μ : Store) (Q : Flow → Env → Store → Prop) (E : Exc → Env → Store → Prop) : xS (.exc x ρ μ) Q E = E x ρ μ := by unfold xS; rfl
theorem xR_bind {α β : Type} (r : Res α) (f : α → Store → Res β) (Q : β → Store → Prop) (E : Exc → Store → Prop) : xR (r.bind f) Q E = xR r (fun a μ => xR (f a μ) Q E) E := by
  unfold xR; cases r <;> rfl
theorem xS_of {α : Type} (ρ : Env) (r : Res α) (f : α → Store → SRes) (Q : Flow → Env → Store → Prop) (E : Exc → Env → Store → Prop) : xS (SRes.of ρ r f) Q E = xR r (fun a μ => xS (f a μ) Q E) fun x μ => E x ρ μ := by
  unfold xS xR; cases r <;> rfl
/-- behind a statement that others follow -/
def thenX (f : Env → Store → SRes) (Q : Flow → Env → Store → Prop) (E : Exc → Env → Store → Prop) : Flow → Env → Store → Prop := fun fl ρ μ => match fl with
  | .nx => xS (f ρ μ) Q E
  | fl => Q fl ρ μ
theorem xS_next (r : SRes) (f : Env → Store → SRes) (Q : Flow → Env → Store → Prop) (E : Exc → Env → Store → Prop) : xS (r.next f) Q E = xS r (thenX f Q E) E := by
  unfold thenX xS
  cases r with
  | go fl ρ μ => cases fl <;> rfl
  | _ => rfl
theorem thenX_nx (f : Env → Store → SRes) (Q : Flow → Env → Store → Prop) (E : Exc → Env → Store → Prop) (ρ : Env) (μ : Store) : thenX f Q E .nx ρ μ = xS (f ρ μ) Q E := by unfold thenX; rfl
theorem thenX_rt (f : Env → Store → SRes) (Q : Flow → Env → Store → Prop) (E : Exc → Env → Store → Prop) (d : D) (ρ : Env) (μ : Store) : thenX f Q E (.rt d) ρ μ = Q (.rt d) ρ μ := rfl
theorem thenX_bk (f : Env → Store → SRes) (Q : Flow → Env → Store → Prop) (E : Exc → Env → Store → Prop) (ρ : Env) (μ : Store) : thenX f Q E .bk ρ μ = Q .bk ρ μ := rfl
theorem thenX_ct (f : Env → Store → SRes) (Q : Flow → Env → Store → Prop) (E : Exc → Env → Store → Prop) (ρ : Env) (μ : Store) : thenX f Q E .ct ρ μ = Q .ct ρ μ := rfl
theorem xR_handed (r : SRes) (Q : D → Store → Prop) (E : Exc → Store → Prop) : xR (handed r) Q E = xS r (handQ Q) fun x _ μ => E x μ := by
  unfold xR xS
  cases r with
  | go fl ρ μ => cases fl <;> rfl
  | _ => rfl
theorem xR_ite {α : Type} {c : Prop} [Decidable c] {a b : Res α} {Q : α → Store → Prop} {E : Exc → Store → Prop} : xR (if c then a else b) Q E ↔ (c → xR a Q E) ∧ (¬ c → xR b Q E) := by
  split <;> simp [*]
theorem okR_xR {α : Type} {r : Res α} {Q : α → Store → Prop} {E : Exc → Store → Prop} (h : okR r Q) : xR r Q E := by
  unfold xR
  cases r with
  | ok a μ => exact h
  | _ => exact h.elim
theorem xR_okR {α : Type} {r : Res α} {Q : α → Store → Prop} {E : Exc → Store → Prop} (h : xR r Q E) (he : ∀ x μ, ¬ E x μ) : okR r Q := by
  unfold xR at h
  cases r with
  | ok a μ => exact h
  | exc x μ => exact (he x μ h).elim
  | stuck => exact h
theorem xR_ex {α : Type} {r : Res α} {Q : α → Store → Prop} {E : Exc → Store → Prop} (h : xR r Q E) : (∃ a μ, r = .ok a μ ∧ Q a μ) ∨ ∃ x μ, r = .exc x μ ∧ E x μ := by
  unfold xR at h
  cases r with
  | ok a μ => exact .inl ⟨a, μ, rfl, h⟩
  | exc x μ => exact .inr ⟨x, μ, rfl, h⟩
  | stuck => exact h.elim
/-! errors -/
section
variable (C : Nat → List (Key × D)) (cf : CF) (N : Nat) (ρ : Env) (μ : Store)
theorem ex_rse (ms ks : List Nat) (es : Es) : ex C cf N (.rse ms ks es) ρ μ = SRes.of ρ (evs C cf es ρ μ) fun ds μ => if ds.length = ks.length ∧ ks.length ≤ 900 then .exc ⟨ms, ks, ds⟩ ρ μ else .stuck := rfl
theorem ex_aug (i : Nat) (op : Op) (e : E) : ex C cf N (.aug i op e) ρ μ = match ρ[i]? with
    | some (some x) => SRes.of ρ (ev C cf e ρ μ) fun y μ => match x, y with
      | .int a, .int b => SRes.of ρ (binF op (.int a) (.int b) μ) fun z μ => .go .nx (ρ.set i (some z)) μ
      | _, _ => .stuck
    | _ => .stuck := rfl
theorem xS_tr (b : Ss) (hs : Hs) (Q : Flow → Env → Store → Prop) (E : Exc → Env → Store → Prop) : xS (ex C cf N (.tr b hs) ρ μ) Q E = xS (exs C cf N b ρ μ) Q fun x ρ' μ' => xS (exh C cf N hs x ρ' μ') Q E := by
  have un : ex C cf N (.tr b hs) ρ μ = match exs C cf N b ρ μ with
    | .exc x ρ' μ' => exh C cf N hs x ρ' μ'
    | r => r := rfl
  rw [un]
  cases exs C cf N b ρ μ with
  | exc x ρ' μ' => rw [xS_exc]
  | _ => unfold xS; rfl
theorem exh_nil (x : Exc) : exh C cf N .nil x ρ μ = .exc x ρ μ := rfl
theorem exh_none (c : Nat) (b : Ss) (hs : Hs) (x : Exc) : exh C cf N (.cons c none b hs) x ρ μ = if x.ms.contains c then noExc (exs C cf N b ρ μ) else exh C cf N hs x ρ μ := rfl
theorem exh_some (c i : Nat) (b : Ss) (hs : Hs) (x : Exc) : exh C cf N (.cons c (some i) b hs) x ρ μ = if x.ms.contains c then unset i (exs C cf N b (ρ.set i (some (.err x.ms x.ks x.fs))) μ) else exh C cf N hs x ρ μ := rfl
theorem xS_noExc (r : SRes) (Q : Flow → Env → Store → Prop) (E : Exc → Env → Store → Prop) : xS (noExc r) Q E = xS r Q noXS := by
  unfold xS; cases r <;> rfl
def unsetQ (i : Nat) (Q : Flow → Env → Store → Prop) : Flow → Env → Store → Prop := fun f ρ μ => match f with
  | .rt d => Q (.rt d) ρ μ
  | f => Q f (ρ.set i none) μ
theorem xS_unset (i : Nat) (r : SRes) (Q : Flow → Env → Store → Prop) (E : Exc → Env → Store → Prop) : xS (unset i r) Q E = xS r (unsetQ i Q) noXS := by
  unfold xS
  cases r with
  | go f ρ μ => cases f <;> rfl
  | _ => rfl
theorem unsetQ_rt (i : Nat) (Q : Flow → Env → Store → Prop) (d : D) : unsetQ i Q (.rt d) ρ μ = Q (.rt d) ρ μ := rfl
theorem ev_errF (n i : Nat) : ev C cf (.errF n i) ρ μ = match ρ[n]? with
    | some (some (.err _ ks fs)) => okI ((ks.findIdx? fun k => k == i).bind fun j => fs[j]?) μ
    | _ => .stuck := rfl
theorem ev_errIs (n : Nat) (cs : List Nat) : ev C cf (.errIs n cs) ρ μ = match ρ[n]? with
    | some (some (.err ms _ _)) => .ok (.bl (cs.any fun c => ms.contains c)) μ
    | _ => .stuck := rfl
theorem evT_errIs (n : Nat) (cs : List Nat) : evT C cf (.errIs n cs) ρ μ = match ρ[n]? with
    | some (some (.err ms _ _)) => .ok (cs.any fun c => ms.contains c) μ
    | _ => .stuck := rfl
theorem ev_rv (a : E) : ev C cf (.rv a) ρ μ = (ev C cf a ρ μ).bind fun x μ => rvF x μ := rfl
theorem rv_tup (xs : List D) : rvF (.tup xs) μ = .ok (.tup xs.reverse) μ := rfl
theorem rv_str (s : Txt) : rvF (.str s) μ = if s.length ≤ mostLen then .ok (.str s.reverse) μ else .stuck := rfl
theorem mfOk_upper (s : Txt) : mfOk .upper (.str s) μ = true := rfl
theorem upper_str (s : Txt) : methF C .upper (.str s) [] μ = if s.length ≤ mostLen ∧ (s.all fun c => decide (c < 128)) = true then .ok (.str (s.map upC)) μ else .stuck := rfl
theorem max_row (x : D) (xs : List D) : bfF .max (.tup (x :: xs)) μ = if flatOk (x :: xs) then .ok (maxDD x xs) μ else .stuck := rfl
theorem evT_callK (f : Nat) (pm : List Nat) (es : Es) : evT C cf (.callK f pm es) ρ μ = ((evs C cf es ρ μ).bind fun ds μ => (okI (permD pm ds) μ).bind fun ds μ => cf f ds μ).bind truthF := rfl
theorem evT_v (i : Nat) : evT C cf (.v i) ρ μ = (getV ρ[i]? μ).bind truthF := by
  show (match ρ[i]? with
    | some (some d) => truthF d μ
    | _ => .stuck) = _
  cases ρ[i]? with
  | none => rfl
  | some o => cases o <;> rfl
theorem evT_meth (m : Mf) (o : E) (es : Es) : evT C cf (.meth m o es) ρ μ = ((ev C cf o ρ μ).bind fun d μ => if mfOk m d μ then (evs C cf es ρ μ).bind fun ds μ => methF C m d ds μ else .stuck).bind truthF := rfl
theorem ev_slB (a lo hi : E) : ev C cf (.slB a lo hi) ρ μ = (ev C cf a ρ μ).bind fun x μ => (ev C cf lo ρ μ).bind fun y μ => match y with
    | .int i => (ev C cf hi ρ μ).bind fun z μ => match z with
      | .int j => slF x (some i) (some j) μ
      | _ => .stuck
    | _ => .stuck := rfl
theorem ev_neg' (a : E) : ev C cf (.neg a) ρ μ = (ev C cf a ρ μ).bind fun x μ => match x with
    | .int i => .ok (.int (-i)) μ
    | _ => .stuck := rfl
end
theorem unlock_row (xs : List D) (r : SRes) : unlock (.row xs) r = r := by cases r <;> rfl
theorem unlock_lstw (l : Nat) (xs : List D) (r : SRes) : unlock (.lst l xs) r = r := by cases r <;> rfl
/-! loops, by what is left -/
section
variable {w : Wk} {asg : D → Env → Store → Res Env} {body : Env → Store → SRes} {Q : Flow → Env → Store → Prop} {E : Exc → Env → Store → Prop}
theorem for_rest (I : List D → Env → Store → Prop) (st : ∀ r ρ μ, I r ρ μ → w.stands μ)
    (step : ∀ x r ρ μ, I (x :: r) ρ μ → xR (asg x ρ μ) (fun ρ1 μ1 => xS (body ρ1 μ1) (retS (I r) Q) E) fun x μ => E x ρ μ)
    (fin : ∀ ρ μ, I [] ρ μ → Q .nx ρ μ) : ∀ (xs : List D) (ρ : Env) (μ : Store), I xs ρ μ → xS (forL w asg body xs ρ μ) Q E
  | [], ρ, μ, h => by
    have un : forL w asg body [] ρ μ = if w.stands μ then SRes.go .nx ρ μ else .stuck := rfl
    rw [un, if_pos (st _ _ _ h), xS_go]
    exact fin ρ μ h
  | x :: r, ρ, μ, h => by
    have un : forL w asg body (x :: r) ρ μ = if w.stands μ then SRes.of ρ (asg x ρ μ) fun ρ' μ' => match body ρ' μ' with
        | .go .nx ρ2 μ2 => forL w asg body r ρ2 μ2
        | .go .ct ρ2 μ2 => forL w asg body r ρ2 μ2
        | .go .bk ρ2 μ2 => .go .nx ρ2 μ2
        | r => r
        else .stuck := rfl
    rw [un, if_pos (st _ _ _ h), xS_of]
    refine xR_mono (step x r ρ μ h) (fun ρ1 μ1 h1 => ?_) fun _ _ z => z
    cases e : body ρ1 μ1 with
    | stuck => rw [e] at h1; unfold xS at h1; exact h1.elim
    | exc x ρ2 μ2 => rw [e, xS_exc] at h1; rw [xS_exc]; exact h1
    | go f ρ2 μ2 =>
      rw [e, xS_go] at h1
      cases f with
      | nx => exact for_rest I st step fin r ρ2 μ2 h1
      | ct => exact for_rest I st step fin r ρ2 μ2 h1
      | bk => rw [xS_go]; exact h1
      | rt d => rw [xS_go]; exact h1
/-- over a list of Lean -/
theorem for_restL {α : Type} (e : α → D) (I : List α → Env → Store → Prop) (st : ∀ r ρ μ, I r ρ μ → w.stands μ)
    (step : ∀ x r ρ μ, I (x :: r) ρ μ → xR (asg (e x) ρ μ) (fun ρ1 μ1 => xS (body ρ1 μ1) (retS (I r) Q) E) fun x μ => E x ρ μ)
    (fin : ∀ ρ μ, I [] ρ μ → Q .nx ρ μ) (L : List α) (ρ : Env) (μ : Store) (h0 : I L ρ μ) : xS (forL w asg body (L.map e) ρ μ) Q E := by
  refine for_rest (fun r ρ μ => ∃ l, r = l.map e ∧ I l ρ μ) (fun r ρ μ ⟨l, _, h⟩ => st l ρ μ h) ?_ ?_ _ _ _ ⟨L, rfl, h0⟩
  · rintro x r ρ μ ⟨l, hl, h⟩
    cases l with
    | nil => cases hl
    | cons a l =>
      rw [List.map_cons, List.cons.injEq] at hl
      obtain ⟨rfl, rfl⟩ := hl
      refine xR_mono (step a l ρ μ h) (fun ρ1 μ1 h1 => xS_mono h1 (fun f ρ2 μ2 h2 => ?_) fun _ _ _ z => z) fun _ _ z => z
      cases f with
      | nx => exact ⟨l, rfl, h2⟩
      | ct => exact ⟨l, rfl, h2⟩
      | bk => exact h2
      | rt d => exact h2
  · rintro ρ μ ⟨l, hl, h⟩
    cases l with
    | nil => exact fin ρ μ h
    | cons a l => cases hl
/-- a comprehension -/
theorem comp_rest {l : Nat} {turn : D → Store → Res (Option D)} {P : Unit → Store → Prop} (I : List D → List D → Store → Prop) (st : ∀ r acc μ, I r acc μ → w.stands μ)
    (step : ∀ x r acc μ, I (x :: r) acc μ → okR (turn x μ) fun o μ1 => match o with
      | none => I r acc μ1
      | some d => μ1[l]? = some (.lst acc) ∧ acc.length < mostLen ∧ I r (acc ++ [d]) (μ1.set l (.lst (acc ++ [d]))))
    (fin : ∀ acc μ, I [] acc μ → P () μ) : ∀ (xs : List D) (acc : List D) (μ : Store), I xs acc μ → okR (compL w l turn xs μ) P
  | [], acc, μ, h => by
    show okR (if w.stands μ then Res.ok () μ else .stuck) P
    rw [if_pos (st _ _ _ h)]
    exact fin acc μ h
  | x :: r, acc, μ, h => by
    have un : compL w l turn (x :: r) μ = if w.stands μ then match turn x μ with
      | .ok none μ' => compL w l turn r μ'
      | .ok (some d) μ' => match μ'[l]? with
        | some (.lst acc) => if acc.length < mostLen then compL w l turn r (μ'.set l (.lst (acc ++ [d]))) else .stuck
        | _ => .stuck
      | _ => .stuck
      else .stuck := rfl
    rw [un, if_pos (st _ _ _ h)]
    have h1 := step x r acc μ h
    cases e : turn x μ with
    | stuck => rw [e] at h1; exact h1.elim
    | exc x μ2 => rw [e] at h1; exact h1.elim
    | ok o μ1 =>
      rw [e] at h1
      cases o with
      | none => exact comp_rest I st step fin r acc μ1 h1
      | some d =>
        obtain ⟨h2, h3, h4⟩ := h1
        simp only [h2, if_pos h3]
        exact comp_rest I st step fin r _ _ h4
theorem comp_restL {α : Type} {l : Nat} {turn : D → Store → Res (Option D)} {P : Unit → Store → Prop} (e : α → D) (I : List α → List D → Store → Prop) (st : ∀ r acc μ, I r acc μ → w.stands μ)
    (step : ∀ x r acc μ, I (x :: r) acc μ → okR (turn (e x) μ) fun o μ1 => match o with
      | none => I r acc μ1
      | some d => μ1[l]? = some (.lst acc) ∧ acc.length < mostLen ∧ I r (acc ++ [d]) (μ1.set l (.lst (acc ++ [d]))))
    (fin : ∀ acc μ, I [] acc μ → P () μ) (L : List α) (acc : List D) (μ : Store) (h0 : I L acc μ) : okR (compL w l turn (L.map e) μ) P := by
  refine comp_rest (fun r acc μ => ∃ l, r = l.map e ∧ I l acc μ) (fun r acc μ ⟨l, _, h⟩ => st l acc μ h) ?_ ?_ _ acc _ ⟨L, rfl, h0⟩
  · rintro x r acc μ ⟨k, hk, h⟩
    cases k with
    | nil => cases hk
    | cons a k =>
      rw [List.map_cons, List.cons.injEq] at hk
      obtain ⟨rfl, rfl⟩ := hk
      refine okR_mono (step a k acc μ h) fun o μ1 h1 => ?_
      cases o with
      | none => exact ⟨k, rfl, h1⟩
      | some d => exact ⟨h1.1, h1.2.1, k, rfl, h1.2.2⟩
  · rintro acc μ ⟨k, hk, h⟩
    cases k with
    | nil => exact fin acc μ h
    | cons a k => cases hk
end
/-- a while, by a measure -/
theorem whl_x {test : Env → Store → Res Bool} {body : Env → Store → SRes} {Q : Flow → Env → Store → Prop} {E : Exc → Env → Store → Prop} (I : Nat → Env → Store → Prop)
    (step : ∀ n ρ μ, I n ρ μ → xR (test ρ μ) (fun b μ1 => if b then xS (body ρ μ1) (retS (fun ρ2 μ2 => ∃ m, m < n ∧ I m ρ2 μ2) Q) E else Q .nx ρ μ1) fun x μ => E x ρ μ) :
    ∀ (N n : Nat) (ρ : Env) (μ : Store), n < N → I n ρ μ → xS (whlL test body N ρ μ) Q E := by
  intro N
  induction N with
  | zero => intro n ρ μ h; omega
  | succ N ih =>
    intro n ρ μ hn hI
    have un : whlL test body (N + 1) ρ μ = SRes.of ρ (test ρ μ) fun b μ' => if b then match body ρ μ' with
      | .go .nx ρ2 μ2 => whlL test body N ρ2 μ2
      | .go .ct ρ2 μ2 => whlL test body N ρ2 μ2
      | .go .bk ρ2 μ2 => .go .nx ρ2 μ2
      | r => r
      else .go .nx ρ μ' := rfl
    rw [un, xS_of]
    refine xR_mono (step n ρ μ hI) (fun b μ1 h => ?_) fun _ _ z => z
    cases b with
    | false => rw [if_neg (by simp), xS_go]; exact h
    | true =>
      have h : xS (body ρ μ1) _ _ := h
      rw [if_pos rfl]
      cases e : body ρ μ1 with
      | stuck => rw [e] at h; unfold xS at h; exact h.elim
      | exc x ρ2 μ2 => rw [e, xS_exc] at h; rw [xS_exc]; exact h
      | go f ρ2 μ2 =>
        rw [e, xS_go] at h
        cases f with
        | nx => obtain ⟨m, h1, h2⟩ := h; exact ih m ρ2 μ2 (by omega) h2
        | ct => obtain ⟨m, h1, h2⟩ := h; exact ih m ρ2 μ2 (by omega) h2
        | bk => rw [xS_go]; exact h
        | rt d => rw [xS_go]; exact h
/-! stores that grow: but for the places S all stands as it stood -/
structure Gr (S : List Nat) (μ μ' : Store) : Prop where
  len : μ.length ≤ μ'.length
  at_ : ∀ l, l < μ.length → l ∉ S → μ'[l]? = μ[l]?
theorem Gr.refl (S : List Nat) (μ : Store) : Gr S μ μ := ⟨Nat.le_refl _, fun _ _ _ => rfl⟩
theorem Gr.trans {S : List Nat} {a b c : Store} (h : Gr S a b) (k : Gr S b c) : Gr S a c := ⟨Nat.le_trans h.len k.len, fun l hl hs => by rw [k.at_ l (Nat.lt_of_lt_of_le hl h.len) hs, h.at_ l hl hs]⟩
theorem Gr.app (S : List Nat) (μ ν : Store) : Gr S μ (μ ++ ν) := ⟨by simp, fun l hl _ => List.getElem?_append_left hl⟩
theorem Gr.weak {S T : List Nat} {a b : Store} (h : Gr S a b) (k : ∀ l ∈ S, l ∈ T) : Gr T a b := ⟨h.len, fun l hl hs => h.at_ l hl fun z => hs (k l z)⟩
theorem Gr.nil {T : List Nat} {a b : Store} (h : Gr [] a b) : Gr T a b := h.weak fun _ z => nomatch z
theorem Gr.set {S : List Nat} {a b : Store} (h : Gr S a b) {l : Nat} (o : Obj) (hl : l ∈ S ∨ a.length ≤ l) : Gr S a (b.set l o) := by
  refine ⟨by simp [h.len], fun j hj hs => ?_⟩
  have : l ≠ j := by
    rintro rfl
    rcases hl with h1 | h1
    · exact hs h1
    · omega
  rw [List.getElem?_set_ne this, h.at_ j hj hs]
theorem Gr.get {S : List Nat} {a b : Store} (h : Gr S a b) {l : Nat} {o : Obj} (e : a[l]? = some o) (hs : l ∉ S) : b[l]? = some o := by
  have hl : l < a.length := (List.getElem?_eq_some_iff.mp e).1
  rw [h.at_ l hl hs, e]
theorem Gr.ex {a b : Store} (h : Gr [] a b) : ∃ ν, b = a ++ ν := by
  refine ⟨b.drop a.length, List.ext_getElem? fun i => ?_⟩
  by_cases hi : i < a.length
  · rw [List.getElem?_append_left hi, h.at_ i hi (by simp)]
  · have hi : a.length ≤ i := by omega
    rw [List.getElem?_append_right hi, List.getElem?_drop]
    congr 1; omega
end PL
end
section
set_option autoImplicit false
set_option linter.all false
set_option maxRecDepth 100000
/-! Lib: what any law's walk wants: calls, a tactic of short name, loops over places. -/
namespace PL
/-! ### calls -/
section
variable {P : Prog} {N k f : Nat} {fn : Fn} {ds : List D} {μ : Store}
theorem callEq (hf : P.fns f = some fn) (hn : ds.length = fn.np) : callF P N (k + 1) f ds μ = if D.dataL ds then graft (callB P N (callF P N k) fn ds []) μ else callB P N (callF P N k) fn ds μ := by
  show (match P.fns f with
    | some fn => if ds.length = fn.np then (if D.dataL ds then graft (callB P N (callF P N k) fn ds []) μ else callB P N (callF P N k) fn ds μ) else .stuck
    | none => .stuck) = _
  rw [hf]
  simp only
  rw [if_pos hn]
/-- a call that hands data back and leaves the store as it is -/
theorem call_pure {d : D} (hf : P.fns f = some fn) (hn : ds.length = fn.np) (hr : D.data d = true) (h : ∀ μ', (D.dataL ds = true → μ' = []) → (D.dataL ds = false → μ' = μ) → okR (callB P N (callF P N k) fn ds μ') fun d' μ2 => d' = d ∧ μ2 = μ') : callF P N (k + 1) f ds μ = .ok d μ := by
  rw [callEq hf hn]
  by_cases hd : D.dataL ds = true
  · rw [if_pos hd]
    obtain ⟨a, μ', e, rfl, rfl⟩ := okR_ex.mp (h [] (fun _ => rfl) fun z => by rw [hd] at z; cases z)
    rw [e]
    show (if D.data a then Res.ok a μ else _) = _
    rw [if_pos hr]
  · rw [if_neg hd]
    obtain ⟨a, μ', e, rfl, rfl⟩ := okR_ex.mp (h μ (fun z => absurd z hd) fun _ => rfl)
    exact e
/-- of data alone: what the body leaves is dropped -/
theorem call_dat {d : D} (hf : P.fns f = some fn) (hn : ds.length = fn.np) (hd : D.dataL ds = true) (hr : D.data d = true) (h : okR (callB P N (callF P N k) fn ds []) fun d' _ => d' = d) : callF P N (k + 1) f ds μ = .ok d μ := by
  obtain ⟨a, μ', e, rfl⟩ := okR_ex.mp h
  rw [callEq hf hn, if_pos hd, e]
  show (if D.data a then Res.ok a μ else _) = _
  rw [if_pos hr]
theorem call_lst {xs : List D} (hf : P.fns f = some fn) (hn : ds.length = fn.np) (hd : D.dataL ds = true) (hr : D.dataL xs = true) (h : okR (callB P N (callF P N k) fn ds []) fun d' μ' => ∃ l, d' = .loc l ∧ μ'[l]? = some (.lst xs)) : callF P N (k + 1) f ds μ = .ok (.loc μ.length) (μ ++ [.lst xs]) := by
  obtain ⟨a, μ', e, l, rfl, hl⟩ := okR_ex.mp h
  rw [callEq hf hn, if_pos hd, e]
  unfold graft
  simp only [D.data, hl, hr, if_true]
  rfl
theorem call_loc' (hf : P.fns f = some fn) (hn : ds.length = fn.np) (hd : D.dataL ds = false) : callF P N (k + 1) f ds μ = callB P N (callF P N k) fn ds μ := by
  rw [callEq hf hn, hd]; rfl
/-- a call that may raise: an answer of data, or an error of data; the store stays -/
def resD (r : Sum Exc D) (μ : Store) : Res D := match r with
  | .inl x => .exc x μ
  | .inr d => .ok d μ
def isRes (r : Sum Exc D) (μ : Store) : Res D → Prop := fun s => s = resD r μ
theorem call_may {r : Sum Exc D} (hf : P.fns f = some fn) (hn : ds.length = fn.np) (hr : match r with
    | .inl x => D.dataL x.fs = true
    | .inr d => D.data d = true) (h : ∀ μ', (D.dataL ds = true → μ' = []) → (D.dataL ds = false → μ' = μ) → xR (callB P N (callF P N k) fn ds μ') (fun d μ2 => r = .inr d ∧ (μ2 = μ' ∨ D.dataL ds = true)) fun x μ2 => r = .inl x ∧ (μ2 = μ' ∨ D.dataL ds = true)) : callF P N (k + 1) f ds μ = resD r μ := by
  rw [callEq hf hn]
  by_cases hd : D.dataL ds = true
  · rw [if_pos hd]
    rcases xR_ex (h [] (fun _ => rfl) fun z => by rw [hd] at z; cases z) with ⟨a, μ', e, rfl, _⟩ | ⟨x, μ', e, rfl, _⟩
    · rw [e]
      show (if D.data a then Res.ok a μ else _) = _
      rw [if_pos hr]; rfl
    · rw [e]
      show (if D.dataL x.fs then Res.exc x μ else _) = _
      rw [if_pos hr]; rfl
  · rw [if_neg hd]
    rcases xR_ex (h μ (fun z => absurd z hd) fun _ => rfl) with ⟨a, μ', e, rfl, h2⟩ | ⟨x, μ', e, rfl, h2⟩
    · rw [e, h2.resolve_right hd]; rfl
    · rw [e, h2.resolve_right hd]; rfl
/-- a call that hands data back and leaves more behind -/
theorem call_grow {d : D} (hf : P.fns f = some fn) (hn : ds.length = fn.np) (hr : D.data d = true) (h : ∀ μ', (D.dataL ds = true → μ' = []) → (D.dataL ds = false → μ' = μ) → okR (callB P N (callF P N k) fn ds μ') fun d' μ2 => d' = d ∧ ∃ ν, μ2 = μ' ++ ν) : ∃ ν, callF P N (k + 1) f ds μ = .ok d (μ ++ ν) := by
  rw [callEq hf hn]
  by_cases hd : D.dataL ds = true
  · rw [if_pos hd]
    obtain ⟨a, μ', e, rfl, _⟩ := okR_ex.mp (h [] (fun _ => rfl) fun z => by rw [hd] at z; cases z)
    refine ⟨[], ?_⟩
    rw [e, List.append_nil]
    show (if D.data a then Res.ok a μ else _) = _
    rw [if_pos hr]
  · rw [if_neg hd]
    obtain ⟨a, μ', e, rfl, ν, rfl⟩ := okR_ex.mp (h μ (fun z => absurd z hd) fun _ => rfl)
    exact ⟨ν, e⟩
end
/-! ### lists, places -/
theorem dataL_map {α : Type} {e : α → D} (h : ∀ a, D.data (e a) = true) : ∀ l : List α, D.dataL (l.map e) = true
  | [] => rfl
  | x :: l => by rw [List.map_cons, D.dataL, h x, dataL_map h l]; rfl
theorem dataL_app : ∀ a b : List D, D.dataL (a ++ b) = (D.dataL a && D.dataL b)
  | [], b => rfl
  | x :: a, b => by rw [List.cons_append, D.dataL, D.dataL, dataL_app a b, Bool.and_assoc]
theorem dataL_mem : ∀ {l : List D} {d : D}, D.dataL l = true → d ∈ l → D.data d = true
  | x :: l, d, h, hm => by
    rw [D.dataL, Bool.and_eq_true] at h
    rcases List.mem_cons.mp hm with rfl | hm
    · exact h.1
    · exact dataL_mem h.2 hm
theorem atIx_of {α : Type} {xs : List α} {i : Nat} {x : α} (h : xs[i]? = some x) : atIx xs (i : Int) = some x := by
  have hl : i < xs.length := (List.getElem?_eq_some_iff.mp h).1
  unfold atIx pyIx
  rw [if_pos (by omega), if_pos (by omega)]
  simpa using h
theorem atIx_of0 {α : Type} (x : α) (xs : List α) : atIx (x :: xs) 0 = some x := atIx_of (i := 0) rfl
theorem new_lst (o : Obj) (μ : Store) : PL.new o μ = .ok (.loc μ.length) (μ ++ [o]) := rfl
theorem get_new (μ : Store) (o : Obj) : (μ ++ [o])[μ.length]? = some o := by simp
theorem rng_start (n : Int) (μ : Store) : (rngW n).start μ = μ := rfl
theorem rng_stop (n : Int) (r : SRes) : unlock (rngW n) r = r := by cases r <;> rfl
theorem rng_stopw (n : Int) (μ : Store) : (rngW n).stop μ = μ := rfl
theorem rng_stands (n : Int) (μ : Store) : (rngW n).stands μ := trivial
theorem rng_items (n : Nat) : (rngW (n : Int)).items = (List.range n).map fun (k : Nat) => D.int (k : Int) := by
  show (List.range ((n : Int).toNat)).map _ = _
  rw [Int.toNat_natCast]
theorem rng_ok {n : Nat} (h : n ≤ 1000000) (μ : Store) : rng1 (.int n) μ = .ok (rngW n) μ := rng1_int μ (by omega) (by omega)
theorem mul_sm {i j : Int} (h : -(2 ^ 64) < j ∧ j < 2 ^ 64) (μ : Store) : binF .mul (.int i) (.int j) μ = .ok (.int (i * j)) μ := by
  show (if (small i || small j || _) = true then Res.ok (D.int (i * j)) μ else .stuck) = _
  rw [if_pos (by unfold small; rw [decide_eq_true h]; simp)]
theorem mul_sm' {i j : Int} (h : -(2 ^ 64) < i ∧ i < 2 ^ 64) (μ : Store) : binF .mul (.int i) (.int j) μ = .ok (.int (i * j)) μ := by
  show (if (small i || small j || _) = true then Res.ok (D.int (i * j)) μ else .stuck) = _
  rw [if_pos (by unfold small; rw [decide_eq_true h]; simp)]
theorem mod_ok {i j : Int} (h : 0 < j) (μ : Store) : binF .mod (.int i) (.int j) μ = .ok (.int (i % j)) μ := by
  show (if 0 < j then Res.ok (D.int (i % j)) μ else .stuck) = _
  rw [if_pos h]
theorem div_ok {i j : Int} (h : 0 < j) (h2 : j < 1073741824) (μ : Store) : binF .fdiv (.int i) (.int j) μ = .ok (.int (i / j)) μ := by
  show (if 0 < j ∧ j < 1073741824 then Res.ok (D.int (i / j)) μ else .stuck) = _
  rw [if_pos ⟨h, h2⟩]
theorem pow_ok' {i j : Int} (h : 0 ≤ j ∧ j ≤ 1000 ∧ 0 ≤ i ∧ i < 2 ^ 256) (μ : Store) : binF .pow (.int i) (.int j) μ = .ok (.int (i ^ j.toNat)) μ := by
  show (if 0 ≤ j ∧ j ≤ 1000 ∧ 0 ≤ i ∧ i < 2 ^ 256 then Res.ok (D.int (i ^ j.toNat)) μ else .stuck) = _
  rw [if_pos h]
theorem shl_ok {i j : Int} (h : 0 ≤ j ∧ j ≤ 100000 ∧ i.natAbs < 2 ^ 64) (μ : Store) : binF .shl (.int i) (.int j) μ = .ok (.int (i * 2 ^ j.toNat)) μ := by
  show (if 0 ≤ j ∧ j ≤ 100000 ∧ i.natAbs < 2 ^ 64 then Res.ok (D.int (i * 2 ^ j.toNat)) μ else .stuck) = _
  rw [if_pos h]
theorem int_i (i : Int) (μ : Store) : bfF .int (.int i) μ = .ok (.int i) μ := rfl
theorem int_b (b : Bool) (μ : Store) : bfF .int (.bl b) μ = .ok (.int (if b then 1 else 0)) μ := rfl
theorem abs_i (i : Int) (μ : Store) : bfF .abs (.int i) μ = .ok (.int (if i < 0 then -i else i)) μ := rfl
theorem isn_bl (C : Nat → List (Key × D)) (a b : Bool) (μ : Store) : cmpF C .isn (.bl a) (.bl b) μ = .ok (!(a == b)) μ := rfl
theorem is_bl (C : Nat → List (Key × D)) (a b : Bool) (μ : Store) : cmpF C .is (.bl a) (.bl b) μ = .ok (a == b) μ := rfl
theorem le_str (C : Nat → List (Key × D)) (a b : Txt) (μ : Store) : cmpF C .le (.str a) (.str b) μ = .ok (!decide (b < a)) μ := rfl
theorem nin_eq (C : Nat → List (Key × D)) (a b : D) (μ : Store) : cmpF C .nin a b μ = (inF C a b μ).bind fun k μ => .ok (!k) μ := rfl
theorem in_eq (C : Nat → List (Key × D)) (a b : D) (μ : Store) : cmpF C .inn a b μ = inF C a b μ := rfl
theorem in_sign (C : Nat → List (Key × D)) (c : Nat) (s : Txt) (μ : Store) : inF C (.str [c]) (.str s) μ = .ok (decide (c ∈ s)) μ := rfl
theorem walk_str {s : Txt} (h : s.length ≤ mostLen) (μ : Store) : walkF (.str s) μ = some (.row (s.map fun c => .str [c])) := by
  show (if s.length ≤ mostLen then some (Wk.row (s.map fun c => .str [c])) else none) = _
  rw [if_pos h]
theorem neg_i (i : Int) (μ : Store) : (match (D.int i) with
    | .int i => Res.ok (D.int (-i)) μ
    | _ => .stuck) = .ok (.int (-i)) μ := rfl
theorem slF_tup (xs : List D) (lo hi : Option Int) (μ : Store) : slF (.tup xs) lo hi μ = .ok (.tup (cut xs lo hi)) μ := rfl
theorem slF_str (s : Txt) (lo hi : Option Int) (μ : Store) : slF (.str s) lo hi μ = if s.length ≤ mostLen then .ok (.str (cut s lo hi)) μ else .stuck := rfl
theorem add_lst {μ : Store} {l r : Nat} {xs ys : List D} (h1 : μ[l]? = some (.lst xs)) (h2 : μ[r]? = some (.lst ys)) (h3 : xs.length + ys.length ≤ mostLen) : binF .add (.loc l) (.loc r) μ = .ok (.loc μ.length) (μ ++ [.lst (xs ++ ys)]) := by
  show (match μ[l]?, μ[r]? with
    | some (.lst xs), some (.lst ys) => if xs.length + ys.length ≤ mostLen then PL.new (.lst (xs ++ ys)) μ else .stuck
    | _, _ => .stuck) = _
  rw [h1, h2]
  simp only
  rw [if_pos h3]; rfl
/-- for i in range(len(xs)): what is left of xs -/
theorem for_idx {asg : D → Env → Store → Res Env} {body : Env → Store → SRes} {Q : Flow → Env → Store → Prop} {E : Exc → Env → Store → Prop} {α : Type} {xs : List α} {n : Nat} (hn : n = xs.length) (I : Nat → List α → Env → Store → Prop)
    (step : ∀ i x r ρ μ, xs[i]? = some x → xs.drop (i + 1) = r → I i (x :: r) ρ μ → xR (asg (.int (i : Int)) ρ μ) (fun ρ1 μ1 => xS (body ρ1 μ1) (retS (I (i + 1) r) Q) E) fun x μ => E x ρ μ)
    (fin : ∀ ρ μ, I xs.length [] ρ μ → Q .nx ρ μ) (ρ : Env) (μ : Store) (h0 : I 0 xs ρ μ) : xS (forL (rngW (n : Int)) asg body (rngW (n : Int)).items ρ μ) Q E := by
  subst hn
  rw [rng_items]
  refine for_restL (fun (k : Nat) => D.int (k : Int)) (fun r ρ μ => ∃ i, r = (List.range xs.length).drop i ∧ i ≤ xs.length ∧ I i (xs.drop i) ρ μ) (fun _ _ μ _ => rng_stands _ μ) ?_ ?_ _ _ _ ⟨0, rfl, Nat.zero_le _, h0⟩
  · rintro j r ρ μ ⟨i, hr, hi, h⟩
    have hlt : i < xs.length := by
      rcases Nat.lt_or_ge i xs.length with h | h
      · exact h
      · rw [List.drop_eq_nil_of_le (by simpa using h)] at hr; cases hr
    rw [List.drop_eq_getElem_cons (by simpa using hlt), List.cons.injEq] at hr
    obtain ⟨e1, e2⟩ := hr
    have e1 : j = i := by simpa using e1
    subst e1
    rw [List.drop_eq_getElem_cons hlt] at h
    refine xR_mono (step j _ _ ρ μ (List.getElem?_eq_getElem hlt) rfl h) (fun ρ1 μ1 h1 => xS_mono h1 (fun f ρ2 μ2 h2 => ?_) fun _ _ _ z => z) fun _ _ z => z
    cases f with
    | nx => exact ⟨j + 1, e2, hlt, h2⟩
    | ct => exact ⟨j + 1, e2, hlt, h2⟩
    | bk => exact h2
    | rt d => exact h2
  · rintro ρ μ ⟨i, hr, hi, h⟩
    have hge : xs.length ≤ i := by
      have := congrArg List.length hr
      simp at this
      omega
    have : i = xs.length := by omega
    subst this
    rw [List.drop_eq_nil_of_le (Nat.le_refl _)] at h
    exact fin ρ μ h
/-- [.. for i in range(len(xs))]: what is left of xs -/
theorem comp_idx {l : Nat} {turn : D → Store → Res (Option D)} {R : Unit → Store → Prop} {α : Type} {xs : List α} {n : Nat} (hn : n = xs.length) (I : Nat → List α → List D → Store → Prop)
    (step : ∀ i x r acc μ, xs[i]? = some x → xs.drop (i + 1) = r → I i (x :: r) acc μ → okR (turn (.int (i : Int)) μ) fun o μ1 => match o with
      | none => I (i + 1) r acc μ1
      | some d => μ1[l]? = some (.lst acc) ∧ acc.length < mostLen ∧ I (i + 1) r (acc ++ [d]) (μ1.set l (.lst (acc ++ [d]))))
    (fin : ∀ acc μ, I xs.length [] acc μ → R () μ) (acc : List D) (μ : Store) (h0 : I 0 xs acc μ) : okR (compL (rngW (n : Int)) l turn (rngW (n : Int)).items μ) R := by
  subst hn
  rw [rng_items]
  refine comp_restL (fun (k : Nat) => D.int (k : Int)) (fun r acc μ => ∃ i, r = (List.range xs.length).drop i ∧ i ≤ xs.length ∧ I i (xs.drop i) acc μ) (fun _ _ μ _ => rng_stands _ μ) ?_ ?_ _ _ _ ⟨0, rfl, Nat.zero_le _, h0⟩
  · rintro j r acc μ ⟨i, hr, hi, h⟩
    have hlt : i < xs.length := by
      rcases Nat.lt_or_ge i xs.length with h | h
      · exact h
      · rw [List.drop_eq_nil_of_le (by simpa using h)] at hr; cases hr
    rw [List.drop_eq_getElem_cons (by simpa using hlt), List.cons.injEq] at hr
    obtain ⟨e1, e2⟩ := hr
    have e1 : j = i := by simpa using e1
    subst e1
    rw [List.drop_eq_getElem_cons hlt] at h
    refine okR_mono (step j _ _ acc μ (List.getElem?_eq_getElem hlt) rfl h) fun o μ1 h1 => ?_
    cases o with
    | none => exact ⟨j + 1, e2, hlt, h1⟩
    | some d => exact ⟨h1.1, h1.2.1, j + 1, e2, hlt, h1.2.2⟩
  · rintro acc μ ⟨i, hr, hi, h⟩
    have hge : xs.length ≤ i := by
      have := congrArg List.length hr
      simp at this
      omega
    have : i = xs.length := by omega
    subst this
    rw [List.drop_eq_nil_of_le (Nat.le_refl _)] at h
    exact fin acc μ h
theorem ne_lsts (C : Nat → List (Key × D)) {μ : Store} {a b : Nat} {xs ys : List D} (h1 : μ[a]? = some (.lst xs)) (h2 : μ[b]? = some (.lst ys)) (hx : D.eqOk (.tup xs) = true) (hy : D.eqOk (.tup ys) = true) : cmpF C .ne (.loc a) (.loc b) μ = .ok (!deqL xs ys) μ := by
  show (if eqOk2 (.loc a) (.loc b) then Res.ok (!deq (.loc a) (.loc b)) μ else match rows2 (.loc a) (.loc b) μ with
    | some (xs, ys) => .ok (!deqL xs ys) μ
    | none => .stuck) = _
  rw [if_neg (by simp [eqOk2, scalEq, D.eqOk, D.plain])]
  unfold rows2
  simp only [h1, h2, hx, hy, Bool.and_true, if_true]
theorem eq_bl (C : Nat → List (Key × D)) (a b : Bool) (μ : Store) : cmpF C .eq (.bl a) (.bl b) μ = .ok (a == b) μ := rfl
theorem ne_bl (C : Nat → List (Key × D)) (a b : Bool) (μ : Store) : cmpF C .ne (.bl a) (.bl b) μ = .ok (!(a == b)) μ := rfl
theorem eq_is (C : Nat → List (Key × D)) (a : Int) (b : Txt) (μ : Store) : cmpF C .eq (.int a) (.str b) μ = .ok false μ := rfl
theorem isi_non_int (μ : Store) : isiF .non .int μ = .ok false μ := rfl
theorem isi_non_str (μ : Store) : isiF .non .str μ = .ok false μ := rfl
theorem isi_non_bool (μ : Store) : isiF .non .bool μ = .ok false μ := rfl
theorem isi_non_tuple (μ : Store) : isiF .non .tuple μ = .ok false μ := rfl
theorem isi_non_list (μ : Store) : isiF .non .list μ = .ok false μ := rfl
theorem isi_bl_int (b : Bool) (μ : Store) : isiF (.bl b) .int μ = .ok true μ := rfl
theorem isi_bl_str (b : Bool) (μ : Store) : isiF (.bl b) .str μ = .ok false μ := rfl
theorem isi_bl_bool (b : Bool) (μ : Store) : isiF (.bl b) .bool μ = .ok true μ := rfl
theorem isi_bl_tuple (b : Bool) (μ : Store) : isiF (.bl b) .tuple μ = .ok false μ := rfl
theorem isi_bl_list (b : Bool) (μ : Store) : isiF (.bl b) .list μ = .ok false μ := rfl
theorem isi_int_int (i : Int) (μ : Store) : isiF (.int i) .int μ = .ok true μ := rfl
theorem isi_int_str (i : Int) (μ : Store) : isiF (.int i) .str μ = .ok false μ := rfl
theorem isi_int_bool (i : Int) (μ : Store) : isiF (.int i) .bool μ = .ok false μ := rfl
theorem isi_int_tuple (i : Int) (μ : Store) : isiF (.int i) .tuple μ = .ok false μ := rfl
theorem isi_int_list (i : Int) (μ : Store) : isiF (.int i) .list μ = .ok false μ := rfl
theorem isi_str_int (s : Txt) (μ : Store) : isiF (.str s) .int μ = .ok false μ := rfl
theorem isi_str_str (s : Txt) (μ : Store) : isiF (.str s) .str μ = .ok true μ := rfl
theorem isi_str_bool (s : Txt) (μ : Store) : isiF (.str s) .bool μ = .ok false μ := rfl
theorem isi_str_tuple (s : Txt) (μ : Store) : isiF (.str s) .tuple μ = .ok false μ := rfl
theorem isi_str_list (s : Txt) (μ : Store) : isiF (.str s) .list μ = .ok false μ := rfl
theorem isi_tup_int (xs : List D) (μ : Store) : isiF (.tup xs) .int μ = .ok false μ := rfl
theorem isi_tup_str (xs : List D) (μ : Store) : isiF (.tup xs) .str μ = .ok false μ := rfl
theorem isi_tup_bool (xs : List D) (μ : Store) : isiF (.tup xs) .bool μ = .ok false μ := rfl
theorem isi_tup_tuple (xs : List D) (μ : Store) : isiF (.tup xs) .tuple μ = .ok true μ := rfl
theorem isi_tup_list (xs : List D) (μ : Store) : isiF (.tup xs) .list μ = .ok false μ := rfl
theorem isNon_bl (b : Bool) : D.isNon (.bl b) = false := rfl
theorem isNon_int (i : Int) : D.isNon (.int i) = false := rfl
theorem isNon_str (s : Txt) : D.isNon (.str s) = false := rfl
theorem isNon_loc (s : Nat) : D.isNon (.loc s) = false := rfl
theorem ext_lst (C : Nat → List (Key × D)) {μ : Store} {l r : Nat} {xs ys : List D} (h1 : μ[l]? = some (.lst xs)) (h2 : μ[r]? = some (.lst ys)) (h3 : xs.length + ys.length ≤ mostLen) (h4 : l ≠ r) : methF C .extend (.loc l) [.loc r] μ = .ok .non (μ.set l (.lst (xs ++ ys))) := extend_lst h1 h2 h3 h4
theorem wipeE_nil (ρ : Env) : wipeE ρ [] = ρ := rfl
theorem wipeE_cons (ρ : Env) (v : Nat) (vs : List Nat) : wipeE ρ (v :: vs) = (wipeE ρ vs).set v none := rfl
/-! ### x += e -/
section
variable (C : Nat → List (Key × D)) (cf : CF) (N : Nat) (ρ : Env) (μ : Store)
def augG (op : Op) (x y : D) (ρ : Env) (i : Nat) (μ : Store) : SRes := match x, y with
  | .int a, .int b => SRes.of ρ (binF op (.int a) (.int b) μ) fun z μ => .go .nx (ρ.set i (some z)) μ
  | _, _ => .stuck
def augH (op : Op) (e : E) (i : Nat) (ρ : Env) (μ : Store) (o : Option (Option D)) : SRes := match o with
  | some (some x) => SRes.of ρ (ev C cf e ρ μ) fun y μ => augG op x y ρ i μ
  | _ => .stuck
theorem ex_aug2 (i : Nat) (op : Op) (e : E) : ex C cf N (.aug i op e) ρ μ = augH C cf op e i ρ μ ρ[i]? := by
  rw [ex_aug]
  cases ρ[i]? with
  | none => rfl
  | some o => cases o <;> rfl
theorem augH_some (op : Op) (e : E) (i : Nat) (x : D) : augH C cf op e i ρ μ (some (some x)) = SRes.of ρ (ev C cf e ρ μ) fun y μ => augG op x y ρ i μ := rfl
theorem augG_int (op : Op) (i : Nat) (a b : Int) : augG op (.int a) (.int b) ρ i μ = SRes.of ρ (binF op (.int a) (.int b) μ) fun z μ => .go .nx (ρ.set i (some z)) μ := rfl
end
/-! ### small numbers against mostLen -/
theorem lm0 : ((0 : Nat) ≤ mostLen) = True := eq_true (by decide)
theorem lm1 : ((1 : Nat) ≤ mostLen) = True := eq_true (by decide)
theorem lm2 : ((2 : Nat) ≤ mostLen) = True := eq_true (by decide)
theorem lm3 : ((3 : Nat) ≤ mostLen) = True := eq_true (by decide)
theorem lm4 : ((4 : Nat) ≤ mostLen) = True := eq_true (by decide)
theorem lm5 : ((5 : Nat) ≤ mostLen) = True := eq_true (by decide)
theorem lm6 : ((6 : Nat) ≤ mostLen) = True := eq_true (by decide)
theorem lm7 : ((7 : Nat) ≤ mostLen) = True := eq_true (by decide)
theorem lm8 : ((8 : Nat) ≤ mostLen) = True := eq_true (by decide)
theorem lm9 : ((9 : Nat) ≤ mostLen) = True := eq_true (by decide)
theorem lm10 : ((10 : Nat) ≤ mostLen) = True := eq_true (by decide)
theorem lm11 : ((11 : Nat) ≤ mostLen) = True := eq_true (by decide)
theorem lm12 : ((12 : Nat) ≤ mostLen) = True := eq_true (by decide)
theorem lm13 : ((13 : Nat) ≤ mostLen) = True := eq_true (by decide)
theorem lm14 : ((14 : Nat) ≤ mostLen) = True := eq_true (by decide)
theorem lm15 : ((15 : Nat) ≤ mostLen) = True := eq_true (by decide)
theorem lm16 : ((16 : Nat) ≤ mostLen) = True := eq_true (by decide)
theorem lm17 : ((17 : Nat) ≤ mostLen) = True := eq_true (by decide)
theorem lm18 : ((18 : Nat) ≤ mostLen) = True := eq_true (by decide)
theorem lm19 : ((19 : Nat) ≤ mostLen) = True := eq_true (by decide)
theorem lm20 : ((20 : Nat) ≤ mostLen) = True := eq_true (by decide)
theorem lm21 : ((21 : Nat) ≤ mostLen) = True := eq_true (by decide)
theorem lm22 : ((22 : Nat) ≤ mostLen) = True := eq_true (by decide)
theorem lm23 : ((23 : Nat) ≤ mostLen) = True := eq_true (by decide)
theorem lm24 : ((24 : Nat) ≤ mostLen) = True := eq_true (by decide)
theorem lm25 : ((25 : Nat) ≤ mostLen) = True := eq_true (by decide)
theorem lm26 : ((26 : Nat) ≤ mostLen) = True := eq_true (by decide)
theorem lm27 : ((27 : Nat) ≤ mostLen) = True := eq_true (by decide)
theorem lm28 : ((28 : Nat) ≤ mostLen) = True := eq_true (by decide)
theorem lm29 : ((29 : Nat) ≤ mostLen) = True := eq_true (by decide)
theorem lm30 : ((30 : Nat) ≤ mostLen) = True := eq_true (by decide)
theorem lm31 : ((31 : Nat) ≤ mostLen) = True := eq_true (by decide)
theorem lm32 : ((32 : Nat) ≤ mostLen) = True := eq_true (by decide)
theorem lm33 : ((33 : Nat) ≤ mostLen) = True := eq_true (by decide)
theorem lm34 : ((34 : Nat) ≤ mostLen) = True := eq_true (by decide)
theorem lm35 : ((35 : Nat) ≤ mostLen) = True := eq_true (by decide)
theorem lm36 : ((36 : Nat) ≤ mostLen) = True := eq_true (by decide)
theorem lm37 : ((37 : Nat) ≤ mostLen) = True := eq_true (by decide)
theorem lm38 : ((38 : Nat) ≤ mostLen) = True := eq_true (by decide)
theorem lm39 : ((39 : Nat) ≤ mostLen) = True := eq_true (by decide)
theorem lm40 : ((40 : Nat) ≤ mostLen) = True := eq_true (by decide)
theorem lm41 : ((41 : Nat) ≤ mostLen) = True := eq_true (by decide)
theorem lm42 : ((42 : Nat) ≤ mostLen) = True := eq_true (by decide)
theorem lm43 : ((43 : Nat) ≤ mostLen) = True := eq_true (by decide)
theorem lm44 : ((44 : Nat) ≤ mostLen) = True := eq_true (by decide)
end PL
end
set_option maxRecDepth 100000
local macro_rules
  | `(tactic| simp_arith) => `(tactic| simp -implicitDefEqProofs only [PL.getV_some, PL.ev_v, PL.bind_ok, PL.of_ok, PL.next_nx, PL.next_rt, PL.next_bk, PL.next_ct, PL.handed_nx, PL.handed_rt, PL.ev_non, PL.ev_bl, PL.ev_int, PL.ev_str, PL.ev_glS, PL.ev_glC, PL.ev_glI, PL.ev_callK, PL.ev_bf2, PL.evI_rev, PL.max2_int, PL.min2_int, PL.ev_tup, PL.ev_lst, PL.ev_dnK, PL.ev_dnT, PL.ev_call, PL.ev_bf, PL.ev_isi, PL.ev_meth, PL.ev_bin, PL.ev_neg, PL.ev_cmp, PL.ev_chain, PL.ev_and, PL.ev_or, PL.ev_not, PL.andF_bl, PL.orF_bl, PL.notF_bl, PL.ev_ite, PL.ev_ix, PL.ev_slL, PL.ev_slU, PL.sl1_int, PL.sl2_int, PL.ev_comp, PL.evs_nil, PL.evs_cons, PL.evC_yes, PL.evC_test, PL.evT_and, PL.evT_or, PL.evT_not, PL.evT_cmp, PL.evT_chain, PL.evT_bf, PL.evT_ix, PL.truth_bl, PL.evT_bl, PL.evT_isi, PL.evT_call, PL.evI_val, PL.evI_rng, PL.asgT_nm, PL.asgT_tp, PL.asgT_sb, PL.unpack_2, PL.unpack_3, PL.unpack_2k, PL.ex_asg, PL.ex_ex, PL.ex_par, PL.ex_ret, PL.ex_retN, PL.ex_ite, PL.ex_whl, PL.ex_fr, PL.exs_nil, PL.exs_cons, PL.okI_some, PL.add_int, PL.sub_int, PL.add_str, PL.add_tup, PL.len_tup, PL.len_str, PL.lt_int, PL.le_int, PL.gt_int, PL.ge_int, PL.eq_int, PL.ne_int, PL.eq_str, PL.ne_str, PL.is_non, PL.isn_non, PL.isNon_non, PL.isNon_tup, PL.ix_tup, PL.ix_str, PL.tuple_tup, PL.mfOk_append, PL.mfOk_pop, PL.mfOk_popAt, PL.mfOk_extend, PL.mfOk_join, PL.mfOk_index, PL.walk_tup, PL.items_row, PL.items_lst, PL.start_row, PL.start_lst, PL.stop_row, PL.stop_lst, PL.okR_ok, PL.okS_go, PL.okR_bind, PL.okS_of, PL.okS_next, PL.thenS_nx, PL.thenS_rt, PL.thenS_bk, PL.thenS_ct, PL.okR_handed, PL.handQ_nx, PL.handQ_rt, PL.goS_nx, PL.goS_ct, PL.goS_rt, PL.goS_bk, PL.retS_nx, PL.retS_ct, PL.retS_bk, PL.retS_rt, PL.xR_ok, PL.xR_exc, PL.xS_go, PL.xS_exc, PL.xR_bind, PL.xS_of, PL.xS_next, PL.thenX_nx, PL.thenX_rt, PL.thenX_bk, PL.thenX_ct, PL.xR_handed, PL.ex_rse, PL.xS_tr, PL.exh_nil, PL.exh_none, PL.exh_some, PL.xS_noExc, PL.xS_unset, PL.unsetQ_rt, PL.ev_errF, PL.ev_errIs, PL.evT_errIs, PL.ev_rv, PL.rv_tup, PL.rv_str, PL.mfOk_upper, PL.upper_str, PL.evT_callK, PL.evT_v, PL.evT_meth, PL.ev_slB, PL.ev_neg', PL.unlock_row, PL.unlock_lstw, PL.new_lst, PL.rng_start, PL.rng_stop, PL.rng_stopw, PL.int_i, PL.int_b, PL.abs_i, PL.isn_bl, PL.is_bl, PL.le_str, PL.nin_eq, PL.in_eq, PL.in_sign, PL.slF_tup, PL.isi_non_int, PL.isi_non_str, PL.isi_non_bool, PL.isi_non_tuple, PL.isi_non_list, PL.isi_bl_int, PL.isi_bl_str, PL.isi_bl_bool, PL.isi_bl_tuple, PL.isi_bl_list, PL.isi_int_int, PL.isi_int_str, PL.isi_int_bool, PL.isi_int_tuple, PL.isi_int_list, PL.isi_str_int, PL.isi_str_str, PL.isi_str_bool, PL.isi_str_tuple, PL.isi_str_list, PL.isi_tup_int, PL.isi_tup_str, PL.isi_tup_bool, PL.isi_tup_tuple, PL.isi_tup_list, PL.isNon_bl, PL.isNon_int, PL.isNon_str, PL.isNon_loc, PL.eq_bl, PL.ne_bl, PL.eq_is, PL.ex_aug2, PL.augH_some, PL.augG_int, PL.wipeE_nil, PL.wipeE_cons, PL.lm0, PL.lm1, PL.lm2, PL.lm3, PL.lm4, PL.lm5, PL.lm6, PL.lm7, PL.lm8, PL.lm9, PL.lm10, PL.lm11, PL.lm12, PL.lm13, PL.lm14, PL.lm15, PL.lm16, PL.lm17, PL.lm18, PL.lm19, PL.lm20, PL.lm21, PL.lm22, PL.lm23, PL.lm24, PL.lm25, PL.lm26, PL.lm27, PL.lm28, PL.lm29, PL.lm30, PL.lm31, PL.lm32, PL.lm33, PL.lm34, PL.lm35, PL.lm36, PL.lm37, PL.lm38, PL.lm39, PL.lm40, PL.lm41, PL.lm42, PL.lm43, PL.lm44, List.getElem?_cons_succ, List.getElem?_cons_zero, List.set_cons_succ, List.set_cons_zero, List.length_cons, List.length_nil, Nat.zero_add, beq_self_eq_true, Nat.reduceAdd, Nat.reduceSub, Nat.reduceLeDiff, if_true, if_false, ite_true, ite_false, Bool.not_true, Bool.not_false, Bool.false_eq_true, Bool.true_eq_false, List.map_cons, List.map_nil, List.replicate_succ, List.replicate_zero, List.cons_append, List.nil_append, PL.callB, PL.startE, Option.map_some, Option.map_none, and_self, true_and, and_true, decide_true, decide_false, not_true_eq_false, not_false_eq_true])
  | `(tactic| simp_arith [$ls,*]) => `(tactic| simp -implicitDefEqProofs only [PL.getV_some, PL.ev_v, PL.bind_ok, PL.of_ok, PL.next_nx, PL.next_rt, PL.next_bk, PL.next_ct, PL.handed_nx, PL.handed_rt, PL.ev_non, PL.ev_bl, PL.ev_int, PL.ev_str, PL.ev_glS, PL.ev_glC, PL.ev_glI, PL.ev_callK, PL.ev_bf2, PL.evI_rev, PL.max2_int, PL.min2_int, PL.ev_tup, PL.ev_lst, PL.ev_dnK, PL.ev_dnT, PL.ev_call, PL.ev_bf, PL.ev_isi, PL.ev_meth, PL.ev_bin, PL.ev_neg, PL.ev_cmp, PL.ev_chain, PL.ev_and, PL.ev_or, PL.ev_not, PL.andF_bl, PL.orF_bl, PL.notF_bl, PL.ev_ite, PL.ev_ix, PL.ev_slL, PL.ev_slU, PL.sl1_int, PL.sl2_int, PL.ev_comp, PL.evs_nil, PL.evs_cons, PL.evC_yes, PL.evC_test, PL.evT_and, PL.evT_or, PL.evT_not, PL.evT_cmp, PL.evT_chain, PL.evT_bf, PL.evT_ix, PL.truth_bl, PL.evT_bl, PL.evT_isi, PL.evT_call, PL.evI_val, PL.evI_rng, PL.asgT_nm, PL.asgT_tp, PL.asgT_sb, PL.unpack_2, PL.unpack_3, PL.unpack_2k, PL.ex_asg, PL.ex_ex, PL.ex_par, PL.ex_ret, PL.ex_retN, PL.ex_ite, PL.ex_whl, PL.ex_fr, PL.exs_nil, PL.exs_cons, PL.okI_some, PL.add_int, PL.sub_int, PL.add_str, PL.add_tup, PL.len_tup, PL.len_str, PL.lt_int, PL.le_int, PL.gt_int, PL.ge_int, PL.eq_int, PL.ne_int, PL.eq_str, PL.ne_str, PL.is_non, PL.isn_non, PL.isNon_non, PL.isNon_tup, PL.ix_tup, PL.ix_str, PL.tuple_tup, PL.mfOk_append, PL.mfOk_pop, PL.mfOk_popAt, PL.mfOk_extend, PL.mfOk_join, PL.mfOk_index, PL.walk_tup, PL.items_row, PL.items_lst, PL.start_row, PL.start_lst, PL.stop_row, PL.stop_lst, PL.okR_ok, PL.okS_go, PL.okR_bind, PL.okS_of, PL.okS_next, PL.thenS_nx, PL.thenS_rt, PL.thenS_bk, PL.thenS_ct, PL.okR_handed, PL.handQ_nx, PL.handQ_rt, PL.goS_nx, PL.goS_ct, PL.goS_rt, PL.goS_bk, PL.retS_nx, PL.retS_ct, PL.retS_bk, PL.retS_rt, PL.xR_ok, PL.xR_exc, PL.xS_go, PL.xS_exc, PL.xR_bind, PL.xS_of, PL.xS_next, PL.thenX_nx, PL.thenX_rt, PL.thenX_bk, PL.thenX_ct, PL.xR_handed, PL.ex_rse, PL.xS_tr, PL.exh_nil, PL.exh_none, PL.exh_some, PL.xS_noExc, PL.xS_unset, PL.unsetQ_rt, PL.ev_errF, PL.ev_errIs, PL.evT_errIs, PL.ev_rv, PL.rv_tup, PL.rv_str, PL.mfOk_upper, PL.upper_str, PL.evT_callK, PL.evT_v, PL.evT_meth, PL.ev_slB, PL.ev_neg', PL.unlock_row, PL.unlock_lstw, PL.new_lst, PL.rng_start, PL.rng_stop, PL.rng_stopw, PL.int_i, PL.int_b, PL.abs_i, PL.isn_bl, PL.is_bl, PL.le_str, PL.nin_eq, PL.in_eq, PL.in_sign, PL.slF_tup, PL.isi_non_int, PL.isi_non_str, PL.isi_non_bool, PL.isi_non_tuple, PL.isi_non_list, PL.isi_bl_int, PL.isi_bl_str, PL.isi_bl_bool, PL.isi_bl_tuple, PL.isi_bl_list, PL.isi_int_int, PL.isi_int_str, PL.isi_int_bool, PL.isi_int_tuple, PL.isi_int_list, PL.isi_str_int, PL.isi_str_str, PL.isi_str_bool, PL.isi_str_tuple, PL.isi_str_list, PL.isi_tup_int, PL.isi_tup_str, PL.isi_tup_bool, PL.isi_tup_tuple, PL.isi_tup_list, PL.isNon_bl, PL.isNon_int, PL.isNon_str, PL.isNon_loc, PL.eq_bl, PL.ne_bl, PL.eq_is, PL.ex_aug2, PL.augH_some, PL.augG_int, PL.wipeE_nil, PL.wipeE_cons, PL.lm0, PL.lm1, PL.lm2, PL.lm3, PL.lm4, PL.lm5, PL.lm6, PL.lm7, PL.lm8, PL.lm9, PL.lm10, PL.lm11, PL.lm12, PL.lm13, PL.lm14, PL.lm15, PL.lm16, PL.lm17, PL.lm18, PL.lm19, PL.lm20, PL.lm21, PL.lm22, PL.lm23, PL.lm24, PL.lm25, PL.lm26, PL.lm27, PL.lm28, PL.lm29, PL.lm30, PL.lm31, PL.lm32, PL.lm33, PL.lm34, PL.lm35, PL.lm36, PL.lm37, PL.lm38, PL.lm39, PL.lm40, PL.lm41, PL.lm42, PL.lm43, PL.lm44, List.getElem?_cons_succ, List.getElem?_cons_zero, List.set_cons_succ, List.set_cons_zero, List.length_cons, List.length_nil, Nat.zero_add, beq_self_eq_true, Nat.reduceAdd, Nat.reduceSub, Nat.reduceLeDiff, if_true, if_false, ite_true, ite_false, Bool.not_true, Bool.not_false, Bool.false_eq_true, Bool.true_eq_false, List.map_cons, List.map_nil, List.replicate_succ, List.replicate_zero, List.cons_append, List.nil_append, PL.callB, PL.startE, Option.map_some, Option.map_none, and_self, true_and, and_true, decide_true, decide_false, not_true_eq_false, not_false_eq_true, $ls,*])
section
set_option autoImplicit false
set_option maxRecDepth 10000
namespace K86
open PL
/-- kind, sign -/
def f_fits_kind : Fn := ⟨2, 2,
  (.cons (.ret (.ite (.cmp .eq (.v 0) (.str [])) (.cmp .eq (.v 1) (.str [35])) (.cmp .inn (.v 1) (.v 0)))) .nil)⟩
/-- board, thing, row, many, column -/
def f_check_setting : Fn := ⟨2, 5,
  (.cons (.ite (.or (.not (.isi (.v 1) .tuple)) (.cmp .ne (.bf .len (.v 1)) (.bf .len (.v 0)))) (.cons (.rse [7, 3, 0] [1, 2, 0] (.cons (.neg (.int 1)) (.cons (.neg (.int 1)) (.cons (.str [115, 104, 97, 112, 101]) .nil)))) .nil) .nil) (.cons (.fr (.nm 2) (.rng (.bf .len (.v 0))) (.cons (.ite (.or (.not (.isi (.ix (.v 1) (.v 2)) .str)) (.cmp .ne (.bf .len (.ix (.v 1) (.v 2))) (.bf .len (.ix (.v 0) (.v 2))))) (.cons (.rse [7, 3, 0] [1, 2, 0] (.cons (.v 2) (.cons (.neg (.int 1)) (.cons (.str [114, 111, 119]) .nil)))) .nil) .nil) .nil)) (.cons (.asg (.nm 3) (.int 0)) (.cons (.fr (.nm 2) (.rng (.bf .len (.v 0))) (.cons (.fr (.nm 4) (.rng (.bf .len (.ix (.v 0) (.v 2)))) (.cons (.ex (.call 54 (.cons (.v 0) (.cons (.v 2) (.cons (.v 4) (.cons (.ix (.ix (.v 1) (.v 2)) (.v 4)) .nil)))))) (.cons (.ite (.cmp .ne (.ix (.ix (.v 0) (.v 2)) (.v 4)) (.str [])) (.cons (.aug 3 .add (.int 1)) .nil) .nil) .nil))) .nil)) (.cons (.ret (.v 3)) .nil)))))⟩
/-- board, row, column, sign -/
def f_look_at_sign : Fn := ⟨4, 4,
  (.cons (.ite (.not (.call 52 (.cons (.ix (.ix (.v 0) (.v 1)) (.v 2)) (.cons (.v 3) .nil)))) (.cons (.rse [7, 3, 0] [1, 2, 0] (.cons (.v 1) (.cons (.v 2) (.cons (.ite (.cmp .eq (.ix (.ix (.v 0) (.v 1)) (.v 2)) (.str [])) (.str [119, 97, 108, 108]) (.str [108, 101, 116, 116, 101, 114])) .nil)))) .nil) .nil) .nil)⟩
/-- board, thing -/
def f_is_setting : Fn := ⟨2, 2,
  (.cons (.tr (.cons (.ex (.call 53 (.cons (.v 0) (.cons (.v 1) .nil)))) .nil) (.cons 7 none (.cons (.ret (.bl false)) .nil) .nil)) (.cons (.ret (.bl true)) .nil))⟩
/-- thing, ahead, sign -/
def f_is_kind : Fn := ⟨1, 3,
  (.cons (.ite (.not (.isi (.v 0) .str)) (.cons (.ret (.bl false)) .nil) .nil) (.cons (.asg (.nm 1) (.str [])) (.cons (.fr (.nm 2) (.val (.v 0)) (.cons (.ite (.or (.cmp .nin (.v 2) (.glS 0 [100, 115, 117])) (.cmp .le (.v 2) (.v 1))) (.cons (.ret (.bl false)) .nil) .nil) (.cons (.asg (.nm 1) (.v 2)) .nil))) (.cons (.ret (.bl true)) .nil))))⟩
/-- thing, at, column, many, row, kind -/
def f_check_board : Fn := ⟨1, 6,
  (.cons (.ite (.not (.isi (.v 0) .tuple)) (.cons (.rse [6, 3, 0] [1, 2, 0] (.cons (.neg (.int 1)) (.cons (.neg (.int 1)) (.cons (.str [115, 104, 97, 112, 101]) .nil)))) .nil) .nil) (.cons (.ite (.not (.chain .le .le (.int 1) (.bf .len (.v 0)) (.glI 0 8))) (.cons (.rse [6, 3, 0] [1, 2, 0] (.cons (.neg (.int 1)) (.cons (.neg (.int 1)) (.cons (.str [115, 105, 122, 101]) .nil)))) .nil) .nil) (.cons (.fr (.nm 1) (.rng (.bf .len (.v 0))) (.cons (.ex (.call 58 (.cons (.v 0) (.cons (.v 1) .nil)))) .nil)) (.cons (.fr (.nm 1) (.rng (.bf .len (.v 0))) (.cons (.fr (.nm 2) (.rng (.bf .len (.ix (.v 0) (.v 1)))) (.cons (.ite (.not (.call 56 (.cons (.ix (.ix (.v 0) (.v 1)) (.v 2)) .nil))) (.cons (.rse [6, 3, 0] [1, 2, 0] (.cons (.v 1) (.cons (.v 2) (.cons (.str [107, 105, 110, 100]) .nil)))) .nil) .nil) .nil)) .nil)) (.cons (.asg (.nm 3) (.int 0)) (.cons (.fr (.nm 4) (.val (.v 0)) (.cons (.aug 3 .add (.bf .len (.comp (.nm 5) (.val (.v 4)) (.test (.cmp .ne (.v 5) (.str []))) (.v 5) [5]))) .nil)) (.cons (.ite (.cmp .eq (.v 3) (.int 0)) (.cons (.rse [6, 3, 0] [1, 2, 0] (.cons (.neg (.int 1)) (.cons (.neg (.int 1)) (.cons (.str [101, 109, 112, 116, 121]) .nil)))) .nil) .nil) (.cons (.ret (.v 3)) .nil))))))))⟩
/-- thing, at -/
def f_check_row : Fn := ⟨2, 2,
  (.cons (.ite (.not (.isi (.ix (.v 0) (.v 1)) .tuple)) (.cons (.rse [6, 3, 0] [1, 2, 0] (.cons (.v 1) (.cons (.neg (.int 1)) (.cons (.str [115, 104, 97, 112, 101]) .nil)))) .nil) .nil) (.cons (.ite (.not (.chain .le .le (.int 1) (.bf .len (.ix (.v 0) (.v 1))) (.glI 0 8))) (.cons (.rse [6, 3, 0] [1, 2, 0] (.cons (.v 1) (.cons (.neg (.int 1)) (.cons (.str [115, 105, 122, 101]) .nil)))) .nil) .nil) (.cons (.ite (.cmp .ne (.bf .len (.ix (.v 0) (.v 1))) (.bf .len (.ix (.v 0) (.int 0)))) (.cons (.rse [6, 3, 0] [1, 2, 0] (.cons (.v 1) (.cons (.neg (.int 1)) (.cons (.str [115, 105, 122, 101]) .nil)))) .nil) .nil) .nil)))⟩
/-- thing -/
def f_is_board : Fn := ⟨1, 1,
  (.cons (.tr (.cons (.ex (.call 57 (.cons (.v 0) .nil))) .nil) (.cons 6 none (.cons (.ret (.bl false)) .nil) .nil)) (.cons (.ret (.bl true)) .nil))⟩
/-- script, great, mix, cell, size -/
def f_law_stream : Fn := ⟨1, 5,
  (.cons (.asg (.nm 1) (.lst .nil)) (.cons (.asg (.nm 2) (.int 86011)) (.cons (.fr (.nm 3) (.val (.slU (.v 0) (.int 63))) (.cons (.asg (.nm 4) (.bin .mod (.bf .abs (.bf .int (.v 3))) (.bin .shl (.int 1) (.int 2000)))) (.cons (.asg (.nm 2) (.bin .mod (.bf .int (.bin .add (.bin .add (.bin .mul (.v 2) (.int 48271)) (.bin .mod (.v 4) (.int 999983))) (.int 1))) (.int 2147483647))) (.cons (.ite (.cmp .ge (.v 4) (.bin .pow (.int 10) (.int 18))) (.cons (.ex (.meth .append (.v 1) (.cons (.v 4) .nil))) .nil) .nil) .nil)))) (.cons (.ret (.lst (.cons (.v 1) (.cons (.v 2) .nil)))) .nil))))⟩
/-- stream, many, great, size -/
def f_law_pull : Fn := ⟨2, 4,
  (.cons (.asg (.nm 2) (.ix (.v 0) (.int 0))) (.cons (.ite (.cmp .gt (.bf .len (.v 2)) (.int 0)) (.cons (.asg (.nm 3) (.bf .int (.meth .pop (.v 2) .nil))) (.cons (.ite (.cmp .ge (.v 3) (.v 1)) (.cons (.ex (.meth .append (.v 2) (.cons (.bin .fdiv (.v 3) (.v 1)) .nil))) .nil) .nil) (.cons (.ret (.bin .mod (.v 3) (.v 1))) .nil))) .nil) (.cons (.asg (.sb (.v 0) (.int 1)) (.bin .mod (.bf .int (.bin .add (.bin .mul (.ix (.v 0) (.int 1)) (.int 39373)) (.int 86017))) (.int 2147483647))) (.cons (.ret (.bin .mod (.bf .int (.bin .fdiv (.ix (.v 0) (.int 1)) (.int 89))) (.v 1))) .nil))))⟩
/-- stream, things -/
def f_law_one : Fn := ⟨2, 2,
  (.cons (.ret (.ix (.v 1) (.call 1001 (.cons (.v 0) (.cons (.bf .len (.v 1)) .nil))))) .nil)⟩
/-- told, due, rest, one, other, at -/
def f_law_same : Fn := ⟨2, 6,
  (.cons (.asg (.nm 2) (.lst (.cons (.tup (.cons (.v 0) (.cons (.v 1) .nil))) .nil))) (.cons (.whl (.cmp .gt (.bf .len (.v 2)) (.int 0)) (.cons (.asg (.tp [3, 4]) (.meth .pop (.v 2) .nil)) (.cons (.ite (.isi (.v 4) .tuple) (.cons (.ite (.or (.not (.isi (.v 3) .tuple)) (.cmp .ne (.bf .len (.v 3)) (.bf .len (.v 4)))) (.cons (.ret (.bl false)) .nil) .nil) (.cons (.ex (.meth .extend (.v 2) (.cons (.comp (.nm 5) (.rng (.bf .len (.v 4))) .yes (.tup (.cons (.ix (.v 3) (.v 5)) (.cons (.ix (.v 4) (.v 5)) .nil))) [5]) .nil))) .nil)) (.cons (.ite (.cmp .is (.v 4) .non) (.cons (.ite (.cmp .isn (.v 3) .non) (.cons (.ret (.bl false)) .nil) .nil) .nil) (.cons (.ite (.isi (.v 4) .str) (.cons (.ite (.or (.not (.isi (.v 3) .str)) (.cmp .ne (.v 3) (.v 4))) (.cons (.ret (.bl false)) .nil) .nil) .nil) (.cons (.ite (.or (.isi (.v 4) .bool) (.isi (.v 3) .bool)) (.cons (.ite (.or (.not (.isi (.v 3) .bool)) (.or (.not (.isi (.v 4) .bool)) (.cmp .ne (.v 3) (.v 4)))) (.cons (.ret (.bl false)) .nil) .nil) .nil) (.cons (.ite (.or (.not (.isi (.v 3) .int)) (.cmp .ne (.v 3) (.v 4))) (.cons (.ret (.bl false)) .nil) .nil) .nil)) .nil)) .nil)) .nil)) .nil))) (.cons (.ret (.bl true)) .nil)))⟩
/--  -/
def f_law_kinds : Fn := ⟨0, 0,
  (.cons (.ret (.tup (.cons (.str []) (.cons (.str [100]) (.cons (.str [115]) (.cons (.str [117]) (.cons (.str [100, 115]) (.cons (.str [100, 117]) (.cons (.str [115, 117]) (.cons (.str [100, 115, 117]) .nil)))))))))) .nil)⟩
/-- stream, rows, columns, habit, most, told, row, kinds, column, kind -/
def f_law_board : Fn := ⟨3, 10,
  (.cons (.asg (.nm 3) (.call 1001 (.cons (.v 0) (.cons (.int 7) .nil)))) (.cons (.asg (.nm 4) (.ix (.call 1004 .nil) (.bin .add (.int 1) (.call 1001 (.cons (.v 0) (.cons (.int 7) .nil)))))) (.cons (.asg (.nm 5) (.lst .nil)) (.cons (.fr (.nm 6) (.rng (.v 1)) (.cons (.asg (.nm 7) (.lst .nil)) (.cons (.fr (.nm 8) (.rng (.v 2)) (.cons (.asg (.nm 9) (.call 1002 (.cons (.v 0) (.cons (.call 1004 .nil) .nil)))) (.cons (.ite (.or (.and (.cmp .eq (.v 3) (.int 1)) (.cmp .eq (.v 9) (.str []))) (.and (.cmp .eq (.v 3) (.int 2)) (.cmp .gt (.call 1001 (.cons (.v 0) (.cons (.int 4) .nil))) (.int 0)))) (.cons (.asg (.nm 9) (.v 4)) .nil) .nil) (.cons (.ite (.cmp .eq (.v 3) (.int 3)) (.cons (.asg (.nm 9) (.str [100, 115, 117])) .nil) .nil) (.cons (.ite (.and (.cmp .eq (.v 3) (.int 4)) (.cmp .eq (.call 1001 (.cons (.v 0) (.cons (.int 3) .nil))) (.int 0))) (.cons (.asg (.nm 9) (.str [])) .nil) .nil) (.cons (.ite (.cmp .eq (.v 3) (.int 5)) (.cons (.asg (.nm 9) (.call 1002 (.cons (.v 0) (.cons (.tup (.cons (.str [100, 117]) (.cons (.str [115, 117]) (.cons (.str [100, 117]) (.cons (.str [100, 115]) .nil))))) .nil)))) .nil) .nil) (.cons (.ex (.meth .append (.v 7) (.cons (.v 9) .nil))) .nil))))))) (.cons (.ex (.meth .append (.v 5) (.cons (.bf .tuple (.v 7)) .nil))) .nil)))) (.cons (.ite (.cmp .eq (.bf .max (.comp (.nm 7) (.val (.v 5)) .yes (.bf .max (.v 7)) [7])) (.str [])) (.cons (.asg (.nm 7) (.meth .pop (.v 5) .nil)) (.cons (.ex (.meth .append (.v 5) (.cons (.bin .add (.tup (.cons (.v 4) .nil)) (.slL (.v 7) (.int 1))) .nil))) .nil)) .nil) (.cons (.ret (.bf .tuple (.v 5))) .nil))))))⟩
/-- row, at, thing -/
def f_law_put : Fn := ⟨3, 3,
  (.cons (.ret (.bin .add (.bin .add (.slU (.v 0) (.v 1)) (.tup (.cons (.v 2) .nil))) (.slL (.v 0) (.bin .add (.v 1) (.int 1))))) .nil)⟩
/-- stream, board, habit, told, kinds, signs, kind, many, at -/
def f_law_setting : Fn := ⟨2, 9,
  (.cons (.asg (.nm 2) (.call 1001 (.cons (.v 0) (.cons (.int 4) .nil)))) (.cons (.asg (.nm 3) (.lst .nil)) (.cons (.fr (.nm 4) (.val (.v 1)) (.cons (.asg (.nm 5) (.str [])) (.cons (.fr (.nm 6) (.val (.v 4)) (.cons (.asg (.nm 7) (.bf2 .max2 (.int 1) (.bf .len (.v 6)))) (.cons (.asg (.nm 8) (.ix (.tup (.cons (.int 0) (.cons (.bin .sub (.v 7) (.int 1)) (.cons (.call 1001 (.cons (.v 0) (.cons (.v 7) .nil))) (.cons (.call 1001 (.cons (.v 0) (.cons (.v 7) .nil))) .nil))))) (.v 2))) (.cons (.asg (.nm 5) (.bin .add (.v 5) (.ite (.cmp .ne (.v 6) (.str [])) (.ix (.v 6) (.v 8)) (.str [35])))) .nil)))) (.cons (.ex (.meth .append (.v 3) (.cons (.v 5) .nil))) .nil)))) (.cons (.ret (.bf .tuple (.v 3))) .nil))))⟩
/-- thing -/
def f_law_is_kind : Fn := ⟨1, 1,
  (.cons (.ret (.and (.isi (.v 0) .str) (.cmp .inn (.v 0) (.call 1004 .nil)))) .nil)⟩
/-- thing, row, count, column -/
def f_law_board_due : Fn := ⟨1, 4,
  (.cons (.ite (.not (.isi (.v 0) .tuple)) (.cons (.ret (.tup (.cons (.neg (.int 1)) (.cons (.neg (.int 1)) (.cons (.str [115, 104, 97, 112, 101]) .nil))))) .nil) .nil) (.cons (.ite (.or (.cmp .lt (.bf .len (.v 0)) (.int 1)) (.cmp .gt (.bf .len (.v 0)) (.int 8))) (.cons (.ret (.tup (.cons (.neg (.int 1)) (.cons (.neg (.int 1)) (.cons (.str [115, 105, 122, 101]) .nil))))) .nil) .nil) (.cons (.fr (.nm 1) (.rng (.bf .len (.v 0))) (.cons (.ite (.not (.isi (.ix (.v 0) (.v 1)) .tuple)) (.cons (.ret (.tup (.cons (.v 1) (.cons (.neg (.int 1)) (.cons (.str [115, 104, 97, 112, 101]) .nil))))) .nil) .nil) (.cons (.ite (.or (.cmp .lt (.bf .len (.ix (.v 0) (.v 1))) (.int 1)) (.or (.cmp .gt (.bf .len (.ix (.v 0) (.v 1))) (.int 8)) (.cmp .ne (.bf .len (.ix (.v 0) (.v 1))) (.bf .len (.ix (.v 0) (.int 0)))))) (.cons (.ret (.tup (.cons (.v 1) (.cons (.neg (.int 1)) (.cons (.str [115, 105, 122, 101]) .nil))))) .nil) .nil) .nil))) (.cons (.asg (.nm 2) (.int 0)) (.cons (.fr (.nm 1) (.rng (.bf .len (.v 0))) (.cons (.fr (.nm 3) (.rng (.bf .len (.ix (.v 0) (.int 0)))) (.cons (.ite (.not (.call 1008 (.cons (.ix (.ix (.v 0) (.v 1)) (.v 3)) .nil))) (.cons (.ret (.tup (.cons (.v 1) (.cons (.v 3) (.cons (.str [107, 105, 110, 100]) .nil))))) .nil) .nil) (.cons (.asg (.nm 2) (.bin .add (.v 2) (.bf .int (.cmp .ne (.ix (.ix (.v 0) (.v 1)) (.v 3)) (.str []))))) .nil))) .nil)) (.cons (.ret (.ite (.cmp .gt (.v 2) (.int 0)) (.tup (.cons (.str [116, 111, 108, 100]) (.cons (.v 2) .nil))) (.tup (.cons (.neg (.int 1)) (.cons (.neg (.int 1)) (.cons (.str [101, 109, 112, 116, 121]) .nil)))))) .nil))))))⟩
/-- board, thing, row, count, column, kind -/
def f_law_setting_due : Fn := ⟨2, 6,
  (.cons (.ite (.or (.not (.isi (.v 1) .tuple)) (.cmp .ne (.bf .len (.v 1)) (.bf .len (.v 0)))) (.cons (.ret (.tup (.cons (.neg (.int 1)) (.cons (.neg (.int 1)) (.cons (.str [115, 104, 97, 112, 101]) .nil))))) .nil) .nil) (.cons (.fr (.nm 2) (.rng (.bf .len (.v 0))) (.cons (.ite (.or (.not (.isi (.ix (.v 1) (.v 2)) .str)) (.cmp .ne (.bf .len (.ix (.v 1) (.v 2))) (.bf .len (.ix (.v 0) (.int 0))))) (.cons (.ret (.tup (.cons (.v 2) (.cons (.neg (.int 1)) (.cons (.str [114, 111, 119]) .nil))))) .nil) .nil) .nil)) (.cons (.asg (.nm 3) (.int 0)) (.cons (.fr (.nm 2) (.rng (.bf .len (.v 0))) (.cons (.fr (.nm 4) (.rng (.bf .len (.ix (.v 0) (.int 0)))) (.cons (.asg (.nm 5) (.ix (.ix (.v 0) (.v 2)) (.v 4))) (.cons (.ite (.and (.cmp .eq (.v 5) (.str [])) (.cmp .ne (.ix (.ix (.v 1) (.v 2)) (.v 4)) (.str [35]))) (.cons (.ret (.tup (.cons (.v 2) (.cons (.v 4) (.cons (.str [119, 97, 108, 108]) .nil))))) .nil) .nil) (.cons (.ite (.and (.cmp .ne (.v 5) (.str [])) (.cmp .nin (.ix (.ix (.v 1) (.v 2)) (.v 4)) (.v 5))) (.cons (.ret (.tup (.cons (.v 2) (.cons (.v 4) (.cons (.str [108, 101, 116, 116, 101, 114]) .nil))))) .nil) .nil) (.cons (.asg (.nm 3) (.bin .add (.v 3) (.bf .int (.cmp .ne (.v 5) (.str []))))) .nil))))) .nil)) (.cons (.ret (.tup (.cons (.str [116, 111, 108, 100]) (.cons (.v 3) .nil)))) .nil)))))⟩
/-- board, thing, error, kinds -/
def f_law_told : Fn := ⟨2, 4,
  (.cons (.tr (.cons (.ret (.tup (.cons (.str [116, 111, 108, 100]) (.cons (.ite (.cmp .is (.v 0) .non) (.call 57 (.cons (.v 1) .nil)) (.call 53 (.cons (.v 0) (.cons (.v 1) .nil)))) .nil)))) .nil) (.cons 0 (some 2) (.cons (.asg (.nm 3) (.lst (.cons (.errIs 2 [6]) (.cons (.errIs 2 [7]) .nil)))) (.cons (.ite (.or (.cmp .ne (.v 3) (.lst (.cons (.cmp .is (.v 0) .non) (.cons (.cmp .isn (.v 0) .non) .nil)))) (.not (.errIs 2 [3]))) (.cons (.ret (.tup (.cons (.str [111, 116, 104, 101, 114]) .nil))) .nil) .nil) (.cons (.ite (.errIs 2 [1, 5, 4]) (.cons (.ret (.tup (.cons (.str [111, 116, 104, 101, 114]) .nil))) .nil) .nil) (.cons (.ret (.tup (.cons (.errF 2 1) (.cons (.errF 2 2) (.cons (.errF 2 0) .nil))))) .nil)))) .nil)) .nil)⟩
/-- board, thing, due, told -/
def f_law_is_right : Fn := ⟨2, 4,
  (.cons (.asg (.nm 2) (.ite (.cmp .is (.v 0) .non) (.call 1009 (.cons (.v 1) .nil)) (.call 1010 (.cons (.v 0) (.cons (.v 1) .nil))))) (.cons (.ite (.not (.call 1003 (.cons (.call 1011 (.cons (.v 0) (.cons (.v 1) .nil))) (.cons (.v 2) .nil)))) (.cons (.ret (.bl false)) .nil) .nil) (.cons (.asg (.nm 3) (.ite (.cmp .is (.v 0) .non) (.call 59 (.cons (.v 1) .nil)) (.call 55 (.cons (.v 0) (.cons (.v 1) .nil))))) (.cons (.ret (.and (.isi (.v 3) .bool) (.cmp .eq (.v 3) (.cmp .eq (.ix (.v 2) (.int 0)) (.str [116, 111, 108, 100]))))) .nil))))⟩
/-- kind, odd -/
def f_law_odd_kinds : Fn := ⟨1, 2,
  (.cons (.asg (.nm 1) (.lst (.cons (.str [68]) (.cons (.str [115, 100]) (.cons (.str [100, 100]) (.cons (.str [120]) (.cons (.str [100, 115, 117, 120]) (.cons (.str [35]) (.cons (.str [32, 100]) (.cons (.str [100, 117, 32]) (.cons (.bin .add (.v 0) (.str [100])) (.cons (.bin .add (.v 0) (.v 0)) (.cons (.str [117, 115, 100]) (.cons .non (.cons (.int 1) (.cons (.bl true) (.cons (.int 0) (.cons (.tup (.cons (.str [100]) .nil)) (.cons (.lst (.cons (.str [100]) .nil)) (.cons (.tup (.cons (.str [100]) (.cons (.str [115]) .nil))) (.cons (.tup .nil) (.cons (.str [100, 115, 10]) (.cons (.bin .sub (.bin .pow (.int 10) (.int 60)) (.int 1)) .nil))))))))))))))))))))))) (.cons (.ret (.bin .add (.v 1) (.lst (.cons (.str []) (.cons (.str [100, 115, 117]) (.cons (.rv (.v 0)) (.cons (.slU (.v 0) (.int 1)) .nil))))))) .nil))⟩
/-- stream, board, rows, row, column, line, odd, things, last, lines, thing, one, at -/
def f_law_boards : Fn := ⟨2, 13,
  (.cons (.asg (.nm 2) (.bf .len (.v 1))) (.cons (.asg (.nm 3) (.call 1001 (.cons (.v 0) (.cons (.v 2) .nil)))) (.cons (.asg (.nm 4) (.call 1001 (.cons (.v 0) (.cons (.bf .len (.ix (.v 1) (.int 0))) .nil)))) (.cons (.asg (.nm 5) (.ix (.v 1) (.v 3))) (.cons (.asg (.nm 6) (.call 1013 (.cons (.ix (.v 5) (.v 4)) .nil))) (.cons (.asg (.nm 7) (.comp (.nm 10) (.val (.v 6)) .yes (.call 1006 (.cons (.v 1) (.cons (.v 3) (.cons (.call 1006 (.cons (.v 5) (.cons (.v 4) (.cons (.v 10) .nil)))) .nil)))) [10])) (.cons (.asg (.nm 8) (.call 1006 (.cons (.v 1) (.cons (.bin .sub (.v 2) (.int 1)) (.cons (.call 1006 (.cons (.ix (.v 1) (.bin .sub (.v 2) (.int 1))) (.cons (.bin .sub (.bf .len (.v 5)) (.int 1)) (.cons (.call 1002 (.cons (.v 0) (.cons (.v 6) .nil))) .nil)))) .nil))))) (.cons (.asg (.nm 9) (.lst (.cons (.bf .list (.v 5)) (.cons (.slL (.v 5) (.int 1)) (.cons (.slU (.v 5) (.neg (.int 1))) (.cons (.bin .add (.v 5) (.tup (.cons (.str [100]) .nil))) (.cons (.bin .add (.v 5) (.v 5)) (.cons (.bin .mul (.v 5) (.int 9)) (.cons (.tup .nil) (.cons .non (.cons (.str [100, 115, 117]) (.cons (.int 3) (.cons (.meth .join (.str []) (.cons (.v 5) .nil)) .nil))))))))))))) (.cons (.ex (.meth .extend (.v 7) (.cons (.comp (.nm 10) (.val (.v 9)) .yes (.call 1006 (.cons (.v 1) (.cons (.v 3) (.cons (.v 10) .nil)))) [10]) .nil))) (.cons (.ex (.meth .extend (.v 7) (.cons (.bin .add (.comp (.nm 10) (.val (.slU (.v 9) (.int 5))) .yes (.call 1006 (.cons (.v 8) (.cons (.v 3) (.cons (.v 10) .nil)))) [10]) (.lst (.cons (.v 8) (.cons (.call 1006 (.cons (.v 8) (.cons (.v 3) (.cons (.call 1006 (.cons (.ix (.v 8) (.v 3)) (.cons (.int 0) (.cons (.call 1002 (.cons (.v 0) (.cons (.v 6) .nil))) .nil)))) .nil)))) .nil)))) .nil))) (.cons (.ex (.meth .extend (.v 7) (.cons (.lst (.cons (.bf .list (.v 1)) (.cons (.comp (.nm 11) (.val (.v 1)) .yes (.bf .list (.v 11)) [11]) (.cons (.bin .add (.v 1) (.v 1)) (.cons (.bin .mul (.v 1) (.int 9)) (.cons (.bin .add (.v 1) (.tup (.cons (.v 5) .nil))) (.cons (.bin .add (.v 1) (.tup (.cons (.tup .nil) .nil))) (.cons (.slL (.v 1) (.int 1)) (.cons (.rv (.v 1)) (.cons (.tup .nil) (.cons .non (.cons (.v 5) (.cons (.str [100]) .nil))))))))))))) .nil))) (.cons (.ex (.meth .extend (.v 7) (.cons (.lst (.cons (.bf .tuple (.comp (.nm 11) (.val (.v 1)) .yes (.bin .mul (.tup (.cons (.str []) .nil)) (.bf .len (.v 5))) [11])) (.cons (.bf .tuple (.comp (.nm 11) (.val (.v 1)) .yes (.rv (.v 11)) [11])) (.cons (.tup (.cons (.v 1) .nil)) (.cons (.bl true) (.cons (.tup (.cons (.tup .nil) .nil)) (.cons (.tup (.cons (.tup (.cons (.str []) .nil)) .nil)) (.cons (.tup (.cons (.tup (.cons (.str [100, 115, 117]) .nil)) .nil)) (.cons (.bin .mul (.tup (.cons (.tup (.cons (.int 1) .nil)) .nil)) (.int 8)) .nil))))))))) .nil))) (.cons (.ex (.meth .append (.v 7) (.cons (.bf .tuple (.comp (.nm 12) (.rng (.bf .len (.v 5))) .yes (.bf .tuple (.comp (.nm 11) (.val (.v 1)) .yes (.ix (.v 11) (.v 12)) [11])) [12])) .nil))) (.cons (.ret (.v 7)) .nil))))))))))))))⟩
/-- stream, board, setting, rows, row, column, line, signs, things, other, last, lines, sign, thing, one -/
def f_law_settings : Fn := ⟨3, 15,
  (.cons (.asg (.nm 3) (.bf .len (.v 1))) (.cons (.asg (.nm 4) (.call 1001 (.cons (.v 0) (.cons (.v 3) .nil)))) (.cons (.asg (.nm 5) (.call 1001 (.cons (.v 0) (.cons (.bf .len (.ix (.v 1) (.int 0))) .nil)))) (.cons (.asg (.nm 6) (.ix (.v 2) (.v 4))) (.cons (.asg (.nm 7) (.lst (.cons (.str [100]) (.cons (.str [115]) (.cons (.str [117]) (.cons (.str [35]) (.cons (.str [68]) (.cons (.str [46]) (.cons (.str [32]) (.cons (.str [120]) (.cons (.str [48]) (.cons (.str [10]) .nil)))))))))))) (.cons (.asg (.nm 8) (.comp (.nm 12) (.val (.v 7)) .yes (.call 1006 (.cons (.v 2) (.cons (.v 4) (.cons (.bin .add (.bin .add (.slU (.v 6) (.v 5)) (.v 12)) (.slL (.v 6) (.bin .add (.v 5) (.int 1)))) .nil)))) [12])) (.cons (.asg (.nm 9) (.ix (.v 2) (.bin .sub (.v 3) (.int 1)))) (.cons (.asg (.nm 10) (.call 1006 (.cons (.v 2) (.cons (.bin .sub (.v 3) (.int 1)) (.cons (.bin .add (.slU (.v 9) (.neg (.int 1))) (.call 1002 (.cons (.v 0) (.cons (.v 7) .nil)))) .nil))))) (.cons (.asg (.nm 11) (.lst (.cons (.slL (.v 6) (.int 1)) (.cons (.slU (.v 6) (.neg (.int 1))) (.cons (.bin .add (.v 6) (.str [100])) (.cons (.bin .add (.str [100]) (.v 6)) (.cons (.bin .add (.v 6) (.str [35])) (.cons (.str []) (.cons (.bf .listS (.v 6)) (.cons (.bf .tupleS (.v 6)) (.cons .non (.cons (.int 1) (.cons (.bl true) (.cons (.bin .add (.v 6) (.str [32])) (.cons (.tup (.cons (.v 6) .nil)) (.cons (.lst (.cons (.v 6) .nil)) .nil)))))))))))))))) (.cons (.ex (.meth .extend (.v 8) (.cons (.comp (.nm 13) (.val (.v 11)) .yes (.call 1006 (.cons (.v 2) (.cons (.v 4) (.cons (.v 13) .nil)))) [13]) .nil))) (.cons (.ex (.meth .extend (.v 8) (.cons (.bin .add (.comp (.nm 13) (.val (.slU (.v 11) (.int 4))) .yes (.call 1006 (.cons (.v 10) (.cons (.v 4) (.cons (.v 13) .nil)))) [13]) (.lst (.cons (.v 10) .nil))) .nil))) (.cons (.ex (.meth .append (.v 8) (.cons (.call 1006 (.cons (.v 10) (.cons (.v 4) (.cons (.bin .add (.call 1002 (.cons (.v 0) (.cons (.v 7) .nil))) (.slL (.ix (.v 10) (.v 4)) (.int 1))) .nil)))) .nil))) (.cons (.ex (.meth .extend (.v 8) (.cons (.lst (.cons (.bf .list (.v 2)) (.cons (.bin .add (.v 2) (.slU (.v 2) (.int 1))) (.cons (.slL (.v 2) (.int 1)) (.cons (.rv (.v 2)) (.cons (.bf .tuple (.comp (.nm 14) (.val (.v 2)) .yes (.rv (.v 14)) [14])) (.cons (.meth .join (.str []) (.cons (.v 2) .nil)) (.cons .non (.cons (.tup .nil) (.cons (.int 7) .nil)))))))))) .nil))) (.cons (.ex (.meth .extend (.v 8) (.cons (.lst (.cons (.bf .tuple (.comp (.nm 14) (.val (.v 2)) .yes (.bf .tupleS (.v 14)) [14])) (.cons (.tup (.cons (.v 2) .nil)) (.cons (.v 1) (.cons (.bin .mul (.v 2) (.int 2)) (.cons (.bf .tuple (.comp (.nm 14) (.val (.v 2)) .yes (.meth .upper (.v 14) .nil) [14])) (.cons (.bl true) .nil))))))) .nil))) (.cons (.ex (.meth .extend (.v 8) (.cons (.lst (.cons (.bin .mul (.tup (.cons (.bin .mul (.str [100]) (.bf .len (.v 6))) .nil)) (.v 3)) (.cons (.bin .mul (.tup (.cons (.bin .mul (.str [35]) (.bf .len (.v 6))) .nil)) (.v 3)) (.cons (.bin .mul (.tup (.cons (.str []) .nil)) (.v 3)) (.cons (.bf .tuple (.comp (.nm 14) (.val (.v 2)) .yes (.meth .repl (.v 14) (.cons (.str [35]) (.cons (.str [100]) .nil))) [14])) .nil))))) .nil))) (.cons (.ret (.v 8)) .nil))))))))))))))))⟩
/-- stream, board, many, setting, least, greatest, thing, boards, settings, first, second, lap, other, kinds, kind -/
def f_law_asked : Fn := ⟨3, 15,
  (.cons (.asg (.nm 3) (.call 1007 (.cons (.v 0) (.cons (.v 1) .nil)))) (.cons (.asg (.nm 4) (.bf .tuple (.comp (.nm 13) (.val (.v 1)) .yes (.meth .join (.str []) (.cons (.comp (.nm 14) (.val (.v 13)) .yes (.ite (.cmp .ne (.v 14) (.str [])) (.slU (.v 14) (.int 1)) (.str [35])) [14]) .nil)) [13]))) (.cons (.asg (.nm 5) (.bf .tuple (.comp (.nm 13) (.val (.v 1)) .yes (.meth .join (.str []) (.cons (.comp (.nm 14) (.val (.v 13)) .yes (.ite (.cmp .ne (.v 14) (.str [])) (.slL (.v 14) (.neg (.int 1))) (.str [35])) [14]) .nil)) [13]))) (.cons (.ite (.or (.cmp .isn (.call 59 (.cons (.v 1) .nil)) (.bl true)) (.or (.cmp .isn (.call 55 (.cons (.v 1) (.cons (.v 3) .nil))) (.bl true)) (.cmp .isn (.call 55 (.cons (.v 1) (.cons (.bf .list (.v 3)) .nil))) (.bl false)))) (.cons (.ret (.bl false)) .nil) .nil) (.cons (.fr (.nm 6) (.val (.tup (.cons (.v 3) (.cons (.v 4) (.cons (.v 5) .nil))))) (.cons (.ite (.not (.call 1012 (.cons (.v 1) (.cons (.v 6) .nil)))) (.cons (.ret (.bl false)) .nil) .nil) .nil)) (.cons (.ite (.or (.not (.call 1012 (.cons .non (.cons (.v 1) .nil)))) (.not (.call 1012 (.cons .non (.cons (.bf .list (.v 1)) .nil))))) (.cons (.ret (.bl false)) .nil) .nil) (.cons (.asg (.nm 7) (.call 1014 (.cons (.v 0) (.cons (.v 1) .nil)))) (.cons (.asg (.nm 8) (.call 1015 (.cons (.v 0) (.cons (.v 1) (.cons (.v 3) .nil))))) (.cons (.asg (.nm 9) (.call 1001 (.cons (.v 0) (.cons (.bf .len (.v 7)) .nil)))) (.cons (.asg (.nm 10) (.call 1001 (.cons (.v 0) (.cons (.bf .len (.v 8)) .nil)))) (.cons (.fr (.nm 11) (.rng (.v 2)) (.cons (.ite (.not (.call 1012 (.cons .non (.cons (.ix (.v 7) (.bin .mod (.bf .int (.bin .add (.v 9) (.bin .mul (.int 5) (.v 11)))) (.bf .len (.v 7)))) .nil)))) (.cons (.ret (.bl false)) .nil) .nil) (.cons (.ite (.not (.call 1012 (.cons (.v 1) (.cons (.ix (.v 8) (.bin .mod (.bf .int (.bin .add (.v 10) (.bin .mul (.int 5) (.v 11)))) (.bf .len (.v 8)))) .nil)))) (.cons (.ret (.bl false)) .nil) .nil) .nil))) (.cons (.asg (.nm 12) (.call 1005 (.cons (.v 0) (.cons (.bf .len (.v 1)) (.cons (.bf .len (.ix (.v 1) (.int 0))) .nil))))) (.cons (.ret (.and (.call 1012 (.cons (.v 1) (.cons (.call 1007 (.cons (.v 0) (.cons (.v 12) .nil))) .nil))) (.call 1012 (.cons (.v 12) (.cons (.v 3) .nil))))) .nil)))))))))))))⟩
/-- stream, board, rows, thing, due, wrong -/
def f_law_sure : Fn := ⟨1, 6,
  (.cons (.asg (.nm 1) (.tup (.cons (.tup (.cons (.str [100, 115, 117]) (.cons (.str []) (.cons (.str [100, 117]) .nil)))) (.cons (.tup (.cons (.str [115]) (.cons (.str [115, 117]) (.cons (.str [100]) .nil)))) .nil)))) (.cons (.asg (.nm 2) (.lst (.cons (.tup (.cons (.tup .nil) (.cons (.tup (.cons (.neg (.int 1)) (.cons (.neg (.int 1)) (.cons (.str [115, 105, 122, 101]) .nil)))) .nil))) (.cons (.tup (.cons (.tup (.cons (.str [100]) .nil)) (.cons (.tup (.cons (.int 0) (.cons (.neg (.int 1)) (.cons (.str [115, 104, 97, 112, 101]) .nil)))) .nil))) (.cons (.tup (.cons (.tup (.cons (.tup (.cons (.str [100]) .nil)) (.cons (.tup .nil) .nil))) (.cons (.tup (.cons (.int 1) (.cons (.neg (.int 1)) (.cons (.str [115, 105, 122, 101]) .nil)))) .nil))) (.cons (.tup (.cons (.tup (.cons (.tup (.cons (.str [120]) .nil)) (.cons (.tup (.cons (.str [100]) (.cons (.str [100]) .nil))) .nil))) (.cons (.tup (.cons (.int 1) (.cons (.neg (.int 1)) (.cons (.str [115, 105, 122, 101]) .nil)))) .nil))) .nil)))))) (.cons (.ex (.meth .extend (.v 2) (.cons (.lst (.cons (.tup (.cons (.tup (.cons (.tup (.cons (.str [100]) (.cons (.str [115, 100]) .nil))) (.cons (.tup (.cons (.str []) (.cons (.int 5) .nil))) .nil))) (.cons (.tup (.cons (.int 0) (.cons (.int 1) (.cons (.str [107, 105, 110, 100]) .nil)))) .nil))) (.cons (.tup (.cons (.tup (.cons (.tup (.cons (.str []) .nil)) (.cons (.tup (.cons (.str []) .nil)) .nil))) (.cons (.tup (.cons (.neg (.int 1)) (.cons (.neg (.int 1)) (.cons (.str [101, 109, 112, 116, 121]) .nil)))) .nil))) (.cons (.tup (.cons (.bin .mul (.tup (.cons (.tup (.cons (.str [100]) .nil)) .nil)) (.int 9)) (.cons (.tup (.cons (.neg (.int 1)) (.cons (.neg (.int 1)) (.cons (.str [115, 105, 122, 101]) .nil)))) .nil))) .nil)))) .nil))) (.cons (.ex (.meth .extend (.v 2) (.cons (.lst (.cons (.tup (.cons (.bin .mul (.tup (.cons (.bin .mul (.tup (.cons (.str [115]) .nil)) (.int 8)) .nil)) (.int 8)) (.cons (.tup (.cons (.str [116, 111, 108, 100]) (.cons (.int 64) .nil))) .nil))) (.cons (.tup (.cons (.v 1) (.cons (.tup (.cons (.str [116, 111, 108, 100]) (.cons (.int 5) .nil))) .nil))) (.cons (.tup (.cons (.tup (.cons (.tup (.cons (.str []) (.cons (.str []) .nil))) (.cons (.tup (.cons (.str []) (.cons (.bl true) .nil))) .nil))) (.cons (.tup (.cons (.int 1) (.cons (.int 1) (.cons (.str [107, 105, 110, 100]) .nil)))) .nil))) (.cons (.tup (.cons (.tup (.cons (.bin .mul (.tup (.cons (.str [100]) .nil)) (.int 9)) .nil)) (.cons (.tup (.cons (.int 0) (.cons (.neg (.int 1)) (.cons (.str [115, 105, 122, 101]) .nil)))) .nil))) .nil))))) .nil))) (.cons (.fr (.tp [3, 4]) (.val (.v 2)) (.cons (.ite (.or (.not (.call 1003 (.cons (.call 1009 (.cons (.v 3) .nil)) (.cons (.v 4) .nil)))) (.not (.call 1012 (.cons .non (.cons (.v 3) .nil))))) (.cons (.ret (.bl false)) .nil) .nil) .nil)) (.cons (.asg (.nm 5) (.call 1002 (.cons (.v 0) (.cons (.lst (.cons (.str [115]) (.cons (.str [120]) (.cons (.str [85]) (.cons (.str [35]) .nil))))) .nil)))) (.cons (.asg (.nm 2) (.lst (.cons (.tup (.cons (.tup (.cons (.str [100, 35, 117]) (.cons (.str [115, 115, 100]) .nil))) (.cons (.tup (.cons (.str [116, 111, 108, 100]) (.cons (.int 5) .nil))) .nil))) (.cons (.tup (.cons (.tup (.cons (.str [100, 35, 117]) .nil)) (.cons (.tup (.cons (.neg (.int 1)) (.cons (.neg (.int 1)) (.cons (.str [115, 104, 97, 112, 101]) .nil)))) .nil))) (.cons (.tup (.cons (.tup (.cons (.str [100, 35, 117]) (.cons (.str [115, 115]) .nil))) (.cons (.tup (.cons (.int 1) (.cons (.neg (.int 1)) (.cons (.str [114, 111, 119]) .nil)))) .nil))) (.cons (.tup (.cons (.tup (.cons (.str [100, 100, 117]) (.cons (.str [115, 115]) .nil))) (.cons (.tup (.cons (.int 1) (.cons (.neg (.int 1)) (.cons (.str [114, 111, 119]) .nil)))) .nil))) .nil)))))) (.cons (.ex (.meth .extend (.v 2) (.cons (.lst (.cons (.tup (.cons (.tup (.cons (.str [100, 100, 117]) (.cons (.str [120, 115, 100]) .nil))) (.cons (.tup (.cons (.int 0) (.cons (.int 1) (.cons (.str [119, 97, 108, 108]) .nil)))) .nil))) (.cons (.tup (.cons (.tup (.cons (.bin .add (.str [100, 35]) (.v 5)) (.cons (.str [120, 115, 100]) .nil))) (.cons (.tup (.cons (.int 0) (.cons (.int 2) (.cons (.str [108, 101, 116, 116, 101, 114]) .nil)))) .nil))) (.cons (.tup (.cons (.tup (.cons (.str [100, 35, 117]) (.cons (.bin .add (.str [115, 100]) (.v 5)) .nil))) (.cons (.tup (.cons (.int 1) (.cons (.int 1) (.cons (.str [108, 101, 116, 116, 101, 114]) .nil)))) .nil))) .nil)))) .nil))) (.cons (.ex (.meth .extend (.v 2) (.cons (.lst (.cons (.tup (.cons (.tup (.cons (.str [100, 35, 117]) (.cons (.str [115, 35, 100]) .nil))) (.cons (.tup (.cons (.int 1) (.cons (.int 1) (.cons (.str [108, 101, 116, 116, 101, 114]) .nil)))) .nil))) (.cons (.tup (.cons (.tup (.cons (.str [100, 35, 117]) (.cons (.lst (.cons (.str [115]) (.cons (.str [115]) (.cons (.str [100]) .nil)))) .nil))) (.cons (.tup (.cons (.int 1) (.cons (.neg (.int 1)) (.cons (.str [114, 111, 119]) .nil)))) .nil))) (.cons (.tup (.cons (.lst (.cons (.str [100, 35, 117]) (.cons (.str [115, 115, 100]) .nil))) (.cons (.tup (.cons (.neg (.int 1)) (.cons (.neg (.int 1)) (.cons (.str [115, 104, 97, 112, 101]) .nil)))) .nil))) .nil)))) .nil))) (.cons (.fr (.tp [3, 4]) (.val (.v 2)) (.cons (.ite (.or (.not (.call 1003 (.cons (.call 1010 (.cons (.v 1) (.cons (.v 3) .nil))) (.cons (.v 4) .nil)))) (.not (.call 1012 (.cons (.v 1) (.cons (.v 3) .nil))))) (.cons (.ret (.bl false)) .nil) .nil) .nil)) (.cons (.ret (.and (.cmp .is (.callK 55 [1, 0] (.cons (.tup (.cons (.str [100, 35, 117]) (.cons (.str [115, 117, 100]) .nil))) (.cons (.v 1) .nil))) (.bl true)) (.and (.cmp .is (.callK 59 [0] (.cons (.v 1) .nil)) (.bl true)) (.cmp .eq (.callK 57 [0] (.cons (.tup (.cons (.tup (.cons (.str [117]) .nil)) .nil)) .nil)) (.int 1))))) .nil)))))))))))⟩
/-- script, stream, wide, lap, board -/
def f_law : Fn := ⟨1, 5,
  (.cons (.asg (.nm 1) (.call 1000 (.cons (.v 0) .nil))) (.cons (.asg (.nm 2) (.cmp .eq (.call 1001 (.cons (.v 1) (.cons (.int 13) .nil))) (.int 8))) (.cons (.fr (.nm 3) (.rng (.int 2)) (.cons (.asg (.nm 4) (.call 1005 (.cons (.v 1) (.cons (.bin .add (.int 1) (.call 1001 (.cons (.v 1) (.cons (.int 4) .nil)))) (.cons (.bin .add (.int 1) (.call 1001 (.cons (.v 1) (.cons (.int 4) .nil)))) .nil))))) (.cons (.ite (.not (.call 1016 (.cons (.v 1) (.cons (.v 4) (.cons (.int 11) .nil))))) (.cons (.ret (.bl false)) .nil) .nil) .nil))) (.cons (.ite (.and (.v 2) (.not (.call 1016 (.cons (.v 1) (.cons (.call 1005 (.cons (.v 1) (.cons (.bin .sub (.int 8) (.call 1001 (.cons (.v 1) (.cons (.int 2) .nil)))) (.cons (.int 8) .nil)))) (.cons (.int 6) .nil)))))) (.cons (.ret (.bl false)) .nil) .nil) (.cons (.ret (.call 1017 (.cons (.v 1) .nil))) .nil)))))⟩
def fns : Nat → Option Fn
  | 52 => some f_fits_kind
  | 53 => some f_check_setting
  | 54 => some f_look_at_sign
  | 55 => some f_is_setting
  | 56 => some f_is_kind
  | 57 => some f_check_board
  | 58 => some f_check_row
  | 59 => some f_is_board
  | 1000 => some f_law_stream
  | 1001 => some f_law_pull
  | 1002 => some f_law_one
  | 1003 => some f_law_same
  | 1004 => some f_law_kinds
  | 1005 => some f_law_board
  | 1006 => some f_law_put
  | 1007 => some f_law_setting
  | 1008 => some f_law_is_kind
  | 1009 => some f_law_board_due
  | 1010 => some f_law_setting_due
  | 1011 => some f_law_told
  | 1012 => some f_law_is_right
  | 1013 => some f_law_odd_kinds
  | 1014 => some f_law_boards
  | 1015 => some f_law_settings
  | 1016 => some f_law_asked
  | 1017 => some f_law_sure
  | 1018 => some f_law
  | _ => none
def csts : Nat → List (Key × D)
  | _ => []
def prog : Prog := ⟨fns, csts⟩
end K86
end
section
set_option autoImplicit false
set_option maxRecDepth 100000
set_option maxHeartbeats 4000000
namespace K86
open PL
open PySem PySem.Spec PyProof.Rows L2
abbrev top (i : Nat) : Stmt := PySem.Challenge.pw_lightled_k86_whole_spoilt_settings.main.body.getD i (.Pass ⟨0, 0, 0, 0⟩)
abbrev Bnd (d : DefT) : Prop := ∀ (kV doc pm : Value) (an : Option Addr) (cdv ct : Value) (us : List Value), us.length = d.ps.length → bindArgs (PySem.W.fnOf d.name d.name (defArgs d.st) (defBody d.st) (defScope d.st) .none kV doc pm an cdv ct) { pos := us } = pure (d.ps.zip us)
abbrev Bnd2 (c : ClsT) : Prop := ∀ (kV doc pm : Value) (an : Option Addr) (cdv ct : Value) (us : List Value), us.length = c.ps.length → bindArgs (PySem.W.fnOf "__init__" c.qual (defArgs c.st) (defBody c.st) (defScope c.st) .none kV doc pm an cdv ct) { pos := us } = pure (c.ps.zip us)
abbrev d_fits_kind : DefT := ⟨52, "fits_kind", top 9, ["kind", "sign"], 2⟩
theorem b_fits_kind : Bnd d_fits_kind := fun _ _ _ _ _ _ us hl => match us, hl with | [_, _], _ => rfl
abbrev d_check_setting : DefT := ⟨53, "check_setting", top 11, ["board", "thing", "row", "many", "column"], 2⟩
theorem b_check_setting : Bnd d_check_setting := fun _ _ _ _ _ _ us hl => match us, hl with | [_, _], _ => rfl
abbrev d_look_at_sign : DefT := ⟨54, "look_at_sign", top 12, ["board", "row", "column", "sign"], 4⟩
theorem b_look_at_sign : Bnd d_look_at_sign := fun _ _ _ _ _ _ us hl => match us, hl with | [_, _, _, _], _ => rfl
abbrev d_is_setting : DefT := ⟨55, "is_setting", top 13, ["board", "thing"], 2⟩
theorem b_is_setting : Bnd d_is_setting := fun _ _ _ _ _ _ us hl => match us, hl with | [_, _], _ => rfl
abbrev d_is_kind : DefT := ⟨56, "is_kind", top 17, ["thing", "ahead", "sign"], 1⟩
theorem b_is_kind : Bnd d_is_kind := fun _ _ _ _ _ _ us hl => match us, hl with | [_], _ => rfl
abbrev d_check_board : DefT := ⟨57, "check_board", top 19, ["thing", "at", "column", "many", "row", "kind"], 1⟩
theorem b_check_board : Bnd d_check_board := fun _ _ _ _ _ _ us hl => match us, hl with | [_], _ => rfl
abbrev d_check_row : DefT := ⟨58, "check_row", top 20, ["thing", "at"], 2⟩
theorem b_check_row : Bnd d_check_row := fun _ _ _ _ _ _ us hl => match us, hl with | [_, _], _ => rfl
abbrev d_is_board : DefT := ⟨59, "is_board", top 21, ["thing"], 1⟩
theorem b_is_board : Bnd d_is_board := fun _ _ _ _ _ _ us hl => match us, hl with | [_], _ => rfl
abbrev d_law_stream : DefT := ⟨1000, "_law_stream", top 23, ["script", "great", "mix", "cell", "size"], 1⟩
theorem b_law_stream : Bnd d_law_stream := fun _ _ _ _ _ _ us hl => match us, hl with | [_], _ => rfl
abbrev d_law_pull : DefT := ⟨1001, "_law_pull", top 24, ["stream", "many", "great", "size"], 2⟩
theorem b_law_pull : Bnd d_law_pull := fun _ _ _ _ _ _ us hl => match us, hl with | [_, _], _ => rfl
abbrev d_law_one : DefT := ⟨1002, "_law_one", top 25, ["stream", "things"], 2⟩
theorem b_law_one : Bnd d_law_one := fun _ _ _ _ _ _ us hl => match us, hl with | [_, _], _ => rfl
abbrev d_law_same : DefT := ⟨1003, "_law_same", top 26, ["told", "due", "rest", "one", "other", "at"], 2⟩
theorem b_law_same : Bnd d_law_same := fun _ _ _ _ _ _ us hl => match us, hl with | [_, _], _ => rfl
abbrev d_law_kinds : DefT := ⟨1004, "_law_kinds", top 27, [], 0⟩
theorem b_law_kinds : Bnd d_law_kinds := fun _ _ _ _ _ _ us hl => match us, hl with | [], _ => rfl
abbrev d_law_board : DefT := ⟨1005, "_law_board", top 28, ["stream", "rows", "columns", "habit", "most", "told", "row", "kinds", "column", "kind"], 3⟩
theorem b_law_board : Bnd d_law_board := fun _ _ _ _ _ _ us hl => match us, hl with | [_, _, _], _ => rfl
abbrev d_law_put : DefT := ⟨1006, "_law_put", top 29, ["row", "at", "thing"], 3⟩
theorem b_law_put : Bnd d_law_put := fun _ _ _ _ _ _ us hl => match us, hl with | [_, _, _], _ => rfl
abbrev d_law_setting : DefT := ⟨1007, "_law_setting", top 30, ["stream", "board", "habit", "told", "kinds", "signs", "kind", "many", "at"], 2⟩
theorem b_law_setting : Bnd d_law_setting := fun _ _ _ _ _ _ us hl => match us, hl with | [_, _], _ => rfl
abbrev d_law_is_kind : DefT := ⟨1008, "_law_is_kind", top 31, ["thing"], 1⟩
theorem b_law_is_kind : Bnd d_law_is_kind := fun _ _ _ _ _ _ us hl => match us, hl with | [_], _ => rfl
abbrev d_law_board_due : DefT := ⟨1009, "_law_board_due", top 32, ["thing", "row", "count", "column"], 1⟩
theorem b_law_board_due : Bnd d_law_board_due := fun _ _ _ _ _ _ us hl => match us, hl with | [_], _ => rfl
abbrev d_law_setting_due : DefT := ⟨1010, "_law_setting_due", top 33, ["board", "thing", "row", "count", "column", "kind"], 2⟩
theorem b_law_setting_due : Bnd d_law_setting_due := fun _ _ _ _ _ _ us hl => match us, hl with | [_, _], _ => rfl
abbrev d_law_told : DefT := ⟨1011, "_law_told", top 34, ["board", "thing", "error", "kinds"], 2⟩
theorem b_law_told : Bnd d_law_told := fun _ _ _ _ _ _ us hl => match us, hl with | [_, _], _ => rfl
abbrev d_law_is_right : DefT := ⟨1012, "_law_is_right", top 35, ["board", "thing", "due", "told"], 2⟩
theorem b_law_is_right : Bnd d_law_is_right := fun _ _ _ _ _ _ us hl => match us, hl with | [_, _], _ => rfl
abbrev d_law_odd_kinds : DefT := ⟨1013, "_law_odd_kinds", top 36, ["kind", "odd"], 1⟩
theorem b_law_odd_kinds : Bnd d_law_odd_kinds := fun _ _ _ _ _ _ us hl => match us, hl with | [_], _ => rfl
abbrev d_law_boards : DefT := ⟨1014, "_law_boards", top 37, ["stream", "board", "rows", "row", "column", "line", "odd", "things", "last", "lines", "thing", "one", "at"], 2⟩
theorem b_law_boards : Bnd d_law_boards := fun _ _ _ _ _ _ us hl => match us, hl with | [_, _], _ => rfl
abbrev d_law_settings : DefT := ⟨1015, "_law_settings", top 38, ["stream", "board", "setting", "rows", "row", "column", "line", "signs", "things", "other", "last", "lines", "sign", "thing", "one"], 3⟩
theorem b_law_settings : Bnd d_law_settings := fun _ _ _ _ _ _ us hl => match us, hl with | [_, _, _], _ => rfl
abbrev d_law_asked : DefT := ⟨1016, "_law_asked", top 39, ["stream", "board", "many", "setting", "least", "greatest", "thing", "boards", "settings", "first", "second", "lap", "other", "kinds", "kind"], 3⟩
theorem b_law_asked : Bnd d_law_asked := fun _ _ _ _ _ _ us hl => match us, hl with | [_, _, _], _ => rfl
abbrev d_law_sure : DefT := ⟨1017, "_law_sure", top 40, ["stream", "board", "rows", "thing", "due", "wrong"], 1⟩
theorem b_law_sure : Bnd d_law_sure := fun _ _ _ _ _ _ us hl => match us, hl with | [_], _ => rfl
abbrev d_law : DefT := ⟨1018, "law", top 41, ["script", "stream", "wide", "lap", "board"], 1⟩
theorem b_law : Bnd d_law := fun _ _ _ _ _ _ us hl => match us, hl with | [_], _ => rfl
theorem w_0 : ∀ (kV doc pm' : Value) (an : Option Addr) (cdv ct : Value) (us : List Value), us.length = ["thing"].length → bindArgs (PySem.W.fnOf d_check_board.name d_check_board.name (defArgs d_check_board.st) (defBody d_check_board.st) (defScope d_check_board.st) .none kV doc pm' an cdv ct) ⟨[], (["thing"] : List PySem.Str).zip us⟩ = pure (d_check_board.ps.zip (([0] : List Nat).map fun i => us.getD i .none)) := fun _ _ _ _ _ _ us hl => match us, hl with | [_], _ => rfl
theorem w_1 : ∀ (kV doc pm' : Value) (an : Option Addr) (cdv ct : Value) (us : List Value), us.length = ["thing"].length → bindArgs (PySem.W.fnOf d_is_board.name d_is_board.name (defArgs d_is_board.st) (defBody d_is_board.st) (defScope d_is_board.st) .none kV doc pm' an cdv ct) ⟨[], (["thing"] : List PySem.Str).zip us⟩ = pure (d_is_board.ps.zip (([0] : List Nat).map fun i => us.getD i .none)) := fun _ _ _ _ _ _ us hl => match us, hl with | [_], _ => rfl
theorem w_2 : ∀ (kV doc pm' : Value) (an : Option Addr) (cdv ct : Value) (us : List Value), us.length = ["thing", "board"].length → bindArgs (PySem.W.fnOf d_is_setting.name d_is_setting.name (defArgs d_is_setting.st) (defBody d_is_setting.st) (defScope d_is_setting.st) .none kV doc pm' an cdv ct) ⟨[], (["thing", "board"] : List PySem.Str).zip us⟩ = pure (d_is_setting.ps.zip (([1, 0] : List Nat).map fun i => us.getD i .none)) := fun _ _ _ _ _ _ us hl => match us, hl with | [_, _], _ => rfl
def ds : List DefT := [d_fits_kind, d_check_setting, d_look_at_sign, d_is_setting, d_is_kind, d_check_board, d_check_row, d_is_board, d_law_stream, d_law_pull, d_law_one, d_law_same, d_law_kinds, d_law_board, d_law_put, d_law_setting, d_law_is_kind, d_law_board_due, d_law_setting_due, d_law_told, d_law_is_right, d_law_odd_kinds, d_law_boards, d_law_settings, d_law_asked, d_law_sure, d_law]
abbrev k_BadBoard : ClsT := ⟨"BadBoard", "BadBoard.__init__", [6, 3, 0], [1, 2, 0], inClass (top 6) 0, ["row", "column", "word"]⟩
theorem i_BadBoard : Bnd2 k_BadBoard := fun _ _ _ _ _ _ us hl => match us, hl with | [_, _, _, _], _ => rfl
abbrev k_BadSetting : ClsT := ⟨"BadSetting", "BadSetting.__init__", [7, 3, 0], [1, 2, 0], inClass (top 7) 0, ["row", "column", "word"]⟩
theorem i_BadSetting : Bnd2 k_BadSetting := fun _ _ _ _ _ _ us hl => match us, hl with | [_, _, _, _], _ => rfl
def tab : LawT := ⟨prog, ds, [("LETTERS", [100, 115, 117])], [], ["len", "abs", "int", "str", "tuple", "list", "bool", "max", "isinstance", "range", "max"], [k_BadBoard, k_BadSetting], [("LightError", 0), ("DataError", 3), ("CallError", 1), ("TextError", 4), ("DeskError", 5), ("BadBoard", 6), ("BadSetting", 7)], [("row", 1), ("column", 2), ("word", 0)], [("MOST_ROWS", 8)], [(d_check_board, ["thing"], [0]), (d_is_board, ["thing"], [0]), (d_is_setting, ["thing", "board"], [1, 0])], []⟩
theorem kw_all : ∀ p ∈ tab.kw, p.1 ∈ tab.ds ∧ ∀ (kV doc pm' : Value) (an : Option Addr) (cdv ct : Value) (us : List Value), us.length = p.2.1.length → bindArgs (PySem.W.fnOf p.1.name p.1.name (defArgs p.1.st) (defBody p.1.st) (defScope p.1.st) .none kV doc pm' an cdv ct) ⟨[], p.2.1.zip us⟩ = pure (p.1.ps.zip (p.2.2.map fun i => us.getD i .none)) := by
  intro p hp
  have hp : p ∈ ([(d_check_board, ["thing"], [0]), (d_is_board, ["thing"], [0]), (d_is_setting, ["thing", "board"], [1, 0])] : List (DefT × List PySem.Str × List Nat)) := hp
  simp only [List.mem_cons, List.not_mem_nil, or_false] at hp
  rcases hp with rfl | rfl | rfl
  · exact ⟨by simp [tab, ds], w_0⟩
  · exact ⟨by simp [tab, ds], w_1⟩
  · exact ⟨by simp [tab, ds], w_2⟩
theorem okT_all : tab.okT = true := by decide +kernel
theorem bnd2_all : ∀ c ∈ tab.cs, Bnd2 c := by
  intro c hc
  have hc : c ∈ [k_BadBoard, k_BadSetting] := hc
  simp only [List.mem_cons, List.not_mem_nil, or_false] at hc
  rcases hc with rfl | rfl
  · exact i_BadBoard
  · exact i_BadSetting
theorem chk_all : (ds.all fun d => chkDef tab.stat prog d) = true := by decide +kernel
theorem bnd_all : ∀ d ∈ tab.ds, Bnd d := by
  intro d hd
  have hd : d ∈ [d_fits_kind, d_check_setting, d_look_at_sign, d_is_setting, d_is_kind, d_check_board, d_check_row, d_is_board, d_law_stream, d_law_pull, d_law_one, d_law_same, d_law_kinds, d_law_board, d_law_put, d_law_setting, d_law_is_kind, d_law_board_due, d_law_setting_due, d_law_told, d_law_is_right, d_law_odd_kinds, d_law_boards, d_law_settings, d_law_asked, d_law_sure, d_law] := hd
  simp only [List.mem_cons, List.not_mem_nil, or_false] at hd
  rcases hd with rfl | rfl | rfl | rfl | rfl | rfl | rfl | rfl | rfl | rfl | rfl | rfl | rfl | rfl | rfl | rfl | rfl | rfl | rfl | rfl | rfl | rfl | rfl | rfl | rfl | rfl | rfl
  · exact b_fits_kind
  · exact b_check_setting
  · exact b_look_at_sign
  · exact b_is_setting
  · exact b_is_kind
  · exact b_check_board
  · exact b_check_row
  · exact b_is_board
  · exact b_law_stream
  · exact b_law_pull
  · exact b_law_one
  · exact b_law_same
  · exact b_law_kinds
  · exact b_law_board
  · exact b_law_put
  · exact b_law_setting
  · exact b_law_is_kind
  · exact b_law_board_due
  · exact b_law_setting_due
  · exact b_law_told
  · exact b_law_is_right
  · exact b_law_odd_kinds
  · exact b_law_boards
  · exact b_law_settings
  · exact b_law_asked
  · exact b_law_sure
  · exact b_law
end K86
end
section
set_option Elab.async false
set_option linter.all false
set_option autoImplicit false
set_option maxRecDepth 100000
set_option maxHeartbeats 1000000
namespace K86
open PL
abbrev N0 : Nat := 100000
abbrev cF (k : Nat) : CF := callF prog N0 k
/-! ### things -/
mutual
/-- a value that any look may be taken at: texts and rows of no great length, lists that stand -/
def sn (p : Nat → Bool) : D → Bool
  | .non => true
  | .bl _ => true
  | .int _ => true
  | .str s => decide (s.length ≤ 1000) && s.all fun c => decide (c < 1114112)
  | .tup xs => decide (xs.length ≤ 1000) && snL p xs
  | .loc l => p l
  | _ => false
def snL (p : Nat → Bool) : List D → Bool
  | [] => true
  | x :: xs => sn p x && snL p xs
end
/-- a list at l that no draw changes -/
def isL (μ : Store) (l : Nat) : Bool := decide (l ≠ 0) && decide (l ≠ 2) && match μ[l]? with
  | some (.lst _) => true
  | _ => false
abbrev Sn (μ : Store) (d : D) : Prop := sn (isL μ) d = true
abbrev SnL (μ : Store) (d : List D) : Prop := snL (isL μ) d = true
mutual
theorem sn_mono {p q : Nat → Bool} (h : ∀ l, p l = true → q l = true) : ∀ d : D, sn p d = true → sn q d = true
  | .tup xs, e => by
    rw [sn, Bool.and_eq_true] at e ⊢
    exact ⟨e.1, snL_mono h xs e.2⟩
  | .loc l, e => h l e
  | .non, _ => rfl
  | .bl _, _ => rfl
  | .int _, _ => rfl
  | .str s, e => e
  | .rol _, e => nomatch e
  | .ktp _, e => nomatch e
  | .cst _, e => nomatch e
  | .err _ _ _, e => nomatch e
  | .ftup _, e => nomatch e
theorem snL_mono {p q : Nat → Bool} (h : ∀ l, p l = true → q l = true) : ∀ d : List D, snL p d = true → snL q d = true
  | [], _ => rfl
  | x :: xs, e => by
    rw [snL, Bool.and_eq_true] at e ⊢
    exact ⟨sn_mono h x e.1, snL_mono h xs e.2⟩
end
mutual
theorem sn_data {p q : Nat → Bool} : ∀ d : D, D.data d = true → sn p d = true → sn q d = true
  | .tup xs, hd, e => by
    rw [sn, Bool.and_eq_true] at e ⊢
    exact ⟨e.1, snL_data xs hd e.2⟩
  | .loc l, hd, _ => nomatch hd
  | .non, _, _ => rfl
  | .bl _, _, _ => rfl
  | .int _, _, _ => rfl
  | .str s, _, e => e
  | .rol _, _, e => nomatch e
  | .ktp _, _, e => nomatch e
  | .cst _, _, e => nomatch e
  | .err _ _ _, _, e => nomatch e
  | .ftup _, _, e => nomatch e
theorem snL_data {p q : Nat → Bool} : ∀ d : List D, D.dataL d = true → snL p d = true → snL q d = true
  | [], _, _ => rfl
  | x :: xs, hd, e => by
    rw [D.dataL, Bool.and_eq_true] at hd
    rw [snL, Bool.and_eq_true] at e ⊢
    exact ⟨sn_data x hd.1 e.1, snL_data xs hd.2 e.2⟩
end
theorem snL_mem {p : Nat → Bool} : ∀ {l : List D} {d : D}, snL p l = true → d ∈ l → sn p d = true
  | x :: l, d, h, hm => by
    rw [snL, Bool.and_eq_true] at h
    rcases List.mem_cons.mp hm with rfl | hm
    · exact h.1
    · exact snL_mem h.2 hm
theorem snL_of {p : Nat → Bool} : ∀ {l : List D}, (∀ d ∈ l, sn p d = true) → snL p l = true
  | [], _ => rfl
  | x :: l, h => by
    rw [snL, Bool.and_eq_true]
    exact ⟨h x List.mem_cons_self, snL_of fun d hd => h d (List.mem_cons_of_mem _ hd)⟩
theorem gr_sn {μ μ' : Store} (h : Gr [0, 2] μ μ') {d : D} (e : Sn μ d) : Sn μ' d := by
  refine sn_mono (fun l q => ?_) d e
  unfold isL at q ⊢
  simp only [Bool.and_eq_true, decide_eq_true_eq] at q ⊢
  obtain ⟨⟨h0, h2⟩, h3⟩ := q
  refine ⟨⟨h0, h2⟩, ?_⟩
  cases e0 : μ[l]? with
  | none => rw [e0] at h3; cases h3
  | some o => rw [h.get e0 (by simp [h0, h2])]; rw [e0] at h3; exact h3
/-- a thing's look, its kind -/
def isT : D → Ty → Bool
  | .bl _, t => t == .bool || t == .int
  | .int _, t => t == .int
  | .str _, t => t == .str
  | .tup _, t => t == .tuple
  | .loc _, t => t == .list
  | _, _ => false
theorem isi_ok {μ : Store} {d : D} (h : Sn μ d) (t : Ty) : isiF d t μ = .ok (isT d t) μ := by
  cases d with
  | loc l =>
    have h : isL μ l = true := h
    unfold isL at h
    simp only [Bool.and_eq_true] at h
    unfold isiF
    cases e : μ[l]? with
    | none => rw [e] at h; exact absurd h.2 (by simp)
    | some o =>
      rw [e] at h
      cases o with
      | lst xs => simp only [e]; rfl
      | dK _ _ => exact absurd h.2 (by simp)
      | dT _ _ => exact absurd h.2 (by simp)
  | non => rfl
  | bl _ => rfl
  | int _ => rfl
  | str _ => rfl
  | tup _ => rfl
  | _ => cases h
theorem isT_str {d : D} : isT d .str = true ↔ ∃ s, d = .str s := by cases d <;> simp [isT]
theorem isT_tup {d : D} : isT d .tuple = true ↔ ∃ s, d = .tup s := by cases d <;> simp [isT]
theorem sn_strs {μ : Store} {s : Txt} (h : Sn μ (.str s)) : s.length ≤ 1000 ∧ s.length ≤ mostLen ∧ D.eqOk (.str s) = true := by
  have h : (decide (s.length ≤ 1000) && s.all fun c => decide (c < 1114112)) = true := h
  rw [Bool.and_eq_true, decide_eq_true_eq] at h
  exact ⟨h.1, Nat.le_trans h.1 (by decide), by unfold D.eqOk; rw [show D.plain (.str s) = true from h.2]; rfl⟩
theorem sn_tups {μ : Store} {xs : List D} (h : Sn μ (.tup xs)) : xs.length ≤ 1000 ∧ ∀ d ∈ xs, Sn μ d := by
  have h : (decide (xs.length ≤ 1000) && snL (isL μ) xs) = true := h
  rw [Bool.and_eq_true, decide_eq_true_eq] at h
  exact ⟨h.1, fun d hd => snL_mem h.2 hd⟩
/-! ### kinds -/
/-- kinds, ascending behind a -/
def asc : Txt → Txt → Bool
  | _, [] => true
  | a, c :: s => decide (c ∈ [100, 115, 117]) && (decide (a < [c]) && asc [c] s)
def K8 : List Txt := [[], [100], [115], [117], [100, 115], [100, 117], [115, 117], [100, 115, 117]]
theorem asc3 (s : Txt) : asc [117] s = decide (s = []) := by
  cases s with
  | nil => rfl
  | cons c s =>
    have : (decide (c ∈ [100, 115, 117]) && (decide ([117] < [c]) && asc [c] s)) = false := by
      by_cases h : c ∈ [100, 115, 117]
      · simp only [List.mem_cons, List.not_mem_nil, or_false] at h
        rcases h with rfl | rfl | rfl <;> simp [show ¬ ([117] : List Nat) < [100] from by decide, show ¬ ([117] : List Nat) < [115] from by decide]
      · rw [decide_eq_false h]; rfl
    rw [asc, this]; simp
theorem asc2 (s : Txt) : asc [115] s = decide (s ∈ [[], [117]]) := by
  cases s with
  | nil => rfl
  | cons c s =>
    rw [asc]
    by_cases h : c ∈ [100, 115, 117]
    · simp only [List.mem_cons, List.not_mem_nil, or_false] at h
      rcases h with rfl | rfl | rfl
      · simp [show ¬ ([115] : List Nat) < [100] from by decide]
      · simp
      · rw [asc3]; simp [show ([115] : List Nat) < [117] from by decide]
    · rw [decide_eq_false h]
      simp only [List.mem_cons, List.not_mem_nil, or_false, not_or] at h
      simp [h]
theorem asc1 (s : Txt) : asc [100] s = decide (s ∈ [[], [115], [117], [115, 117]]) := by
  cases s with
  | nil => rfl
  | cons c s =>
    rw [asc]
    by_cases h : c ∈ [100, 115, 117]
    · simp only [List.mem_cons, List.not_mem_nil, or_false] at h
      rcases h with rfl | rfl | rfl
      · simp
      · rw [asc2]; simp [show ([100] : List Nat) < [115] from by decide]
      · rw [asc3]; simp [show ([100] : List Nat) < [117] from by decide]
    · rw [decide_eq_false h]
      simp only [List.mem_cons, List.not_mem_nil, or_false, not_or] at h
      simp [h]
theorem asc0 (s : Txt) : asc [] s = decide (s ∈ K8) := by
  cases s with
  | nil => rfl
  | cons c s =>
    rw [asc]
    by_cases h : c ∈ [100, 115, 117]
    · simp only [List.mem_cons, List.not_mem_nil, or_false] at h
      rcases h with rfl | rfl | rfl
      · rw [asc1]; simp [K8]
      · rw [asc2]; simp [K8]
      · rw [asc3]; simp [K8]
    · rw [decide_eq_false h]
      simp only [List.mem_cons, List.not_mem_nil, or_false, not_or] at h
      simp [K8, h]
/-- is the thing a kind -/
def isK : D → Bool
  | .str s => decide (s ∈ K8)
  | _ => false
theorem is_kind_ok {k : Nat} (hk : 1 ≤ k) {d : D} {μ : Store} (h : Sn μ d) : cF k 56 [d] μ = .ok (.bl (isK d)) μ := by
  obtain ⟨k, rfl⟩ : ∃ j, k = j + 1 := ⟨k - 1, by omega⟩
  refine call_pure (fn := f_is_kind) rfl rfl rfl fun μ' h1 h2 => ?_
  have h' : Sn μ' d := by
    by_cases hd : D.dataL [d] = true
    · exact sn_data d (by simpa [D.dataL] using hd) h
    · rw [h2 (by simpa using hd)]; exact h
  refine xR_okR (E := noX) ?_ (fun _ _ z => z)
  simp_arith [f_is_kind, isi_ok h']
  cases ht : isT d .str with
  | false =>
    have : isK d = false := by cases d <;> first | rfl | cases ht
    simp_arith [this, handQ_rt]
  | true =>
    obtain ⟨s, rfl⟩ := isT_str.mp ht
    obtain ⟨l1, l2, _⟩ := sn_strs h'
    simp_arith [walk_str l2]
    refine for_restL (w := .row (s.map fun c => D.str [c])) (fun c => D.str [c]) (fun r ρ μ => μ = μ' ∧ ∃ a x, ρ = [some (.str s), some (.str a), x] ∧ asc a r = asc [] s) (fun _ _ _ _ => trivial) ?_ ?_ s _ μ' ⟨rfl, [], none, rfl, rfl⟩
    · rintro c r ρ μ ⟨rfl, a, x, rfl, hr⟩
      rw [asc] at hr
      have fin0 : false = asc [] s → D.bl false = D.bl (isK (.str s)) := fun z => by rw [asc0] at z; show _ = D.bl (decide (s ∈ K8)); rw [← z]
      cases hc : decide (c ∈ [100, 115, 117]) with
      | false =>
        rw [hc] at hr
        simp_arith [hc, handQ_rt]
        exact fin0 hr
      | true =>
        rw [hc] at hr
        cases ha : decide (a < [c]) with
        | false =>
          rw [ha] at hr
          simp_arith [hc, ha, handQ_rt]
          exact fin0 hr
        | true =>
          rw [ha] at hr
          simp_arith [hc, ha]
          exact ⟨_, _, rfl, hr⟩
    · rintro ρ μ ⟨rfl, a, x, rfl, hr⟩
      simp_arith [handQ_rt]
      show _ = D.bl (decide (s ∈ K8))
      rw [← asc0, ← hr]; rfl
end K86
end
section
set_option Elab.async false
set_option linter.all false
set_option autoImplicit false
set_option maxRecDepth 100000
set_option maxHeartbeats 1000000
namespace K86
open PL
/-! ### boards looked at -/
def sSize : Txt := [115, 105, 122, 101]
def sShape : Txt := [115, 104, 97, 112, 101]
def sKind : Txt := [107, 105, 110, 100]
def sEmpty : Txt := [101, 109, 112, 116, 121]
def sTold : Txt := [116, 111, 108, 100]
def dLen : D → Nat
  | .tup cs => cs.length
  | _ => 0
/-- what is wrong with a row, the first row's length n0 -/
def rowBad (n0 : Nat) : D → Option Txt
  | .tup cs => if 1 ≤ cs.length ∧ cs.length ≤ 8 ∧ cs.length = n0 then none else some sSize
  | _ => some sShape
def bbx (r c : Int) (w : Txt) : Exc := ⟨[6, 3, 0], [1, 2, 0], [.int r, .int c, .str w]⟩
def sbx (r c : Int) (w : Txt) : Exc := ⟨[7, 3, 0], [1, 2, 0], [.int r, .int c, .str w]⟩
theorem pure_sn {μ μ' : Store} {d : D} {ds : List D} (hm : ds = [d]) (h1 : D.dataL ds = true → μ' = []) (h2 : D.dataL ds = false → μ' = μ) (h : Sn μ d) : Sn μ' d := by
  subst hm
  by_cases hd : D.dataL [d] = true
  · exact sn_data d (by simpa [D.dataL] using hd) h
  · rw [h2 (by simpa using hd)]; exact h
theorem pure_sn2 {μ μ' : Store} {d : D} {ds : List D} (hm : d ∈ ds) (h1 : D.dataL ds = true → μ' = []) (h2 : D.dataL ds = false → μ' = μ) (h : Sn μ d) : Sn μ' d := by
  by_cases hd : D.dataL ds = true
  · exact sn_data d (dataL_mem hd hm) h
  · rw [h2 (by simpa using hd)]; exact h
theorem check_row_ok {k : Nat} (hk : 1 ≤ k) {rows : List D} {i : Nat} {d d0 : D} {μ : Store} (h : Sn μ (.tup rows)) (hi : rows[i]? = some d) (h0 : rows[0]? = some d0) (ht : i ≠ 0 → ∃ cs, d0 = .tup cs) :
    cF k 58 [.tup rows, .int i] μ = resD (match rowBad (dLen d0) d with
      | some w => .inl (bbx i (-1) w)
      | none => .inr .non) μ := by
  obtain ⟨k, rfl⟩ : ∃ j, k = j + 1 := ⟨k - 1, by omega⟩
  refine call_may (fn := f_check_row) rfl rfl (by cases rowBad (dLen d0) d <;> rfl) fun μ' h1 h2 => ?_
  have h' : Sn μ' (.tup rows) := pure_sn2 List.mem_cons_self h1 h2 h
  have hd := (sn_tups h').2 d (List.mem_of_getElem? hi)
  have a1 := atIx_of hi
  have a0 : atIx rows 0 = some d0 := atIx_of (i := 0) h0
  cases htd : isT d .tuple with
  | false =>
    have e : rowBad (dLen d0) d = some sShape := by cases d <;> first | rfl | cases htd
    simp_arith [f_check_row, ix_tup, a1, okI_some, isi_ok hd, htd, e]
    first | exact ⟨rfl, .inl rfl⟩ | exact ⟨rfl, .inl trivial⟩ | exact .inl trivial | exact .inl rfl | exact ⟨rfl, rfl⟩ | rfl | trivial
  | true =>
    obtain ⟨cs, rfl⟩ := isT_tup.mp htd
    obtain ⟨c0, rfl⟩ : ∃ cs, d0 = .tup cs := by
      by_cases z : i = 0
      · subst z; rw [hi] at h0; cases h0; exact ⟨_, rfl⟩
      · exact ht z
    by_cases hs : 1 ≤ cs.length ∧ cs.length ≤ 8
    · have q1 : decide ((1 : Int) ≤ cs.length) = true := decide_eq_true (by omega)
      have q2 : decide ((cs.length : Int) ≤ 8) = true := decide_eq_true (by omega)
      by_cases hn : cs.length = c0.length
      · have e : rowBad (dLen (.tup c0)) (.tup cs) = none := if_pos ⟨hs.1, hs.2, hn⟩
        have q3 : ((cs.length : Int) == (c0.length : Int)) = true := by rw [hn]; simp
        simp_arith [f_check_row, ix_tup, a1, a0, okI_some, isi_ok hd, htd, e, q1, q2, q3, handQ_nx]
        first | exact ⟨rfl, .inl rfl⟩ | exact ⟨rfl, .inl trivial⟩ | exact .inl trivial | exact .inl rfl | exact ⟨rfl, rfl⟩ | rfl | trivial
      · have e : rowBad (dLen (.tup c0)) (.tup cs) = some sSize := if_neg fun z => hn z.2.2
        have q3 : ((cs.length : Int) == (c0.length : Int)) = false := by rw [beq_eq_false_iff_ne]; omega
        simp_arith [f_check_row, ix_tup, a1, a0, okI_some, isi_ok hd, htd, e, q1, q2, q3]
        first | exact ⟨rfl, .inl rfl⟩ | exact ⟨rfl, .inl trivial⟩ | exact .inl trivial | exact .inl rfl | exact ⟨rfl, rfl⟩ | rfl | trivial
    · have e : rowBad (dLen (.tup c0)) (.tup cs) = some sSize := if_neg fun z => hs ⟨z.1, z.2.1⟩
      by_cases q1 : (1 : Int) ≤ cs.length
      · have q1' := decide_eq_true q1
        have q2 : decide ((cs.length : Int) ≤ 8) = false := decide_eq_false (by omega)
        simp_arith [f_check_row, ix_tup, a1, okI_some, isi_ok hd, htd, e, q1', q2]
        first | exact ⟨rfl, .inl rfl⟩ | exact ⟨rfl, .inl trivial⟩ | exact .inl trivial | exact .inl rfl | exact ⟨rfl, rfl⟩ | rfl | trivial
      · have q1' := decide_eq_false q1
        simp_arith [f_check_row, ix_tup, a1, okI_some, isi_ok hd, htd, e, q1']
        first | exact ⟨rfl, .inl rfl⟩ | exact ⟨rfl, .inl trivial⟩ | exact .inl trivial | exact .inl rfl | exact ⟨rfl, rfl⟩ | rfl | trivial
/-- the first row that is wrong, from the i-th on -/
def scanR (n0 : Nat) : Nat → List D → Option (Nat × Txt)
  | _, [] => none
  | i, d :: r => match rowBad n0 d with
    | some w => some (i, w)
    | none => scanR n0 (i + 1) r
/-- the first place whose kind is wrong -/
def scanC (i : Nat) : Nat → List D → Option (Nat × Nat)
  | _, [] => none
  | j, d :: r => if isK d then scanC i (j + 1) r else some (i, j)
def scanK : Nat → List D → Option (Nat × Nat)
  | _, [] => none
  | i, d :: r => match d with
    | .tup cs => match scanC i 0 cs with
      | some p => some p
      | none => scanK (i + 1) r
    | _ => none
/-- how many kinds are not empty -/
def cnt : List D → Nat
  | [] => 0
  | .str [] :: r => cnt r
  | _ :: r => cnt r + 1
def cntR : List D → Nat
  | [] => 0
  | .tup cs :: r => cnt cs + cntR r
  | _ :: r => cntR r
/-- what a board's look tells: what is wrong first, or the number of its cells -/
inductive BR where
  | bad (r c : Int) (w : Txt)
  | ok (n : Nat)
def boardR : D → BR
  | .tup rows => if rows.length < 1 ∨ 8 < rows.length then .bad (-1) (-1) sSize else match scanR (dLen (rows.headD .non)) 0 rows with
    | some (i, w) => .bad i (-1) w
    | none => match scanK 0 rows with
      | some (i, j) => .bad i j sKind
      | none => if cntR rows = 0 then .bad (-1) (-1) sEmpty else .ok (cntR rows)
  | _ => .bad (-1) (-1) sShape
theorem scanR_tup {n0 : Nat} : ∀ {rows : List D} {i : Nat}, scanR n0 i rows = none → ∀ d ∈ rows, ∃ cs, d = .tup cs ∧ 1 ≤ cs.length ∧ cs.length ≤ 8 ∧ cs.length = n0
  | d :: r, i, h, x, hx => by
    rw [scanR] at h
    cases e : rowBad n0 d with
    | some w => rw [e] at h; cases h
    | none =>
      rw [e] at h
      rcases List.mem_cons.mp hx with rfl | hx
      · unfold rowBad at e
        split at e
        · split at e
          · rename_i q; exact ⟨_, rfl, q.1, q.2.1, q.2.2⟩
          · cases e
        · cases e
      · exact scanR_tup h x hx
theorem data_strs : ∀ r : List Txt, D.dataL (r.map .str) = true := dataL_map fun _ => rfl
theorem scanC_kind {i : Nat} : ∀ {cs : List D} {j : Nat}, scanC i j cs = none → ∀ d ∈ cs, isK d = true
  | d :: r, j, h, x, hx => by
    rw [scanC] at h
    split at h
    · rename_i q
      rcases List.mem_cons.mp hx with rfl | hx
      · exact q
      · exact scanC_kind h x hx
    · cases h
theorem scanK_kind : ∀ {rows : List D} {i : Nat}, (∀ d ∈ rows, ∃ cs, d = .tup cs) → scanK i rows = none → ∀ cs, .tup cs ∈ rows → ∀ d ∈ cs, isK d = true
  | d :: r, i, ht, h, cs, hx => by
    obtain ⟨c, rfl⟩ := ht d List.mem_cons_self
    have h : (match scanC i 0 c with
      | some p => some p
      | none => scanK (i + 1) r) = none := h
    cases e : scanC i 0 c with
    | some p => rw [e] at h; cases h
    | none =>
      rw [e] at h
      rcases List.mem_cons.mp hx with hx | hx
      · cases hx; exact scanC_kind e
      · exact scanK_kind (fun d hd => ht d (List.mem_cons_of_mem _ hd)) h cs hx
theorem isK_str {d : D} (h : isK d = true) : ∃ s, d = .str s ∧ s ∈ K8 := by
  cases d with
  | str s => exact ⟨s, rfl, of_decide_eq_true h⟩
  | _ => cases h
theorem kinds_data {cs : List D} (h : ∀ d ∈ cs, isK d = true) : D.dataL cs = true := by
  induction cs with
  | nil => rfl
  | cons d r ih =>
    obtain ⟨s, rfl, _⟩ := isK_str (h d List.mem_cons_self)
    rw [D.dataL, ih fun x hx => h x (List.mem_cons_of_mem _ hx)]; rfl
theorem rows_data {rows : List D} (ht : ∀ d ∈ rows, ∃ cs, d = .tup cs) (h : ∀ cs, .tup cs ∈ rows → ∀ d ∈ cs, isK d = true) : D.dataL rows = true := by
  induction rows with
  | nil => rfl
  | cons d r ih =>
    obtain ⟨c, rfl⟩ := ht d List.mem_cons_self
    rw [D.dataL, ih (fun x hx => ht x (List.mem_cons_of_mem _ hx)) fun cs hc => h cs (List.mem_cons_of_mem _ hc)]
    show (D.dataL c && true) = true
    rw [kinds_data (h c List.mem_cons_self)]; rfl
def BR.res : BR → Sum Exc D
  | .bad r c w => .inl (bbx r c w)
  | .ok n => .inr (.int n)
theorem boardR_eq (rows : List D) : boardR (.tup rows) = if rows.length < 1 ∨ 8 < rows.length then .bad (-1) (-1) sSize else match scanR (dLen (rows.headD .non)) 0 rows with
    | some (i, w) => .bad i (-1) w
    | none => match scanK 0 rows with
      | some (i, j) => .bad i j sKind
      | none => if cntR rows = 0 then .bad (-1) (-1) sEmpty else .ok (cntR rows) := rfl
theorem scanR_cons {n0 i : Nat} {d : D} {r : List D} : scanR n0 i (d :: r) = match rowBad n0 d with
    | some w => some (i, w)
    | none => scanR n0 (i + 1) r := rfl
theorem scanK_cons {i : Nat} {cs r : List D} : scanK i (.tup cs :: r) = match scanC i 0 cs with
      | some p => some p
      | none => scanK (i + 1) r := rfl
theorem cnt_le : ∀ cs : List D, cnt cs ≤ cs.length
  | [] => Nat.le_refl _
  | d :: r => by
    have := cnt_le r
    unfold cnt
    split <;> simp_all <;> omega
theorem cnt_str (s : Txt) (r : List D) : cnt (.str s :: r) = cnt r + if s = [] then 0 else 1 := by
  cases s with
  | nil => simp [cnt]
  | cons c s => simp [cnt]
theorem cntR_cons (cs r : List D) : cntR (.tup cs :: r) = cnt cs + cntR r := rfl
theorem check_board_ok {k : Nat} (hk : 2 ≤ k) {d : D} {μ : Store} (h : Sn μ d) : cF k 57 [d] μ = resD (boardR d).res μ := by
  obtain ⟨k, rfl⟩ : ∃ j, k = j + 1 := ⟨k - 1, by omega⟩
  have hk : 1 ≤ k := by omega
  refine call_may (fn := f_check_board) rfl rfl (by cases boardR d <;> rfl) fun μ' h1 h2 => ?_
  have h' : Sn μ' d := pure_sn2 List.mem_cons_self h1 h2 h
  cases htd : isT d .tuple with
  | false =>
    have e : boardR d = .bad (-1) (-1) sShape := by cases d <;> first | rfl | cases htd
    simp_arith [f_check_board, isi_ok h', htd, e]
    first | exact ⟨rfl, .inl rfl⟩ | exact ⟨rfl, .inl trivial⟩ | exact .inl trivial | exact .inl rfl | exact ⟨rfl, rfl⟩ | rfl | trivial
  | true =>
    obtain ⟨rows, rfl⟩ := isT_tup.mp htd
    by_cases hs : 1 ≤ rows.length ∧ rows.length ≤ 8
    · have q1 : decide ((1 : Int) ≤ rows.length) = true := decide_eq_true (by omega)
      have q2 : decide ((rows.length : Int) ≤ 8) = true := decide_eq_true (by omega)
      simp_arith [f_check_board, isi_ok h', htd, q1, q2, rng_ok (show rows.length ≤ 1000000 by omega)]
      obtain ⟨d0, rs, rfl⟩ : ∃ d0 rs, rows = d0 :: rs := by
        cases rows with
        | nil => simp at hs
        | cons d0 rs => exact ⟨_, _, rfl⟩
      generalize hrows : d0 :: rs = rows at *
      have h0 : rows[0]? = some d0 := by rw [← hrows]; rfl
      have hB : boardR (.tup rows) = match scanR (dLen d0) 0 rows with
        | some (i, w) => .bad i (-1) w
        | none => match scanK 0 rows with
          | some (i, j) => .bad i j sKind
          | none => if cntR rows = 0 then .bad (-1) (-1) sEmpty else .ok (cntR rows) := by
        rw [boardR_eq, if_neg (by omega)]
        rw [← hrows]; rfl
      refine for_idx rfl (fun i r ρ μ => μ = μ' ∧ (∃ x, ρ = [some (.tup rows), x, none, none, none, none]) ∧ scanR (dLen d0) i r = scanR (dLen d0) 0 rows ∧ (i ≠ 0 → ∃ cs, d0 = .tup cs)) ?_ ?_ _ μ' ⟨rfl, ⟨_, rfl⟩, rfl, fun z => absurd rfl z⟩
      · rintro i x r ρ μ hx _ ⟨rfl, ⟨y, rfl⟩, hsc, ht⟩
        rw [scanR_cons] at hsc
        cases e : rowBad (dLen d0) x with
        | some w =>
          rw [e] at hsc
          simp_arith [check_row_ok hk h' hx h0 ht, e, resD]
          rw [hB, ← hsc]
          first | exact ⟨rfl, .inl rfl⟩ | exact ⟨rfl, .inl trivial⟩ | exact .inl trivial | exact .inl rfl | exact ⟨rfl, rfl⟩ | rfl | trivial
        | none =>
          rw [e] at hsc
          simp_arith [check_row_ok hk h' hx h0 ht, e, resD]
          refine ⟨⟨_, rfl⟩, hsc, fun _ => ?_⟩
          by_cases z : i = 0
          · subst z
            rw [h0] at hx
            cases hx
            unfold rowBad at e
            split at e
            · exact ⟨_, rfl⟩
            · cases e
          · exact ht z
      · rintro ρ μ ⟨h6, ⟨y, h7⟩, hsc, ht⟩
        subst h6 h7
        have hsc : scanR (dLen d0) 0 rows = none := by rw [← hsc]; rfl
        rw [hsc] at hB
        have hT := scanR_tup hsc
        simp_arith [rng_ok (show rows.length ≤ 1000000 by omega)]
        refine for_idx rfl (fun i r ρ μ2 => μ2 = μ ∧ (∃ x y, ρ = [some (.tup rows), x, y, none, none, none]) ∧ (∀ d ∈ r, d ∈ rows) ∧ scanK i r = scanK 0 rows) ?_ ?_ _ μ ⟨rfl, ⟨_, _, rfl⟩, fun _ z => z, rfl⟩
        · rintro i x r ρ μ2 hx hr ⟨h6, ⟨y, z, h7⟩, hm, hsk⟩
          subst h6 h7
          obtain ⟨cs, rfl, l1, l2, _⟩ := hT x (hm x List.mem_cons_self)
          have hcs := (sn_tups h').2 _ (hm _ List.mem_cons_self)
          have a1 := atIx_of hx
          rw [scanK_cons] at hsk
          simp_arith [ix_tup, a1, okI_some, rng_ok (show cs.length ≤ 1000000 by omega)]
          refine for_idx rfl (fun j r' ρ μ3 => μ3 = μ2 ∧ (∃ y, ρ = [some (.tup rows), some (.int i), y, none, none, none]) ∧ scanC i j r' = scanC i 0 cs) ?_ ?_ _ μ2 ⟨rfl, ⟨_, rfl⟩, rfl⟩
          · rintro j q r' ρ μ3 hq _ ⟨h6, ⟨y, h7⟩, hsc2⟩
            subst h6 h7
            have a2 := atIx_of hq
            have hqs := (sn_tups hcs).2 q (List.mem_of_getElem? hq)
            rw [scanC] at hsc2
            cases hqk : isK q with
            | true =>
              rw [hqk, if_pos rfl] at hsc2
              simp_arith [ix_tup, a1, a2, okI_some, is_kind_ok hk hqs, hqk]
              exact ⟨⟨_, rfl⟩, hsc2⟩
            | false =>
              rw [hqk, if_neg (by simp)] at hsc2
              rw [← hsc2] at hsk
              simp_arith [ix_tup, a1, a2, okI_some, is_kind_ok hk hqs, hqk]
              rw [hB, ← hsk]
              first | exact ⟨rfl, .inl rfl⟩ | exact ⟨rfl, .inl trivial⟩ | exact .inl trivial | exact .inl rfl | exact ⟨rfl, rfl⟩ | rfl | trivial
          · rintro ρ μ3 ⟨h6, ⟨y, h7⟩, hsc2⟩
            subst h6 h7
            have hsc2 : scanC i 0 cs = none := by rw [← hsc2]; rfl
            rw [hsc2] at hsk
            simp_arith
            exact ⟨⟨_, _, rfl⟩, fun d hd => hm d (List.mem_cons_of_mem _ hd), hsk⟩
        · rintro ρ μ2 ⟨h6, ⟨y, z, h7⟩, hm, hsk⟩
          subst h6 h7
          have hsk : scanK 0 rows = none := by rw [← hsk]; rfl
          rw [hsk] at hB
          have hK := scanK_kind (fun d hd => let ⟨cs, e, _⟩ := hT d hd; ⟨cs, e⟩) hsk
          have hdat : D.dataL [.tup rows] = true := by
            show (D.dataL rows && true) = true
            rw [rows_data (fun d hd => let ⟨cs, e, _⟩ := hT d hd; ⟨cs, e⟩) hK]; rfl
          simp_arith
          refine for_rest (w := .row rows) (fun r ρ μ3 => (∃ (m : Nat) (x : Option D), ρ = [some (.tup rows), y, z, some (.int m), x, none] ∧ m + cntR r = cntR rows) ∧ ∀ d ∈ r, d ∈ rows) (fun _ _ _ _ => trivial) ?_ ?_ rows _ μ2 ⟨⟨0, _, rfl, by omega⟩, fun _ h => h⟩
          · rintro x r ρ μ3 ⟨⟨m, x2, h7, hm⟩, hin⟩
            subst h7
            obtain ⟨cs, rfl, l1, l2, _⟩ := hT x (hin x List.mem_cons_self)
            have hkc := hK cs (hin _ List.mem_cons_self)
            simp_arith
            refine okR_xR (comp_rest (w := .row cs) (fun r acc μ => μ[μ3.length]? = some (.lst acc) ∧ acc.length + cnt r = cnt cs ∧ ∀ d ∈ r, isK d = true) (fun _ _ _ _ => trivial) ?_ ?_ cs [] _ ⟨get_new μ3 _, by simp, hkc⟩)
            · rintro q r' acc μ4 ⟨g1, g2, g3⟩
              obtain ⟨s, rfl, hs8⟩ := isK_str (g3 q List.mem_cons_self)
              rw [cnt_str] at g2
              have hc := cnt_le cs
              have hb : acc.length < mostLen := by rw [mostLen_eq]; omega
              have hl : μ3.length < μ4.length := (List.getElem?_eq_some_iff.mp g1).1
              by_cases hse : s = []
              · subst hse
                simp_arith
                exact ⟨g1, by simpa using g2, fun d hd => g3 d (List.mem_cons_of_mem _ hd)⟩
              · have e1 : (s == ([] : Txt)) = false := by rw [beq_eq_false_iff_ne]; exact hse
                simp_arith [e1]
                exact ⟨g1, hb, List.getElem?_set_self hl, by rw [if_neg hse] at g2; simp; omega, fun d hd => g3 d (List.mem_cons_of_mem _ hd)⟩
            · rintro acc μ4 ⟨g1, g2, _⟩
              have g2 : acc.length = cnt cs := g2
              have ln : bfF .len (.loc μ3.length) μ4 = .ok (.int acc.length) μ4 := len_lst _ g1
              simp_arith [ln]
              rw [cntR_cons] at hm
              exact ⟨⟨m + cnt cs, _, by rw [g2]; rfl, by omega⟩, fun d hd => hin d (List.mem_cons_of_mem _ hd)⟩
          · rintro ρ μ3 ⟨⟨m, x2, h7, hm⟩, hin⟩
            subst h7
            have hm : m = cntR rows := hm
            by_cases hz : cntR rows = 0
            · have e0 : ((m : Int) == 0) = true := by rw [hm, hz]; rfl
              rw [if_pos hz] at hB
              simp_arith [e0, hB]
              exact ⟨rfl, .inr hdat⟩
            · have e0 : ((m : Int) == 0) = false := by rw [beq_eq_false_iff_ne]; omega
              rw [if_neg hz] at hB
              simp_arith [e0, hB, handQ_rt]
              exact ⟨by rw [hm]; rfl, .inr hdat⟩
    · have e : boardR (.tup rows) = .bad (-1) (-1) sSize := by rw [boardR_eq, if_pos (by omega)]
      by_cases q1 : (1 : Int) ≤ rows.length
      · have q1' := decide_eq_true q1
        have q2 : decide ((rows.length : Int) ≤ 8) = false := decide_eq_false (by omega)
        simp_arith [f_check_board, isi_ok h', htd, q1', q2, e]
        first | exact ⟨rfl, .inl rfl⟩ | exact ⟨rfl, .inl trivial⟩ | exact .inl trivial | exact .inl rfl | exact ⟨rfl, rfl⟩ | rfl | trivial
      · have q1' := decide_eq_false q1
        simp_arith [f_check_board, isi_ok h', htd, q1', e]
        first | exact ⟨rfl, .inl rfl⟩ | exact ⟨rfl, .inl trivial⟩ | exact .inl trivial | exact .inl rfl | exact ⟨rfl, rfl⟩ | rfl | trivial
end K86
end
section
set_option Elab.async false
set_option linter.all false
set_option autoImplicit false
set_option maxRecDepth 100000
set_option maxHeartbeats 1000000
namespace K86
open PL
def BR.isOk : BR → Bool
  | .bad _ _ _ => false
  | .ok _ => true
def BR.due : BR → D
  | .bad r c w => .tup [.int r, .int c, .str w]
  | .ok n => .tup [.str sTold, .int n]
theorem due_data (b : BR) : D.data b.due = true := by cases b <;> rfl
theorem is_board_ok {k : Nat} (hk : 3 ≤ k) {d : D} {μ : Store} (h : Sn μ d) : cF k 59 [d] μ = .ok (.bl (boardR d).isOk) μ := by
  obtain ⟨k, rfl⟩ : ∃ j, k = j + 1 := ⟨k - 1, by omega⟩
  refine call_pure (fn := f_is_board) rfl rfl rfl fun μ' h1 h2 => xR_okR (E := noX) ?_ (fun _ _ z => z)
  have h' : Sn μ' d := pure_sn2 List.mem_cons_self h1 h2 h
  have c6 : (([6, 3, 0] : List Nat).contains 6) = true := rfl
  cases e : boardR d with
  | bad r c w => simp_arith [f_is_board, check_board_ok (show 2 ≤ k by omega) h', e, BR.res, BR.isOk, resD, bbx, c6, handQ_rt]
  | ok n => simp_arith [f_is_board, check_board_ok (show 2 ≤ k by omega) h', e, BR.res, BR.isOk, resD, handQ_rt]
def kD : D := .tup (K8.map .str)
theorem kinds_call {k : Nat} (hk : 1 ≤ k) (μ : Store) : cF k 1004 [] μ = .ok kD μ := by
  obtain ⟨k, rfl⟩ : ∃ j, k = j + 1 := ⟨k - 1, by omega⟩
  refine call_dat (fn := f_law_kinds) rfl rfl rfl rfl (xR_okR (E := noX) ?_ (fun _ _ z => z))
  simp_arith [f_law_kinds, handQ_rt]
  rfl
theorem plainL_strs : ∀ l : List Txt, (∀ s ∈ l, (s.all fun c => decide (c < 1114112)) = true) → D.plainL (l.map .str) = true
  | [], _ => rfl
  | s :: l, h => by
    rw [List.map_cons, D.plainL, plainL_strs l fun x hx => h x (List.mem_cons_of_mem _ hx)]
    show ((s.all fun c => decide (c < 1114112)) && true) = true
    rw [h s List.mem_cons_self]; rfl
theorem depthL_strs : ∀ l : List Txt, D.depthL (l.map .str) = 0
  | [] => rfl
  | s :: l => by rw [List.map_cons, D.depthL, depthL_strs l]; rfl
theorem eqOk_strs {l : List Txt} (h : ∀ s ∈ l, (s.all fun c => decide (c < 1114112)) = true) : D.eqOk (.tup (l.map .str)) = true := by
  unfold D.eqOk
  rw [show D.plain (.tup (l.map .str)) = true from plainL_strs l h]
  have : D.depth (.tup (l.map .str)) = 1 := by show D.depthL _ + 1 = 1; rw [depthL_strs]
  rw [this]; rfl
theorem any_strs (l : List Txt) (s : Txt) : ((l.map D.str).any fun z => deq z (.str s)) = decide (s ∈ l) := by
  induction l with
  | nil => rfl
  | cons a l ih =>
    rw [List.map_cons, List.any_cons, ih]
    show ((a == s) || _) = _
    by_cases h : a = s
    · subst h; simp
    · have : ¬ s = a := fun z => h z.symm
      simp [h, this]
theorem in_kinds {s : Txt} (h : D.eqOk (.str s) = true) (μ : Store) : inF prog.cst (.str s) kD μ = .ok (decide (s ∈ K8)) μ := by
  have e : D.eqOk (.tup (K8.map .str)) = true := eqOk_strs (by decide)
  show (if D.eqOk (.str s) && D.eqOk (.tup (K8.map .str)) then Res.ok ((K8.map D.str).any fun z => deq z (.str s)) μ else .stuck) = _
  rw [h, e, any_strs]; rfl
theorem law_is_kind_ok {k : Nat} (hk : 2 ≤ k) {d : D} {μ : Store} (h : Sn μ d) : cF k 1008 [d] μ = .ok (.bl (isK d)) μ := by
  obtain ⟨k, rfl⟩ : ∃ j, k = j + 1 := ⟨k - 1, by omega⟩
  refine call_pure (fn := f_law_is_kind) rfl rfl rfl fun μ' h1 h2 => xR_okR (E := noX) ?_ (fun _ _ z => z)
  have h' : Sn μ' d := pure_sn2 List.mem_cons_self h1 h2 h
  cases ht : isT d .str with
  | false =>
    have : isK d = false := by cases d <;> first | rfl | cases ht
    simp_arith [f_law_is_kind, isi_ok h', ht, this, handQ_rt]
  | true =>
    obtain ⟨s, rfl⟩ := isT_str.mp ht
    simp_arith [f_law_is_kind, isi_ok h', ht, kinds_call (show 1 ≤ k by omega), in_kinds (sn_strs h').2.2, handQ_rt]
    rfl
theorem board_due_ok {k : Nat} (hk : 3 ≤ k) {d : D} {μ : Store} (h : Sn μ d) : cF k 1009 [d] μ = .ok (boardR d).due μ := by
  obtain ⟨k, rfl⟩ : ∃ j, k = j + 1 := ⟨k - 1, by omega⟩
  have hk : 2 ≤ k := by omega
  refine call_pure (fn := f_law_board_due) rfl rfl (due_data _) fun μ' h1 h2 => xR_okR (E := noX) ?_ (fun _ _ z => z)
  have h' : Sn μ' d := pure_sn2 List.mem_cons_self h1 h2 h
  cases htd : isT d .tuple with
  | false =>
    have e : boardR d = .bad (-1) (-1) sShape := by cases d <;> first | rfl | cases htd
    simp_arith [f_law_board_due, isi_ok h', htd, e, handQ_rt]
    first | exact ⟨rfl, .inl rfl⟩ | exact ⟨rfl, .inl trivial⟩ | exact .inl trivial | exact .inl rfl | exact ⟨rfl, rfl⟩ | rfl | trivial
  | true =>
    obtain ⟨rows, rfl⟩ := isT_tup.mp htd
    by_cases hs : 1 ≤ rows.length ∧ rows.length ≤ 8
    · have q1 : decide ((rows.length : Int) < 1) = false := decide_eq_false (by omega)
      have q2 : decide ((8 : Int) < (rows.length : Int)) = false := decide_eq_false (by omega)
      simp_arith [f_law_board_due, isi_ok h', htd, q1, q2, rng_ok (show rows.length ≤ 1000000 by omega)]
      obtain ⟨d0, rs, rfl⟩ : ∃ d0 rs, rows = d0 :: rs := by
        cases rows with
        | nil => simp at hs
        | cons d0 rs => exact ⟨_, _, rfl⟩
      generalize hrows : d0 :: rs = rows at *
      have h0 : rows[0]? = some d0 := by rw [← hrows]; rfl
      have a0 : atIx rows 0 = some d0 := atIx_of (i := 0) h0
      have hB : boardR (.tup rows) = match scanR (dLen d0) 0 rows with
        | some (i, w) => .bad i (-1) w
        | none => match scanK 0 rows with
          | some (i, j) => .bad i j sKind
          | none => if cntR rows = 0 then .bad (-1) (-1) sEmpty else .ok (cntR rows) := by
        rw [boardR_eq, if_neg (by omega)]
        rw [← hrows]; rfl
      refine for_idx rfl (fun i r ρ μ => μ = μ' ∧ (∃ x, ρ = [some (.tup rows), x, none, none]) ∧ scanR (dLen d0) i r = scanR (dLen d0) 0 rows ∧ (i ≠ 0 → ∃ cs, d0 = .tup cs)) ?_ ?_ _ μ' ⟨rfl, ⟨_, rfl⟩, rfl, fun z => absurd rfl z⟩
      · rintro i x r ρ μ hx _ ⟨h6, ⟨y, h7⟩, hsc, ht⟩
        subst h6 h7
        rw [scanR_cons] at hsc
        have a1 := atIx_of hx
        have hxs := (sn_tups h').2 x (List.mem_of_getElem? hx)
        cases htx : isT x .tuple with
        | false =>
          have e : rowBad (dLen d0) x = some sShape := by cases x <;> first | rfl | cases htx
          rw [e] at hsc
          simp_arith [ix_tup, a1, okI_some, isi_ok hxs, htx]
          rw [hB, ← hsc]
          first | exact ⟨rfl, .inl rfl⟩ | exact ⟨rfl, .inl trivial⟩ | exact .inl trivial | exact .inl rfl | exact ⟨rfl, rfl⟩ | rfl | trivial
        | true =>
          obtain ⟨cs, rfl⟩ := isT_tup.mp htx
          obtain ⟨c0, rfl⟩ : ∃ cs, d0 = .tup cs := by
            by_cases z : i = 0
            · subst z; rw [hx] at h0; cases h0; exact ⟨_, rfl⟩
            · exact ht z
          by_cases g : 1 ≤ cs.length ∧ cs.length ≤ 8 ∧ cs.length = c0.length
          · have e : rowBad (dLen (.tup c0)) (.tup cs) = none := if_pos g
            have p1 : decide ((cs.length : Int) < 1) = false := decide_eq_false (by omega)
            have p2 : decide ((8 : Int) < (cs.length : Int)) = false := decide_eq_false (by omega)
            have p3 : ((cs.length : Int) == (c0.length : Int)) = true := by rw [g.2.2]; simp
            rw [e] at hsc
            simp_arith [ix_tup, a1, a0, okI_some, isi_ok hxs, htx, p1, p2, p3]
            exact ⟨⟨_, rfl⟩, hsc, fun _ => ⟨_, rfl⟩⟩
          · have e : rowBad (dLen (.tup c0)) (.tup cs) = some sSize := if_neg g
            rw [e] at hsc
            have fi : D.tup [.int i, .int (-1), .str sSize] = (boardR (.tup rows)).due := by rw [hB, ← hsc]; rfl
            cases p1 : decide ((cs.length : Int) < 1) with
            | true => simp_arith [ix_tup, a1, a0, okI_some, isi_ok hxs, htx, p1, handQ_rt]; exact fi
            | false =>
              cases p2 : decide ((8 : Int) < (cs.length : Int)) with
              | true => simp_arith [ix_tup, a1, a0, okI_some, isi_ok hxs, htx, p1, p2, handQ_rt]; exact fi
              | false =>
                have p1 := of_decide_eq_false p1
                have p2 := of_decide_eq_false p2
                have p3 : ((cs.length : Int) == (c0.length : Int)) = false := by rw [beq_eq_false_iff_ne]; omega
                simp_arith [ix_tup, a1, a0, okI_some, isi_ok hxs, htx, decide_eq_false p1, decide_eq_false p2, p3, handQ_rt]; exact fi
      · rintro ρ μ ⟨h6, ⟨y, h7⟩, hsc, ht⟩
        subst h6 h7
        have hsc : scanR (dLen d0) 0 rows = none := by rw [← hsc]; rfl
        rw [hsc] at hB
        have hT := scanR_tup hsc
        obtain ⟨c0, rfl, _⟩ := hT d0 (List.mem_of_getElem? h0)
        simp_arith [rng_ok (show rows.length ≤ 1000000 by omega)]
        refine for_idx rfl (fun i r ρ μ2 => μ2 = μ ∧ (∃ (x y : Option D) (m : Nat), ρ = [some (.tup rows), x, some (.int m), y] ∧ m + cntR r = cntR rows) ∧ (∀ d ∈ r, d ∈ rows) ∧ scanK i r = scanK 0 rows) ?_ ?_ _ μ ⟨rfl, ⟨_, _, 0, rfl, by omega⟩, fun _ z => z, rfl⟩
        · rintro i x r ρ μ2 hx hr ⟨h6, ⟨y, z, m, h7, hm0⟩, hm, hsk⟩
          subst h6 h7
          obtain ⟨cs, rfl, l1, l2, l3⟩ := hT x (hm x List.mem_cons_self)
          have l3 : cs.length = c0.length := l3
          have hcs := (sn_tups h').2 _ (hm _ List.mem_cons_self)
          have a1 := atIx_of hx
          rw [scanK_cons] at hsk
          rw [cntR_cons] at hm0
          simp_arith [ix_tup, a0, okI_some, rng_ok (show c0.length ≤ 1000000 by omega)]
          refine for_idx l3.symm (fun j r' ρ μ3 => μ3 = μ2 ∧ (∃ (y : Option D) (m : Nat), ρ = [some (.tup rows), some (.int i), some (.int m), y] ∧ m + (cnt r' + cntR r) = cntR rows) ∧ scanC i j r' = scanC i 0 cs) ?_ ?_ _ μ2 ⟨rfl, ⟨_, m, rfl, hm0⟩, rfl⟩
          · rintro j q r' ρ μ3 hq _ ⟨h6, ⟨y, m, h7, hm1⟩, hsc2⟩
            subst h6 h7
            have a2 := atIx_of hq
            have hqs := (sn_tups hcs).2 q (List.mem_of_getElem? hq)
            rw [scanC] at hsc2
            cases hqk : isK q with
            | true =>
              rw [hqk, if_pos rfl] at hsc2
              obtain ⟨s, rfl, _⟩ := isK_str hqk
              rw [cnt_str] at hm1
              cases hse : (s == ([] : Txt)) with
              | true =>
                rw [beq_iff_eq] at hse
                subst hse
                simp_arith [ix_tup, a1, a2, okI_some, law_is_kind_ok hk hqs, hqk, BEq.rfl]
                exact ⟨⟨some (.int j), m, by simp, by simpa using hm1⟩, hsc2⟩
              | false =>
                simp_arith [ix_tup, a1, a2, okI_some, law_is_kind_ok hk hqs, hqk, hse]
                rw [beq_eq_false_iff_ne] at hse
                rw [if_neg hse] at hm1
                exact ⟨⟨_, m + 1, rfl, by omega⟩, hsc2⟩
            | false =>
              rw [hqk, if_neg (by simp)] at hsc2
              rw [← hsc2] at hsk
              simp_arith [ix_tup, a1, a2, okI_some, law_is_kind_ok hk hqs, hqk, handQ_rt]
              rw [hB, ← hsk]
              first | exact ⟨rfl, .inl rfl⟩ | exact ⟨rfl, .inl trivial⟩ | exact .inl trivial | exact .inl rfl | exact ⟨rfl, rfl⟩ | rfl | trivial
          · rintro ρ μ3 ⟨h6, ⟨y, m, h7, hm1⟩, hsc2⟩
            subst h6 h7
            have hsc2 : scanC i 0 cs = none := by rw [← hsc2]; rfl
            rw [hsc2] at hsk
            simp_arith
            exact ⟨⟨_, _, m, rfl, by simpa [cnt] using hm1⟩, fun d hd => hm d (List.mem_cons_of_mem _ hd), hsk⟩
        · rintro ρ μ2 ⟨h6, ⟨y, z, m, h7, hm0⟩, hm, hsk⟩
          subst h6 h7
          have hsk : scanK 0 rows = none := by rw [← hsk]; rfl
          rw [hsk] at hB
          have hm0 : m = cntR rows := hm0
          by_cases hz : cntR rows = 0
          · have e0 : decide ((0 : Int) < (m : Int)) = false := decide_eq_false (by omega)
            rw [if_pos hz] at hB
            simp_arith [e0, hB, handQ_rt]
            first | exact ⟨rfl, .inl rfl⟩ | exact ⟨rfl, .inl trivial⟩ | exact .inl trivial | exact .inl rfl | exact ⟨rfl, rfl⟩ | rfl | trivial
          · have e0 : decide ((0 : Int) < (m : Int)) = true := decide_eq_true (by omega)
            rw [if_neg hz] at hB
            simp_arith [e0, hB, handQ_rt]
            rw [hm0]; first | exact ⟨rfl, .inl rfl⟩ | exact ⟨rfl, .inl trivial⟩ | exact .inl trivial | exact .inl rfl | exact ⟨rfl, rfl⟩ | rfl | trivial
    · have e : boardR (.tup rows) = .bad (-1) (-1) sSize := by rw [boardR_eq, if_pos (by omega)]
      cases q1 : decide ((rows.length : Int) < 1) with
      | true => simp_arith [f_law_board_due, isi_ok h', htd, q1, e, handQ_rt]; first | exact ⟨rfl, .inl rfl⟩ | exact ⟨rfl, .inl trivial⟩ | exact .inl trivial | exact .inl rfl | exact ⟨rfl, rfl⟩ | rfl | trivial
      | false =>
        have := of_decide_eq_false q1
        have q2 : decide ((8 : Int) < (rows.length : Int)) = true := decide_eq_true (by omega)
        simp_arith [f_law_board_due, isi_ok h', htd, q1, q2, e, handQ_rt]; first | exact ⟨rfl, .inl rfl⟩ | exact ⟨rfl, .inl trivial⟩ | exact .inl trivial | exact .inl rfl | exact ⟨rfl, rfl⟩ | rfl | trivial
end K86
end
section
set_option Elab.async false
set_option linter.all false
set_option autoImplicit false
set_option maxRecDepth 100000
set_option maxHeartbeats 1000000
namespace K86
open PL
/-! ### settings looked at -/
abbrev Board := List (List Txt)
def rowD (r : List Txt) : D := .tup (r.map .str)
def bD (b : Board) : D := .tup (b.map rowD)
theorem row_data (r : List Txt) : D.data (rowD r) = true := data_strs r
theorem b_data (b : Board) : D.data (bD b) = true := dataL_map row_data b
/-- a right board: rows of one width, of kinds -/
structure Bok (b : Board) (m n : Nat) : Prop where
  r : b.length = m
  c : ∀ x ∈ b, x.length = n
  r1 : 1 ≤ m
  c1 : 1 ≤ n
  r8 : m ≤ 8
  c8 : n ≤ 8
  k : ∀ x ∈ b, ∀ s ∈ x, s ∈ K8
theorem k8_len : ∀ s ∈ K8, s.length ≤ 3 := by decide
theorem k8_plain : ∀ s ∈ K8, (s.all fun c => decide (c < 1114112)) = true := by decide
def sRow : Txt := [114, 111, 119]
def sWall : Txt := [119, 97, 108, 108]
def sLetter : Txt := [108, 101, 116, 116, 101, 114]
def fitK (kd : Txt) (c : Nat) : Bool := if kd = [] then c == 35 else decide (c ∈ kd)
theorem fits_kind_ok {k : Nat} (hk : 1 ≤ k) (kd : Txt) (c : Nat) (μ : Store) : cF k 52 [.str kd, .str [c]] μ = .ok (.bl (fitK kd c)) μ := by
  obtain ⟨k, rfl⟩ : ∃ j, k = j + 1 := ⟨k - 1, by omega⟩
  refine call_dat (fn := f_fits_kind) rfl rfl rfl rfl (xR_okR (E := noX) ?_ (fun _ _ z => z))
  cases h : (kd == ([] : Txt)) with
  | true =>
    rw [beq_iff_eq] at h
    subst h
    simp_arith [f_fits_kind, BEq.rfl, handQ_rt, fitK]
    simp
  | false =>
    simp_arith [f_fits_kind, h, handQ_rt]
    rw [beq_eq_false_iff_ne] at h
    unfold fitK
    rw [if_neg h]
def fitW (kd : Txt) : Txt := if kd = [] then sWall else sLetter
theorem b_at {b : Board} {i : Nat} {r : List Txt} (h : b[i]? = some r) : atIx (b.map rowD) (i : Int) = some (rowD r) := atIx_of (by rw [List.getElem?_map, h]; rfl)
theorem r_at {r : List Txt} {i : Nat} {s : Txt} (h : r[i]? = some s) : atIx (r.map D.str) (i : Int) = some (.str s) := atIx_of (by rw [List.getElem?_map, h]; rfl)
theorem look_ok {k : Nat} (hk : 2 ≤ k) {b : Board} {i j : Nat} {r : List Txt} {kd : Txt} (h1 : b[i]? = some r) (h2 : r[j]? = some kd) (c : Nat) (μ : Store) :
    cF k 54 [bD b, .int i, .int j, .str [c]] μ = resD (if fitK kd c then .inr .non else .inl (sbx i j (fitW kd))) μ := by
  obtain ⟨k, rfl⟩ : ∃ j, k = j + 1 := ⟨k - 1, by omega⟩
  refine call_may (fn := f_look_at_sign) rfl rfl (by cases fitK kd c <;> rfl) fun μ' q1 q2 => ?_
  have a1 := b_at h1
  have a2 := r_at h2
  cases hf : fitK kd c with
  | true =>
    simp_arith [f_look_at_sign, bD, ix_tup, a1, rowD, a2, okI_some, fits_kind_ok (show 1 ≤ k by omega), hf, handQ_nx]
    first | exact ⟨rfl, .inl rfl⟩ | exact ⟨rfl, .inl trivial⟩ | exact .inl trivial | exact .inl rfl | exact ⟨rfl, rfl⟩ | rfl | trivial
  | false =>
    cases h : (kd == ([] : Txt)) with
    | true =>
      have e : fitW kd = sWall := if_pos (by simpa using h)
      simp_arith [f_look_at_sign, bD, ix_tup, a1, rowD, a2, okI_some, fits_kind_ok (show 1 ≤ k by omega), hf, h, e]
      first | exact ⟨rfl, .inl rfl⟩ | exact ⟨rfl, .inl trivial⟩ | exact .inl trivial | exact .inl rfl | exact ⟨rfl, rfl⟩ | rfl | trivial
    | false =>
      have e : fitW kd = sLetter := if_neg (by simpa using h)
      simp_arith [f_look_at_sign, bD, ix_tup, a1, rowD, a2, okI_some, fits_kind_ok (show 1 ≤ k by omega), hf, h, e]
      first | exact ⟨rfl, .inl rfl⟩ | exact ⟨rfl, .inl trivial⟩ | exact .inl trivial | exact .inl rfl | exact ⟨rfl, rfl⟩ | rfl | trivial
/-- the first row that is no text of n signs -/
def scanS (n : Nat) : Nat → List D → Option Nat
  | _, [] => none
  | i, d :: r => match d with
    | .str s => if s.length = n then scanS n (i + 1) r else some i
    | _ => some i
def scanZ (i : Nat) : Nat → List (Txt × Nat) → Option (Nat × Nat × Txt)
  | _, [] => none
  | j, (kd, c) :: r => if fitK kd c then scanZ i (j + 1) r else some (i, j, fitW kd)
def scanT : Nat → List (List Txt × D) → Option (Nat × Nat × Txt)
  | _, [] => none
  | i, (r, .str s) :: t => match scanZ i 0 (r.zip s) with
    | some p => some p
    | none => scanT (i + 1) t
  | i, _ :: t => scanT (i + 1) t
def cntT : List Txt → Nat
  | [] => 0
  | s :: r => cntT r + if s = [] then 0 else 1
def cntB : Board → Nat
  | [] => 0
  | r :: b => cntT r + cntB b
def setR (b : Board) : D → BR
  | .tup ts => if ts.length ≠ b.length then .bad (-1) (-1) sShape else match scanS ((b.headD []).length) 0 ts with
    | some i => .bad i (-1) sRow
    | none => match scanT 0 (b.zip ts) with
      | some (i, j, w) => .bad i j w
      | none => .ok (cntB b)
  | _ => .bad (-1) (-1) sShape
def BR.resS : BR → Sum Exc D
  | .bad r c w => .inl (sbx r c w)
  | .ok n => .inr (.int n)
theorem setR_eq (b : Board) (ts : List D) : setR b (.tup ts) = if ts.length ≠ b.length then .bad (-1) (-1) sShape else match scanS ((b.headD []).length) 0 ts with
    | some i => .bad i (-1) sRow
    | none => match scanT 0 (b.zip ts) with
      | some (i, j, w) => .bad i j w
      | none => .ok (cntB b) := rfl
theorem head_len {b : Board} {m n : Nat} (B : Bok b m n) : (b.headD []).length = n ∧ b[0]? = some (b.headD []) := by
  cases b with
  | nil => have := B.r; have := B.r1; simp at *; omega
  | cons r b => exact ⟨B.c r List.mem_cons_self, rfl⟩
theorem scanS_strs {n : Nat} : ∀ {ts : List D} {i : Nat}, scanS n i ts = none → ∀ d ∈ ts, ∃ s, d = .str s ∧ s.length = n
  | d :: r, i, h, x, hx => by
    cases d with
    | str s =>
      have h : (if s.length = n then scanS n (i + 1) r else some i) = none := h
      split at h
      · rename_i q
        rcases List.mem_cons.mp hx with rfl | hx
        · exact ⟨s, rfl, q⟩
        · exact scanS_strs h x hx
      · cases h
    | _ => cases h
theorem zip_get {α β : Type} {a : List α} {b : List β} {i : Nat} {x : α} {y : β} (h : (a.zip b)[i]? = some (x, y)) : a[i]? = some x ∧ b[i]? = some y := List.getElem?_zip_eq_some.mp h
theorem check_setting_ok {k : Nat} (hk : 3 ≤ k) {b : Board} {m n : Nat} (B : Bok b m n) {d : D} {μ : Store} (h : Sn μ d) : cF k 53 [bD b, d] μ = resD (setR b d).resS μ := by
  obtain ⟨k, rfl⟩ : ∃ j, k = j + 1 := ⟨k - 1, by omega⟩
  have hk : 2 ≤ k := by omega
  refine call_may (fn := f_check_setting) rfl rfl (by cases setR b d <;> rfl) fun μ' h1 h2 => ?_
  have h' : Sn μ' d := pure_sn2 (List.mem_cons_of_mem _ List.mem_cons_self) h1 h2 h
  have lb : (bfF .len (bD b) : Store → Res D) = fun μ => .ok (.int b.length) μ := by
    funext μ; show Res.ok (D.int (b.map rowD).length) μ = _; rw [List.length_map]
  have lr : ∀ (r : List Txt), (bfF .len (rowD r) : Store → Res D) = fun μ => .ok (.int r.length) μ := fun r => by
    funext μ; show Res.ok (D.int (r.map D.str).length) μ = _; rw [List.length_map]
  have ib : ∀ i μ, ixF prog.cst (bD b) (.int i) μ = okI (atIx (b.map rowD) i) μ := fun _ _ => rfl
  have ir : ∀ r i μ, ixF prog.cst (rowD r) (.int i) μ = okI (atIx (r.map D.str) i) μ := fun _ _ _ => rfl
  have b8 := B.r; have b81 := B.r8; have c8 := B.c8
  cases htd : isT d .tuple with
  | false =>
    have e : setR b d = .bad (-1) (-1) sShape := by cases d <;> first | rfl | cases htd
    simp_arith [f_check_setting, isi_ok h', htd, e]
    first | exact ⟨rfl, .inl rfl⟩ | exact ⟨rfl, .inl trivial⟩ | exact .inl trivial | exact .inl rfl | exact ⟨rfl, rfl⟩ | rfl | trivial
  | true =>
    obtain ⟨ts, rfl⟩ := isT_tup.mp htd
    by_cases hs : ts.length = b.length
    · have q1 : ((ts.length : Int) == (b.length : Int)) = true := by rw [hs]; simp
      have hB : setR b (.tup ts) = match scanS n 0 ts with
        | some i => .bad i (-1) sRow
        | none => match scanT 0 (b.zip ts) with
          | some (i, j, w) => .bad i j w
          | none => .ok (cntB b) := by rw [setR_eq, if_neg (by omega), (head_len B).1]
      simp_arith [f_check_setting, isi_ok h', htd, lb, q1, rng_ok (show b.length ≤ 1000000 by omega)]
      refine for_idx hs.symm (fun i r ρ μ => μ = μ' ∧ (∃ x, ρ = [some (bD b), some (.tup ts), x, none, none]) ∧ scanS n i r = scanS n 0 ts) ?_ ?_ _ μ' ⟨rfl, ⟨_, rfl⟩, rfl⟩
      · rintro i x r ρ μ hx _ ⟨h6, ⟨y, h7⟩, hsc⟩
        subst h6 h7
        have hxs := (sn_tups h').2 x (List.mem_of_getElem? hx)
        have a1 := atIx_of hx
        obtain ⟨rb, hrb⟩ : ∃ rb, b[i]? = some rb := ⟨b[i]'(by rw [← hs]; exact (List.getElem?_eq_some_iff.mp hx).1), List.getElem?_eq_getElem _⟩
        have a2 := b_at hrb
        have hrn := B.c rb (List.mem_of_getElem? hrb)
        cases htx : isT x .str with
        | false =>
          have e : scanS n i (x :: r) = some i := by cases x <;> first | rfl | cases htx
          rw [e] at hsc
          simp_arith [ix_tup, a1, okI_some, isi_ok hxs, htx]
          rw [hB, ← hsc]
          first | exact ⟨rfl, .inl rfl⟩ | exact ⟨rfl, .inl trivial⟩ | exact .inl trivial | exact .inl rfl | exact ⟨rfl, rfl⟩ | rfl | trivial
        | true =>
          obtain ⟨s, rfl⟩ := isT_str.mp htx
          have hl := (sn_strs hxs).2.1
          have hsc : (if s.length = n then scanS n (i + 1) r else some i) = scanS n 0 ts := hsc
          by_cases g : s.length = n
          · have p3 : ((s.length : Int) == (rb.length : Int)) = true := by rw [g, hrn]; simp
            rw [if_pos g] at hsc
            simp_arith [ix_tup, ib, a1, a2, okI_some, isi_ok hxs, htx, lr, if_pos hl, p3]
            exact ⟨⟨_, rfl⟩, hsc⟩
          · have p3 : ((s.length : Int) == (rb.length : Int)) = false := by rw [beq_eq_false_iff_ne]; omega
            rw [if_neg g] at hsc
            simp_arith [ix_tup, ib, a1, a2, okI_some, isi_ok hxs, htx, lr, if_pos hl, p3]
            rw [hB, ← hsc]
            first | exact ⟨rfl, .inl rfl⟩ | exact ⟨rfl, .inl trivial⟩ | exact .inl trivial | exact .inl rfl | exact ⟨rfl, rfl⟩ | rfl | trivial
      · rintro ρ μ ⟨h6, ⟨y, h7⟩, hsc⟩
        subst h6 h7
        have hsc : scanS n 0 ts = none := by rw [← hsc]; rfl
        rw [hsc] at hB
        have hT := scanS_strs hsc
        simp_arith [lb, rng_ok (show b.length ≤ 1000000 by omega)]
        have hzl : b.length = (b.zip ts).length := by rw [List.length_zip]; omega
        refine for_idx hzl (fun i r ρ μ2 => μ2 = μ ∧ (∃ (x y : Option D) (m : Nat), ρ = [some (bD b), some (.tup ts), x, some (.int m), y] ∧ m + cntB (r.map (·.1)) = cntB b) ∧ scanT i r = scanT 0 (b.zip ts)) ?_ ?_ _ μ ⟨rfl, ⟨_, _, 0, rfl, by rw [List.map_fst_zip (by omega)]; omega⟩, rfl⟩
        · rintro i ⟨rb, x⟩ r ρ μ2 hx hr ⟨h6, ⟨y, z, m, h7, hm0⟩, hsk⟩
          subst h6 h7
          obtain ⟨g1, g2⟩ := zip_get hx
          obtain ⟨s, rfl, hsn⟩ := hT x (List.mem_of_getElem? g2)
          have hrn := B.c rb (List.mem_of_getElem? g1)
          have a1 := b_at g1
          have a2 := atIx_of g2
          have hl := (sn_strs ((sn_tups h').2 _ (List.mem_of_getElem? g2))).2.1
          have hsk : (match scanZ i 0 (rb.zip s) with
            | some p => some p
            | none => scanT (i + 1) r) = scanT 0 (b.zip ts) := hsk
          have hm0 : m + (cntT rb + cntB (r.map (·.1))) = cntB b := hm0
          simp_arith [ib, a1, okI_some, lr, rng_ok (show rb.length ≤ 1000000 by omega)]
          have hz2 : rb.length = (rb.zip s).length := by rw [List.length_zip]; omega
          refine for_idx hz2 (fun j r' ρ μ3 => μ3 = μ2 ∧ (∃ (y : Option D) (m : Nat), ρ = [some (bD b), some (.tup ts), some (.int i), some (.int m), y] ∧ m + (cntT (r'.map (·.1)) + cntB (r.map (·.1))) = cntB b) ∧ scanZ i j r' = scanZ i 0 (rb.zip s)) ?_ ?_ _ μ2 ⟨rfl, ⟨_, m, rfl, by rw [List.map_fst_zip (by omega)]; exact hm0⟩, rfl⟩
          · rintro j ⟨kd, c⟩ r' ρ μ3 hq _ ⟨h6, ⟨y, m, h7, hm1⟩, hsc2⟩
            subst h6 h7
            obtain ⟨g3, g4⟩ := zip_get hq
            have a3 := r_at g3
            have a4 : (atIx s (j : Int)).map (fun c => D.str [c]) = some (.str [c]) := by rw [atIx_of g4]; rfl
            have hm1 : m + ((cntT (r'.map (·.1)) + if kd = [] then 0 else 1) + cntB (r.map (·.1))) = cntB b := hm1
            have hsc2 : (if fitK kd c then scanZ i (j + 1) r' else some (i, j, fitW kd)) = scanZ i 0 (rb.zip s) := hsc2
            have ab : prog.cst = prog.cst := rfl
            cases hqk : fitK kd c with
            | true =>
              rw [hqk, if_pos rfl] at hsc2
              cases hse : (kd == ([] : Txt)) with
              | true =>
                simp_arith [ib, ir, ix_tup, ix_str, if_pos hl, a1, a2, a3, a4, okI_some, look_ok hk g1 g3, hqk, resD, hse]
                rw [if_pos (by simpa using hse)] at hm1
                exact ⟨⟨_, m, rfl, by omega⟩, hsc2⟩
              | false =>
                simp_arith [ib, ir, ix_tup, ix_str, if_pos hl, a1, a2, a3, a4, okI_some, look_ok hk g1 g3, hqk, resD, hse]
                rw [if_neg (by simpa using hse)] at hm1
                exact ⟨⟨_, m + 1, rfl, by omega⟩, hsc2⟩
            | false =>
              rw [hqk, if_neg (by simp)] at hsc2
              rw [← hsc2] at hsk
              simp_arith [ib, ir, ix_tup, ix_str, if_pos hl, a1, a2, a3, a4, okI_some, look_ok hk g1 g3, hqk, resD]
              rw [hB, ← hsk]
              first | exact ⟨rfl, .inl rfl⟩ | exact ⟨rfl, .inl trivial⟩ | exact .inl trivial | exact .inl rfl | exact ⟨rfl, rfl⟩ | rfl | trivial
          · rintro ρ μ3 ⟨h6, ⟨y, m, h7, hm1⟩, hsc2⟩
            subst h6 h7
            have hsc2 : scanZ i 0 (rb.zip s) = none := by rw [← hsc2]; rfl
            rw [hsc2] at hsk
            simp_arith
            exact ⟨⟨_, _, m, rfl, by simpa [cntT] using hm1⟩, hsk⟩
        · rintro ρ μ2 ⟨h6, ⟨y, z, m, h7, hm0⟩, hsk⟩
          subst h6 h7
          have hsk : scanT 0 (b.zip ts) = none := by rw [← hsk]; rfl
          rw [hsk] at hB
          have hm0 : m = cntB b := by simpa [cntB] using hm0
          simp_arith [hB, handQ_rt]
          rw [hm0]; first | exact ⟨rfl, .inl rfl⟩ | exact ⟨rfl, .inl trivial⟩ | exact .inl trivial | exact .inl rfl | exact ⟨rfl, rfl⟩ | rfl | trivial
    · have q1 : ((ts.length : Int) == (b.length : Int)) = false := by rw [beq_eq_false_iff_ne]; omega
      have e : setR b (.tup ts) = .bad (-1) (-1) sShape := by rw [setR_eq, if_pos (by omega)]
      simp_arith [f_check_setting, isi_ok h', htd, lb, q1, e]
      first | exact ⟨rfl, .inl rfl⟩ | exact ⟨rfl, .inl trivial⟩ | exact .inl trivial | exact .inl rfl | exact ⟨rfl, rfl⟩ | rfl | trivial
end K86
end
section
set_option Elab.async false
set_option linter.all false
set_option autoImplicit false
set_option maxRecDepth 100000
set_option maxHeartbeats 1000000
namespace K86
open PL
theorem is_setting_ok {k : Nat} (hk : 4 ≤ k) {b : Board} {m n : Nat} (B : Bok b m n) {d : D} {μ : Store} (h : Sn μ d) : cF k 55 [bD b, d] μ = .ok (.bl (setR b d).isOk) μ := by
  obtain ⟨k, rfl⟩ : ∃ j, k = j + 1 := ⟨k - 1, by omega⟩
  refine call_pure (fn := f_is_setting) rfl rfl rfl fun μ' h1 h2 => xR_okR (E := noX) ?_ (fun _ _ z => z)
  have h' : Sn μ' d := pure_sn2 (List.mem_cons_of_mem _ List.mem_cons_self) h1 h2 h
  have c6 : (([7, 3, 0] : List Nat).contains 7) = true := rfl
  cases e : setR b d with
  | bad r c w => simp_arith [f_is_setting, check_setting_ok (show 3 ≤ k by omega) B h', e, BR.resS, BR.isOk, resD, sbx, c6, handQ_rt]
  | ok n => simp_arith [f_is_setting, check_setting_ok (show 3 ≤ k by omega) B h', e, BR.resS, BR.isOk, resD, handQ_rt]
theorem setting_due_ok {k : Nat} (hk : 1 ≤ k) {b : Board} {m n : Nat} (B : Bok b m n) {d : D} {μ : Store} (h : Sn μ d) : cF k 1010 [bD b, d] μ = .ok (setR b d).due μ := by
  obtain ⟨k, rfl⟩ : ∃ j, k = j + 1 := ⟨k - 1, by omega⟩
  refine call_pure (fn := f_law_setting_due) rfl rfl (due_data _) fun μ' h1 h2 => xR_okR (E := noX) ?_ (fun _ _ z => z)
  have h' : Sn μ' d := pure_sn2 (List.mem_cons_of_mem _ List.mem_cons_self) h1 h2 h
  have lb : (bfF .len (bD b) : Store → Res D) = fun μ => .ok (.int b.length) μ := by
    funext μ; show Res.ok (D.int (b.map rowD).length) μ = _; rw [List.length_map]
  have lr : ∀ (r : List Txt), (bfF .len (rowD r) : Store → Res D) = fun μ => .ok (.int r.length) μ := fun r => by
    funext μ; show Res.ok (D.int (r.map D.str).length) μ = _; rw [List.length_map]
  have ib : ∀ i μ, ixF prog.cst (bD b) (.int i) μ = okI (atIx (b.map rowD) i) μ := fun _ _ => rfl
  have ir : ∀ r i μ, ixF prog.cst (rowD r) (.int i) μ = okI (atIx (r.map D.str) i) μ := fun _ _ _ => rfl
  have b8 := B.r; have b81 := B.r8; have c8 := B.c8
  obtain ⟨hn, hh⟩ := head_len B
  have a0 : atIx (b.map rowD) 0 = some (rowD (b.headD [])) := b_at (i := 0) hh
  cases htd : isT d .tuple with
  | false =>
    have e : setR b d = .bad (-1) (-1) sShape := by cases d <;> first | rfl | cases htd
    simp_arith [f_law_setting_due, isi_ok h', htd, e, handQ_rt]
    first | exact ⟨rfl, .inl rfl⟩ | exact ⟨rfl, .inl trivial⟩ | exact .inl trivial | exact .inl rfl | exact ⟨rfl, rfl⟩ | rfl | trivial
  | true =>
    obtain ⟨ts, rfl⟩ := isT_tup.mp htd
    by_cases hs : ts.length = b.length
    · have q1 : ((ts.length : Int) == (b.length : Int)) = true := by rw [hs]; simp
      have hB : setR b (.tup ts) = match scanS n 0 ts with
        | some i => .bad i (-1) sRow
        | none => match scanT 0 (b.zip ts) with
          | some (i, j, w) => .bad i j w
          | none => .ok (cntB b) := by rw [setR_eq, if_neg (by omega), hn] <;> rfl
      simp_arith [f_law_setting_due, isi_ok h', htd, lb, q1, rng_ok (show b.length ≤ 1000000 by omega)]
      refine for_idx hs.symm (fun i r ρ μ => μ = μ' ∧ (∃ x, ρ = [some (bD b), some (.tup ts), x, none, none, none]) ∧ scanS n i r = scanS n 0 ts) ?_ ?_ _ μ' ⟨rfl, ⟨_, rfl⟩, rfl⟩
      · rintro i x r ρ μ hx _ ⟨h6, ⟨y, h7⟩, hsc⟩
        subst h6 h7
        have hxs := (sn_tups h').2 x (List.mem_of_getElem? hx)
        have a1 := atIx_of hx
        cases htx : isT x .str with
        | false =>
          have e : scanS n i (x :: r) = some i := by cases x <;> first | rfl | cases htx
          rw [e] at hsc
          simp_arith [ix_tup, a1, okI_some, isi_ok hxs, htx, handQ_rt]
          rw [hB, ← hsc]
          first | exact ⟨rfl, .inl rfl⟩ | exact ⟨rfl, .inl trivial⟩ | exact .inl trivial | exact .inl rfl | exact ⟨rfl, rfl⟩ | rfl | trivial
        | true =>
          obtain ⟨s, rfl⟩ := isT_str.mp htx
          have hl := (sn_strs hxs).2.1
          have hsc : (if s.length = n then scanS n (i + 1) r else some i) = scanS n 0 ts := hsc
          by_cases g : s.length = n
          · have p3 : ((s.length : Int) == ((b.headD []).length : Int)) = true := by rw [g, hn]; simp
            rw [if_pos g] at hsc
            simp_arith [ix_tup, ib, a1, a0, okI_some, isi_ok hxs, htx, lr, if_pos hl, p3]
            exact ⟨⟨_, rfl⟩, hsc⟩
          · have p3 : ((s.length : Int) == ((b.headD []).length : Int)) = false := by rw [beq_eq_false_iff_ne]; omega
            rw [if_neg g] at hsc
            simp_arith [ix_tup, ib, a1, a0, okI_some, isi_ok hxs, htx, lr, if_pos hl, p3, handQ_rt]
            rw [hB, ← hsc]
            first | exact ⟨rfl, .inl rfl⟩ | exact ⟨rfl, .inl trivial⟩ | exact .inl trivial | exact .inl rfl | exact ⟨rfl, rfl⟩ | rfl | trivial
      · rintro ρ μ ⟨h6, ⟨y, h7⟩, hsc⟩
        subst h6 h7
        have hsc : scanS n 0 ts = none := by rw [← hsc]; rfl
        rw [hsc] at hB
        have hT := scanS_strs hsc
        simp_arith [lb, rng_ok (show b.length ≤ 1000000 by omega)]
        have hzl : b.length = (b.zip ts).length := by rw [List.length_zip]; omega
        refine for_idx hzl (fun i r ρ μ2 => μ2 = μ ∧ (∃ (x y z : Option D) (m : Nat), ρ = [some (bD b), some (.tup ts), x, some (.int m), y, z] ∧ m + cntB (r.map (·.1)) = cntB b) ∧ scanT i r = scanT 0 (b.zip ts)) ?_ ?_ _ μ ⟨rfl, ⟨_, _, _, 0, rfl, by rw [List.map_fst_zip (by omega)]; omega⟩, rfl⟩
        · rintro i ⟨rb, x⟩ r ρ μ2 hx hr ⟨h6, ⟨y, z, z2, m, h7, hm0⟩, hsk⟩
          subst h6 h7
          obtain ⟨g1, g2⟩ := zip_get hx
          obtain ⟨s, rfl, hsn⟩ := hT x (List.mem_of_getElem? g2)
          have hrn := B.c rb (List.mem_of_getElem? g1)
          have a1 := b_at g1
          have a2 := atIx_of g2
          have hl := (sn_strs ((sn_tups h').2 _ (List.mem_of_getElem? g2))).2.1
          have hsk : (match scanZ i 0 (rb.zip s) with
            | some p => some p
            | none => scanT (i + 1) r) = scanT 0 (b.zip ts) := hsk
          have hm0 : m + (cntT rb + cntB (r.map (·.1))) = cntB b := hm0
          simp_arith [ib, a0, okI_some, lr, rng_ok (show (b.headD []).length ≤ 1000000 by omega)]
          have hz2 : (b.headD []).length = (rb.zip s).length := by rw [List.length_zip]; omega
          refine for_idx hz2 (fun j r' ρ μ3 => μ3 = μ2 ∧ (∃ (y z : Option D) (m : Nat), ρ = [some (bD b), some (.tup ts), some (.int i), some (.int m), y, z] ∧ m + (cntT (r'.map (·.1)) + cntB (r.map (·.1))) = cntB b) ∧ scanZ i j r' = scanZ i 0 (rb.zip s)) ?_ ?_ _ μ2 ⟨rfl, ⟨_, _, m, rfl, by rw [List.map_fst_zip (by omega)]; exact hm0⟩, rfl⟩
          · rintro j ⟨kd, c⟩ r' ρ μ3 hq _ ⟨h6, ⟨y, z, m, h7, hm1⟩, hsc2⟩
            subst h6 h7
            obtain ⟨g3, g4⟩ := zip_get hq
            have a3 := r_at g3
            have a4 : (atIx s (j : Int)).map (fun c => D.str [c]) = some (.str [c]) := by rw [atIx_of g4]; rfl
            have hm1 : m + ((cntT (r'.map (·.1)) + if kd = [] then 0 else 1) + cntB (r.map (·.1))) = cntB b := hm1
            have hsc2 : (if fitK kd c then scanZ i (j + 1) r' else some (i, j, fitW kd)) = scanZ i 0 (rb.zip s) := hsc2
            cases hse : (kd == ([] : Txt)) with
            | true =>
              have hke : kd = [] := by simpa using hse
              rw [if_pos hke] at hm1
              have fk : fitK kd c = (c == 35) := if_pos hke
              have fw : fitW kd = sWall := if_pos hke
              cases hc : (([c] : Txt) == ([35] : Txt)) with
              | true =>
                have : c = 35 := by simpa using hc
                rw [fk, if_pos (by simp [this])] at hsc2
                simp_arith [ib, ir, ix_tup, ix_str, if_pos hl, a1, a2, a3, a4, okI_some, hse, hc]
                exact ⟨⟨some (.int j), some (.str kd), m, by simp, by omega⟩, hsc2⟩
              | false =>
                have : ¬ (c == 35) = true := by simpa using hc
                rw [fk, if_neg this] at hsc2
                rw [← hsc2] at hsk
                simp_arith [ib, ir, ix_tup, ix_str, if_pos hl, a1, a2, a3, a4, okI_some, hse, hc, handQ_rt]
                rw [hB, ← hsk, fw]
                first | exact ⟨rfl, .inl rfl⟩ | exact ⟨rfl, .inl trivial⟩ | exact .inl trivial | exact .inl rfl | exact ⟨rfl, rfl⟩ | rfl | trivial
            | false =>
              have hke : ¬ kd = [] := by simpa using hse
              rw [if_neg hke] at hm1
              have fk : fitK kd c = decide (c ∈ kd) := if_neg hke
              have fw : fitW kd = sLetter := if_neg hke
              cases hc : decide (c ∈ kd) with
              | true =>
                rw [fk, hc, if_pos rfl] at hsc2
                simp_arith [ib, ir, ix_tup, ix_str, if_pos hl, a1, a2, a3, a4, okI_some, hse, hc]
                exact ⟨⟨_, _, m + 1, rfl, by omega⟩, hsc2⟩
              | false =>
                rw [fk, hc, if_neg (by simp)] at hsc2
                rw [← hsc2] at hsk
                simp_arith [ib, ir, ix_tup, ix_str, if_pos hl, a1, a2, a3, a4, okI_some, hse, hc, handQ_rt]
                rw [hB, ← hsk, fw]
                first | exact ⟨rfl, .inl rfl⟩ | exact ⟨rfl, .inl trivial⟩ | exact .inl trivial | exact .inl rfl | exact ⟨rfl, rfl⟩ | rfl | trivial
          · rintro ρ μ3 ⟨h6, ⟨y, z, m, h7, hm1⟩, hsc2⟩
            subst h6 h7
            have hsc2 : scanZ i 0 (rb.zip s) = none := by rw [← hsc2]; rfl
            rw [hsc2] at hsk
            simp_arith
            exact ⟨⟨_, _, _, m, rfl, by simpa [cntT] using hm1⟩, hsk⟩
        · rintro ρ μ2 ⟨h6, ⟨y, z, z2, m, h7, hm0⟩, hsk⟩
          subst h6 h7
          have hsk : scanT 0 (b.zip ts) = none := by rw [← hsk]; rfl
          rw [hsk] at hB
          have hm0 : m = cntB b := by simpa [cntB] using hm0
          simp_arith [hB, handQ_rt]
          rw [hm0]; first | exact ⟨rfl, .inl rfl⟩ | exact ⟨rfl, .inl trivial⟩ | exact .inl trivial | exact .inl rfl | exact ⟨rfl, rfl⟩ | rfl | trivial
    · have q1 : ((ts.length : Int) == (b.length : Int)) = false := by rw [beq_eq_false_iff_ne]; omega
      have e : setR b (.tup ts) = .bad (-1) (-1) sShape := by rw [setR_eq, if_pos (by omega)]
      simp_arith [f_law_setting_due, isi_ok h', htd, lb, q1, e, handQ_rt]
      first | exact ⟨rfl, .inl rfl⟩ | exact ⟨rfl, .inl trivial⟩ | exact .inl trivial | exact .inl rfl | exact ⟨rfl, rfl⟩ | rfl | trivial
end K86
end
section
set_option Elab.async false
set_option linter.all false
set_option autoImplicit false
set_option maxRecDepth 100000
set_option maxHeartbeats 1000000
namespace K86
open PL
/-! ### the same twice -/
mutual
def nice : D → Bool
  | .non => true
  | .bl _ => true
  | .int _ => true
  | .str _ => true
  | .tup xs => niceL xs
  | _ => false
def niceL : List D → Bool
  | [] => true
  | x :: xs => nice x && niceL xs
end
mutual
def nodes : D → Nat
  | .tup xs => nodesL xs + 1
  | _ => 1
def nodesL : List D → Nat
  | [] => 0
  | x :: xs => nodes x + nodesL xs
end
theorem nodes_pos (d : D) : 1 ≤ nodes d := by cases d <;> simp [nodes]
theorem nodesL_len : ∀ xs : List D, xs.length ≤ nodesL xs
  | [] => Nat.le_refl _
  | x :: xs => by
    rw [List.length_cons, nodesL]
    have := nodes_pos x
    have := nodesL_len xs
    omega
theorem nodesL_app : ∀ xs ys : List D, nodesL (xs ++ ys) = nodesL xs + nodesL ys
  | [], ys => by simp [nodesL]
  | x :: xs, ys => by rw [List.cons_append, nodesL, nodesL, nodesL_app xs ys]; omega
theorem niceL_app : ∀ xs ys : List D, niceL (xs ++ ys) = (niceL xs && niceL ys)
  | [], ys => by simp [niceL]
  | x :: xs, ys => by rw [List.cons_append, niceL, niceL, niceL_app xs ys, Bool.and_assoc]
def twoD (d : D) : D := .tup [d, d]
theorem law_same_ok {k : Nat} (hk : 1 ≤ k) {d : D} (hd : nice d = true) (hn : nodes d ≤ 50000) (hdat : D.data d = true) (μ : Store) : cF k 1003 [d, d] μ = .ok (.bl true) μ := by
  obtain ⟨k, rfl⟩ : ∃ j, k = j + 1 := ⟨k - 1, by omega⟩
  refine call_dat (fn := f_law_same) rfl rfl (by simp [D.dataL, hdat]) rfl (xR_okR (E := noX) ?_ (fun _ _ z => z))
  simp_arith [f_law_same]
  refine whl_x (fun n ρ μ => ∃ (L : List D) (x y z : Option D), ρ = [some d, some d, some (.loc 0), x, y, z] ∧ μ[0]? = some (.lst (L.map twoD)) ∧ niceL L = true ∧ nodesL L = n ∧ n ≤ 50000) ?_ N0 (nodes d) _ _ (by have : N0 = 100000 := rfl; omega) ⟨[d], _, _, _, rfl, rfl, by simp [niceL, hd], by simp [nodesL], hn⟩
  rintro n ρ μ ⟨L, x, y, z, h7, hl, hL, hN, hB⟩
  subst h7
  have ln : bfF .len (.loc 0) μ = .ok (.int (L.map twoD).length) μ := len_lst _ hl
  rcases List.eq_nil_or_concat L with h0 | ⟨L', e, h0⟩
  · subst h0
    have e0 : decide ((0 : Int) < ((0 : Nat) : Int)) = false := rfl
    simp_arith [ln, e0, handQ_rt]
  · rw [List.concat_eq_append] at h0
    subst h0
    have q0 : decide ((0 : Int) < (((L' ++ [e]).map twoD).length : Int)) = true := decide_eq_true (by
      have : ((L' ++ [e]).map twoD).length = L'.length + 1 := by simp
      rw [this]; omega)
    rw [niceL_app, Bool.and_eq_true] at hL
    have he : nice e = true := by have := hL.2; simpa [niceL] using this
    rw [nodesL_app] at hN
    have hN : nodesL L' + nodes e = n := by simpa [nodesL] using hN
    have hlen := nodesL_len L'
    have hμ : 0 < μ.length := (List.getElem?_eq_some_iff.mp hl).1
    have il : isLstD (.loc 0) μ = true := mfOk_lst _ hl
    have po : methF prog.cst .pop (.loc 0) [] μ = .ok (twoD e) (μ.set 0 (.lst (L'.map twoD))) := by
      unfold methF
      simp only [hl]
      rw [List.map_append, List.map_cons, List.map_nil]
      have : ((L'.map twoD) ++ [twoD e])[((L'.map twoD) ++ [twoD e]).length - 1]? = some (twoD e) := by simp
      rw [this]
      simp
    have un : ∀ ρ μ, unpackF [3, 4] (twoD e) ρ μ = .ok ((ρ.set 3 (some e)).set 4 (some e)) μ := fun _ _ => rfl
    have gs : (μ.set 0 (.lst (L'.map twoD)))[0]? = some (.lst (L'.map twoD)) := List.getElem?_set_self hμ
    have go : ∀ (x y : D), ∃ m, m < n ∧ ∃ (L : List D) (x2 y2 z2 : Option D), [some d, some d, some (.loc 0), some x, some y, z] = [some d, some d, some (.loc 0), x2, y2, z2] ∧ (μ.set 0 (.lst (L'.map twoD)))[0]? = some (.lst (L.map twoD)) ∧ niceL L = true ∧ nodesL L = m ∧ m ≤ 50000 := fun x y =>
      ⟨nodesL L', by have := nodes_pos e; omega, L', _, _, _, rfl, gs, hL.1, rfl, by omega⟩
    cases e with
    | non => simp_arith [ln, q0, il, po, un]; exact go _ _
    | bl b => simp_arith [ln, q0, il, po, un]; exact go _ _
    | int b => simp_arith [ln, q0, il, po, un]; exact go _ _
    | str b => simp_arith [ln, q0, il, po, un]; exact go _ _
    | tup b =>
      have hnb : nodes (.tup b) = nodesL b + 1 := rfl
      have hb : b.length ≤ 50000 := by
        have := nodesL_len b
        omega
      generalize hμ1 : μ.set 0 (.lst (L'.map twoD)) = μ1 at *
      have hμ1l : 0 < μ1.length := (List.getElem?_eq_some_iff.mp gs).1
      have il1 : isLstD (.loc 0) μ1 = true := mfOk_lst _ gs
      simp_arith [ln, q0, il, po, un, il1, rng_ok (show b.length ≤ 1000000 by omega)]
      refine okR_xR (comp_idx (xs := b) rfl (fun i r acc μ2 => μ2[μ1.length]? = some (.lst acc) ∧ acc = (b.take i).map twoD ∧ μ2[0]? = some (.lst (L'.map twoD))) ?_ ?_ [] _ ⟨get_new μ1 _, rfl, by rw [List.getElem?_append_left hμ1l]; exact gs⟩)
      · rintro i x r acc μ2 hx _ ⟨g1, g2, g3⟩
        have a1 := atIx_of hx
        have hi : i < b.length := (List.getElem?_eq_some_iff.mp hx).1
        have hl2 : μ1.length < μ2.length := (List.getElem?_eq_some_iff.mp g1).1
        simp_arith [ix_tup, a1, okI_some]
        refine ⟨g1, ?_, List.getElem?_set_self hl2, ?_, ?_⟩
        · rw [g2, List.length_map, List.length_take, mostLen_eq]; omega
        · rw [List.take_add_one, hx, List.map_append, g2]; rfl
        · rw [List.getElem?_set_ne (by omega)]; exact g3
      · rintro acc μ2 ⟨g1, g2, g3⟩
        rw [List.take_of_length_le (Nat.le_refl _)] at g2
        have ex := ext_lst prog.cst g3 g1 (by rw [g2, List.length_map, List.length_map, mostLen_eq]; omega) (by omega)
        have hl2 : 0 < μ2.length := (List.getElem?_eq_some_iff.mp g3).1
        simp_arith [ex]
        refine ⟨nodesL (L' ++ b), ?_, L' ++ b, _, _, _, rfl, ?_, ?_, rfl, ?_⟩
        · rw [nodesL_app]; omega
        · rw [List.getElem?_set_self hl2, g2, List.map_append]
        · rw [niceL_app, hL.1]; exact he
        · rw [nodesL_app]; omega
    | _ => cases he
def sOther : Txt := [111, 116, 104, 101, 114]
theorem told_b {k : Nat} (hk : 3 ≤ k) {d : D} {μ : Store} (h : Sn μ d) : ∃ ν, cF k 1011 [.non, d] μ = .ok (boardR d).due (μ ++ ν) := by
  obtain ⟨k, rfl⟩ : ∃ j, k = j + 1 := ⟨k - 1, by omega⟩
  refine call_grow (fn := f_law_told) rfl rfl (due_data _) fun μ' h1 h2 => xR_okR (E := noX) ?_ (fun _ _ z => z)
  have h' : Sn μ' d := pure_sn2 (List.mem_cons_of_mem _ List.mem_cons_self) h1 h2 h
  have cb := check_board_ok (show 2 ≤ k by omega) h'
  cases e : boardR d with
  | ok n =>
    rw [e] at cb
    simp_arith [f_law_told, cb, BR.res, resD, BR.due, handQ_rt]
    exact ⟨rfl, [], by simp⟩
  | bad r c w =>
    rw [e] at cb
    have c0 : (([6, 3, 0] : List Nat).contains 0) = true := rfl
    have e6 : (([6] : List Nat).any fun c => ([6, 3, 0] : List Nat).contains c) = true := rfl
    have e7 : (([7] : List Nat).any fun c => ([6, 3, 0] : List Nat).contains c) = false := rfl
    have e3 : (([3] : List Nat).any fun c => ([6, 3, 0] : List Nat).contains c) = true := rfl
    have e4 : (([1, 5, 4] : List Nat).any fun c => ([6, 3, 0] : List Nat).contains c) = false := rfl
    have n1 : ∀ o1 o2, ((μ' ++ [Obj.lst o1]) ++ [Obj.lst o2])[μ'.length]? = some (Obj.lst o1) := fun o1 o2 => by simp
    have n2 : ∀ o1 o2, ((μ' ++ [Obj.lst o1]) ++ [Obj.lst o2])[(μ' ++ [Obj.lst o1]).length]? = some (Obj.lst o2) := fun o1 o2 => get_new _ _
    have ne := ne_lsts prog.cst (n1 [.bl true, .bl false] [.bl true, .bl false]) (n2 _ _) (by rfl) (by rfl)
    have dq : deqL [.bl true, .bl false] [.bl true, .bl false] = true := rfl
    have f1 : (([1, 2, 0] : List Nat).findIdx? fun k => k == 1) = some 0 := rfl
    have f2 : (([1, 2, 0] : List Nat).findIdx? fun k => k == 2) = some 1 := rfl
    have f0 : (([1, 2, 0] : List Nat).findIdx? fun k => k == 0) = some 2 := rfl
    simp_arith [f_law_told, cb, BR.res, resD, BR.due, bbx, c0, e6, e7, e3, e4, ne, dq, f1, f2, f0, Option.bind_some, okI_some, handQ_rt]
    exact ⟨_, by rw [List.append_assoc]⟩
end K86
end
section
set_option Elab.async false
set_option linter.all false
set_option autoImplicit false
set_option maxRecDepth 100000
set_option maxHeartbeats 1000000
namespace K86
open PL
theorem bD_non (b : Board) : D.isNon (bD b) = false := rfl
theorem told_s {k : Nat} (hk : 4 ≤ k) {b : Board} {m n : Nat} (B : Bok b m n) {d : D} {μ : Store} (h : Sn μ d) : ∃ ν, cF k 1011 [bD b, d] μ = .ok (setR b d).due (μ ++ ν) := by
  obtain ⟨k, rfl⟩ : ∃ j, k = j + 1 := ⟨k - 1, by omega⟩
  refine call_grow (fn := f_law_told) rfl rfl (due_data _) fun μ' h1 h2 => xR_okR (E := noX) ?_ (fun _ _ z => z)
  have h' : Sn μ' d := pure_sn2 (List.mem_cons_of_mem _ List.mem_cons_self) h1 h2 h
  have cb := check_setting_ok (show 3 ≤ k by omega) B h'
  cases e : setR b d with
  | ok n =>
    rw [e] at cb
    simp_arith [f_law_told, bD_non, cb, BR.resS, resD, BR.due, handQ_rt]
    exact ⟨rfl, [], by simp⟩
  | bad r c w =>
    rw [e] at cb
    have c0 : (([7, 3, 0] : List Nat).contains 0) = true := rfl
    have e6 : (([6] : List Nat).any fun c => ([7, 3, 0] : List Nat).contains c) = false := rfl
    have e7 : (([7] : List Nat).any fun c => ([7, 3, 0] : List Nat).contains c) = true := rfl
    have e3 : (([3] : List Nat).any fun c => ([7, 3, 0] : List Nat).contains c) = true := rfl
    have e4 : (([1, 5, 4] : List Nat).any fun c => ([7, 3, 0] : List Nat).contains c) = false := rfl
    have n1 : ∀ o1 o2, ((μ' ++ [Obj.lst o1]) ++ [Obj.lst o2])[μ'.length]? = some (Obj.lst o1) := fun o1 o2 => by simp
    have n2 : ∀ o1 o2, ((μ' ++ [Obj.lst o1]) ++ [Obj.lst o2])[(μ' ++ [Obj.lst o1]).length]? = some (Obj.lst o2) := fun o1 o2 => get_new _ _
    have ne := ne_lsts prog.cst (n1 [.bl false, .bl true] [.bl false, .bl true]) (n2 _ _) (by rfl) (by rfl)
    have dq : deqL [.bl false, .bl true] [.bl false, .bl true] = true := rfl
    have f1 : (([1, 2, 0] : List Nat).findIdx? fun k => k == 1) = some 0 := rfl
    have f2 : (([1, 2, 0] : List Nat).findIdx? fun k => k == 2) = some 1 := rfl
    have f0 : (([1, 2, 0] : List Nat).findIdx? fun k => k == 0) = some 2 := rfl
    simp_arith [f_law_told, bD_non, cb, BR.resS, resD, BR.due, sbx, c0, e6, e7, e3, e4, ne, dq, f1, f2, f0, Option.bind_some, okI_some, handQ_rt]
    exact ⟨_, by rw [List.append_assoc]⟩
theorem due_nice (r : BR) : nice r.due = true := by cases r <;> rfl
theorem due_nodes (r : BR) : nodes r.due ≤ 50000 := by cases r <;> (simp [BR.due, nodes, nodesL])
theorem due_told (r : BR) : ∃ x, (∀ μ, ixF prog.cst r.due (.int 0) μ = .ok x μ) ∧ ∀ μ, cmpF prog.cst .eq x (.str [116, 111, 108, 100]) μ = .ok r.isOk μ := by
  cases r with
  | ok n => exact ⟨_, fun μ => rfl, fun μ => rfl⟩
  | bad a c w => exact ⟨_, fun μ => rfl, fun μ => rfl⟩
theorem right_b {k : Nat} (hk : 4 ≤ k) {d : D} {μ : Store} (h : Sn μ d) : ∃ ν, cF k 1012 [.non, d] μ = .ok (.bl true) (μ ++ ν) := by
  obtain ⟨k, rfl⟩ : ∃ j, k = j + 1 := ⟨k - 1, by omega⟩
  refine call_grow (fn := f_law_is_right) rfl rfl rfl fun μ' h1 h2 => xR_okR (E := noX) ?_ (fun _ _ z => z)
  have h' : Sn μ' d := pure_sn2 (List.mem_cons_of_mem _ List.mem_cons_self) h1 h2 h
  obtain ⟨ν, et⟩ := told_b (show 3 ≤ k by omega) h'
  have h2 : Sn (μ' ++ ν) d := gr_sn (Gr.app [0, 2] μ' ν) h'
  obtain ⟨x, q1, q2⟩ := due_told (boardR d)
  simp_arith [f_law_is_right, board_due_ok (show 3 ≤ k by omega) h', et, law_same_ok (show 1 ≤ k by omega) (due_nice (boardR d)) (due_nodes _) (due_data _), is_board_ok (show 3 ≤ k by omega) h2, q1, q2, handQ_rt]
  exact ⟨ν, rfl⟩
theorem right_s {k : Nat} (hk : 5 ≤ k) {b : Board} {m n : Nat} (B : Bok b m n) {d : D} {μ : Store} (h : Sn μ d) : ∃ ν, cF k 1012 [bD b, d] μ = .ok (.bl true) (μ ++ ν) := by
  obtain ⟨k, rfl⟩ : ∃ j, k = j + 1 := ⟨k - 1, by omega⟩
  refine call_grow (fn := f_law_is_right) rfl rfl rfl fun μ' h1 h2 => xR_okR (E := noX) ?_ (fun _ _ z => z)
  have h' : Sn μ' d := pure_sn2 (List.mem_cons_of_mem _ List.mem_cons_self) h1 h2 h
  obtain ⟨ν, et⟩ := told_s (show 4 ≤ k by omega) B h'
  have h2 : Sn (μ' ++ ν) d := gr_sn (Gr.app [0, 2] μ' ν) h'
  obtain ⟨x, q1, q2⟩ := due_told (setR b d)
  simp_arith [f_law_is_right, bD_non, setting_due_ok (show 1 ≤ k by omega) B h', et, law_same_ok (show 1 ≤ k by omega) (due_nice (setR b d)) (due_nodes _) (due_data _), is_setting_ok (show 4 ≤ k by omega) B h2, q1, q2, handQ_rt]
  exact ⟨ν, rfl⟩
end K86
end
section
set_option Elab.async false
set_option linter.all false
set_option autoImplicit false
set_option maxRecDepth 100000
set_option maxHeartbeats 1000000
namespace K86
open PL
/-! ### the stream -/
/-- a stream at 2, its great numbers at 0 -/
structure Stm (μ : Store) : Prop where
  ex : ∃ (gs : List Int) (m : Int), μ[2]? = some (.lst [.loc 0, .int m]) ∧ μ[0]? = some (.lst (gs.map .int)) ∧ (∀ g ∈ gs, 0 ≤ g) ∧ 0 ≤ m ∧ gs.length ≤ 100
theorem gr_stm {μ μ' : Store} (h : Gr [] μ μ') (s : Stm μ) : Stm μ' := by
  obtain ⟨gs, m, h1, h2, h3⟩ := s.ex
  exact ⟨gs, m, h.get h1 (by simp), h.get h2 (by simp), h3⟩
theorem gr_set {μ0 μ : Store} (g : Gr [0, 2] μ0 μ) {l : Nat} (o : Obj) (hl : l ∈ [0, 2] ∨ μ0.length ≤ l) : Gr [0, 2] μ0 (μ.set l o) := by
  refine ⟨by simp [g.len], fun j hj hs => ?_⟩
  have : l ≠ j := by
    rintro rfl
    rcases hl with h1 | h1
    · exact hs h1
    · omega
  rw [List.getElem?_set_ne this, g.at_ j hj hs]
theorem Stm.set {μ : Store} (s : Stm μ) {l : Nat} (o : Obj) (h0 : l ≠ 0) (h2 : l ≠ 2) : Stm (μ.set l o) := by
  obtain ⟨gs, m, h1, h3, h4⟩ := s.ex
  exact ⟨gs, m, by rw [List.getElem?_set_ne h2]; exact h1, by rw [List.getElem?_set_ne h0]; exact h3, h4⟩
theorem Stm.app {μ : Store} (s : Stm μ) (ν : Store) : Stm (μ ++ ν) := gr_stm (Gr.app [] μ ν) s
theorem Stm.len {μ : Store} (s : Stm μ) : 3 ≤ μ.length := by
  obtain ⟨gs, m, h1, _⟩ := s.ex
  have := (List.getElem?_eq_some_iff.mp h1).1
  omega
theorem pull_ok {k : Nat} (hk : 1 ≤ k) {μ : Store} (s : Stm μ) {n : Int} (h0 : 0 < n) (h1 : n < 1000000) : ∃ (v : Nat) (μ' : Store), cF k 1001 [.loc 2, .int n] μ = .ok (.int v) μ' ∧ (v : Int) < n ∧ Stm μ' ∧ Gr [0, 2] μ μ' := by
  obtain ⟨k, rfl⟩ : ∃ j, k = j + 1 := ⟨k - 1, by omega⟩
  rw [show cF (k + 1) 1001 [.loc 2, .int n] μ = callB prog N0 (cF k) f_law_pull [.loc 2, .int n] μ from call_loc' (fn := f_law_pull) rfl rfl rfl]
  suffices h : xR (callB prog N0 (cF k) f_law_pull [.loc 2, .int n] μ) (fun d μ' => ∃ v : Nat, d = .int v ∧ (v : Int) < n ∧ Stm μ' ∧ Gr [0, 2] μ μ') noX by
    obtain ⟨d, μ', e, v, rfl, h⟩ := okR_ex.mp (xR_okR h fun _ _ z => z)
    exact ⟨v, μ', e, h⟩
  obtain ⟨gs, m, g2, g0, gp, gm, gl⟩ := s.ex
  have nat : ∀ i : Int, ∃ v : Nat, i % n = (v : Int) ∧ (v : Int) < n := fun i => ⟨(i % n).toNat, (Int.toNat_of_nonneg (Int.emod_nonneg _ (by omega))).symm, by rw [Int.toNat_of_nonneg (Int.emod_nonneg _ (by omega))]; exact Int.emod_lt_of_pos _ h0⟩
  have l2 : 2 < μ.length := (List.getElem?_eq_some_iff.mp g2).1
  have i0 : ixF prog.cst (.loc 2) (.int 0) μ = .ok (.loc 0) μ := ix_lst _ _ g2
  have ln : bfF .len (.loc 0) μ = .ok (.int gs.length) μ := by rw [len_lst _ g0, List.length_map]
  have md : ∀ i μ, binF .mod (.int i) (.int n) μ = .ok (.int (i % n)) μ := fun i μ => mod_ok h0 μ
  have dv : ∀ i μ, binF .fdiv (.int i) (.int n) μ = .ok (.int (i / n)) μ := fun i μ => div_ok h0 (by omega) μ
  rcases List.eq_nil_or_concat gs with hg | ⟨gs', x, hg⟩
  · subst hg
    have q0 : decide ((0 : Int) < ((0 : Nat) : Int)) = false := rfl
    have i1 : ixF prog.cst (.loc 2) (.int 1) μ = .ok (.int m) μ := ix_lst _ _ g2
    have st : ∀ v, setF (.loc 2) (.int 1) (.int v) μ = .ok () (μ.set 2 (.lst [.loc 0, .int v])) := fun v => by
      unfold setF
      simp only [g2]
      rfl
    have i2 : ∀ v, ixF prog.cst (.loc 2) (.int 1) (μ.set 2 (.lst [.loc 0, .int v])) = .ok (.int v) (μ.set 2 (.lst [.loc 0, .int v])) := fun v => ix_lst _ _ (List.getElem?_set_self l2)
    have m1 : ∀ i μ, binF .mul (.int i) (.int 39373) μ = .ok (.int (i * 39373)) μ := fun i μ => mul_sm (by decide) μ
    have d1 : ∀ i μ, binF .mod (.int i) (.int 2147483647) μ = .ok (.int (i % 2147483647)) μ := fun i μ => mod_ok (by decide) μ
    have d2 : ∀ i μ, binF .fdiv (.int i) (.int 89) μ = .ok (.int (i / 89)) μ := fun i μ => div_ok (by decide) (by decide) μ
    simp_arith [f_law_pull, i0, ln, q0, i1, m1, d1, st, i2, d2, md, handQ_rt]
    obtain ⟨v, ev, hv⟩ := nat ((m * 39373 + 86017) % 2147483647 / 89)
    exact ⟨v, by rw [ev], hv, ⟨[], _, List.getElem?_set_self l2, by rw [List.getElem?_set_ne (by omega)]; exact g0, by simp, Int.emod_nonneg _ (by decide), by simp⟩, gr_set (Gr.refl _ _) _ (.inl (by simp))⟩
  · rw [List.concat_eq_append] at hg
    subst hg
    have l0 : 0 < μ.length := by omega
    have q0 : decide ((0 : Int) < ((gs' ++ [x]).length : Int)) = true := decide_eq_true (by rw [List.length_append]; simp <;> omega)
    have il : isLstD (.loc 0) μ = true := mfOk_lst _ g0
    have po : methF prog.cst .pop (.loc 0) [] μ = .ok (.int x) (μ.set 0 (.lst (gs'.map .int))) := by
      unfold methF
      simp only [g0]
      rw [List.map_append, List.map_cons, List.map_nil]
      have : ((gs'.map D.int) ++ [D.int x])[((gs'.map D.int) ++ [D.int x]).length - 1]? = some (.int x) := by simp
      rw [this]
      simp
    have hx0 : 0 ≤ x := gp x (by simp)
    have gs0 : (μ.set 0 (.lst (gs'.map .int)))[0]? = some (.lst (gs'.map .int)) := List.getElem?_set_self l0
    have gl' : gs'.length + 1 ≤ 100 := by simpa using gl
    have il2 : isLstD (.loc 0) (μ.set 0 (.lst (gs'.map .int))) = true := mfOk_lst _ gs0
    have ap : ∀ y, methF prog.cst .append (.loc 0) [.int y] (μ.set 0 (.lst (gs'.map .int))) = .ok .non ((μ.set 0 (.lst (gs'.map .int))).set 0 (.lst (gs'.map .int ++ [.int y]))) := fun y => append_lst _ _ gs0 (by rw [List.length_map, mostLen_eq]; omega)
    obtain ⟨v, ev, hv⟩ := nat x
    cases hge : decide (n ≤ x) with
    | true =>
      simp_arith [f_law_pull, i0, ln, q0, il, po, hge, il2, ap, dv, md, handQ_rt]
      refine ⟨v, by rw [ev], hv, ⟨gs' ++ [x / n], m, ?_, ?_, ?_, gm, by simpa using gl'⟩, gr_set (gr_set (Gr.refl _ _) _ (.inl (by simp))) _ (.inl (by simp))⟩
      · rw [List.getElem?_set_ne (by omega), List.getElem?_set_ne (by omega)]; exact g2
      · rw [List.getElem?_set_self (by simpa using l0), List.map_append]; rfl
      · intro g hg
        rcases List.mem_append.mp hg with h | h
        · exact gp g (List.mem_append_left _ h)
        · rw [List.mem_singleton.mp h]; exact Int.ediv_nonneg hx0 (by omega)
    | false =>
      simp_arith [f_law_pull, i0, ln, q0, il, po, hge, md, handQ_rt]
      refine ⟨v, by rw [ev], hv, ⟨gs', m, ?_, gs0, fun g hg => gp g (List.mem_append_left _ hg), gm, by omega⟩, gr_set (Gr.refl _ _) _ (.inl (by simp))⟩
      rw [List.getElem?_set_ne (by omega)]; exact g2
/-- one of a tuple -/
theorem one_t {k : Nat} (hk : 2 ≤ k) {μ : Store} (s : Stm μ) {xs : List D} (h0 : xs ≠ []) (h1 : xs.length < 1000000) : ∃ (d : D) (μ' : Store), d ∈ xs ∧ cF k 1002 [.loc 2, .tup xs] μ = .ok d μ' ∧ Stm μ' ∧ Gr [0, 2] μ μ' := by
  obtain ⟨k, rfl⟩ : ∃ j, k = j + 1 := ⟨k - 1, by omega⟩
  have hp : 0 < xs.length := List.length_pos_iff.mpr h0
  obtain ⟨v, μ', e, hv, s', g⟩ := pull_ok (show 1 ≤ k by omega) s (n := xs.length) (by omega) (by omega)
  have hv' : v < xs.length := by omega
  have a1 := atIx_of (List.getElem?_eq_getElem hv')
  refine ⟨xs[v], μ', List.getElem_mem _, ?_, s', g⟩
  rw [show cF (k + 1) 1002 [.loc 2, .tup xs] μ = callB prog N0 (cF k) f_law_one [.loc 2, .tup xs] μ from call_loc' (fn := f_law_one) rfl rfl rfl]
  simp_arith [f_law_one, e, ix_tup, a1, okI_some, handed_rt]
/-- one of a list -/
theorem one_l {k : Nat} (hk : 2 ≤ k) {μ : Store} (s : Stm μ) {l : Nat} {xs : List D} (hl : μ[l]? = some (.lst xs)) (hl0 : l ≠ 0) (hl2 : l ≠ 2) (h0 : xs ≠ []) (h1 : xs.length < 1000000) : ∃ (d : D) (μ' : Store), d ∈ xs ∧ cF k 1002 [.loc 2, .loc l] μ = .ok d μ' ∧ Stm μ' ∧ Gr [0, 2] μ μ' := by
  obtain ⟨k, rfl⟩ : ∃ j, k = j + 1 := ⟨k - 1, by omega⟩
  have hp : 0 < xs.length := List.length_pos_iff.mpr h0
  obtain ⟨v, μ', e, hv, s', g⟩ := pull_ok (show 1 ≤ k by omega) s (n := xs.length) (by omega) (by omega)
  have hv' : v < xs.length := by omega
  have a1 := atIx_of (List.getElem?_eq_getElem hv')
  have ln : bfF .len (.loc l) μ = .ok (.int xs.length) μ := len_lst _ hl
  have ix : ∀ i, ixF prog.cst (.loc l) (.int i) μ' = okI (atIx xs i) μ' := fun i => ix_lst _ _ (g.get hl (by simp [hl0, hl2]))
  refine ⟨xs[v], μ', List.getElem_mem _, ?_, s', g⟩
  rw [show cF (k + 1) 1002 [.loc 2, .loc l] μ = callB prog N0 (cF k) f_law_one [.loc 2, .loc l] μ from call_loc' (fn := f_law_one) rfl rfl rfl]
  simp_arith [f_law_one, ln, e, ix, a1, okI_some, handed_rt]
end K86
end
section
set_option Elab.async false
set_option linter.all false
set_option autoImplicit false
set_option maxRecDepth 100000
set_option maxHeartbeats 1000000
namespace K86
open PL
def scrD (ns : List Int) : D := .rol (ns.map .int)
theorem data_ints : ∀ l : List Int, D.dataL (l.map .int) = true := dataL_map fun _ => rfl
theorem stream_ok {k : Nat} (hk : 1 ≤ k) (ns : List Int) : ∃ μ, cF k 1000 [scrD ns] [] = .ok (.loc 2) μ ∧ Stm μ := by
  obtain ⟨k, rfl⟩ : ∃ j, k = j + 1 := ⟨k - 1, by omega⟩
  have key : xR (callB prog N0 (cF k) f_law_stream [scrD ns] []) (fun d μ => d = .loc 2 ∧ Stm μ) noX := by
    have sl : slF (scrD ns) none (some 63) [Obj.lst []] = .ok (.loc 1) [.lst [], .lst ((ns.take 63).map .int)] := by
      show Res.ok (D.loc 1) [.lst [], .lst (cut (ns.map D.int) none (some ((63 : Nat) : Int)))] = _
      have : cut (ns.map D.int) none (some ((63 : Nat) : Int)) = (ns.take 63).map .int := by
        unfold cut clip
        simp only [List.length_map]
        rw [if_neg (by omega), List.drop_zero, List.map_take, Int.toNat_natCast]
        by_cases h : 63 ≤ ns.length
        · rw [Nat.min_eq_left h]
        · rw [Nat.min_eq_right (by omega)]
          rw [List.take_of_length_le (by simp), List.take_of_length_le (by simp; omega)]
      rw [this]
    have wl : walkF (.loc 1) [Obj.lst [], .lst ((ns.take 63).map .int)] = some (.lst 1 ((ns.take 63).map .int)) := rfl
    have n0 : PL.new (.lst []) [] = .ok (.loc 0) [Obj.lst []] := rfl
    simp_arith [f_law_stream, List.length_nil, sl, wl, okI_some, items_lst, start_lst]
    refine for_restL (w := .lst 1 ((ns.take 63).map .int)) D.int (fun r ρ μ => ∃ (gs : List Int) (m : Int) (x y : Option D), ρ = [some (scrD ns), some (.loc 0), some (.int m), x, y] ∧ μ = [.lst (gs.map .int), .lst ((ns.take 63).map .int)] ∧ (∀ g ∈ gs, 0 ≤ g) ∧ 0 ≤ m ∧ gs.length + r.length ≤ 63) (fun r ρ μ h => by obtain ⟨gs, m, x, y, _, h, _⟩ := h; rw [h]; rfl) ?_ ?_ (ns.take 63) _ _ ⟨[], _, _, _, rfl, rfl, by simp, by decide, by simp; omega⟩
    · rintro c r ρ μ ⟨gs, m, x, y, h7, h8, hg, hm, hl⟩
      subst h7 h8
      generalize hP : (1 : Int) * 2 ^ (2000 : Int).toNat = P
      have hP0 : 0 < P := by rw [← hP]; exact Int.mul_pos (by decide) (Int.pow_pos (by decide))
      have sh : ∀ μ, binF .shl (.int 1) (.int 2000) μ = .ok (.int P) μ := fun μ => by rw [shl_ok (by decide), hP]
      have md : ∀ i μ, binF .mod (.int i) (.int P) μ = .ok (.int (i % P)) μ := fun i μ => mod_ok hP0 μ
      have m1 : ∀ i μ, binF .mul (.int i) (.int 48271) μ = .ok (.int (i * 48271)) μ := fun i μ => mul_sm (by decide) μ
      have d1 : ∀ i μ, binF .mod (.int i) (.int 999983) μ = .ok (.int (i % 999983)) μ := fun i μ => mod_ok (by decide) μ
      have d2 : ∀ i μ, binF .mod (.int i) (.int 2147483647) μ = .ok (.int (i % 2147483647)) μ := fun i μ => mod_ok (by decide) μ
      have pw : ∀ μ, binF .pow (.int 10) (.int 18) μ = .ok (.int (10 ^ (18 : Int).toNat)) μ := fun μ => pow_ok' (by decide) μ
      generalize hs : (if c < 0 then -c else c) % P = sz at *
      have hs0 : 0 ≤ sz := by rw [← hs]; exact Int.emod_nonneg _ (by omega)
      rw [List.length_cons] at hl
      have ap : ∀ ys, methF prog.cst .append (.loc 0) [.int sz] [.lst (gs.map .int), .lst ys] = .ok .non [.lst ((gs ++ [sz]).map .int), .lst ys] := fun ys => by
        rw [append_lst (xs := gs.map .int) _ _ rfl (by rw [List.length_map, mostLen_eq]; omega), List.map_append]; rfl
      have il : ∀ ys, isLstD (.loc 0) [.lst (gs.map .int), .lst ys] = true := fun _ => rfl
      cases hq : decide ((10 : Int) ^ (18 : Int).toNat ≤ sz) with
      | true =>
        simp_arith [sh, md, hs, m1, d1, d2, pw, hq, il, ap]
        refine ⟨gs ++ [sz], _, _, _, rfl, rfl, fun g h => ?_, Int.emod_nonneg _ (by decide), by simp; omega⟩
        rcases List.mem_append.mp h with h | h
        · exact hg g h
        · rw [List.mem_singleton.mp h]; exact hs0
      | false =>
        simp_arith [sh, md, hs, m1, d1, d2, pw, hq]
        exact ⟨gs, _, _, _, rfl, rfl, hg, Int.emod_nonneg _ (by decide), by omega⟩
    · rintro ρ μ ⟨gs, m, x, y, h7, h8, hg, hm, hl⟩
      subst h7 h8
      simp_arith [handQ_rt]
      exact ⟨gs, m, rfl, rfl, hg, hm, by simp at hl; omega⟩
  obtain ⟨d, μ, e, rfl, s⟩ := okR_ex.mp (xR_okR key fun _ _ z => z)
  obtain ⟨gs, m, g2, g0, h⟩ := s.ex
  refine ⟨μ.map (Obj.shift 0), ?_, gs, m, ?_, ?_, h⟩
  · rw [show cF (k + 1) 1000 [scrD ns] [] = if D.dataL [scrD ns] then graft (callB prog N0 (cF k) f_law_stream [scrD ns] []) [] else callB prog N0 (cF k) f_law_stream [scrD ns] [] from callEq (fn := f_law_stream) rfl rfl]
    have hd : D.dataL [scrD ns] = true := by show (D.dataL (ns.map .int) && true) = true; rw [data_ints]; rfl
    rw [if_pos hd, e]
    unfold graft
    simp only [D.data, g2]
    rfl
  · rw [List.getElem?_map, g2]; rfl
  · rw [List.getElem?_map, g0]
    show some (Obj.lst (D.shiftL 0 (gs.map .int))) = _
    have : ∀ l : List Int, D.shiftL 0 (l.map .int) = l.map .int := fun l => by
      induction l with
      | nil => rfl
      | cons a l ih => rw [List.map_cons, D.shiftL, ih]; rfl
    rw [this]
end K86
end
section
set_option Elab.async false
set_option linter.all false
set_option autoImplicit false
set_option maxRecDepth 100000
set_option maxHeartbeats 1000000
namespace K86
open PL
/-! ### boards drawn -/
def eB (m n habit : Nat) (most : Txt) (T : Nat) (row K col kind : Option D) : Env := [some (.loc 2), some (.int m), some (.int n), some (.int habit), some (.str most), some (.loc T), row, K, col, kind]
section
variable {k m n habit T : Nat} {most kd : Txt} {row K col kind : Option D} {μ : Store} {Q : Flow → Env → Store → Prop} {E : Exc → Env → Store → Prop}
def s1 : S := .asg (.nm 9) (.call 1002 (.cons (.v 0) (.cons (.call 1004 .nil) .nil)))
theorem s1_ok (hk : 2 ≤ k) (s : Stm μ) (hQ : ∀ kd μ', kd ∈ K8 → Stm μ' → Gr [0, 2] μ μ' → Q .nx (eB m n habit most T row K col (some (.str kd))) μ') : xS (ex prog.cst (cF k) N0 s1 (eB m n habit most T row K col kind) μ) Q E := by
  obtain ⟨d, μ', hd, e, s', g⟩ := one_t hk s (xs := K8.map .str) (by decide) (by decide)
  have e' : cF k 1002 [.loc 2, kD] μ = .ok d μ' := e
  obtain ⟨kd, hk8, rfl⟩ := List.mem_map.mp hd
  simp_arith [s1, eB, kinds_call (show 1 ≤ k by omega), e']
  exact hQ kd μ' hk8 s' g
def s2 : S := .ite (.or (.and (.cmp .eq (.v 3) (.int 1)) (.cmp .eq (.v 9) (.str []))) (.and (.cmp .eq (.v 3) (.int 2)) (.cmp .gt (.call 1001 (.cons (.v 0) (.cons (.int 4) .nil))) (.int 0)))) (.cons (.asg (.nm 9) (.v 4)) .nil) .nil
theorem s2_ok (hk : 1 ≤ k) (s : Stm μ) (hm : most ∈ K8) (hkd : kd ∈ K8) (hQ : ∀ kd μ', kd ∈ K8 → Stm μ' → Gr [0, 2] μ μ' → Q .nx (eB m n habit most T row K col (some (.str kd))) μ') : xS (ex prog.cst (cF k) N0 s2 (eB m n habit most T row K col (some (.str kd))) μ) Q E := by
  obtain ⟨v, μ', e, hv, s', g⟩ := pull_ok hk s (n := 4) (by decide) (by decide)
  cases h1 : ((habit : Int) == 1) with
  | true =>
    have h2 : ((habit : Int) == 2) = false := by rw [beq_iff_eq] at h1; rw [h1]; rfl
    cases h3 : (kd == ([] : Txt)) with
    | true => simp_arith [s2, eB, h1, h3]; exact hQ most μ hm s (Gr.refl _ _)
    | false => simp_arith [s2, eB, h1, h3, h2]; exact hQ kd μ hkd s (Gr.refl _ _)
  | false =>
    cases h2 : ((habit : Int) == 2) with
    | true =>
      cases h4 : decide ((0 : Int) < (v : Int)) with
      | true => simp_arith [s2, eB, h1, h2, e, h4]; exact hQ most μ' hm s' g
      | false => simp_arith [s2, eB, h1, h2, e, h4]; exact hQ kd μ' hkd s' g
    | false => simp_arith [s2, eB, h1, h2]; exact hQ kd μ hkd s (Gr.refl _ _)
def s3 : S := .ite (.cmp .eq (.v 3) (.int 3)) (.cons (.asg (.nm 9) (.str [100, 115, 117])) .nil) .nil
theorem s3_ok (s : Stm μ) (hkd : kd ∈ K8) (hQ : ∀ kd μ', kd ∈ K8 → Stm μ' → Gr [0, 2] μ μ' → Q .nx (eB m n habit most T row K col (some (.str kd))) μ') : xS (ex prog.cst (cF k) N0 s3 (eB m n habit most T row K col (some (.str kd))) μ) Q E := by
  cases h1 : ((habit : Int) == 3) with
  | true => simp_arith [s3, eB, h1]; exact hQ _ μ (by decide) s (Gr.refl _ _)
  | false => simp_arith [s3, eB, h1]; exact hQ kd μ hkd s (Gr.refl _ _)
def s4 : S := .ite (.and (.cmp .eq (.v 3) (.int 4)) (.cmp .eq (.call 1001 (.cons (.v 0) (.cons (.int 3) .nil))) (.int 0))) (.cons (.asg (.nm 9) (.str [])) .nil) .nil
theorem s4_ok (hk : 1 ≤ k) (s : Stm μ) (hkd : kd ∈ K8) (hQ : ∀ kd μ', kd ∈ K8 → Stm μ' → Gr [0, 2] μ μ' → Q .nx (eB m n habit most T row K col (some (.str kd))) μ') : xS (ex prog.cst (cF k) N0 s4 (eB m n habit most T row K col (some (.str kd))) μ) Q E := by
  obtain ⟨v, μ', e, hv, s', g⟩ := pull_ok hk s (n := 3) (by decide) (by decide)
  cases h1 : ((habit : Int) == 4) with
  | true =>
    cases h2 : ((v : Int) == 0) with
    | true => simp_arith [s4, eB, h1, e, h2]; exact hQ _ μ' (by decide) s' g
    | false => simp_arith [s4, eB, h1, e, h2]; exact hQ kd μ' hkd s' g
  | false => simp_arith [s4, eB, h1]; exact hQ kd μ hkd s (Gr.refl _ _)
def s5 : S := .ite (.cmp .eq (.v 3) (.int 5)) (.cons (.asg (.nm 9) (.call 1002 (.cons (.v 0) (.cons (.tup (.cons (.str [100, 117]) (.cons (.str [115, 117]) (.cons (.str [100, 117]) (.cons (.str [100, 115]) .nil))))) .nil)))) .nil) .nil
theorem s5_ok (hk : 2 ≤ k) (s : Stm μ) (hkd : kd ∈ K8) (hQ : ∀ kd μ', kd ∈ K8 → Stm μ' → Gr [0, 2] μ μ' → Q .nx (eB m n habit most T row K col (some (.str kd))) μ') : xS (ex prog.cst (cF k) N0 s5 (eB m n habit most T row K col (some (.str kd))) μ) Q E := by
  obtain ⟨d, μ', hd, e, s', g⟩ := one_t hk s (xs := [.str [100, 117], .str [115, 117], .str [100, 117], .str [100, 115]]) (by decide) (by decide)
  obtain ⟨kd', hk8, rfl⟩ : ∃ kd', kd' ∈ K8 ∧ d = .str kd' := by
    simp only [List.mem_cons, List.not_mem_nil, or_false] at hd
    rcases hd with rfl | rfl | rfl | rfl
    · exact ⟨[100, 117], by decide, rfl⟩
    · exact ⟨[115, 117], by decide, rfl⟩
    · exact ⟨[100, 117], by decide, rfl⟩
    · exact ⟨[100, 115], by decide, rfl⟩
  cases h1 : ((habit : Int) == 5) with
  | true => simp_arith [s5, eB, h1, e]; exact hQ kd' μ' hk8 s' g
  | false => simp_arith [s5, eB, h1]; exact hQ kd μ hkd s (Gr.refl _ _)
def s6 : S := .ex (.meth .append (.v 7) (.cons (.v 9) .nil))
def inner : Ss := .cons s1 (.cons s2 (.cons s3 (.cons s4 (.cons s5 (.cons s6 .nil)))))
theorem inner_ok (hk : 2 ≤ k) (s : Stm μ) (hm : most ∈ K8) {Kl : Nat} (hK0 : Kl ≠ 0) (hK2 : Kl ≠ 2) {kk : List Txt} (hKl : μ[Kl]? = some (.lst (kk.map .str))) (hl : kk.length ≤ 100)
    (hQ : ∀ kd μ', kd ∈ K8 → Stm μ' → Gr [0, 2] μ μ' → Q .nx (eB m n habit most T row (some (.loc Kl)) col (some (.str kd))) (μ'.set Kl (.lst ((kk ++ [kd]).map .str)))) :
    xS (exs prog.cst (cF k) N0 inner (eB m n habit most T row (some (.loc Kl)) col kind) μ) Q E := by
  unfold inner
  rw [exs_cons, xS_next]
  refine s1_ok hk s fun k1 μ1 hk1 t1 g1 => ?_
  rw [thenX_nx, exs_cons, xS_next]
  refine s2_ok (by omega) t1 hm hk1 fun k2 μ2 hk2 t2 g2 => ?_
  rw [thenX_nx, exs_cons, xS_next]
  refine s3_ok t2 hk2 fun k3 μ3 hk3 t3 g3 => ?_
  rw [thenX_nx, exs_cons, xS_next]
  refine s4_ok (by omega) t3 hk3 fun k4 μ4 hk4 t4 g4 => ?_
  rw [thenX_nx, exs_cons, xS_next]
  refine s5_ok hk t4 hk4 fun k5 μ5 hk5 t5 g5 => ?_
  have g := g1.trans (g2.trans (g3.trans (g4.trans g5)))
  have hl5 := g.get hKl (by simp [hK0, hK2])
  have il : isLstD (.loc Kl) μ5 = true := mfOk_lst _ hl5
  have ap := append_lst prog.cst μ5 (d := .str k5) hl5 (by rw [List.length_map, mostLen_eq]; omega)
  simp_arith [s6, eB, il, ap]
  have := hQ k5 μ5 hk5 t5 g
  rw [List.map_append] at this
  exact this
/-! the greatest of texts -/
theorem max_strs : ∀ (l : List Txt) (a : Txt), ∃ t, maxDD (.str a) (l.map .str) = .str t ∧ t ∈ a :: l ∧ (t = [] → a = [] ∧ ∀ x ∈ l, x = [])
  | [], a => ⟨a, rfl, by simp, fun h => ⟨h, by simp⟩⟩
  | y :: l, a => by
    have e : maxDD (.str a) ((y :: l).map .str) = maxDD (.str (if a < y then y else a)) (l.map .str) := by
      show maxDD (if decide (a < y) then D.str y else D.str a) (l.map .str) = _
      by_cases h : a < y <;> simp [h]
    rw [e]
    obtain ⟨t, h1, h2, h3⟩ := max_strs l (if a < y then y else a)
    refine ⟨t, h1, ?_, fun ht => ?_⟩
    · rcases List.mem_cons.mp h2 with h | h
      · rw [h]; split <;> simp
      · simp [h]
    · obtain ⟨h4, h5⟩ := h3 ht
      by_cases h : a < y
      · rw [if_pos h] at h4
        subst h4
        exact absurd h (by simp)
      · rw [if_neg h] at h4
        subst h4
        have hy : y = [] := by
          cases y with
          | nil => rfl
          | cons c y => exact absurd (List.nil_lt_cons c y) h
        exact ⟨rfl, fun x hx => by rcases List.mem_cons.mp hx with rfl | hx; exact hy; exact h5 x hx⟩
end
end K86
end
section
set_option Elab.async false
set_option linter.all false
set_option autoImplicit false
set_option maxRecDepth 100000
set_option maxHeartbeats 1000000
namespace K86
open PL
theorem cntT_pos : ∀ {r : List Txt} {x : Txt}, x ∈ r → x ≠ [] → 0 < cntT r
  | y :: r, x, hx, h => by
    show 0 < cntT r + if y = [] then 0 else 1
    rcases List.mem_cons.mp hx with rfl | hx
    · rw [if_neg h]; omega
    · have := cntT_pos hx h; omega
theorem cntB_pos : ∀ {b : Board} {r : List Txt} {x : Txt}, r ∈ b → x ∈ r → x ≠ [] → 0 < cntB b
  | y :: b, r, x, hr, hx, h => by
    show 0 < cntT y + cntB b
    rcases List.mem_cons.mp hr with rfl | hr
    · have := cntT_pos hx h; omega
    · have := cntB_pos hr hx h; omega
theorem flat_strs {l : List Txt} (h : ∀ s ∈ l, s ∈ K8) : flatOk (l.map .str) = true := by
  unfold flatOk
  rw [Bool.or_eq_true]
  right
  refine List.all_eq_true.mpr fun d hd => ?_
  obtain ⟨s, hs, rfl⟩ := List.mem_map.mp hd
  exact k8_plain s (h s hs)
theorem max_row_ok {r : List Txt} (h : ∀ s ∈ r, s ∈ K8) (h0 : r ≠ []) (μ : Store) : ∃ t, bfF .max (rowD r) μ = .ok (.str t) μ ∧ t ∈ r ∧ (t = [] → ∀ x ∈ r, x = []) := by
  cases r with
  | nil => exact absurd rfl h0
  | cons a l =>
    obtain ⟨t, h1, h2, h3⟩ := max_strs l a
    have hf : flatOk (.str a :: l.map .str) = true := flat_strs (l := a :: l) h
    refine ⟨t, ?_, h2, fun e x hx => ?_⟩
    · show bfF .max (.tup (.str a :: l.map .str)) μ = _
      rw [max_row, h1, if_pos hf]
    · rcases List.mem_cons.mp hx with rfl | hx
      · exact (h3 e).1
      · exact (h3 e).2 x hx
theorem max_lst_ok {C : Nat} {μ : Store} {r : List Txt} (hC : μ[C]? = some (.lst (r.map .str))) (h : ∀ s ∈ r, s ∈ K8) (h0 : r ≠ []) : ∃ t, bfF .max (.loc C) μ = .ok (.str t) μ ∧ t ∈ r ∧ (t = [] → ∀ x ∈ r, x = []) := by
  cases r with
  | nil => exact absurd rfl h0
  | cons a l =>
    obtain ⟨t, h1, h2, h3⟩ := max_strs l a
    have hf : flatOk (.str a :: l.map .str) = true := flat_strs (l := a :: l) h
    refine ⟨t, ?_, h2, fun e x hx => ?_⟩
    · unfold bfF rowF
      simp only [hC, List.map_cons]
      rw [if_pos hf, h1]
    · rcases List.mem_cons.mp hx with rfl | hx
      · exact (h3 e).1
      · exact (h3 e).2 x hx
theorem board_ok {k : Nat} (hk : 3 ≤ k) {μ : Store} (s : Stm μ) {m n : Nat} (hm1 : 1 ≤ m) (hm8 : m ≤ 8) (hn1 : 1 ≤ n) (hn8 : n ≤ 8) : ∃ (b : Board) (μ' : Store), Bok b m n ∧ 0 < cntB b ∧ cF k 1005 [.loc 2, .int m, .int n] μ = .ok (bD b) μ' ∧ Stm μ' ∧ Gr [0, 2] μ μ' := by
  obtain ⟨k, rfl⟩ : ∃ j, k = j + 1 := ⟨k - 1, by omega⟩
  have hk : 2 ≤ k := by omega
  rw [show cF (k + 1) 1005 [.loc 2, .int m, .int n] μ = callB prog N0 (cF k) f_law_board [.loc 2, .int m, .int n] μ from call_loc' (fn := f_law_board) rfl rfl rfl]
  suffices h : xR (callB prog N0 (cF k) f_law_board [.loc 2, .int m, .int n] μ) (fun d μ' => ∃ b : Board, d = bD b ∧ Bok b m n ∧ 0 < cntB b ∧ Stm μ' ∧ Gr [0, 2] μ μ') noX by
    obtain ⟨d, μ', e, b, rfl, h1, h2, h3⟩ := okR_ex.mp (xR_okR h fun _ _ z => z)
    exact ⟨b, μ', h1, h2, e, h3⟩
  obtain ⟨habit, μ1, e1, _, t1, g1⟩ := pull_ok (show 1 ≤ k by omega) s (n := 7) (by decide) (by decide)
  obtain ⟨v, μ2, e2, hv, t2, g2⟩ := pull_ok (show 1 ≤ k by omega) t1 (n := 7) (by decide) (by decide)
  obtain ⟨most, hmost, hne, ixm⟩ : ∃ most, most ∈ K8 ∧ most ≠ [] ∧ ixF prog.cst kD (.int (1 + (v : Int))) μ2 = .ok (.str most) μ2 := by
    rcases (by omega : v = 0 ∨ v = 1 ∨ v = 2 ∨ v = 3 ∨ v = 4 ∨ v = 5 ∨ v = 6) with rfl | rfl | rfl | rfl | rfl | rfl | rfl
    · exact ⟨[100], by decide, by decide, rfl⟩
    · exact ⟨[115], by decide, by decide, rfl⟩
    · exact ⟨[117], by decide, by decide, rfl⟩
    · exact ⟨[100, 115], by decide, by decide, rfl⟩
    · exact ⟨[100, 117], by decide, by decide, rfl⟩
    · exact ⟨[115, 117], by decide, by decide, rfl⟩
    · exact ⟨[100, 115, 117], by decide, by decide, rfl⟩
  have g12 := g1.trans g2
  have hT3 := t2.len
  simp_arith [f_law_board, e1, e2, kinds_call (show 1 ≤ k by omega), ixm, rng_ok (show m ≤ 1000000 by omega)]
  generalize hT : μ2.length = T at *
  have key := for_idx (xs := List.replicate m ()) (n := m) (by simp) (asg := asgT prog.cst (callF prog N0 k) (.nm 6)) (body := exs prog.cst (callF prog N0 k) N0 (.cons (.asg (.nm 7) (.lst .nil)) (.cons (.fr (.nm 8) (.rng (.v 2)) inner) (.cons (.ex (.meth .append (.v 5) (.cons (.bf .tuple (.v 7)) .nil))) .nil)))) (E := fun x _ μ => noX x μ) (Q := fun f ρ μ' => f = .nx ∧ ∃ (b : Board) (x K c q : Option D), ρ = eB m n habit most T x K c q ∧ μ'[T]? = some (.lst (b.map rowD)) ∧ Bok b m n ∧ Stm μ' ∧ Gr [0, 2] μ μ')
    (fun i r ρ μ' => ∃ (b : Board) (x K c q : Option D), ρ = eB m n habit most T x K c q ∧ μ'[T]? = some (.lst (b.map rowD)) ∧ b.length = i ∧ (∀ x ∈ b, x.length = n ∧ ∀ s ∈ x, s ∈ K8) ∧ Stm μ' ∧ Gr [0, 2] μ μ') ?_ ?_ [some (.loc 2), some (.int m), some (.int n), some (.int habit), some (.str most), some (.loc T), none, none, none, none] (μ2 ++ [.lst []]) ⟨[], none, none, none, none, rfl, by rw [← hT]; exact get_new _ _, rfl, by simp, t2.app _, g12.trans (Gr.app _ _ _)⟩
  · refine xS_mono key (fun f ρ μ' h => ?_) fun _ _ _ z => z
    obtain ⟨rfl, b, x, K, c, q, rfl, hTl, B, t3, g3⟩ := h
    unfold eB
    have B1 := B.r; have B2 := B.r1
    have wl : walkF (.loc T) μ' = some (.lst T (b.map rowD)) := walk_lst _ hTl
    have hT' : T < μ'.length := (List.getElem?_eq_some_iff.mp hTl).1
    simp_arith [wl, okI_some]
    refine okR_xR (comp_restL (w := .lst T (b.map rowD)) rowD (fun r acc μ4 => ∃ done ms, b = done ++ r ∧ acc = ms.map D.str ∧ μ4[μ'.length]? = some (.lst acc) ∧ ms.length = done.length ∧ (∀ t ∈ ms, ∃ r ∈ b, t ∈ r) ∧ ((∀ t ∈ ms, t = []) → ∀ r ∈ done, ∀ x ∈ r, x = []) ∧ Gr [] μ' μ4) (fun r acc μ4 h => by obtain ⟨_, _, _, _, _, _, _, _, g⟩ := h; exact g.get hTl (by simp)) ?_ ?_ b [] _ ⟨[], [], rfl, rfl, get_new _ _, rfl, by simp, by simp, Gr.app _ _ _⟩)
    · rintro r rs acc μ4 ⟨done, ms, hb, hacc, hl, hlen, hin, hz, g4⟩
      have hrb : r ∈ b := by rw [hb]; simp
      have hbl : done.length < b.length := by rw [hb]; simp
      obtain ⟨t, et, ht1, ht2⟩ := max_row_ok (B.k r hrb) (fun e => by have := B.c r hrb; rw [e] at this; simp at this; omega) μ4
      have hl4 : μ'.length < μ4.length := (List.getElem?_eq_some_iff.mp hl).1
      simp_arith [et]
      refine ⟨hl, by rw [hacc, List.length_map, mostLen_eq]; have := B.r8; omega, done ++ [r], ms ++ [t], by rw [hb]; simp, by rw [hacc, List.map_append]; rfl, List.getElem?_set_self hl4, by simp [hlen], ?_, ?_, g4.set _ (.inr (Nat.le_refl _))⟩
      · intro u hu
        rcases List.mem_append.mp hu with h | h
        · exact hin u h
        · rw [List.mem_singleton.mp h]; exact ⟨r, hrb, ht1⟩
      · intro hu r2 hr2
        rcases List.mem_append.mp hr2 with h | h
        · exact hz (fun t ht => hu t (List.mem_append_left _ ht)) r2 h
        · rw [List.mem_singleton.mp h]; exact ht2 (hu t (by simp))
    · rintro acc μ4 ⟨done, ms, hb, hacc, hl, hlen, hin, hz, g4⟩
      rw [List.append_nil] at hb
      subst hb
      subst hacc
      have hms : ms ≠ [] := fun e => by rw [e] at hlen; simp at hlen; omega
      obtain ⟨t, et, ht1, ht2⟩ := max_lst_ok hl (fun u hu => let ⟨r, hr, h⟩ := hin u hu; B.k r hr u h) hms
      have hT4 := g4.get hTl (by simp)
      have t4 := gr_stm g4 t3
      have g5 := g3.trans (g4.nil (T := [0, 2]))
      have st : (Wk.lst T (b.map rowD)).stop μ4 = μ4 := rfl
      cases hte : (t == ([] : Txt)) with
      | false =>
        have tp : bfF .tuple (.loc T) μ4 = .ok (.tup (b.map rowD)) μ4 := tuple_lst _ hT4
        simp_arith [st, et, hte, tp, handQ_rt]
        obtain ⟨r, hr, hx⟩ := hin t ht1
        exact ⟨b, rfl, B, cntB_pos hr hx (by simpa using hte), t4, g5⟩
      | true =>
        have hte' : t = [] := by simpa using hte
        rcases List.eq_nil_or_concat b with h0 | ⟨b', last, h0⟩
        · rw [h0] at B1; simp at B1; omega
        · rw [List.concat_eq_append] at h0
          subst h0
          have il : isLstD (.loc T) μ4 = true := mfOk_lst _ hT4
          have hTl4 : T < μ4.length := (List.getElem?_eq_some_iff.mp hT4).1
          have po : methF prog.cst .pop (.loc T) [] μ4 = .ok (rowD last) (μ4.set T (.lst (b'.map rowD))) := by
            unfold methF
            simp only [hT4]
            rw [List.map_append, List.map_cons, List.map_nil]
            have : ((b'.map rowD) ++ [rowD last])[((b'.map rowD) ++ [rowD last]).length - 1]? = some (rowD last) := by simp
            rw [this]
            simp
          have hTs : (μ4.set T (.lst (b'.map rowD)))[T]? = some (.lst (b'.map rowD)) := List.getElem?_set_self hTl4
          have il2 : isLstD (.loc T) (μ4.set T (.lst (b'.map rowD))) = true := mfOk_lst _ hTs
          have hb8 : b'.length + 1 = m := by simpa using B1
          have sl : ∀ μ, slF (rowD last) (some 1) none μ = .ok (rowD (last.drop 1)) μ := fun μ => by
            show Res.ok (D.tup (cut (last.map D.str) (some 1) none)) μ = _
            have : cut (last.map D.str) (some 1) none = (last.drop 1).map D.str := by
              unfold cut clip
              simp only [List.length_map]
              rw [if_neg (by omega), List.map_drop]
              have hl1 := B.c last (by simp)
              rw [show min (1 : Int).toNat last.length = 1 by simp; omega]
              rw [List.take_of_length_le (by simp)]
            rw [this]; rfl
          have ad : ∀ μ, binF .add (.tup [.str most]) (rowD (last.drop 1)) μ = .ok (rowD (most :: last.drop 1)) μ := fun μ => by
            show (if [D.str most].length + ((last.drop 1).map D.str).length ≤ mostLen then Res.ok (D.tup ([.str most] ++ (last.drop 1).map .str)) μ else .stuck) = _
            have hl1 := B.c last (by simp)
            rw [if_pos (by simp [mostLen_eq]; omega)]
            rfl
          have ap := append_lst prog.cst (μ4.set T (.lst (b'.map rowD))) (d := rowD (most :: last.drop 1)) hTs (by rw [List.length_map, mostLen_eq]; omega)
          have tp : bfF .tuple (.loc T) ((μ4.set T (.lst (b'.map rowD))).set T (.lst (b'.map rowD ++ [rowD (most :: last.drop 1)]))) = .ok (.tup (b'.map rowD ++ [rowD (most :: last.drop 1)])) ((μ4.set T (.lst (b'.map rowD))).set T (.lst (b'.map rowD ++ [rowD (most :: last.drop 1)]))) := tuple_lst _ (List.getElem?_set_self (by simpa using hTl4))
          have T0 : T ≠ 0 := by omega
          have T2 : T ≠ 2 := by omega
          have Tμ : μ.length ≤ T := by have := g12.len; omega
          simp_arith [st, et, hte, il, po, il2, sl, ad, ap, tp, handQ_rt]
          refine ⟨b' ++ [most :: last.drop 1], by unfold bD; rw [List.map_append]; rfl, ⟨by simpa using hb8, ?_, hm1, hn1, hm8, hn8, ?_⟩, cntB_pos (r := most :: last.drop 1) (x := most) (by simp) (by simp) hne, (t4.set _ T0 T2).set _ T0 T2, gr_set (gr_set g5 _ (.inr Tμ)) _ (.inr Tμ)⟩
          · intro x hx
            rcases List.mem_append.mp hx with h | h
            · exact B.c x (List.mem_append_left _ h)
            · rw [List.mem_singleton.mp h]
              have hl1 := B.c last (by simp)
              simp; omega
          · intro x hx u hu
            rcases List.mem_append.mp hx with h | h
            · exact B.k x (List.mem_append_left _ h) u hu
            · rw [List.mem_singleton.mp h] at hu
              rcases List.mem_cons.mp hu with rfl | hu
              · exact hmost
              · exact B.k last (by simp) u (List.mem_of_mem_drop hu)
  · rintro i x r ρ μ3 hx _ ⟨b, x1, K1, c1, q1, rfl, hTl, hbl, hbk, t3, g3⟩
    have hi : i < m := by simpa using (List.getElem?_eq_some_iff.mp hx).1
    have hK3 := t3.len
    simp_arith [eB, rng_ok (show n ≤ 1000000 by omega)]
    generalize hK : μ3.length = Kl at *
    have hTl' : T < μ3.length := (List.getElem?_eq_some_iff.mp hTl).1
    have Tμ : μ.length ≤ T := by have := g12.len; omega
    refine for_idx (xs := List.replicate n ()) (n := n) (by simp) (fun j r ρ μ4 => ∃ (kk : List Txt) (c q : Option D), ρ = eB m n habit most T (some (.int i)) (some (.loc Kl)) c q ∧ μ4[Kl]? = some (.lst (kk.map .str)) ∧ μ4[T]? = some (.lst (b.map rowD)) ∧ kk.length = j ∧ (∀ s ∈ kk, s ∈ K8) ∧ Stm μ4 ∧ Gr [0, 2] μ μ4) ?_ ?_ _ _ ⟨[], c1, q1, rfl, by rw [← hK]; exact get_new _ _, by rw [List.getElem?_append_left (by omega)]; exact hTl, rfl, by simp, t3.app _, g3.trans (Gr.app _ _ _)⟩
    · rintro j y r2 ρ μ4 hy _ ⟨kk, c, q, rfl, hKl, hT4, hkl, hkk, t4, g4⟩
      have hj : j < n := by simpa using (List.getElem?_eq_some_iff.mp hy).1
      have e8 : ∀ μ, asgT prog.cst (callF prog N0 k) (.nm 8) (.int (j : Int)) (eB m n habit most T (some (.int i)) (some (.loc Kl)) c q) μ = .ok (eB m n habit most T (some (.int i)) (some (.loc Kl)) (some (.int j)) q) μ := fun μ => by rw [asgT_nm]; rfl
      rw [e8, xR_ok]
      refine inner_ok hk t4 hmost (by omega) (by omega) hKl (by omega) fun kd μ5 hkd t5 g5 => ?_
      rw [retS_nx]
      have hl5 : Kl < μ5.length := by
        have := (List.getElem?_eq_some_iff.mp hKl).1
        have := g5.len
        omega
      refine ⟨kk ++ [kd], _, _, rfl, List.getElem?_set_self hl5, ?_, by simp [hkl], ?_, t5.set _ (by omega) (by omega), gr_set (g4.trans g5) _ (.inr (by omega))⟩
      · rw [List.getElem?_set_ne (by omega)]
        exact g5.get hT4 (by simp; omega)
      · intro s hs
        rcases List.mem_append.mp hs with h | h
        · exact hkk s h
        · rw [List.mem_singleton.mp h]; exact hkd
    · rintro ρ μ4 ⟨kk, c, q, h7, hKl, hT4, hkl, hkk, t4, g4⟩
      subst h7
      have hkl : kk.length = n := by simpa using hkl
      have il : isLstD (.loc T) μ4 = true := mfOk_lst _ hT4
      have tp : bfF .tuple (.loc Kl) μ4 = .ok (rowD kk) μ4 := tuple_lst _ hKl
      have ap := append_lst prog.cst μ4 (d := rowD kk) hT4 (by rw [List.length_map, mostLen_eq]; omega)
      have hT4' : T < μ4.length := (List.getElem?_eq_some_iff.mp hT4).1
      unfold eB
      simp_arith [il, tp, ap]
      refine ⟨b ++ [kk], _, _, _, _, rfl, by rw [List.map_append]; exact List.getElem?_set_self hT4', by simp [hbl], ?_, t4.set _ (by omega) (by omega), gr_set g4 _ (.inr Tμ)⟩
      intro x hx
      rcases List.mem_append.mp hx with h | h
      · exact hbk x h
      · rw [List.mem_singleton.mp h]; exact ⟨hkl, hkk⟩
  · rintro ρ μ' ⟨b, x, K, c, q, h7, hTl, hbl, hbk, t3, g3⟩
    exact ⟨rfl, b, x, K, c, q, h7, hTl, ⟨by simpa using hbl, fun x hx => (hbk x hx).1, hm1, hn1, hm8, hn8, fun x hx => (hbk x hx).2⟩, t3, g3⟩
end K86
end
section
set_option Elab.async false
set_option linter.all false
set_option autoImplicit false
set_option maxRecDepth 100000
set_option maxHeartbeats 1000000
namespace K86
open PL
/-! ### stores in which the lists stay lists -/
def Le (μ μ' : Store) : Prop := ∀ l, isL μ l = true → isL μ' l = true
theorem Le.refl (μ : Store) : Le μ μ := fun _ h => h
theorem Le.trans {a b c : Store} (h : Le a b) (k : Le b c) : Le a c := fun l z => k l (h l z)
theorem isL_of {μ : Store} {l : Nat} {xs : List D} (h0 : l ≠ 0) (h2 : l ≠ 2) (h : μ[l]? = some (.lst xs)) : isL μ l = true := by
  unfold isL; rw [h]; simp [h0, h2]
theorem isL_ex {μ : Store} {l : Nat} (h : isL μ l = true) : l ≠ 0 ∧ l ≠ 2 ∧ ∃ xs, μ[l]? = some (.lst xs) := by
  unfold isL at h
  simp only [Bool.and_eq_true, decide_eq_true_eq] at h
  refine ⟨h.1.1, h.1.2, ?_⟩
  cases e : μ[l]? with
  | none => rw [e] at h; exact absurd h.2 (by simp)
  | some o =>
    rw [e] at h
    cases o with
    | lst xs => exact ⟨xs, rfl⟩
    | dK _ _ => exact absurd h.2 (by simp)
    | dT _ _ => exact absurd h.2 (by simp)
theorem Le.gr {μ μ' : Store} (h : Gr [0, 2] μ μ') : Le μ μ' := fun l z => by
  obtain ⟨h0, h2, xs, e⟩ := isL_ex z
  exact isL_of h0 h2 (h.get e (by simp [h0, h2]))
theorem Le.set (μ : Store) (l : Nat) (xs : List D) : Le μ (μ.set l (.lst xs)) := fun j z => by
  obtain ⟨h0, h2, ys, e⟩ := isL_ex z
  by_cases q : l = j
  · subst q
    exact isL_of h0 h2 (List.getElem?_set_self (List.getElem?_eq_some_iff.mp e).1)
  · exact isL_of h0 h2 (by rw [List.getElem?_set_ne q]; exact e)
theorem le_sn {μ μ' : Store} (h : Le μ μ') {d : D} (e : Sn μ d) : Sn μ' d := sn_mono h d e
theorem sn_tup {μ : Store} {xs : List D} (h : xs.length ≤ 1000) (e : ∀ d ∈ xs, Sn μ d) : Sn μ (.tup xs) := by
  show (decide (xs.length ≤ 1000) && snL (isL μ) xs) = true
  rw [decide_eq_true h, snL_of e]; rfl
theorem sn_loc {μ : Store} {l : Nat} {xs : List D} (h0 : l ≠ 0) (h2 : l ≠ 2) (h : μ[l]? = some (.lst xs)) : Sn μ (.loc l) := isL_of h0 h2 h
/-- a text of n signs at most, of ASCII -/
def Ts (n : Nat) (s : Txt) : Prop := s.length ≤ n ∧ ∀ c ∈ s, c < 128
theorem Ts.sn {n : Nat} {s : Txt} (h : Ts n s) (hn : n ≤ 1000) (μ : Store) : Sn μ (.str s) := by
  show (decide (s.length ≤ 1000) && s.all fun c => decide (c < 1114112)) = true
  rw [decide_eq_true (by have := h.1; omega), Bool.true_and, List.all_eq_true]
  intro c hc
  have := h.2 c hc
  exact decide_eq_true (by omega)
theorem Ts.mono {n m : Nat} {s : Txt} (h : Ts n s) (k : n ≤ m) : Ts m s := ⟨by have := h.1; omega, h.2⟩
theorem Ts.app {n m : Nat} {s t : Txt} (h : Ts n s) (k : Ts m t) : Ts (n + m) (s ++ t) := ⟨by have := h.1; have := k.1; simp; omega, fun c hc => by
  rcases List.mem_append.mp hc with z | z
  · exact h.2 c z
  · exact k.2 c z⟩
theorem k8_ts : ∀ s ∈ K8, Ts 3 s := by
  intro s hs
  refine ⟨k8_len s hs, ?_⟩
  have : ∀ s ∈ K8, ∀ c ∈ s, c < 128 := by decide
  exact this s hs
theorem Ts.take {n : Nat} {s : Txt} (h : Ts n s) (i : Nat) : Ts n (s.take i) := ⟨by have := h.1; simp; omega, fun c hc => h.2 c (List.mem_of_mem_take hc)⟩
theorem Ts.drop {n : Nat} {s : Txt} (h : Ts n s) (i : Nat) : Ts n (s.drop i) := ⟨by have := h.1; simp; omega, fun c hc => h.2 c (List.mem_of_mem_drop hc)⟩
theorem Ts.rev {n : Nat} {s : Txt} (h : Ts n s) : Ts n s.reverse := ⟨by have := h.1; simp; omega, fun c hc => h.2 c (by simpa using hc)⟩
/-! ### slices -/
theorem cut_to {α : Type} (xs : List α) (i : Nat) : cut xs none (some (i : Int)) = xs.take i := by
  unfold cut clip
  simp only
  rw [if_neg (by omega), List.drop_zero, Int.toNat_natCast]
  rcases Nat.le_total i xs.length with h | h
  · rw [Nat.min_eq_left h]; rfl
  · rw [Nat.min_eq_right h, List.take_of_length_le (by simp), List.take_of_length_le h]
theorem cut_from {α : Type} (xs : List α) (i : Nat) : cut xs (some (i : Int)) none = xs.drop i := by
  unfold cut clip
  simp only
  rw [if_neg (by omega), Int.toNat_natCast]
  rcases Nat.le_total i xs.length with h | h
  · rw [Nat.min_eq_left h, List.take_of_length_le (by simp)]
  · rw [Nat.min_eq_right h, List.drop_eq_nil_of_le (Nat.le_refl _), List.drop_eq_nil_of_le h, List.take_nil]
theorem cut_to1 {α : Type} (xs : List α) : cut xs none (some (-1)) = xs.take (xs.length - 1) := by
  unfold cut clip
  simp only
  rw [if_pos (by omega), List.drop_zero]
  congr 1; omega
theorem cut_from1 {α : Type} (xs : List α) : cut xs (some (-1)) none = xs.drop (xs.length - 1) := by
  unfold cut clip
  simp only
  rw [if_pos (by omega)]
  rw [show (-1 + (xs.length : Int)).toNat = xs.length - 1 by omega, List.take_of_length_le (by simp)]
theorem take_set {α : Type} (x : α) : ∀ (xs : List α) (i : Nat), i < xs.length → xs.take i ++ (x :: xs.drop (i + 1)) = xs.set i x
  | a :: xs, 0, _ => rfl
  | a :: xs, i + 1, h => by
    rw [List.set_cons_succ, ← take_set x xs i (by simpa using h)]; rfl
theorem dataL_set {x : D} (h : D.data x = true) : ∀ (xs : List D) (i : Nat), D.dataL xs = true → D.dataL (xs.set i x) = true
  | [], _, _ => rfl
  | a :: xs, 0, e => by
    rw [D.dataL, Bool.and_eq_true] at e
    rw [List.set_cons_zero, D.dataL, h, e.2]; rfl
  | a :: xs, i + 1, e => by
    rw [D.dataL, Bool.and_eq_true] at e
    rw [List.set_cons_succ, D.dataL, e.1, dataL_set h xs i e.2]; rfl
theorem put_ok {k : Nat} (hk : 1 ≤ k) {xs : List D} {i : Nat} (x : D) (hl : xs.length ≤ 1000) (hi : i < xs.length) (μ : Store) : cF k 1006 [.tup xs, .int i, x] μ = .ok (.tup (xs.set i x)) μ := by
  obtain ⟨k, rfl⟩ : ∃ j, k = j + 1 := ⟨k - 1, by omega⟩
  have body : ∀ μ, callB prog N0 (cF k) f_law_put [.tup xs, .int i, x] μ = .ok (.tup (xs.set i x)) μ := fun μ => by
    have e1 : cut xs (some ((i : Int) + 1)) none = xs.drop (i + 1) := cut_from xs (i + 1)
    have l1 : (xs.take i).length + 1 ≤ mostLen := by rw [mostLen_eq]; simp; omega
    have l2 : (xs.take i ++ [x]).length + (xs.drop (i + 1)).length ≤ mostLen := by rw [mostLen_eq]; simp; omega
    simp_arith [f_law_put, cut_to, e1, if_pos l1, if_pos l2]
    rw [← take_set x xs i hi]
    simp
  rw [show cF (k + 1) 1006 [.tup xs, .int i, x] μ = if D.dataL [.tup xs, .int i, x] then graft (callB prog N0 (cF k) f_law_put [.tup xs, .int i, x] []) μ else callB prog N0 (cF k) f_law_put [.tup xs, .int i, x] μ from callEq (fn := f_law_put) rfl rfl]
  rw [body, body]
  by_cases hd : D.dataL [.tup xs, .int i, x] = true
  · rw [if_pos hd]
    have : D.data (.tup (xs.set i x)) = true := by
      have hd : (D.dataL xs && (true && (D.data x && true))) = true := hd
      simp only [Bool.true_and, Bool.and_true, Bool.and_eq_true] at hd
      exact dataL_set hd.2 xs i hd.1
    show (if D.data (.tup (xs.set i x)) then Res.ok (D.tup (xs.set i x)) μ else _) = _
    rw [if_pos this]
  · rw [if_neg hd]
theorem sn_set {μ : Store} {xs : List D} {i : Nat} {x : D} (h : Sn μ (.tup xs)) (hx : Sn μ x) : Sn μ (.tup (xs.set i x)) := by
  obtain ⟨h1, h2⟩ := sn_tups h
  refine sn_tup (by simpa using h1) fun d hd => ?_
  rcases List.mem_or_eq_of_mem_set hd with z | rfl
  · exact h2 d z
  · exact hx
theorem sn_row {r : List Txt} {n : Nat} (h : ∀ s ∈ r, Ts n s) (hn : n ≤ 1000) (hr : r.length ≤ 1000) (μ : Store) : Sn μ (rowD r) :=
  sn_tup (by simpa using hr) fun d hd => by
    obtain ⟨s, hs, rfl⟩ := List.mem_map.mp hd
    exact (h s hs).sn hn μ
theorem Bok.sn {b : Board} {m n : Nat} (B : Bok b m n) (μ : Store) : Sn μ (bD b) :=
  sn_tup (by have := B.r; have := B.r8; simp; omega) fun d hd => by
    obtain ⟨r, hr, rfl⟩ := List.mem_map.mp hd
    exact sn_row (fun s hs => k8_ts s (B.k r hr s hs)) (by decide) (by have := B.c r hr; have := B.c8; omega) μ
theorem Bok.snr {b : Board} {m n : Nat} (B : Bok b m n) {r : List Txt} (hr : r ∈ b) (μ : Store) : Sn μ (rowD r) :=
  sn_row (fun s hs => k8_ts s (B.k r hr s hs)) (by decide) (by have := B.c r hr; have := B.c8; omega) μ
end K86
end
section
set_option Elab.async false
set_option linter.all false
set_option autoImplicit false
set_option maxRecDepth 100000
set_option maxHeartbeats 1000000
namespace K86
open PL
/-! ### settings drawn -/
def fitR : List Txt → Txt → Bool
  | [], [] => true
  | kd :: r, c :: s => fitK kd c && fitR r s
  | _, _ => false
def fitB : Board → List Txt → Bool
  | [], [] => true
  | r :: b, s :: t => fitR r s && fitB b t
  | _, _ => false
theorem fitR_app : ∀ {r : List Txt} {s : Txt} {kd : Txt} {c : Nat}, fitR r s = true → fitK kd c = true → fitR (r ++ [kd]) (s ++ [c]) = true
  | [], [], kd, c, _, h => by show (fitK kd c && true) = true; rw [h]; rfl
  | a :: r, x :: s, kd, c, h, hk => by
    rw [fitR, Bool.and_eq_true] at h
    show (fitK a x && fitR (r ++ [kd]) (s ++ [c])) = true
    rw [h.1, fitR_app h.2 hk]; rfl
theorem fitB_app : ∀ {b : Board} {t : List Txt} {r : List Txt} {s : Txt}, fitB b t = true → fitR r s = true → fitB (b ++ [r]) (t ++ [s]) = true
  | [], [], r, s, _, h => by show (fitR r s && true) = true; rw [h]; rfl
  | a :: b, x :: t, r, s, h, hk => by
    rw [fitB, Bool.and_eq_true] at h
    show (fitR a x && fitB (b ++ [r]) (t ++ [s])) = true
    rw [h.1, fitB_app h.2 hk]; rfl
theorem fitR_len : ∀ {r : List Txt} {s : Txt}, fitR r s = true → s.length = r.length
  | [], [], _ => rfl
  | a :: r, x :: s, h => by
    rw [fitR, Bool.and_eq_true] at h
    simp [fitR_len h.2]
theorem fitB_len : ∀ {b : Board} {t : List Txt}, fitB b t = true → t.length = b.length
  | [], [], _ => rfl
  | a :: r, x :: s, h => by
    rw [fitB, Bool.and_eq_true] at h
    simp [fitB_len h.2]
theorem fitK_lt {kd : Txt} {c : Nat} (hk : kd ∈ K8) (h : fitK kd c = true) : c < 128 := by
  unfold fitK at h
  split at h
  · have : c = 35 := by simpa using h
    omega
  · exact (k8_ts kd hk).2 c (by simpa using h)
theorem fitR_ts : ∀ {r : List Txt} {s : Txt}, (∀ x ∈ r, x ∈ K8) → fitR r s = true → ∀ c ∈ s, c < 128
  | [], [], _, _, c, hc => nomatch hc
  | a :: r, x :: s, hk, h, c, hc => by
    rw [fitR, Bool.and_eq_true] at h
    rcases List.mem_cons.mp hc with rfl | hc
    · exact fitK_lt (hk a (by simp)) h.1
    · exact fitR_ts (fun x hx => hk x (by simp [hx])) h.2 c hc
theorem fitB_row : ∀ {b : Board} {t : List Txt}, fitB b t = true → ∀ s ∈ t, ∃ r ∈ b, fitR r s = true
  | [], [], _, s, hs => nomatch hs
  | a :: b, x :: t, h, s, hs => by
    rw [fitB, Bool.and_eq_true] at h
    rcases List.mem_cons.mp hs with rfl | hs
    · exact ⟨a, by simp, h.1⟩
    · obtain ⟨r, hr, e⟩ := fitB_row h.2 s hs
      exact ⟨r, by simp [hr], e⟩
theorem scanZ_fit {i : Nat} : ∀ {r : List Txt} {s : Txt} {j : Nat}, fitR r s = true → scanZ i j (r.zip s) = none
  | [], [], _, _ => rfl
  | a :: r, x :: s, j, h => by
    rw [fitR, Bool.and_eq_true] at h
    show (if fitK a x then scanZ i (j + 1) (r.zip s) else _) = none
    rw [if_pos h.1]
    exact scanZ_fit h.2
theorem scanT_fit : ∀ {b : Board} {t : List Txt} {i : Nat}, fitB b t = true → scanT i (b.zip (t.map .str)) = none
  | [], [], _, _ => rfl
  | a :: b, x :: t, i, h => by
    rw [fitB, Bool.and_eq_true] at h
    show (match scanZ i 0 (a.zip x) with
      | some p => some p
      | none => scanT (i + 1) (b.zip (t.map .str))) = none
    rw [scanZ_fit h.1]
    exact scanT_fit h.2
theorem scanS_len {n : Nat} : ∀ {t : List Txt} {i : Nat}, (∀ s ∈ t, s.length = n) → scanS n i (t.map .str) = none
  | [], _, _ => rfl
  | x :: t, i, h => by
    show (if x.length = n then scanS n (i + 1) (t.map .str) else some i) = none
    rw [if_pos (h x (by simp))]
    exact scanS_len fun s hs => h s (by simp [hs])
theorem set_fit {b : Board} {m n : Nat} (B : Bok b m n) {t : List Txt} (h : fitB b t = true) : setR b (rowD t) = .ok (cntB b) := by
  have hl := fitB_len h
  show setR b (.tup (t.map .str)) = _
  rw [setR_eq, if_neg (by simp [hl]), (head_len B).1, scanS_len (fun s hs => by
    obtain ⟨r, hr, e⟩ := fitB_row h s hs
    rw [fitR_len e, B.c r hr])]
  simp only [scanT_fit h]
theorem fit_ts {b : Board} {m n : Nat} (B : Bok b m n) {t : List Txt} (h : fitB b t = true) : ∀ s ∈ t, Ts n s ∧ s.length = n := fun s hs => by
  obtain ⟨r, hr, e⟩ := fitB_row h s hs
  have := fitR_len e
  have := B.c r hr
  exact ⟨⟨by omega, fitR_ts (B.k r hr) e⟩, by omega⟩
def eT (b : Board) (habit : Nat) (T : Nat) (kinds signs kind many at_ : Option D) : Env := [some (.loc 2), some (bD b), some (.int habit), some (.loc T), kinds, signs, kind, many, at_]
theorem setting_ok {k : Nat} (hk : 2 ≤ k) {μ : Store} (s : Stm μ) {b : Board} {m n : Nat} (B : Bok b m n) : ∃ (t : List Txt) (μ' : Store), fitB b t = true ∧ cF k 1007 [.loc 2, bD b] μ = .ok (rowD t) μ' ∧ Stm μ' ∧ Gr [0, 2] μ μ' := by
  obtain ⟨k, rfl⟩ : ∃ j, k = j + 1 := ⟨k - 1, by omega⟩
  rw [show cF (k + 1) 1007 [.loc 2, bD b] μ = callB prog N0 (cF k) f_law_setting [.loc 2, bD b] μ from call_loc' (fn := f_law_setting) rfl rfl rfl]
  suffices h : xR (callB prog N0 (cF k) f_law_setting [.loc 2, bD b] μ) (fun d μ' => ∃ t : List Txt, d = rowD t ∧ fitB b t = true ∧ Stm μ' ∧ Gr [0, 2] μ μ') noX by
    obtain ⟨d, μ', e, t, rfl, h1, h2⟩ := okR_ex.mp (xR_okR h fun _ _ z => z)
    exact ⟨t, μ', h1, e, h2⟩
  obtain ⟨habit, μ1, e1, hh, t1, g1⟩ := pull_ok (show 1 ≤ k by omega) s (n := 4) (by decide) (by decide)
  have hT3 := t1.len
  have hm8 := B.r; have hm88 := B.r8
  have wb : ∀ μ, walkF (bD b) μ = some (.row (b.map rowD)) := fun _ => rfl
  simp_arith [f_law_setting, e1, wb]
  generalize hT : μ1.length = T at *
  have hμT : μ.length ≤ T := by have := g1.len; omega
  refine for_restL (w := .row (b.map rowD)) rowD (fun r ρ μ' => ∃ (done : Board) (t : List Txt) (x1 x2 x3 x4 x5 : Option D), b = done ++ r ∧ ρ = eT b habit T x1 x2 x3 x4 x5 ∧ μ'[T]? = some (.lst (t.map .str)) ∧ fitB done t = true ∧ Stm μ' ∧ Gr [0, 2] μ μ') (fun _ _ _ _ => trivial) ?_ ?_ b _ _ ⟨[], [], none, none, none, none, none, rfl, rfl, by rw [← hT]; exact get_new _ _, rfl, t1.app _, g1.trans (Gr.app _ _ _)⟩
  · rintro r rs ρ μ3 ⟨done, t, x1, x2, x3, x4, x5, hb, h7, hTl, hf, t3, g3⟩
    subst h7
    have hrb : r ∈ b := by rw [hb]; simp
    have hrn := B.c r hrb
    have hn8 := B.c8
    have wr : ∀ μ, walkF (rowD r) μ = some (.row (r.map .str)) := fun _ => rfl
    simp_arith [eT, wr]
    refine for_restL (w := .row (r.map D.str)) D.str (fun q ρ μ' => ∃ (d : List Txt) (sg : Txt) (x3 x4 x5 : Option D), r = d ++ q ∧ ρ = eT b habit T (some (rowD r)) (some (.str sg)) x3 x4 x5 ∧ μ'[T]? = some (.lst (t.map .str)) ∧ fitR d sg = true ∧ Stm μ' ∧ Gr [0, 2] μ μ') (fun _ _ _ _ => trivial) ?_ ?_ r _ _ ⟨[], [], x3, x4, x5, rfl, rfl, hTl, rfl, t3, g3⟩
    · rintro kd q ρ μ4 ⟨d, sg, y3, y4, y5, hr, h7, hTl4, hfr, t4, g4⟩
      subst h7
      have hkd : kd ∈ K8 := B.k r hrb kd (by rw [hr]; simp)
      have hk3 := k8_len kd hkd
      obtain ⟨M, hM, hM1, hM3, hMk⟩ : ∃ M : Nat, (if (kd.length : Int) > 1 then (kd.length : Int) else 1) = (M : Int) ∧ 1 ≤ M ∧ M ≤ 3 ∧ (kd ≠ [] → M = kd.length) := by
        by_cases h : (kd.length : Int) > 1
        · exact ⟨kd.length, by rw [if_pos h], by omega, by omega, fun _ => rfl⟩
        · refine ⟨1, by rw [if_neg h]; rfl, by omega, by omega, fun h0 => ?_⟩
          have := List.length_pos_iff.mpr h0
          omega
      obtain ⟨v1, μ5, e5, hv1, t5, g5⟩ := pull_ok (show 1 ≤ k by omega) t4 (n := (M : Int)) (by omega) (by omega)
      obtain ⟨v2, μ6, e6, hv2, t6, g6⟩ := pull_ok (show 1 ≤ k by omega) t5 (n := (M : Int)) (by omega) (by omega)
      obtain ⟨v, hv, ix⟩ : ∃ v : Nat, v < M ∧ ∀ μ, okI (atIx [D.int 0, .int ((M : Int) - 1), .int v1, .int v2] (habit : Int)) μ = .ok (.int v) μ := by
        rcases (by omega : habit = 0 ∨ habit = 1 ∨ habit = 2 ∨ habit = 3) with rfl | rfl | rfl | rfl
        · exact ⟨0, by omega, fun _ => rfl⟩
        · exact ⟨M - 1, by omega, fun _ => by rw [show ((M - 1 : Nat) : Int) = (M : Int) - 1 by omega]; rfl⟩
        · exact ⟨v1, by omega, fun _ => rfl⟩
        · exact ⟨v2, by omega, fun _ => rfl⟩
      have hlk : kd.length ≤ mostLen := by rw [mostLen_eq]; omega
      have hsl := fitR_len hfr
      have hdl : d.length < r.length := by rw [hr]; simp
      have g := g4.trans (g5.trans g6)
      have hT6 := (g5.trans g6).get hTl4 (by simp; omega)
      have hsg1 : sg.length + 1 ≤ mostLen := by rw [mostLen_eq]; omega
      cases h0 : (kd == ([] : Txt)) with
      | true =>
        have hk0 : kd = [] := by simpa using h0
        have fk : fitK kd 35 = true := by unfold fitK; rw [if_pos hk0]; rfl
        simp_arith [eT, if_pos hlk, hM, e5, e6, ix, h0, if_pos hsg1]
        exact ⟨d ++ [kd], sg ++ [35], _, _, _, by rw [hr]; simp, rfl, hT6, fitR_app hfr fk, t6, g⟩
      | false =>
        have hk0 : kd ≠ [] := by simpa using h0
        have hvk : v < kd.length := by rw [← hMk hk0]; exact hv
        have ik : ∀ μ, okI (Option.map (fun c => D.str [c]) (atIx kd (v : Int))) μ = .ok (.str [kd[v]]) μ := fun μ => by
          rw [atIx_of (List.getElem?_eq_getElem hvk)]; rfl
        have fk : fitK kd kd[v] = true := by unfold fitK; rw [if_neg hk0]; simp
        simp_arith [eT, if_pos hlk, hM, e5, e6, ix, h0, ik, if_pos hsg1]
        exact ⟨d ++ [kd], sg ++ [kd[v]], _, _, _, by rw [hr]; simp, rfl, hT6, fitR_app hfr fk, t6, g⟩
    · rintro ρ μ4 ⟨d, sg, y3, y4, y5, hr, h7, hTl4, hfr, t4, g4⟩
      subst h7
      rw [List.append_nil] at hr
      subst hr
      have il : isLstD (.loc T) μ4 = true := mfOk_lst _ hTl4
      have htl := fitB_len hf
      have hdl : done.length < b.length := by rw [hb]; simp
      have ap := append_lst prog.cst μ4 (d := .str sg) hTl4 (by rw [List.length_map, mostLen_eq]; omega)
      have hT4' : T < μ4.length := (List.getElem?_eq_some_iff.mp hTl4).1
      simp_arith [eT, il, ap]
      refine ⟨done ++ [r], t ++ [sg], _, _, _, _, _, by rw [hb]; simp, rfl, by rw [List.map_append]; exact List.getElem?_set_self hT4', fitB_app hf hfr, t4.set _ (by omega) (by omega), gr_set g4 _ (.inr hμT)⟩
  · rintro ρ μ3 ⟨done, t, x1, x2, x3, x4, x5, hb, h7, hTl, hf, t3, g3⟩
    subst h7
    rw [List.append_nil] at hb
    subst hb
    have tp : bfF .tuple (.loc T) μ3 = .ok (rowD t) μ3 := tuple_lst _ hTl
    simp_arith [eT, tp, handQ_rt]
    exact ⟨t, rfl, hf, t3, g3⟩
end K86
end
section
set_option Elab.async false
set_option linter.all false
set_option autoImplicit false
set_option maxRecDepth 100000
set_option maxHeartbeats 1000000
namespace K86
open PL
/-! ### comprehensions without a test -/
theorem gr_set0 {μ0 μ : Store} (g : Gr [] μ0 μ) {l : Nat} (o : Obj) (hl : μ0.length ≤ l) : Gr [] μ0 (μ.set l o) := Gr.set g o (.inr hl)
theorem comp_all {w : Wk} {turn : D → Store → Res (Option D)} {α : Type} (e : α → D) {xs : List α} {μ0 : Store} (G : Store → D → Prop) (hG : ∀ {μ μ' d}, Le μ μ' → G μ d → G μ' d)
    (hw : ∀ μ, Gr [] μ0 μ → w.stands μ) (hx : xs.length ≤ 1000)
    (step : ∀ a ∈ xs, ∀ μ, Gr [] μ0 μ → okR (turn (e a) μ) fun o μ' => ∃ d, o = some d ∧ G μ' d ∧ Gr [] μ μ') {P : Unit → Store → Prop}
    (fin : ∀ ys μ, ys.length = xs.length → μ[μ0.length]? = some (.lst ys) → (∀ d ∈ ys, G μ d) → Gr [] μ0 μ → P () μ) : okR (compL w μ0.length turn (xs.map e) (μ0 ++ [.lst []])) P := by
  refine comp_restL e (fun r acc μ => ∃ done, xs = done ++ r ∧ acc.length = done.length ∧ μ[μ0.length]? = some (.lst acc) ∧ (∀ d ∈ acc, G μ d) ∧ Gr [] μ0 μ) (fun r acc μ ⟨_, _, _, _, _, g⟩ => hw μ g) ?_ ?_ xs [] _ ⟨[], rfl, rfl, get_new _ _, by simp, Gr.app _ _ _⟩
  · rintro a r acc μ ⟨done, hx2, hl, hm, hg, g⟩
    refine okR_mono (step a (by rw [hx2]; simp) μ g) fun o μ1 => ?_
    rintro ⟨d, rfl, gd, g1⟩
    have hdl : done.length < xs.length := by rw [hx2]; simp
    have hm1 := g1.get hm (by simp)
    have l1 : μ0.length < μ1.length := (List.getElem?_eq_some_iff.mp hm1).1
    refine ⟨hm1, by rw [mostLen_eq]; omega, done ++ [a], by rw [hx2]; simp, by simp [hl], List.getElem?_set_self l1, ?_, gr_set0 (g.trans g1) _ (Nat.le_refl _)⟩
    intro x hx
    rcases List.mem_append.mp hx with h | h
    · exact hG ((Le.gr g1.nil).trans (Le.set _ _ _)) (hg x h)
    · rw [List.mem_singleton.mp h]; exact hG (Le.set _ _ _) gd
  · rintro acc μ ⟨done, hx2, hl, hm, hg, g⟩
    rw [List.append_nil] at hx2
    subst hx2
    exact fin acc μ hl hm hg g
/-! ### joins -/
theorem strs_map : ∀ l : List Txt, strsOf (l.map .str) = some l
  | [] => rfl
  | a :: l => by rw [List.map_cons, strsOf, strs_map l]; rfl
theorem sumLen_le {n : Nat} : ∀ {l : List Txt}, (∀ s ∈ l, Ts n s) → sumLen [] l ≤ n * l.length
  | [], _ => by simp [sumLen]
  | a :: l, h => by
    have h1 := sumLen_le (l := l) fun s hs => h s (by simp [hs])
    have h2 := (h a (by simp)).1
    show a.length + 0 + sumLen [] l ≤ n * (l.length + 1)
    rw [Nat.mul_add]; omega
theorem joinT_ts {n : Nat} : ∀ {l : List Txt}, (∀ s ∈ l, Ts n s) → Ts (n * l.length) (joinT [] l)
  | [], _ => ⟨by simp [joinT], by simp [joinT]⟩
  | [a], h => by show Ts (n * 1) a; rw [Nat.mul_one]; exact h a (by simp)
  | a :: b :: l, h => by
    have h1 := joinT_ts (l := b :: l) fun s hs => h s (List.mem_cons_of_mem _ hs)
    have h2 := (h a (by simp)).app h1
    exact h2.mono (by rw [List.length_cons (a := a), Nat.mul_add]; omega)
theorem join_ok {d : D} {l : List Txt} {μ : Store} (C : Nat → List (Key × D)) (hr : rowF d μ = some (l.map .str)) {n : Nat} (h : ∀ s ∈ l, Ts n s) (hn : n * l.length ≤ 100000) : methF C .join (.str []) [d] μ = .ok (.str (joinT [] l)) μ := by
  unfold methF
  simp only [hr, strs_map]
  rw [if_pos (Nat.le_trans (sumLen_le h) (by rw [mostLen_eq]; omega))]
/-! ### odd kinds -/
theorem odd_ok {k : Nat} (hk : 1 ≤ k) {kd : Txt} (h : kd ∈ K8) {μ : Store} (h3 : 3 ≤ μ.length) : ∃ (l : Nat) (xs : List D) (μ' : Store), cF k 1013 [.str kd] μ = .ok (.loc l) μ' ∧ μ'[l]? = some (.lst xs) ∧ xs.length = 25 ∧ (∀ d ∈ xs, Sn μ' d) ∧ Gr [] μ μ' ∧ μ.length ≤ l := by
  obtain ⟨k, rfl⟩ : ∃ j, k = j + 1 := ⟨k - 1, by omega⟩
  have tk := k8_ts kd h
  have l3 := tk.1
  have a1 : kd.length + 1 ≤ mostLen := by rw [mostLen_eq]; omega
  have a2 : kd.length + kd.length ≤ mostLen := by rw [mostLen_eq]; omega
  have a3 : kd.length ≤ mostLen := by rw [mostLen_eq]; omega
  have pw : ∀ μ, binF .pow (.int 10) (.int 60) μ = .ok (.int (10 ^ (60 : Int).toNat)) μ := fun μ => pow_ok' (by decide) μ
  have c1 : cut kd none (some 1) = kd.take 1 := cut_to kd 1
  have ad : ∀ (xs ys : List D) (o : Obj), xs.length ≤ 30 → ys.length ≤ 30 → binF .add (.loc 1) (.loc 2) [o, .lst xs, .lst ys] = .ok (.loc 3) [o, .lst xs, .lst ys, .lst (xs ++ ys)] := fun xs ys o h1 h2 => add_lst rfl rfl (by rw [mostLen_eq]; omega)
  generalize hP : (10 : Int) ^ (60 : Int).toNat = P at *
  have sl : ∀ μ, slF (.str kd) none (some 1) μ = .ok (.str (kd.take 1)) μ := fun μ => by rw [slF_str, if_pos a3, c1]
  have key : ∃ xs : List D, callB prog N0 (cF k) f_law_odd_kinds [.str kd] [] = .ok (.loc 3) [.lst [.str [100]], .lst (xs.take 21), .lst (xs.drop 21), .lst xs] ∧ xs.length = 25 ∧ D.dataL xs = false ∧ ∀ d ∈ xs, d = .loc 0 ∨ (D.shift μ.length d = d ∧ ∀ μ, Sn μ d) := by
    refine ⟨[.str [68], .str [115, 100], .str [100, 100], .str [120], .str [100, 115, 117, 120], .str [35], .str [32, 100], .str [100, 117, 32], .str (kd ++ [100]), .str (kd ++ kd), .str [117, 115, 100], .non, .int 1, .bl true, .int 0, .tup [.str [100]], .loc 0, .tup [.str [100], .str [115]], .tup [], .str [100, 115, 10], .int (P - 1), .str [], .str [100, 115, 117], .str kd.reverse, .str (kd.take 1)], ?_, rfl, rfl, ?_⟩
    · simp_arith [f_law_odd_kinds, if_pos a1, if_pos a2, if_pos a3, pw, sl]
      rw [ad _ _ _ (Nat.le_of_ble_eq_true rfl) (Nat.le_of_ble_eq_true rfl)]
      simp_arith [handed_rt]
      rfl
    · intro d hd
      simp only [List.mem_cons, List.not_mem_nil, or_false] at hd
      have s9 : ∀ {s : Txt} μ, Ts 9 s → Sn μ (.str s) := fun μ h => h.sn (by decide) μ
      have t1 : Ts 9 (kd ++ [100]) := (tk.app (m := 1) (t := [100]) ⟨by decide, by decide⟩).mono (by decide)
      have t2 : Ts 9 (kd ++ kd) := (tk.app tk).mono (by decide)
      have t3 : Ts 9 kd.reverse := tk.rev.mono (by decide)
      have t4 : Ts 9 (kd.take 1) := (tk.take 1).mono (by decide)
      rcases hd with rfl | rfl | rfl | rfl | rfl | rfl | rfl | rfl | rfl | rfl | rfl | rfl | rfl | rfl | rfl | rfl | rfl | rfl | rfl | rfl | rfl | rfl | rfl | rfl | rfl
      all_goals first
        | exact .inr ⟨rfl, fun μ => rfl⟩
        | exact .inl rfl
        | exact .inr ⟨rfl, fun μ => s9 μ (by assumption)⟩
  obtain ⟨xs, e, hl, hd, hx⟩ := key
  have shm : ∀ l : List D, D.shiftL μ.length l = l.map (D.shift μ.length) := fun l => by
    induction l with
    | nil => rfl
    | cons a l ih => rw [D.shiftL, ih]; rfl
  rw [show cF (k + 1) 1013 [.str kd] μ = graft (callB prog N0 (cF k) f_law_odd_kinds [.str kd] []) μ from callEq (fn := f_law_odd_kinds) rfl rfl, e]
  have get : (μ ++ [Obj.lst [.str [100]], .lst (xs.take 21), .lst (xs.drop 21), .lst xs].map (Obj.shift μ.length))[μ.length + 3]? = some (.lst (xs.map (D.shift μ.length))) := by
    rw [List.getElem?_append_right (by omega), show μ.length + 3 - μ.length = 3 by omega]
    show some (Obj.lst (D.shiftL μ.length xs)) = _
    rw [shm]
  have get0 : (μ ++ [Obj.lst [.str [100]], .lst (xs.take 21), .lst (xs.drop 21), .lst xs].map (Obj.shift μ.length))[μ.length + 0]? = some (.lst [.str [100]]) := by
    rw [List.getElem?_append_right (by omega), show μ.length + 0 - μ.length = 0 by omega]
    rfl
  refine ⟨μ.length + 3, xs.map (D.shift μ.length), _, ?_, get, by simpa using hl, ?_, Gr.app _ _ _, by omega⟩
  · unfold graft
    simp only [D.data, List.getElem?_cons_succ, List.getElem?_cons_zero, hd, Bool.false_eq_true, if_false]
    rfl
  · intro d hd
    obtain ⟨a, ha, rfl⟩ := List.mem_map.mp hd
    rcases hx a ha with rfl | ⟨h1, h2⟩
    · exact sn_loc (l := μ.length + 0) (by omega) (by omega) get0
    · rw [h1]; exact h2 _
end K86
end
section
set_option Elab.async false
set_option linter.all false
set_option autoImplicit false
set_option maxRecDepth 100000
set_option maxHeartbeats 1000000
namespace K86
open PL
theorem snL_nil {p : Nat → Bool} : snL p [] = true := rfl
theorem snL_cons {p : Nat → Bool} {d : D} {l : List D} (h : sn p d = true) (k : snL p l = true) : snL p (d :: l) = true := by rw [snL, h, k]; rfl
theorem snL_app {p : Nat → Bool} {a b : List D} (h : snL p a = true) (k : snL p b = true) : snL p (a ++ b) = true := snL_of fun d hd => by
  rcases List.mem_append.mp hd with z | z
  · exact snL_mem h z
  · exact snL_mem k z
theorem le_snL {μ μ' : Store} (h : Le μ μ') {l : List D} (e : SnL μ l) : SnL μ' l := snL_mono h l e
theorem comp_allD {w : Wk} {turn : D → Store → Res (Option D)} {xs : List D} {μ0 : Store} (hw : ∀ μ, Gr [] μ0 μ → w.stands μ) (hx : xs.length ≤ 1000)
    (step : ∀ a ∈ xs, ∀ μ, Gr [] μ0 μ → okR (turn a μ) fun o μ' => ∃ d, o = some d ∧ Sn μ' d ∧ Gr [] μ μ') {P : Unit → Store → Prop}
    (fin : ∀ ys μ, ys.length = xs.length → μ[μ0.length]? = some (.lst ys) → SnL μ ys → Gr [] μ0 μ → P () μ) : okR (compL w μ0.length turn xs (μ0 ++ [.lst []])) P := by
  have := comp_all (w := w) (turn := turn) (fun d : D => d) (xs := xs) (μ0 := μ0) (fun μ d => Sn μ d) (fun h e => le_sn h e) hw hx step (P := P) fun ys μ h1 h2 h3 h4 => fin ys μ h1 h2 (snL_of h3) h4
  rwa [List.map_id'] at this
theorem comp_allS {w : Wk} {turn : D → Store → Res (Option D)} {α : Type} (e : α → D) {xs : List α} {μ0 : Store} (hw : ∀ μ, Gr [] μ0 μ → w.stands μ) (hx : xs.length ≤ 1000)
    (step : ∀ a ∈ xs, ∀ μ, Gr [] μ0 μ → okR (turn (e a) μ) fun o μ' => ∃ d, o = some d ∧ Sn μ' d ∧ Gr [] μ μ') {P : Unit → Store → Prop}
    (fin : ∀ ys μ, ys.length = xs.length → μ[μ0.length]? = some (.lst ys) → SnL μ ys → Gr [] μ0 μ → P () μ) : okR (compL w μ0.length turn (xs.map e) (μ0 ++ [.lst []])) P :=
  comp_all (w := w) (turn := turn) e (xs := xs) (μ0 := μ0) (fun μ d => Sn μ d) (fun h e => le_sn h e) hw hx step (P := P) fun ys μ h1 h2 h3 h4 => fin ys μ h1 h2 (snL_of h3) h4
/-- things gathered in a list at T -/
structure W (μ0 : Store) (T c : Nat) (μ : Store) : Prop where
  ls : ∃ xs, μ[T]? = some (.lst xs) ∧ xs.length ≤ c ∧ 0 < xs.length ∧ SnL μ xs
  st : Stm μ
  gr : Gr [0, 2] μ0 μ
  T0 : 3 ≤ T
  Tm : μ0.length ≤ T
def Newl (μ : Store) (c : Nat) : D → Store → Prop := fun d μ' => ∃ L ys, d = .loc L ∧ μ'[L]? = some (.lst ys) ∧ μ.length ≤ L ∧ ys.length ≤ c ∧ SnL μ' ys ∧ Stm μ' ∧ Gr [0, 2] μ μ'
theorem ext_ok {k : Nat} {ρ : Env} {v T c c2 : Nat} {μ0 μ : Store} {e : E} {Q : Flow → Env → Store → Prop} {E0 : Exc → Env → Store → Prop} (hv : ρ[v]? = some (some (.loc T))) (w : W μ0 T c μ) (he : okR (ev prog.cst (cF k) e ρ μ) (Newl μ c2)) (hc : c + c2 ≤ 1000)
    (hQ : ∀ μ', W μ0 T (c + c2) μ' → Gr [0, 2, T] μ μ' → Le μ μ' → Q .nx ρ μ') : xS (ex prog.cst (cF k) N0 (.ex (.meth .extend (.v v) (.cons e .nil))) ρ μ) Q E0 := by
  obtain ⟨xs, hx, hl, hp, hs⟩ := w.ls
  obtain ⟨d, μ', e1, L, ys, rfl, hL, hLm, hlc, hys, st, g⟩ := okR_ex.mp he
  have il : isLstD (.loc T) μ = true := mfOk_lst _ hx
  have T0 := w.T0; have Tm := w.Tm
  have hT : T < μ.length := (List.getElem?_eq_some_iff.mp hx).1
  have hx' := g.get hx (by simp; omega)
  have ex := ext_lst prog.cst hx' hL (by rw [mostLen_eq]; omega) (by omega)
  simp_arith [hv, il, e1, ex]
  have hT' : T < μ'.length := (List.getElem?_eq_some_iff.mp hx').1
  refine hQ _ ⟨⟨xs ++ ys, List.getElem?_set_self hT', by simp; omega, by simp; omega, ?_⟩, st.set _ (by omega) (by omega), gr_set (w.gr.trans g) _ (.inr Tm), T0, Tm⟩ ⟨by simp [g.len], fun j hj hs => ?_⟩ ((Le.gr g).trans (Le.set _ _ _))
  · exact snL_app (le_snL ((Le.gr g).trans (Le.set _ _ _)) hs) (le_snL (Le.set _ _ _) hys)
  · simp only [List.mem_cons, List.not_mem_nil, or_false, not_or] at hs
    rw [List.getElem?_set_ne (by omega), g.at_ j hj (by simp; omega)]
theorem app_ok {k : Nat} {ρ : Env} {v T c : Nat} {μ0 μ : Store} {e : E} {Q : Flow → Env → Store → Prop} {E0 : Exc → Env → Store → Prop} (hv : ρ[v]? = some (some (.loc T))) (w : W μ0 T c μ) (he : okR (ev prog.cst (cF k) e ρ μ) fun d μ' => Sn μ' d ∧ Stm μ' ∧ Gr [0, 2] μ μ') (hc : c ≤ 1000)
    (hQ : ∀ μ', W μ0 T (c + 1) μ' → Gr [0, 2, T] μ μ' → Le μ μ' → Q .nx ρ μ') : xS (ex prog.cst (cF k) N0 (.ex (.meth .append (.v v) (.cons e .nil))) ρ μ) Q E0 := by
  obtain ⟨xs, hx, hl, hp, hs⟩ := w.ls
  obtain ⟨d, μ', e1, hd, st, g⟩ := okR_ex.mp he
  have il : isLstD (.loc T) μ = true := mfOk_lst _ hx
  have T0 := w.T0; have Tm := w.Tm
  have hT : T < μ.length := (List.getElem?_eq_some_iff.mp hx).1
  have hx' := g.get hx (by simp; omega)
  have ap := append_lst prog.cst μ' (d := d) hx' (by rw [mostLen_eq]; omega)
  simp_arith [hv, il, e1, ap]
  have hT' : T < μ'.length := (List.getElem?_eq_some_iff.mp hx').1
  refine hQ _ ⟨⟨xs ++ [d], List.getElem?_set_self hT', by simp; omega, by simp, ?_⟩, st.set _ (by omega) (by omega), gr_set (w.gr.trans g) _ (.inr Tm), T0, Tm⟩ ⟨by simp [g.len], fun j hj hs => ?_⟩ ((Le.gr g).trans (Le.set _ _ _))
  · exact snL_app (le_snL ((Le.gr g).trans (Le.set _ _ _)) hs) (snL_cons (le_sn (Le.set _ _ _) hd) rfl)
  · simp only [List.mem_cons, List.not_mem_nil, or_false, not_or] at hs
    rw [List.getElem?_set_ne (by omega), g.at_ j hj (by simp; omega)]
/-! ### rows: list(), slices, +, * -/
section
variable {r : List Txt} {μ : Store}
theorem row_list : bfF .list (rowD r) μ = .ok (.loc μ.length) (μ ++ [.lst (r.map .str)]) := rfl
theorem row_from (i : Nat) : slF (rowD r) (some (i : Int)) none μ = .ok (rowD (r.drop i)) μ := by
  show Res.ok (D.tup (cut (r.map D.str) (some (i : Int)) none)) μ = _
  rw [cut_from, ← List.map_drop]; rfl
theorem row_to (i : Nat) : slF (rowD r) none (some (i : Int)) μ = .ok (rowD (r.take i)) μ := by
  show Res.ok (D.tup (cut (r.map D.str) none (some (i : Int)))) μ = _
  rw [cut_to, ← List.map_take]; rfl
theorem row_to1 : slF (rowD r) none (some (-1)) μ = .ok (rowD (r.take (r.length - 1))) μ := by
  show Res.ok (D.tup (cut (r.map D.str) none (some (-1)))) μ = _
  rw [cut_to1, ← List.map_take, List.length_map]; rfl
theorem row_add {q : List Txt} (h : r.length + q.length ≤ 1000) : binF .add (rowD r) (rowD q) μ = .ok (rowD (r ++ q)) μ := by
  show (if (r.map D.str).length + (q.map D.str).length ≤ mostLen then Res.ok (D.tup (r.map .str ++ q.map .str)) μ else .stuck) = _
  rw [if_pos (by rw [mostLen_eq]; simp; omega), ← List.map_append]; rfl
theorem row_mul {i : Nat} (h2 : 2 ≤ i) (hi : i ≤ 1000) (h0 : r ≠ []) (h : r.length ≤ 1000) : binF .mul (rowD r) (.int i) μ = .ok (rowD (List.replicate i r).flatten) μ := by
  show (if 2 ≤ (i : Int) ∧ (i : Int) ≤ 1000 ∧ r.map D.str ≠ [] ∧ (r.map D.str).length ≤ 1000 then Res.ok (D.tup (List.replicate (i : Int).toNat (r.map D.str)).flatten) μ else _) = _
  rw [if_pos ⟨by omega, by omega, by simpa using h0, by simpa using h⟩, Int.toNat_natCast]
  show _ = Res.ok (D.tup ((List.replicate i r).flatten.map D.str)) μ
  rw [List.map_flatten, List.map_replicate]
theorem row_mul1 {i : Nat} (h2 : 1 ≤ i) (hi : i ≤ 1000) (h0 : r ≠ []) (h : r.length ≤ 1000) : binF .mul (rowD r) (.int i) μ = .ok (rowD (List.replicate i r).flatten) μ := by
  rcases Nat.lt_or_ge 1 i with h1 | h1
  · exact row_mul h1 hi h0 h
  · obtain rfl : i = 1 := by omega
    show (if 2 ≤ ((1 : Nat) : Int) ∧ ((1 : Nat) : Int) ≤ 1000 ∧ r.map D.str ≠ [] ∧ (r.map D.str).length ≤ 1000 then Res.ok (D.tup (List.replicate ((1 : Nat) : Int).toNat (r.map D.str)).flatten) μ else if ((1 : Nat) : Int) = 1 then Res.ok (rowD r) μ else .stuck) = _
    rw [if_neg (by simp), if_pos (show ((1 : Nat) : Int) = 1 from rfl), List.replicate_succ, List.replicate_zero, List.flatten_cons, List.flatten_nil, List.append_nil]
theorem row_rv : rvF (rowD r) μ = .ok (rowD r.reverse) μ := by
  show Res.ok (D.tup (r.map D.str).reverse) μ = _
  rw [← List.map_reverse]; rfl
theorem row_len : bfF .len (rowD r) μ = .ok (.int r.length) μ := by
  show Res.ok (D.int (r.map D.str).length) μ = _; rw [List.length_map]
theorem row_ix (i : Int) : ixF prog.cst (rowD r) (.int i) μ = okI (atIx (r.map D.str) i) μ := rfl
theorem row_join {n : Nat} (h : ∀ s ∈ r, Ts n s) (hn : n * r.length ≤ 100000) : methF prog.cst .join (.str []) [rowD r] μ = .ok (.str (joinT [] r)) μ := join_ok prog.cst (d := rowD r) rfl h hn
end
section
variable {b : Board} {μ : Store}
theorem b_list : bfF .list (bD b) μ = .ok (.loc μ.length) (μ ++ [.lst (b.map rowD)]) := rfl
theorem b_from (i : Nat) : slF (bD b) (some (i : Int)) none μ = .ok (bD (b.drop i)) μ := by
  show Res.ok (D.tup (cut (b.map rowD) (some (i : Int)) none)) μ = _
  rw [cut_from, ← List.map_drop]; rfl
theorem b_add {q : Board} (h : b.length + q.length ≤ 1000) : binF .add (bD b) (bD q) μ = .ok (bD (b ++ q)) μ := by
  show (if (b.map rowD).length + (q.map rowD).length ≤ mostLen then Res.ok (D.tup (b.map rowD ++ q.map rowD)) μ else .stuck) = _
  rw [if_pos (by rw [mostLen_eq]; simp; omega), ← List.map_append]; rfl
theorem b_mul {i : Nat} (h2 : 2 ≤ i) (hi : i ≤ 1000) (h0 : b ≠ []) (h : b.length ≤ 1000) : binF .mul (bD b) (.int i) μ = .ok (bD (List.replicate i b).flatten) μ := by
  show (if 2 ≤ (i : Int) ∧ (i : Int) ≤ 1000 ∧ b.map rowD ≠ [] ∧ (b.map rowD).length ≤ 1000 then Res.ok (D.tup (List.replicate (i : Int).toNat (b.map rowD)).flatten) μ else _) = _
  rw [if_pos ⟨by omega, by omega, by simpa using h0, by simpa using h⟩, Int.toNat_natCast]
  show _ = Res.ok (D.tup ((List.replicate i b).flatten.map rowD)) μ
  rw [List.map_flatten, List.map_replicate]
theorem b_rv : rvF (bD b) μ = .ok (bD b.reverse) μ := by
  show Res.ok (D.tup (b.map rowD).reverse) μ = _
  rw [← List.map_reverse]; rfl
theorem b_len : bfF .len (bD b) μ = .ok (.int b.length) μ := by
  show Res.ok (D.int (b.map rowD).length) μ = _; rw [List.length_map]
theorem b_ix (i : Int) : ixF prog.cst (bD b) (.int i) μ = okI (atIx (b.map rowD) i) μ := rfl
theorem sn_b {n : Nat} (hb : b.length ≤ 1000) (h : ∀ r ∈ b, r.length ≤ 1000 ∧ ∀ s ∈ r, Ts n s) (hn : n ≤ 1000) : Sn μ (bD b) :=
  sn_tup (by simpa using hb) fun d hd => by
    obtain ⟨r, hr, rfl⟩ := List.mem_map.mp hd
    exact sn_row (h r hr).2 hn (h r hr).1 μ
end
end K86
end
section
set_option Elab.async false
set_option linter.all false
set_option autoImplicit false
set_option maxRecDepth 100000
set_option maxHeartbeats 1000000
namespace K86
open PL
def bs1 : S := (.asg (.nm 2) (.bf .len (.v 1)))
def bs2 : S := (.asg (.nm 3) (.call 1001 (.cons (.v 0) (.cons (.v 2) .nil))))
def bs3 : S := (.asg (.nm 4) (.call 1001 (.cons (.v 0) (.cons (.bf .len (.ix (.v 1) (.int 0))) .nil))))
def bs4 : S := (.asg (.nm 5) (.ix (.v 1) (.v 3)))
def bs5 : S := (.asg (.nm 6) (.call 1013 (.cons (.ix (.v 5) (.v 4)) .nil)))
def bs6 : S := (.asg (.nm 7) (.comp (.nm 10) (.val (.v 6)) .yes (.call 1006 (.cons (.v 1) (.cons (.v 3) (.cons (.call 1006 (.cons (.v 5) (.cons (.v 4) (.cons (.v 10) .nil)))) .nil)))) [10]))
def bs7 : S := (.asg (.nm 8) (.call 1006 (.cons (.v 1) (.cons (.bin .sub (.v 2) (.int 1)) (.cons (.call 1006 (.cons (.ix (.v 1) (.bin .sub (.v 2) (.int 1))) (.cons (.bin .sub (.bf .len (.v 5)) (.int 1)) (.cons (.call 1002 (.cons (.v 0) (.cons (.v 6) .nil))) .nil)))) .nil)))))
def bs8 : S := (.asg (.nm 9) (.lst (.cons (.bf .list (.v 5)) (.cons (.slL (.v 5) (.int 1)) (.cons (.slU (.v 5) (.neg (.int 1))) (.cons (.bin .add (.v 5) (.tup (.cons (.str [100]) .nil))) (.cons (.bin .add (.v 5) (.v 5)) (.cons (.bin .mul (.v 5) (.int 9)) (.cons (.tup .nil) (.cons .non (.cons (.str [100, 115, 117]) (.cons (.int 3) (.cons (.meth .join (.str []) (.cons (.v 5) .nil)) .nil)))))))))))))
def bs9 : S := (.ex (.meth .extend (.v 7) (.cons (.comp (.nm 10) (.val (.v 9)) .yes (.call 1006 (.cons (.v 1) (.cons (.v 3) (.cons (.v 10) .nil)))) [10]) .nil)))
def bs10 : S := (.ex (.meth .extend (.v 7) (.cons (.bin .add (.comp (.nm 10) (.val (.slU (.v 9) (.int 5))) .yes (.call 1006 (.cons (.v 8) (.cons (.v 3) (.cons (.v 10) .nil)))) [10]) (.lst (.cons (.v 8) (.cons (.call 1006 (.cons (.v 8) (.cons (.v 3) (.cons (.call 1006 (.cons (.ix (.v 8) (.v 3)) (.cons (.int 0) (.cons (.call 1002 (.cons (.v 0) (.cons (.v 6) .nil))) .nil)))) .nil)))) .nil)))) .nil)))
def bs11 : S := (.ex (.meth .extend (.v 7) (.cons (.lst (.cons (.bf .list (.v 1)) (.cons (.comp (.nm 11) (.val (.v 1)) .yes (.bf .list (.v 11)) [11]) (.cons (.bin .add (.v 1) (.v 1)) (.cons (.bin .mul (.v 1) (.int 9)) (.cons (.bin .add (.v 1) (.tup (.cons (.v 5) .nil))) (.cons (.bin .add (.v 1) (.tup (.cons (.tup .nil) .nil))) (.cons (.slL (.v 1) (.int 1)) (.cons (.rv (.v 1)) (.cons (.tup .nil) (.cons .non (.cons (.v 5) (.cons (.str [100]) .nil))))))))))))) .nil)))
def bs12 : S := (.ex (.meth .extend (.v 7) (.cons (.lst (.cons (.bf .tuple (.comp (.nm 11) (.val (.v 1)) .yes (.bin .mul (.tup (.cons (.str []) .nil)) (.bf .len (.v 5))) [11])) (.cons (.bf .tuple (.comp (.nm 11) (.val (.v 1)) .yes (.rv (.v 11)) [11])) (.cons (.tup (.cons (.v 1) .nil)) (.cons (.bl true) (.cons (.tup (.cons (.tup .nil) .nil)) (.cons (.tup (.cons (.tup (.cons (.str []) .nil)) .nil)) (.cons (.tup (.cons (.tup (.cons (.str [100, 115, 117]) .nil)) .nil)) (.cons (.bin .mul (.tup (.cons (.tup (.cons (.int 1) .nil)) .nil)) (.int 8)) .nil))))))))) .nil)))
def bs13 : S := (.ex (.meth .append (.v 7) (.cons (.bf .tuple (.comp (.nm 12) (.rng (.bf .len (.v 5))) .yes (.bf .tuple (.comp (.nm 11) (.val (.v 1)) .yes (.ix (.v 11) (.v 12)) [11])) [12])) .nil)))
def bs14 : S := (.ret (.v 7))
def bT : Ss := .cons bs9 (.cons bs10 (.cons bs11 (.cons bs12 (.cons bs13 (.cons bs14 .nil)))))
theorem bs_eq : f_law_boards = ⟨2, 13, .cons bs1 (.cons bs2 (.cons bs3 (.cons bs4 (.cons bs5 (.cons bs6 (.cons bs7 (.cons bs8 bT)))))))⟩ := rfl
def bE (b : Board) (r c : Nat) (ln : List Txt) (lo T : Nat) (L : List D) (Ll : Nat) : Env := [some (.loc 2), some (bD b), some (.int b.length), some (.int r), some (.int c), some (rowD ln), some (.loc lo), some (.loc T), some (.tup L), some (.loc Ll), none, none, none]
theorem tail_ok {k : Nat} (hk : 2 ≤ k) {b : Board} {m n : Nat} (B : Bok b m n) {r c lo T Ll : Nat} {ln : List Txt} {L Lr od lns : List D} {μ0 μ : Store} (hln : b[r]? = some ln)
    (w : W μ0 T 25 μ) (hlo : μ[lo]? = some (.lst od)) (hod : od.length = 25) (sod : ∀ d ∈ od, Sn μ d) (lo3 : 3 ≤ lo) (loT : lo < T) (hLl : μ[Ll]? = some (.lst lns)) (hlns : lns.length = 11) (slns : SnL μ lns) (TLl : T < Ll)
    (hLm : L.length = m) (hLr : atIx L (r : Int) = some (.tup Lr)) (hl1 : 0 < Lr.length) (hl8 : Lr.length ≤ 8) (sL : Sn μ (.tup L)) (sLr : Sn μ (.tup Lr)) :
    xS (exs prog.cst (cF k) N0 bT (bE b r c ln lo T L Ll) μ) (handQ fun d μ' => ∃ T, d = .loc T ∧ W μ0 T 200 μ') fun x _ μ => noX x μ := by
  have hm := B.r; have hm1 := B.r1; have hm8 := B.r8; have hn1 := B.c1; have hn8 := B.c8
  have hlb := List.mem_of_getElem? hln
  have hlc := B.c ln hlb
  have hrb : r < b.length := (List.getElem?_eq_some_iff.mp hln).1
  have pb : ∀ x μ, cF k 1006 [bD b, .int r, x] μ = .ok (.tup ((b.map rowD).set r x)) μ := fun x μ => put_ok (by omega) x (by simp; omega) (by simpa using hrb) μ
  have pL : ∀ x μ, cF k 1006 [.tup L, .int r, x] μ = .ok (.tup (L.set r x)) μ := fun x μ => put_ok (by omega) x (by omega) (by omega) μ
  have pLr : ∀ x μ, cF k 1006 [.tup Lr, .int 0, x] μ = .ok (.tup (Lr.set 0 x)) μ := fun x μ => put_ok (i := 0) (by omega) x (by omega) hl1 μ
  have sb : ∀ μ, Sn μ (bD b) := fun μ => B.sn μ
  have sl : ∀ μ, Sn μ (rowD ln) := fun μ => B.snr hlb μ
  have hod0 : od ≠ [] := by intro z; rw [z] at hod; cases hod
  have ρv : (bE b r c ln lo T L Ll)[7]? = some (some (.loc T)) := rfl
  unfold bT
  -- 9
  rw [exs_cons, xS_next]
  refine ext_ok (c2 := 11) ρv w ?_ (by decide) fun μ1 w1 g1 l1 => ?_
  · have wl : walkF (.loc Ll) μ = some (.lst Ll lns) := walk_lst _ hLl
    unfold bE
    simp_arith [wl]
    refine comp_allD (w := .lst Ll lns) (fun μ g => g.get hLl (by simp)) (by omega) (fun x hx μ4 g4 => ?_) fun ys μ4 hy4 hT4 sn4 g4 => ?_
    · simp_arith [pb]
      exact ⟨_, rfl, sn_set (sb _) (le_sn (Le.gr g4.nil) (snL_mem slns hx)), Gr.refl _ _⟩
    · exact ⟨_, ys, rfl, hT4, Nat.le_refl _, by omega, sn4, gr_stm g4 w.st, g4.nil⟩
  rw [thenX_nx, exs_cons, xS_next]
  -- 10
  have hLl1 := g1.get hLl (by simp; omega)
  have hlo1 := g1.get hlo (by simp; omega)
  refine ext_ok (c2 := 7) ρv w1 ?_ (by decide) fun μ2 w2 g2 l2 => ?_
  · have s5 : slF (.loc Ll) none (some 5) μ1 = .ok (.loc μ1.length) (μ1 ++ [.lst (lns.take 5)]) := by
      unfold slF
      simp only [hLl1]
      rw [show cut lns none (some 5) = lns.take 5 from cut_to lns 5]; rfl
    have w5 : walkF (.loc μ1.length) (μ1 ++ [.lst (lns.take 5)]) = some (.lst μ1.length (lns.take 5)) := walk_lst _ (get_new _ _)
    unfold bE
    simp_arith [s5, w5]
    refine comp_allD (w := .lst μ1.length (lns.take 5)) (fun μ g => g.get (get_new _ _) (by simp)) (by simp; omega) (fun x hx μ4 g4 => ?_) fun ys μ4 hy4 hT4 sn4 g4 => ?_
    · have lx : Le μ μ4 := l1.trans (Le.gr ((Gr.app [] _ _).trans g4).nil)
      simp_arith [pL]
      exact ⟨_, rfl, sn_set (le_sn lx sL) (le_sn lx (snL_mem slns (List.mem_of_mem_take hx))), Gr.refl _ _⟩
    · have g14 : Gr [] μ1 μ4 := (Gr.app [] _ _).trans g4
      have l14 : Le μ μ4 := l1.trans (Le.gr g14.nil)
      have s4 := gr_stm g14 w1.st
      obtain ⟨o, μ5, ho, e5, t5, g5⟩ := one_l hk s4 (g14.get hlo1 (by simp)) (by omega) (by omega) hod0 (by omega)
      have l5 : Le μ μ5 := l14.trans (Le.gr g5)
      have q : (μ1 ++ [Obj.lst (lns.take 5)]).length < μ4.length := (List.getElem?_eq_some_iff.mp hT4).1
      have hy5 : ys.length ≤ 5 := by rw [hy4, List.length_take]; omega
      have h13 := w1.st.len
      have ad : ∀ z, z.length ≤ 2 → binF .add (.loc (μ1 ++ [Obj.lst (lns.take 5)]).length) (.loc μ5.length) (μ5 ++ [Obj.lst z]) = .ok (.loc (μ5 ++ [Obj.lst z]).length) (μ5 ++ [Obj.lst z] ++ [Obj.lst (ys ++ z)]) := fun z hz => add_lst ((Gr.app [] _ _).get (g5.get hT4 (by simp; omega)) (by simp)) (get_new _ _) (by rw [mostLen_eq]; omega)
      simp_arith [ix_tup, hLr, e5, pLr, pL]
      rw [ad _ (Nat.le_refl _), okR_ok]
      have g6 : Gr [0, 2] μ5 (μ5 ++ [.lst [D.tup L, .tup (L.set r (.tup (Lr.set 0 o)))]] ++ [.lst (ys ++ [D.tup L, .tup (L.set r (.tup (Lr.set 0 o)))])]) := (Gr.app _ _ _).trans (Gr.app _ _ _)
      have so : Sn μ5 o := le_sn l5 (sod o ho)
      refine ⟨_, _, rfl, get_new _ _, by have := g14.len; have := g5.len; simp; omega, by simp; omega, snL_app (le_snL ((Le.gr g5).trans (Le.gr g6)) sn4) ?_, (t5.app _).app _, (g14.nil.trans g5).trans g6⟩
      exact le_snL (Le.gr g6) (snL_cons (le_sn l5 sL) (snL_cons (sn_set (le_sn l5 sL) (sn_set (le_sn l5 sLr) so)) rfl))
  rw [thenX_nx, exs_cons, xS_next]
  -- 11
  have wb : ∀ μ, walkF (bD b) μ = some (.row (b.map rowD)) := fun _ => rfl
  have hb0 : b ≠ [] := by intro z; rw [z] at hm; simp at hm; omega
  have tk : ∀ x ∈ b, x.length ≤ 1000 ∧ ∀ s ∈ x, Ts 3 s := fun x hx => ⟨by have := B.c x hx; omega, fun s hs => k8_ts s (B.k x hx s hs)⟩
  refine ext_ok (c2 := 12) ρv w2 ?_ (by decide) fun μ3 w3 g3 l3 => ?_
  · unfold bE
    simp_arith [b_list, wb]
    refine comp_allS rowD (w := .row (b.map rowD)) (fun _ _ => trivial) (by omega) (fun x hx μ4 g4 => ?_) fun ys μ4 hy4 hT4 sn4 g4 => ?_
    · simp_arith [row_list]
      have := (gr_stm ((Gr.app [] _ _).trans g4) w2.st).len
      refine ⟨_, rfl, sn_loc (by omega) (by omega) (get_new _ _), Gr.app _ _ _⟩
    · have ad1 : ∀ μ, binF .add (bD b) (bD b) μ = .ok (bD (b ++ b)) μ := fun μ => b_add (by omega)
      have ad2 : ∀ μ, binF .add (bD b) (.tup [rowD ln]) μ = .ok (bD (b ++ [ln])) μ := fun μ => b_add (q := [ln]) (by simp; omega)
      have ad3 : ∀ μ, binF .add (bD b) (.tup [.tup []]) μ = .ok (bD (b ++ [[]])) μ := fun μ => b_add (q := [[]]) (by simp; omega)
      have ml : ∀ μ, ∃ z, binF .mul (bD b) (.int 9) μ = .ok (bD z) μ ∧ ∀ μ, Sn μ (bD z) := fun μ => ⟨_, b_mul (i := 9) (by decide) (by decide) hb0 (by omega), fun μ => sn_b (n := 3) (by simp; omega) (fun x hx => tk x (by simp at hx; exact hx)) (by decide)⟩
      have sf1 : ∀ μ, slF (bD b) (some 1) none μ = .ok (bD (b.drop 1)) μ := fun μ => b_from 1
      obtain ⟨z, ml, sz⟩ := ml μ4
      simp_arith [ad1, ad2, ad3, ml, sf1, b_rv]
      have g24 : Gr [] μ2 μ4 := (Gr.app [] _ _).trans g4
      have g5 := Gr.app [0, 2] μ4 [.lst [.loc μ2.length, .loc (μ2 ++ [Obj.lst (b.map rowD)]).length, bD (b ++ b), bD z, bD (b ++ [ln]), bD (b ++ [[]]), bD (b.drop 1), bD b.reverse, .tup [], .non, rowD ln, .str [100]]]
      have hq := w2.T0
      have hq2 := w2.st.len
      refine ⟨_, _, rfl, get_new _ _, g24.len, Nat.le_refl _, ?_, (gr_stm g24 w2.st).app _, g24.nil.trans g5⟩
      have hT4' := fun ν => (Gr.app [] μ4 ν).get hT4 (by simp)
      refine snL_cons (sn_loc (by omega) (by omega) ((Gr.app [] _ _).get (g4.get (get_new _ _) (by simp)) (by simp))) (snL_cons (sn_loc (by simp <;> omega) (by simp <;> omega) (hT4' _)) (snL_cons ?_ (snL_cons (sz _) (snL_cons ?_ (snL_cons ?_ (snL_cons ?_ (snL_cons ?_ (snL_cons rfl (snL_cons rfl (snL_cons (sl _) (snL_cons rfl rfl)))))))))))
      · exact sn_b (n := 3) (by simp; omega) (fun x hx => tk x (by simpa using hx)) (by decide)
      · exact sn_b (n := 3) (by simp; omega) (fun x hx => by
          rcases List.mem_append.mp hx with h | h
          · exact tk x h
          · rw [List.mem_singleton.mp h]; exact tk ln hlb) (by decide)
      · exact sn_b (n := 3) (by simp; omega) (fun x hx => by
          rcases List.mem_append.mp hx with h | h
          · exact tk x h
          · rw [List.mem_singleton.mp h]; exact ⟨by decide, by simp⟩) (by decide)
      · exact sn_b (n := 3) (by simp; omega) (fun x hx => tk x (List.mem_of_mem_drop hx)) (by decide)
      · exact sn_b (n := 3) (by simp; omega) (fun x hx => tk x (by simpa using hx)) (by decide)
  rw [thenX_nx, exs_cons, xS_next]
  -- 12
  refine ext_ok (c2 := 8) ρv w3 ?_ (by decide) fun μ4 w4 g4 l4 => ?_
  · have mu : ∀ μ, binF .mul (.tup [.str []]) (.int ln.length) μ = .ok (rowD (List.replicate ln.length [[]]).flatten) μ := fun μ => row_mul1 (r := [[]]) (by omega) (by omega) (by decide) (by decide)
    unfold bE
    simp_arith [wb, row_len, mu]
    refine comp_allS rowD (w := .row (b.map rowD)) (fun _ _ => trivial) (by omega) (fun x hx μ4 g4 => ?_) fun ys μ4 hy4 hT4 sn4 g4 => ?_
    · simp_arith [mu]
      exact ⟨_, rfl, sn_row (n := 3) (by simp <;> exact fun _ => ⟨by decide, by simp⟩) (by decide) (by simp; omega) _, Gr.refl _ _⟩
    have tp : bfF .tuple (.loc μ3.length) μ4 = .ok (.tup ys) μ4 := tuple_lst _ hT4
    simp_arith [tp]
    refine comp_allS rowD (w := .row (b.map rowD)) (fun _ _ => trivial) (by omega) (fun x hx μ5 g5 => ?_) fun zs μ5 hy5 hT5 sn5 g5 => ?_
    · simp_arith [row_rv]
      exact ⟨_, rfl, sn_row (n := 3) (fun s hs => (tk x hx).2 s (by simpa using hs)) (by decide) (by simpa using (tk x hx).1) _, Gr.refl _ _⟩
    have tp : bfF .tuple (.loc μ4.length) μ5 = .ok (.tup zs) μ5 := tuple_lst _ hT5
    have m8 : ∀ μ, binF .mul (.tup [.tup [.int 1]]) (.int 8) μ = .ok (.tup [.tup [.int 1], .tup [.int 1], .tup [.int 1], .tup [.int 1], .tup [.int 1], .tup [.int 1], .tup [.int 1], .tup [.int 1]]) μ := fun μ => rfl
    simp_arith [tp, m8]
    have g6 := fun ν => (g4.trans g5).trans (Gr.app [] μ5 ν)
    refine ⟨_, _, rfl, get_new _ _, (g4.trans g5).len, Nat.le_refl _, ?_, gr_stm (g6 _) w3.st, (g6 _).nil⟩
    have l5 := fun ν => Le.gr (Gr.app [0, 2] μ5 ν)
    refine snL_cons (sn_tup (by omega) fun d hd => le_sn ((Le.gr g5.nil).trans (l5 _)) (snL_mem sn4 hd)) (snL_cons (sn_tup (by omega) fun d hd => le_sn (l5 _) (snL_mem sn5 hd)) (snL_cons ?_ rfl))
    exact sn_tup (by simp) fun d hd => by rw [List.mem_singleton.mp hd]; exact sb _
  rw [thenX_nx, exs_cons, xS_next]
  -- 13
  refine app_ok ρv w4 ?_ (by decide) fun μ5 w5 g5 l5 => ?_
  · unfold bE
    simp_arith [row_len, rng_ok (show ln.length ≤ 1000000 by omega), wb]
    rw [rng_items]
    refine comp_allS (fun (i : Nat) => D.int (i : Int)) (w := rngW (ln.length : Int)) (fun _ _ => trivial) (by simp; omega) (fun x hx μ6 g6 => ?_) fun zs μ6 hy6 hT6 sn6 g6 => ?_
    · have hxn : x < ln.length := by simpa using hx
      simp_arith [wb]
      refine comp_allS rowD (w := .row (b.map rowD)) (fun _ _ => trivial) (by omega) (fun q hq μ7 g7 => ?_) fun ys μ7 hy7 hT7 sn7 g7 => ?_
      · have hqn := B.c q hq
        have aq : atIx (q.map D.str) (x : Int) = some (.str q[x]) := r_at (List.getElem?_eq_getElem (by omega))
        simp_arith [row_ix, aq]
        exact ⟨_, rfl, ((tk q hq).2 q[x] (by simp)).sn (by decide) _, Gr.refl _ _⟩
      · have tp : bfF .tuple (.loc μ6.length) μ7 = .ok (.tup ys) μ7 := tuple_lst _ hT7
        simp_arith [tp]
        exact ⟨_, rfl, sn_tup (by omega) fun d hd => snL_mem sn7 hd, g7⟩
    · have tp : bfF .tuple (.loc μ4.length) μ6 = .ok (.tup zs) μ6 := tuple_lst _ hT6
      simp_arith [tp]
      exact ⟨sn_tup (by simp at hy6; omega) fun d hd => snL_mem sn6 hd, gr_stm g6 w4.st, g6.nil⟩
  rw [thenX_nx]
  unfold bE
  simp_arith [bs14, handQ_rt]
  obtain ⟨xs, q1, q2, q3⟩ := w5.ls
  exact ⟨_, rfl, ⟨xs, q1, by omega, q3⟩, w5.st, w5.gr, w5.T0, w5.Tm⟩
end K86
end
section
set_option Elab.async false
set_option linter.all false
set_option autoImplicit false
set_option maxRecDepth 100000
set_option maxHeartbeats 1000000
namespace K86
open PL
theorem n02 {l : Nat} (h : 3 ≤ l) : l ∉ [0, 2] := by simp only [List.mem_cons, List.not_mem_nil, or_false]; omega
theorem boards_ok {k : Nat} (hk : 3 ≤ k) {μ : Store} (s : Stm μ) {b : Board} {m n : Nat} (B : Bok b m n) : ∃ (l : Nat) (xs : List D) (μ' : Store), cF k 1014 [.loc 2, bD b] μ = .ok (.loc l) μ' ∧ μ'[l]? = some (.lst xs) ∧ 3 ≤ l ∧ 0 < xs.length ∧ xs.length ≤ 200 ∧ SnL μ' xs ∧ Stm μ' ∧ Gr [0, 2] μ μ' := by
  obtain ⟨k, rfl⟩ : ∃ j, k = j + 1 := ⟨k - 1, by omega⟩
  rw [show cF (k + 1) 1014 [.loc 2, bD b] μ = callB prog N0 (cF k) f_law_boards [.loc 2, bD b] μ from call_loc' (fn := f_law_boards) rfl rfl rfl]
  suffices h : xR (callB prog N0 (cF k) f_law_boards [.loc 2, bD b] μ) (fun d μ' => ∃ T, d = .loc T ∧ W μ T 200 μ') noX by
    obtain ⟨d, μ', e, T, rfl, w⟩ := okR_ex.mp (xR_okR h fun _ _ z => z)
    obtain ⟨xs, h1, h2, h3, h4⟩ := w.ls
    exact ⟨T, xs, μ', e, h1, w.T0, h3, h2, h4, w.st, w.gr⟩
  have hm := B.r; have hm1 := B.r1; have hm8 := B.r8; have hn1 := B.c1; have hn8 := B.c8
  obtain ⟨hh, hh0⟩ := head_len B
  have a0 : atIx (b.map rowD) 0 = some (rowD (b.headD [])) := b_at (i := 0) hh0
  obtain ⟨r, μ1, e1, hr, t1, g1⟩ := pull_ok (show 1 ≤ k by omega) s (n := (b.length : Int)) (by omega) (by omega)
  obtain ⟨c, μ2, e2, hc, t2, g2⟩ := pull_ok (show 1 ≤ k by omega) t1 (n := ((b.headD []).length : Int)) (by omega) (by omega)
  have hrb : r < b.length := by omega
  obtain ⟨ln, hln⟩ : ∃ ln, b[r]? = some ln := ⟨_, List.getElem?_eq_getElem hrb⟩
  have hlb := List.mem_of_getElem? hln
  have hlc := B.c ln hlb
  have a1 := b_at hln
  obtain ⟨kd, hkd⟩ : ∃ kd, ln[c]? = some kd := ⟨_, List.getElem?_eq_getElem (by omega)⟩
  have hk8 := B.k ln hlb kd (List.mem_of_getElem? hkd)
  have a2 := r_at hkd
  obtain ⟨lo, od, μ3, e3, hlo, hod, sod, g3, hlm⟩ := odd_ok (show 1 ≤ k by omega) hk8 (μ := μ2) t2.len
  have t3 := gr_stm g3 t2
  have wo : walkF (.loc lo) μ3 = some (.lst lo od) := walk_lst _ hlo
  have pb : ∀ x μ, cF k 1006 [bD b, .int r, x] μ = .ok (.tup ((b.map rowD).set r x)) μ := fun x μ => put_ok (by omega) x (by simp; omega) (by simpa using hrb) μ
  have pl : ∀ x μ, cF k 1006 [rowD ln, .int c, x] μ = .ok (.tup ((ln.map D.str).set c x)) μ := fun x μ => put_ok (by omega) x (by simp; omega) (by simp; omega) μ
  have sb : ∀ μ, Sn μ (bD b) := fun μ => B.sn μ
  have sl : ∀ μ, Sn μ (rowD ln) := fun μ => B.snr hlb μ
  rw [bs_eq]
  simp_arith [bs1, bs2, bs3, bs4, bs5, bs6, b_len, e1, b_ix, a0, row_len, e2, a1, row_ix, a2, e3, wo]
  refine okR_xR (comp_allD (w := .lst lo od) (fun μ g => g.get hlo (by simp)) (by omega) (fun x hx μ4 g4 => ?_) fun ys μ4 hy4 hT4 sn4 g4 => ?_)
  · simp_arith [pl, pb]
    exact ⟨_, rfl, sn_set (sb _) (sn_set (sl _) (le_sn (Le.gr g4.nil) (sod x hx))), Gr.refl _ _⟩
  obtain ⟨lb, hlb2⟩ : ∃ lb, b[b.length - 1]? = some lb := ⟨_, List.getElem?_eq_getElem (by omega)⟩
  have hbb := List.mem_of_getElem? hlb2
  have hbc := B.c lb hbb
  have i1 : ((b.length : Int) - 1) = ((b.length - 1 : Nat) : Int) := by omega
  have i2 : ((ln.length : Int) - 1) = ((ln.length - 1 : Nat) : Int) := by omega
  have a3 : atIx (b.map rowD) ((b.length : Int) - 1) = some (rowD lb) := by rw [i1]; exact b_at hlb2
  have pb2 : ∀ x μ, cF k 1006 [bD b, .int ((b.length : Int) - 1), x] μ = .ok (.tup ((b.map rowD).set (b.length - 1) x)) μ := fun x μ => by rw [i1]; exact put_ok (by omega) x (by simp; omega) (by simp; omega) μ
  have pl2 : ∀ x μ, cF k 1006 [rowD lb, .int ((ln.length : Int) - 1), x] μ = .ok (.tup ((lb.map D.str).set (ln.length - 1) x)) μ := fun x μ => by rw [i2]; exact put_ok (by omega) x (by simp; omega) (by simp; omega) μ
  have T0 : 3 ≤ μ3.length := t3.len
  have Tm : μ.length ≤ μ3.length := by have := g1.len; have := g2.len; have := g3.len; omega
  have hod0 : od ≠ [] := by intro z; rw [z] at hod; cases hod
  have one : ∀ {μ4}, Stm μ4 → μ4[lo]? = some (.lst od) → ∃ (d : D) (μ' : Store), d ∈ od ∧ cF k 1002 [.loc 2, .loc lo] μ4 = .ok d μ' ∧ Stm μ' ∧ Gr [0, 2] μ4 μ' := fun s h => one_l (show 2 ≤ k by omega) s h (by have := t2.len; omega) (by have := t2.len; omega) hod0 (by omega)
  obtain ⟨o, μ5, ho, e5, t5, g5⟩ := one (gr_stm g4 t3) (g4.get hlo (by simp))
  have l34 : Le μ3 μ5 := (Le.gr g4.nil).trans (Le.gr g5)
  have so5 : Sn μ5 o := le_sn l34 (sod o ho)
  simp_arith [b_ix, a3, row_len, e5, pl2, pb2, bs7]
  obtain ⟨Lr, L, hL, hLr, hl1, hl8, sL, sLr, hLm⟩ : ∃ Lr L, (b.map rowD).set (b.length - 1) (.tup ((lb.map D.str).set (ln.length - 1) o)) = L ∧ atIx L (r : Int) = some (.tup Lr) ∧ 0 < Lr.length ∧ Lr.length ≤ 8 ∧ Sn μ5 (.tup L) ∧ Sn μ5 (.tup Lr) ∧ L.length = m := by
    have s1 : Sn μ5 (.tup ((lb.map D.str).set (ln.length - 1) o)) := sn_set (B.snr hbb _) so5
    by_cases h : b.length - 1 = r
    · refine ⟨(lb.map D.str).set (ln.length - 1) o, _, rfl, atIx_of ?_, by simp; omega, by simp; omega, sn_set (sb _) s1, s1, by simp; omega⟩
      rw [h]; exact List.getElem?_set_self (by simpa using hrb)
    · refine ⟨ln.map D.str, _, rfl, atIx_of ?_, by simp; omega, by simp; omega, sn_set (sb _) s1, sl _, by simp; omega⟩
      rw [List.getElem?_set_ne h, List.getElem?_map, hln]; rfl
  rw [hL]
  have jl : ∀ μ, methF prog.cst .join (.str []) [rowD ln] μ = .ok (.str (joinT [] ln)) μ := fun μ => row_join (n := 3) (fun s hs => k8_ts s (B.k ln hlb s hs)) (by omega)
  have ad1 : ∀ μ, binF .add (rowD ln) (.tup [.str [100]]) μ = .ok (rowD (ln ++ [[100]])) μ := fun μ => row_add (q := [[100]]) (by simp; omega)
  have ad2 : ∀ μ, binF .add (rowD ln) (rowD ln) μ = .ok (rowD (ln ++ ln)) μ := fun μ => row_add (by omega)
  have sf1 : ∀ μ, slF (rowD ln) (some 1) none μ = .ok (rowD (ln.drop 1)) μ := fun μ => row_from 1
  simp_arith [bs8, row_list, sf1, row_to1, ad1, ad2, jl]
  obtain ⟨z, ml, sz⟩ : ∃ z, (∀ μ, binF .mul (rowD ln) (.int 9) μ = .ok (rowD z) μ) ∧ ∀ μ, Sn μ (rowD z) := ⟨_, fun μ => row_mul (i := 9) (by decide) (by decide) (by intro z; rw [z] at hlc; simp at hlc; omega) (by omega), fun μ => sn_row (n := 3) (fun s hs => k8_ts s (B.k ln hlb s (by simp at hs; exact hs))) (by decide) (by simp; omega) μ⟩
  simp_arith [ml, jl]
  have g56 := Gr.app [] μ5 [.lst (ln.map D.str)]
  have T5 : μ3.length < μ5.length := by
    have := (List.getElem?_eq_some_iff.mp hT4).1
    have := g5.len; omega
  have hT5 := g5.get hT4 (n02 T0)
  have ll := hlo
  have hlo5 := g5.get (g4.get hlo (by simp)) (by have := t2.len; simp; omega)
  have loT := (List.getElem?_eq_some_iff.mp hlo).1
  have ts3 : ∀ s ∈ ln, Ts 3 s := fun s hs => k8_ts s (B.k ln hlb s hs)
  have gT := fun ν => (Gr.app [] μ5 [Obj.lst (ln.map D.str)]).trans (Gr.app [] _ ν)
  have sn8 : ∀ μ, Sn μ (.loc μ5.length) → SnL μ [.loc μ5.length, rowD (ln.drop 1), rowD (ln.take (ln.length - 1)), rowD (ln ++ [[100]]), rowD (ln ++ ln), rowD z, .tup [], .non, .str [100, 115, 117], .int 3, .str (joinT [] ln)] := fun μ h => by
    refine snL_cons h (snL_cons ?_ (snL_cons ?_ (snL_cons ?_ (snL_cons ?_ (snL_cons (sz _) (snL_cons rfl (snL_cons rfl (snL_cons rfl (snL_cons rfl (snL_cons ?_ rfl))))))))))
    · exact sn_row (n := 3) (fun s hs => ts3 s (List.mem_of_mem_drop hs)) (by decide) (by simp; omega) _
    · exact sn_row (n := 3) (fun s hs => ts3 s (List.mem_of_mem_take hs)) (by decide) (by simp; omega) _
    · exact sn_row (n := 3) (fun s hs => by
        rcases List.mem_append.mp hs with h | h
        · exact ts3 s h
        · rw [List.mem_singleton.mp h]; exact ⟨by decide, by decide⟩) (by decide) (by simp; omega) _
    · exact sn_row (n := 3) (fun s hs => ts3 s (by simpa using hs)) (by decide) (by simp; omega) _
    · exact (joinT_ts ts3).sn (by omega) _
  refine tail_ok (by omega) B (T := μ3.length) (μ0 := μ) (lns := [.loc μ5.length, rowD (ln.drop 1), rowD (ln.take (ln.length - 1)), rowD (ln ++ [[100]]), rowD (ln ++ ln), rowD z, .tup [], .non, .str [100, 115, 117], .int 3, .str (joinT [] ln)]) hln ⟨⟨ys, (gT _).get hT5 (by simp), by omega, by omega, le_snL ((Le.gr g5).trans (Le.gr (gT _).nil)) sn4⟩, gr_stm (gT _) t5, g1.trans (g2.trans (g3.nil.trans (g4.nil.trans (g5.trans (gT _).nil)))), T0, Tm⟩ ((gT _).get hlo5 (by simp)) hod (fun d hd => le_sn (l34.trans (Le.gr (gT _).nil)) (sod d hd)) (by have := t2.len; omega) loT (get_new _ _) rfl (sn8 _ ?_) (by simp; omega) hLm hLr hl1 hl8 (le_sn (Le.gr (gT _).nil) sL) (le_sn (Le.gr (gT _).nil) sLr)
  exact sn_loc (by omega) (by omega) ((Gr.app [] _ _).get (get_new _ _) (by simp))
end K86
end
section
set_option Elab.async false
set_option linter.all false
set_option autoImplicit false
set_option maxRecDepth 100000
set_option maxHeartbeats 1000000
namespace K86
open PL
def ss1 : S := (.asg (.nm 3) (.bf .len (.v 1)))
def ss2 : S := (.asg (.nm 4) (.call 1001 (.cons (.v 0) (.cons (.v 3) .nil))))
def ss3 : S := (.asg (.nm 5) (.call 1001 (.cons (.v 0) (.cons (.bf .len (.ix (.v 1) (.int 0))) .nil))))
def ss4 : S := (.asg (.nm 6) (.ix (.v 2) (.v 4)))
def ss5 : S := (.asg (.nm 7) (.lst (.cons (.str [100]) (.cons (.str [115]) (.cons (.str [117]) (.cons (.str [35]) (.cons (.str [68]) (.cons (.str [46]) (.cons (.str [32]) (.cons (.str [120]) (.cons (.str [48]) (.cons (.str [10]) .nil))))))))))))
def ss6 : S := (.asg (.nm 8) (.comp (.nm 12) (.val (.v 7)) .yes (.call 1006 (.cons (.v 2) (.cons (.v 4) (.cons (.bin .add (.bin .add (.slU (.v 6) (.v 5)) (.v 12)) (.slL (.v 6) (.bin .add (.v 5) (.int 1)))) .nil)))) [12]))
def ss7 : S := (.asg (.nm 9) (.ix (.v 2) (.bin .sub (.v 3) (.int 1))))
def ss8 : S := (.asg (.nm 10) (.call 1006 (.cons (.v 2) (.cons (.bin .sub (.v 3) (.int 1)) (.cons (.bin .add (.slU (.v 9) (.neg (.int 1))) (.call 1002 (.cons (.v 0) (.cons (.v 7) .nil)))) .nil)))))
def ss9 : S := (.asg (.nm 11) (.lst (.cons (.slL (.v 6) (.int 1)) (.cons (.slU (.v 6) (.neg (.int 1))) (.cons (.bin .add (.v 6) (.str [100])) (.cons (.bin .add (.str [100]) (.v 6)) (.cons (.bin .add (.v 6) (.str [35])) (.cons (.str []) (.cons (.bf .listS (.v 6)) (.cons (.bf .tupleS (.v 6)) (.cons .non (.cons (.int 1) (.cons (.bl true) (.cons (.bin .add (.v 6) (.str [32])) (.cons (.tup (.cons (.v 6) .nil)) (.cons (.lst (.cons (.v 6) .nil)) .nil))))))))))))))))
def ss10 : S := (.ex (.meth .extend (.v 8) (.cons (.comp (.nm 13) (.val (.v 11)) .yes (.call 1006 (.cons (.v 2) (.cons (.v 4) (.cons (.v 13) .nil)))) [13]) .nil)))
def ss11 : S := (.ex (.meth .extend (.v 8) (.cons (.bin .add (.comp (.nm 13) (.val (.slU (.v 11) (.int 4))) .yes (.call 1006 (.cons (.v 10) (.cons (.v 4) (.cons (.v 13) .nil)))) [13]) (.lst (.cons (.v 10) .nil))) .nil)))
def ss12 : S := (.ex (.meth .append (.v 8) (.cons (.call 1006 (.cons (.v 10) (.cons (.v 4) (.cons (.bin .add (.call 1002 (.cons (.v 0) (.cons (.v 7) .nil))) (.slL (.ix (.v 10) (.v 4)) (.int 1))) .nil)))) .nil)))
def ss13 : S := (.ex (.meth .extend (.v 8) (.cons (.lst (.cons (.bf .list (.v 2)) (.cons (.bin .add (.v 2) (.slU (.v 2) (.int 1))) (.cons (.slL (.v 2) (.int 1)) (.cons (.rv (.v 2)) (.cons (.bf .tuple (.comp (.nm 14) (.val (.v 2)) .yes (.rv (.v 14)) [14])) (.cons (.meth .join (.str []) (.cons (.v 2) .nil)) (.cons .non (.cons (.tup .nil) (.cons (.int 7) .nil)))))))))) .nil)))
def ss14 : S := (.ex (.meth .extend (.v 8) (.cons (.lst (.cons (.bf .tuple (.comp (.nm 14) (.val (.v 2)) .yes (.bf .tupleS (.v 14)) [14])) (.cons (.tup (.cons (.v 2) .nil)) (.cons (.v 1) (.cons (.bin .mul (.v 2) (.int 2)) (.cons (.bf .tuple (.comp (.nm 14) (.val (.v 2)) .yes (.meth .upper (.v 14) .nil) [14])) (.cons (.bl true) .nil))))))) .nil)))
def ss15 : S := (.ex (.meth .extend (.v 8) (.cons (.lst (.cons (.bin .mul (.tup (.cons (.bin .mul (.str [100]) (.bf .len (.v 6))) .nil)) (.v 3)) (.cons (.bin .mul (.tup (.cons (.bin .mul (.str [35]) (.bf .len (.v 6))) .nil)) (.v 3)) (.cons (.bin .mul (.tup (.cons (.str []) .nil)) (.v 3)) (.cons (.bf .tuple (.comp (.nm 14) (.val (.v 2)) .yes (.meth .repl (.v 14) (.cons (.str [35]) (.cons (.str [100]) .nil))) [14])) .nil))))) .nil)))
def ss16 : S := (.ret (.v 8))
def sT : Ss := .cons ss10 (.cons ss11 (.cons ss12 (.cons ss13 (.cons ss14 (.cons ss15 (.cons ss16 .nil))))))
theorem ss_eq : f_law_settings = ⟨3, 15, .cons ss1 (.cons ss2 (.cons ss3 (.cons ss4 (.cons ss5 (.cons ss6 (.cons ss7 (.cons ss8 (.cons ss9 sT))))))))⟩ := rfl
def sgs : List D := [.str [100], .str [115], .str [117], .str [35], .str [68], .str [46], .str [32], .str [120], .str [48], .str [10]]
theorem sgs_mem {d : D} (h : d ∈ sgs) : ∃ c, d = .str [c] ∧ c < 128 := by
  simp only [sgs, List.mem_cons, List.not_mem_nil, or_false] at h
  rcases h with rfl | rfl | rfl | rfl | rfl | rfl | rfl | rfl | rfl | rfl <;> exact ⟨_, rfl, by decide⟩
theorem row_set (S : List Txt) (i : Nat) (t : Txt) : D.tup ((S.map D.str).set i (.str t)) = rowD (S.set i t) := by
  unfold rowD; rw [← List.map_set]
theorem set_ts {S : List Txt} {i n : Nat} {t : Txt} (h : ∀ s ∈ S, Ts n s) (k : Ts n t) : ∀ s ∈ S.set i t, Ts n s := fun s hs => by
  rcases List.mem_or_eq_of_mem_set hs with z | rfl
  · exact h s z
  · exact k
theorem put_r {k : Nat} (hk : 1 ≤ k) {S : List Txt} {i : Nat} (hl : S.length ≤ 1000) (hi : i < S.length) (x : D) (μ : Store) : cF k 1006 [rowD S, .int i, x] μ = .ok (.tup ((S.map D.str).set i x)) μ := put_ok hk x (by simpa using hl) (by simpa using hi) μ
def sE (b : Board) (S : List Txt) (r c : Nat) (ln : Txt) (lg T : Nat) (other : D) (SL : List Txt) (Ll : Nat) : Env := [some (.loc 2), some (bD b), some (rowD S), some (.int b.length), some (.int r), some (.int c), some (.str ln), some (.loc lg), some (.loc T), some other, some (rowD SL), some (.loc Ll), none, none, none]
theorem tailS_ok {k : Nat} (hk : 2 ≤ k) {b : Board} {m n : Nat} (B : Bok b m n) {S SL : List Txt} {r c lg T Ll : Nat} {ln lt : Txt} {other : D} {lns : List D} {μ0 μ : Store} (hln : S[r]? = some ln) (hSm : S.length = m) (hS : ∀ s ∈ S, Ts 8 s) (hS1 : ∀ s ∈ S, 1 ≤ s.length)
    (w : W μ0 T 10 μ) (hlg : μ[lg]? = some (.lst sgs)) (lg3 : 3 ≤ lg) (lgT : lg < T) (hLl : μ[Ll]? = some (.lst lns)) (hlns : lns.length = 14) (slns : SnL μ lns) (TLl : T < Ll)
    (hLm : SL.length = m) (hLr : SL[r]? = some lt) (hSL : ∀ s ∈ SL, Ts 9 s) :
    xS (exs prog.cst (cF k) N0 sT (sE b S r c ln lg T other SL Ll) μ) (handQ fun d μ' => ∃ T, d = .loc T ∧ W μ0 T 200 μ') fun x _ μ => noX x μ := by
  have hm := B.r; have hm1 := B.r1; have hm8 := B.r8; have hn1 := B.c1; have hn8 := B.c8
  have hrm : r < S.length := (List.getElem?_eq_some_iff.mp hln).1
  have hlS := List.mem_of_getElem? hln
  have tln := hS ln hlS
  have hl1 := hS1 ln hlS
  have hl8 := tln.1
  have tlt := hSL lt (List.mem_of_getElem? hLr)
  have pS : ∀ x μ, cF k 1006 [rowD S, .int r, x] μ = .ok (.tup ((S.map D.str).set r x)) μ := put_r (by omega) (by omega) hrm
  have pL : ∀ x μ, cF k 1006 [rowD SL, .int r, x] μ = .ok (.tup ((SL.map D.str).set r x)) μ := put_r (by omega) (by omega) (by omega)
  have sS : ∀ μ, Sn μ (rowD S) := fun μ => sn_row hS (by decide) (by omega) μ
  have sL : ∀ μ, Sn μ (rowD SL) := fun μ => sn_row hSL (by decide) (by omega) μ
  have sb : ∀ μ, Sn μ (bD b) := fun μ => B.sn μ
  have ρv : (sE b S r c ln lg T other SL Ll)[8]? = some (some (.loc T)) := rfl
  have wS : ∀ μ, walkF (rowD S) μ = some (.row (S.map .str)) := fun _ => rfl
  unfold sT
  -- 10
  rw [exs_cons, xS_next]
  refine ext_ok (c2 := 14) ρv w ?_ (by decide) fun μ1 w1 g1 l1 => ?_
  · have wl : walkF (.loc Ll) μ = some (.lst Ll lns) := walk_lst _ hLl
    unfold sE
    simp_arith [wl]
    refine comp_allD (w := .lst Ll lns) (fun μ g => g.get hLl (by simp)) (by omega) (fun x hx μ4 g4 => ?_) fun ys μ4 hy4 hT4 sn4 g4 => ?_
    · simp_arith [pS]
      exact ⟨_, rfl, sn_set (sS _) (le_sn (Le.gr g4.nil) (snL_mem slns hx)), Gr.refl _ _⟩
    · exact ⟨_, ys, rfl, hT4, Nat.le_refl _, by omega, sn4, gr_stm g4 w.st, g4.nil⟩
  rw [thenX_nx, exs_cons, xS_next]
  -- 11
  have hLl1 := g1.get hLl (by simp; omega)
  have hlg1 := g1.get hlg (by simp; omega)
  refine ext_ok (c2 := 5) ρv w1 ?_ (by decide) fun μ2 w2 g2 l2 => ?_
  · have s5 : slF (.loc Ll) none (some 4) μ1 = .ok (.loc μ1.length) (μ1 ++ [.lst (lns.take 4)]) := by
      unfold slF
      simp only [hLl1]
      rw [show cut lns none (some 4) = lns.take 4 from cut_to lns 4]; rfl
    have w5 : walkF (.loc μ1.length) (μ1 ++ [.lst (lns.take 4)]) = some (.lst μ1.length (lns.take 4)) := walk_lst _ (get_new _ _)
    unfold sE
    simp_arith [s5, w5]
    refine comp_allD (w := .lst μ1.length (lns.take 4)) (fun μ g => g.get (get_new _ _) (by simp)) (by simp; omega) (fun x hx μ4 g4 => ?_) fun ys μ4 hy4 hT4 sn4 g4 => ?_
    · have lx : Le μ μ4 := l1.trans (Le.gr ((Gr.app [] _ _).trans g4).nil)
      simp_arith [pL]
      exact ⟨_, rfl, sn_set (sL _) (le_sn lx (snL_mem slns (List.mem_of_mem_take hx))), Gr.refl _ _⟩
    · have g14 : Gr [] μ1 μ4 := (Gr.app [] _ _).trans g4
      have hy5 : ys.length ≤ 4 := by rw [hy4, List.length_take]; omega
      have ad : binF .add (.loc (μ1 ++ [Obj.lst (lns.take 4)]).length) (.loc μ4.length) (μ4 ++ [Obj.lst [rowD SL]]) = .ok (.loc (μ4 ++ [Obj.lst [rowD SL]]).length) (μ4 ++ [Obj.lst [rowD SL]] ++ [Obj.lst (ys ++ [rowD SL])]) := add_lst ((Gr.app [] _ _).get hT4 (by simp)) (get_new _ _) (by rw [mostLen_eq]; simp; omega)
      rw [ad, okR_ok]
      have g6 : Gr [] μ4 (μ4 ++ [.lst [rowD SL]] ++ [.lst (ys ++ [rowD SL])]) := (Gr.app _ _ _).trans (Gr.app _ _ _)
      exact ⟨_, _, rfl, get_new _ _, by have := g14.len; simp; omega, by simp; omega, snL_app (le_snL (Le.gr g6.nil) sn4) (snL_cons (sL _) rfl), gr_stm (g14.trans g6) w1.st, (g14.trans g6).nil⟩
  rw [thenX_nx, exs_cons, xS_next]
  -- 12
  have hlg2 := g2.get hlg1 (by simp; omega)
  refine app_ok ρv w2 ?_ (by decide) fun μ3 w3 g3 l3 => ?_
  · obtain ⟨o, μ5, ho, e5, t5, g5⟩ := one_l hk w2.st hlg2 (by omega) (by omega) (by decide) (by decide)
    obtain ⟨cc, rfl, hcc⟩ := sgs_mem ho
    have al : atIx (SL.map D.str) (r : Int) = some (.str lt) := r_at hLr
    have s1 : ∀ μ, slF (.str lt) (some 1) none μ = .ok (.str (lt.drop 1)) μ := fun μ => by rw [slF_str, if_pos (by rw [mostLen_eq]; have := tlt.1; omega), show cut lt (some 1) none = lt.drop 1 from cut_from lt 1]
    have q1 : (1 + (lt.drop 1).length ≤ mostLen) = True := eq_true (by rw [mostLen_eq]; have := tlt.1; simp; omega)
    unfold sE
    simp_arith [e5, row_ix, al, s1, q1, pL]
    refine ⟨sn_set (sL _) (Ts.sn (n := 10) ⟨by have := tlt.1; simp; omega, fun x hx => ?_⟩ (by decide) _), t5, g5⟩
    rcases List.mem_cons.mp hx with rfl | hx
    · exact hcc
    · exact tlt.2 x (List.mem_of_mem_drop hx)
  rw [thenX_nx, exs_cons, xS_next]
  -- 13
  have hS0 : S ≠ [] := by intro z; rw [z] at hSm; simp at hSm; omega
  have mpos : ∀ s ∈ S, s.length ≤ mostLen := fun s hs => by rw [mostLen_eq]; have := (hS s hs).1; omega
  refine ext_ok (c2 := 9) ρv w3 ?_ (by decide) fun μ4 w4 g4 l4 => ?_
  · have st1 : ∀ μ, slF (rowD S) none (some 1) μ = .ok (rowD (S.take 1)) μ := fun μ => row_to 1
    have sf1 : ∀ μ, slF (rowD S) (some 1) none μ = .ok (rowD (S.drop 1)) μ := fun μ => row_from 1
    have ad : ∀ μ, binF .add (rowD S) (rowD (S.take 1)) μ = .ok (rowD (S ++ S.take 1)) μ := fun μ => row_add (by simp; omega)
    have jl : ∀ μ, methF prog.cst .join (.str []) [rowD S] μ = .ok (.str (joinT [] S)) μ := fun μ => row_join (n := 8) hS (by omega)
    unfold sE
    simp_arith [row_list, st1, sf1, ad, row_rv, wS]
    refine comp_allS D.str (w := .row (S.map .str)) (fun _ _ => trivial) (by omega) (fun x hx μ5 g5 => ?_) fun zs μ5 hy5 hT5 sn5 g5 => ?_
    · simp_arith [if_pos (mpos x hx)]
      exact ⟨_, rfl, (hS x hx).rev.sn (by decide) _, Gr.refl _ _⟩
    have tp : bfF .tuple (.loc (μ3 ++ [Obj.lst (S.map D.str)]).length) μ5 = .ok (.tup zs) μ5 := tuple_lst _ hT5
    simp_arith [tp, jl]
    have g35 : Gr [] μ3 μ5 := (Gr.app [] _ _).trans g5
    have g6 := fun ν => g35.trans (Gr.app [] μ5 ν)
    have hq2 := w3.st.len
    have hT3 := fun ν => (Gr.app [] μ5 ν).get (g5.get (get_new μ3 (Obj.lst (S.map D.str))) (by simp)) (by simp)
    refine ⟨_, _, rfl, get_new _ _, g35.len, Nat.le_refl _, ?_, gr_stm (g6 _) w3.st, (g6 _).nil⟩
    refine snL_cons (sn_loc (by omega) (by omega) (hT3 _)) (snL_cons ?_ (snL_cons ?_ (snL_cons ?_ (snL_cons ?_ (snL_cons ?_ (snL_cons rfl (snL_cons rfl (snL_cons rfl rfl))))))))
    · exact sn_row (n := 8) (fun s hs => by
        rcases List.mem_append.mp hs with h | h
        · exact hS s h
        · exact hS s (List.mem_of_mem_take h)) (by decide) (by simp; omega) _
    · exact sn_row (n := 8) (fun s hs => hS s (List.mem_of_mem_drop hs)) (by decide) (by simp; omega) _
    · exact sn_row (n := 8) (fun s hs => hS s (by simpa using hs)) (by decide) (by simp; omega) _
    · exact sn_tup (by omega) fun d hd => le_sn (Le.gr (Gr.app [0, 2] μ5 _)) (snL_mem sn5 hd)
    · exact (joinT_ts hS).sn (by omega) _
  rw [thenX_nx, exs_cons, xS_next]
  -- 14
  refine ext_ok (c2 := 6) ρv w4 ?_ (by decide) fun μ5 w5 g5 l5 => ?_
  · have ml : ∀ μ, binF .mul (rowD S) (.int 2) μ = .ok (rowD (List.replicate 2 S).flatten) μ := fun μ => row_mul (i := 2) (by decide) (by decide) hS0 (by omega)
    have szl : ∀ μ, Sn μ (rowD (List.replicate 2 S).flatten) := fun μ => sn_row (n := 8) (fun s hs => hS s (by simpa using hs)) (by decide) (by simp; omega) μ
    generalize (List.replicate 2 S).flatten = S2 at *
    unfold sE
    simp_arith [wS]
    refine comp_allS D.str (w := .row (S.map .str)) (fun _ _ => trivial) (by omega) (fun x hx μ5 g5 => ?_) fun zs μ5 hy5 hT5 sn5 g5 => ?_
    · have ts : ∀ μ, bfF .tupleS (.str x) μ = .ok (rowD (x.map fun c => [c])) μ := fun μ => by
        show (if x.length ≤ mostLen then Res.ok (D.tup (x.map fun c => .str [c])) μ else .stuck) = _
        rw [if_pos (mpos x hx)]
        unfold rowD
        rw [List.map_map]; rfl
      simp_arith [ts]
      refine ⟨_, rfl, sn_row (n := 1) (fun s hs => ?_) (by decide) (by have := (hS x hx).1; simp; omega) _, Gr.refl _ _⟩
      obtain ⟨c, hc, rfl⟩ := List.mem_map.mp hs
      exact ⟨Nat.le_refl _, fun y hy => by rw [List.mem_singleton.mp hy]; exact (hS x hx).2 c hc⟩
    have tp : bfF .tuple (.loc μ4.length) μ5 = .ok (.tup zs) μ5 := tuple_lst _ hT5
    simp_arith [tp, ml, wS]
    refine comp_allS D.str (w := .row (S.map .str)) (fun _ _ => trivial) (by omega) (fun x hx μ6 g6 => ?_) fun ys μ6 hy6 hT6 sn6 g6 => ?_
    · have hA : (x.length ≤ mostLen ∧ (x.all fun c => decide (c < 128)) = true) = True := eq_true ⟨mpos x hx, List.all_eq_true.mpr fun c hc => decide_eq_true ((hS x hx).2 c hc)⟩
      simp_arith [hA]
      refine ⟨_, rfl, Ts.sn (n := 8) ⟨by have := (hS x hx).1; simp; omega, fun y hy => ?_⟩ (by decide) _, Gr.refl _ _⟩
      obtain ⟨c, hc, rfl⟩ := List.mem_map.mp hy
      have := (hS x hx).2 c hc
      unfold upC
      split <;> omega
    have tp : bfF .tuple (.loc μ5.length) μ6 = .ok (.tup ys) μ6 := tuple_lst _ hT6
    simp_arith [tp]
    have g7 := fun ν => (g5.trans g6).trans (Gr.app [] μ6 ν)
    refine ⟨_, _, rfl, get_new _ _, (g5.trans g6).len, Nat.le_refl _, ?_, gr_stm (g7 _) w4.st, (g7 _).nil⟩
    have l6 := fun ν => Le.gr (Gr.app [0, 2] μ6 ν)
    refine snL_cons (sn_tup (by omega) fun d hd => le_sn ((Le.gr g6.nil).trans (l6 _)) (snL_mem sn5 hd)) (snL_cons ?_ (snL_cons (sb _) (snL_cons (szl _) (snL_cons (sn_tup (by omega) fun d hd => le_sn (l6 _) (snL_mem sn6 hd)) (snL_cons rfl rfl)))))
    exact sn_tup (by simp) fun d hd => by rw [List.mem_singleton.mp hd]; exact sS _
  rw [thenX_nx, exs_cons, xS_next]
  -- 15
  refine ext_ok (c2 := 4) ρv w5 ?_ (by decide) fun μ6 w6 g6 l6 => ?_
  · have lnl : ∀ μ, bfF .len (.str ln) μ = .ok (.int ln.length) μ := fun μ => by rw [len_str, if_pos (mpos ln hlS)]
    have ms : ∀ (c : Nat), c < 128 → ∃ t, (∀ μ, binF .mul (.str [c]) (.int ln.length) μ = .ok (.str t) μ) ∧ Ts 8 t := fun c hc => by
      rcases Nat.lt_or_ge 1 ln.length with h1 | h1
      · refine ⟨(List.replicate ln.length [c]).flatten, fun μ => ?_, by simp; omega, fun y hy => ?_⟩
        · show (if 2 ≤ (ln.length : Int) ∧ (ln.length : Int) ≤ 1000 ∧ [c] ≠ [] ∧ [c].length ≤ 1000 then Res.ok (D.str (List.replicate (ln.length : Int).toNat [c]).flatten) μ else _) = _
          rw [if_pos ⟨by omega, by omega, by simp, by simp⟩, Int.toNat_natCast]
        · simp at hy; omega
      · have h2 : ln.length = 1 := by omega
        refine ⟨[c], fun μ => ?_, by simp, fun y hy => by simp at hy; omega⟩
        rw [h2]
        show (if 2 ≤ ((1 : Nat) : Int) ∧ ((1 : Nat) : Int) ≤ 1000 ∧ [c] ≠ [] ∧ [c].length ≤ 1000 then Res.ok (D.str (List.replicate ((1 : Nat) : Int).toNat [c]).flatten) μ else if ((1 : Nat) : Int) = 1 then Res.ok (D.str [c]) μ else .stuck) = _
        rw [if_neg (by simp), if_pos (show ((1 : Nat) : Int) = 1 from rfl)]
    obtain ⟨t1, mt1, ht1⟩ := ms 100 (by decide)
    obtain ⟨t2, mt2, ht2⟩ := ms 35 (by decide)
    have mr : ∀ t : Txt, ∀ μ, binF .mul (.tup [.str t]) (.int b.length) μ = .ok (rowD (List.replicate b.length [t]).flatten) μ := fun t μ => row_mul1 (r := [t]) (by omega) (by omega) (by simp) (by simp)
    have sr : ∀ {t : Txt}, Ts 8 t → ∀ μ, Sn μ (rowD (List.replicate b.length [t]).flatten) := fun h μ => sn_row (n := 8) (fun s hs => by simp at hs; rw [hs.2]; exact h) (by decide) (by simp; omega) μ
    unfold sE
    simp_arith [lnl, mt1, mt2, mr, wS]
    refine comp_allS D.str (w := .row (S.map .str)) (fun _ _ => trivial) (by omega) (fun x hx μ6 g6 => ?_) fun ys μ6 hy6 hT6 sn6 g6 => ?_
    · have io : mfOk .repl (.str x) = fun _ => true := rfl
      have rp : ∀ μ, methF prog.cst .repl (.str x) [.str [35], .str [100]] μ = .ok (.str (x.map fun c => if c = 35 then 100 else c)) μ := fun μ => by
        show (if 35 ≠ 100 ∧ x.length ≤ mostLen then Res.ok (D.str (x.map fun c => if c = 35 then 100 else c)) μ else .stuck) = _
        rw [if_pos ⟨by decide, mpos x hx⟩]
      simp_arith [io, rp]
      refine ⟨_, rfl, Ts.sn (n := 8) ⟨by have := (hS x hx).1; simp; omega, fun y hy => ?_⟩ (by decide) _, Gr.refl _ _⟩
      obtain ⟨c, hc, rfl⟩ := List.mem_map.mp hy
      have := (hS x hx).2 c hc
      split <;> omega
    have tp : bfF .tuple (.loc μ5.length) μ6 = .ok (.tup ys) μ6 := tuple_lst _ hT6
    simp_arith [tp]
    have g7 := fun ν => g6.trans (Gr.app [] μ6 ν)
    refine ⟨_, _, rfl, get_new _ _, g6.len, Nat.le_refl _, ?_, gr_stm (g7 _) w5.st, (g7 _).nil⟩
    exact snL_cons (sr ht1 _) (snL_cons (sr ht2 _) (snL_cons (sr ⟨by decide, by simp⟩ _) (snL_cons (sn_tup (by omega) fun d hd => le_sn (Le.gr (Gr.app [0, 2] μ6 _)) (snL_mem sn6 hd)) rfl)))
  rw [thenX_nx]
  unfold sE
  simp_arith [ss16, handQ_rt]
  obtain ⟨xs, q1, q2, q3⟩ := w6.ls
  exact ⟨_, rfl, ⟨xs, q1, by omega, q3⟩, w6.st, w6.gr, w6.T0, w6.Tm⟩
end K86
end
section
set_option Elab.async false
set_option linter.all false
set_option autoImplicit false
set_option maxRecDepth 100000
set_option maxHeartbeats 1000000
namespace K86
open PL
theorem settings_ok {k : Nat} (hk : 3 ≤ k) {μ : Store} (s : Stm μ) {b : Board} {m n : Nat} (B : Bok b m n) {S : List Txt} (hf : fitB b S = true) : ∃ (l : Nat) (xs : List D) (μ' : Store), cF k 1015 [.loc 2, bD b, rowD S] μ = .ok (.loc l) μ' ∧ μ'[l]? = some (.lst xs) ∧ 3 ≤ l ∧ 0 < xs.length ∧ xs.length ≤ 200 ∧ SnL μ' xs ∧ Stm μ' ∧ Gr [0, 2] μ μ' := by
  obtain ⟨k, rfl⟩ : ∃ j, k = j + 1 := ⟨k - 1, by omega⟩
  rw [show cF (k + 1) 1015 [.loc 2, bD b, rowD S] μ = callB prog N0 (cF k) f_law_settings [.loc 2, bD b, rowD S] μ from call_loc' (fn := f_law_settings) rfl rfl rfl]
  suffices h : xR (callB prog N0 (cF k) f_law_settings [.loc 2, bD b, rowD S] μ) (fun d μ' => ∃ T, d = .loc T ∧ W μ T 200 μ') noX by
    obtain ⟨d, μ', e, T, rfl, w⟩ := okR_ex.mp (xR_okR h fun _ _ z => z)
    obtain ⟨xs, h1, h2, h3, h4⟩ := w.ls
    exact ⟨T, xs, μ', e, h1, w.T0, h3, h2, h4, w.st, w.gr⟩
  have hm := B.r; have hm1 := B.r1; have hm8 := B.r8; have hn1 := B.c1; have hn8 := B.c8
  have hSl := fitB_len hf
  have hS := fun s hs => (fit_ts B hf s hs).1
  have hSn := fun s hs => (fit_ts B hf s hs).2
  obtain ⟨hh, hh0⟩ := head_len B
  have a0 : atIx (b.map rowD) 0 = some (rowD (b.headD [])) := b_at (i := 0) hh0
  obtain ⟨r, μ1, e1, hr, t1, g1⟩ := pull_ok (show 1 ≤ k by omega) s (n := (b.length : Int)) (by omega) (by omega)
  obtain ⟨c, μ2, e2, hc, t2, g2⟩ := pull_ok (show 1 ≤ k by omega) t1 (n := ((b.headD []).length : Int)) (by omega) (by omega)
  obtain ⟨ln, hln⟩ : ∃ ln, S[r]? = some ln := ⟨_, List.getElem?_eq_getElem (by omega)⟩
  have hlS := List.mem_of_getElem? hln
  have tln := hS ln hlS
  have lln := hSn ln hlS
  have a1 := r_at hln
  have lm : ln.length ≤ mostLen := by rw [mostLen_eq]; omega
  have pS : ∀ x μ, cF k 1006 [rowD S, .int r, x] μ = .ok (.tup ((S.map D.str).set r x)) μ := put_r (by omega) (by omega) (by omega)
  have c1 : ∀ μ, slF (.str ln) none (some (c : Int)) μ = .ok (.str (ln.take c)) μ := fun μ => by rw [slF_str, if_pos lm, cut_to]
  have c2 : ∀ μ, slF (.str ln) (some ((c : Int) + 1)) none μ = .ok (.str (ln.drop (c + 1))) μ := fun μ => by rw [slF_str, if_pos lm, show cut ln (some ((c : Int) + 1)) none = ln.drop (c + 1) from cut_from ln (c + 1)]
  have q1 : ((ln.take c).length + 1 ≤ mostLen) = True := eq_true (by rw [mostLen_eq]; simp; omega)
  have sS : ∀ μ, Sn μ (rowD S) := fun μ => sn_row hS (by omega) (by omega) μ
  rw [ss_eq]
  simp_arith [ss1, ss2, ss3, ss4, ss5, ss6, b_len, e1, b_ix, a0, row_len, e2, row_ix, a1]
  generalize hG : μ2.length = G at *
  have wg : walkF (.loc G) (μ2 ++ [Obj.lst sgs]) = some (.lst G sgs) := walk_lst _ (by rw [← hG]; exact get_new _ _)
  rw [show [D.str [100], D.str [115], D.str [117], D.str [35], D.str [68], D.str [46], D.str [32], D.str [120], D.str [48], D.str [10]] = sgs from rfl]
  simp_arith [wg]
  have hg2 : (μ2 ++ [Obj.lst sgs])[G]? = some (.lst sgs) := by rw [← hG]; exact get_new _ _
  have t2l := t2.len
  refine okR_xR (comp_allD (w := .lst G sgs) (fun μ g => g.get hg2 (by simp)) (by decide) (fun x hx μ4 g4 => ?_) fun ys μ4 hy4 hT4 sn4 g4 => ?_)
  · obtain ⟨cc, rfl, hcc⟩ := sgs_mem hx
    have q2 : ((ln.take c ++ [cc]).length + (ln.drop (c + 1)).length ≤ mostLen) = True := eq_true (by rw [mostLen_eq]; simp; omega)
    simp_arith [c1, c2, q1, q2, pS]
    exact ⟨_, rfl, sn_set (sS _) (Ts.sn (n := n + 1 + n) (((tln.take c).app ⟨by simp, by simpa using hcc⟩).app (tln.drop (c + 1))) (by omega) _), Gr.refl _ _⟩
  have hT : (μ2 ++ [Obj.lst sgs]).length = G + 1 := by simp; omega
  rw [hT] at hT4 ⊢
  obtain ⟨lb, hlb2⟩ : ∃ lb, S[b.length - 1]? = some lb := ⟨_, List.getElem?_eq_getElem (by omega)⟩
  have tlb := hS lb (List.mem_of_getElem? hlb2)
  have llb := hSn lb (List.mem_of_getElem? hlb2)
  have i1 : ((b.length : Int) - 1) = ((b.length - 1 : Nat) : Int) := by omega
  have a3 : atIx (S.map D.str) ((b.length : Int) - 1) = some (.str lb) := by rw [i1]; exact r_at hlb2
  have pS2 : ∀ x μ, cF k 1006 [rowD S, .int ((b.length : Int) - 1), x] μ = .ok (.tup ((S.map D.str).set (b.length - 1) x)) μ := fun x μ => by rw [i1]; exact put_r (by omega) (by omega) (by omega) x μ
  have t4 := gr_stm ((Gr.app [] μ2 [Obj.lst sgs]).trans g4) t2
  obtain ⟨o, μ5, ho, e5, t5, g5⟩ := one_l (show 2 ≤ k by omega) t4 (g4.get hg2 (by simp)) (by omega) (by omega) (by decide) (by decide)
  obtain ⟨cc, rfl, hcc⟩ := sgs_mem ho
  have c3 : ∀ μ, slF (.str lb) none (some (-1)) μ = .ok (.str (lb.take (lb.length - 1))) μ := fun μ => by rw [slF_str, if_pos (by rw [mostLen_eq]; omega), cut_to1]
  have q3 : ((lb.take (lb.length - 1)).length + 1 ≤ mostLen) = True := eq_true (by rw [mostLen_eq]; simp; omega)
  simp_arith [ss7, ss8, row_ix, a3, e5, c3, q3, pS2, row_set]
  generalize hL : S.set (b.length - 1) (lb.take (lb.length - 1) ++ [cc]) = SL
  have hSL : ∀ s ∈ SL, Ts 9 s := by
    rw [← hL]
    exact set_ts (fun s hs => (hS s hs).mono (by omega)) (((tlb.take _).app (m := 1) ⟨by simp, by simpa using hcc⟩).mono (by omega))
  have hSLl : SL.length = m := by rw [← hL]; simp; omega
  obtain ⟨lt, hlt⟩ : ∃ lt, SL[r]? = some lt := ⟨_, List.getElem?_eq_getElem (by omega)⟩
  have d1 : ∀ μ, slF (.str ln) (some 1) none μ = .ok (.str (ln.drop 1)) μ := fun μ => by rw [slF_str, if_pos lm, show cut ln (some 1) none = ln.drop 1 from cut_from ln 1]
  have d2 : ∀ μ, slF (.str ln) none (some (-1)) μ = .ok (.str (ln.take (ln.length - 1))) μ := fun μ => by rw [slF_str, if_pos lm, cut_to1]
  have d3 : (ln.length + 1 ≤ mostLen) = True := eq_true (by rw [mostLen_eq]; omega)
  have d4 : (1 + ln.length ≤ mostLen) = True := eq_true (by rw [mostLen_eq]; omega)
  have d5 : ∀ μ, bfF .listS (.str ln) μ = .ok (.loc μ.length) (μ ++ [.lst (ln.map fun c => .str [c])]) := fun μ => by
    show (if ln.length ≤ mostLen then PL.new (.lst (ln.map fun c => D.str [c])) μ else .stuck) = _
    rw [if_pos lm]; rfl
  have d6 : ∀ μ, bfF .tupleS (.str ln) μ = .ok (rowD (ln.map fun c => [c])) μ := fun μ => by
    show (if ln.length ≤ mostLen then Res.ok (D.tup (ln.map fun c => .str [c])) μ else .stuck) = _
    rw [if_pos lm]
    unfold rowD
    rw [List.map_map]; rfl
  simp_arith [ss9, d1, d2, d3, d4, d5, d6]
  have snl : ∀ μ a b, Sn μ (.loc a) → Sn μ (.loc b) → SnL μ [.str (ln.drop 1), .str (ln.take (ln.length - 1)), .str (ln ++ [100]), .str (100 :: ln), .str (ln ++ [35]), .str [], .loc a, rowD (ln.map fun c => [c]), .non, .int 1, .bl true, .str (ln ++ [32]), .tup [.str ln], .loc b] := fun μ a b h1 h2 => by
    have ts : ∀ {s : Txt} {j : Nat}, Ts j s → j ≤ 1000 → Sn μ (.str s) := fun h k => h.sn k μ
    refine snL_cons (ts (tln.drop 1) (by omega)) (snL_cons (ts (tln.take _) (by omega)) (snL_cons (ts (tln.app (m := 1) ⟨by decide, by decide⟩) (by omega)) (snL_cons (ts (j := n + 1) ⟨by have := tln.1; simp; omega, fun y hy => ?_⟩ (by omega)) (snL_cons (ts (tln.app (m := 1) ⟨by decide, by decide⟩) (by omega)) (snL_cons rfl (snL_cons h1 (snL_cons ?_ (snL_cons rfl (snL_cons rfl (snL_cons rfl (snL_cons (ts (tln.app (m := 1) ⟨by decide, by decide⟩) (by omega)) (snL_cons ?_ (snL_cons h2 rfl)))))))))))))
    · rcases List.mem_cons.mp hy with rfl | hy
      · decide
      · exact tln.2 y hy
    · refine sn_row (n := 1) (fun s hs => ?_) (by decide) (by simp; omega) _
      obtain ⟨c, hc, rfl⟩ := List.mem_map.mp hs
      exact ⟨Nat.le_refl _, fun y hy => by rw [List.mem_singleton.mp hy]; exact tln.2 c hc⟩
    · exact sn_tup (by simp) fun d hd => by rw [List.mem_singleton.mp hd]; exact ts tln (by omega)
  have T5 : G + 1 < μ5.length := by
    have := (List.getElem?_eq_some_iff.mp hT4).1
    have := g5.len; omega
  have hT5 := g5.get hT4 (n02 (by omega))
  have hg5 := g5.get (g4.get hg2 (by simp)) (n02 (by omega))
  have gT := fun o1 o2 o3 => ((Gr.app [] μ5 [o1]).trans (Gr.app [] _ [o2])).trans (Gr.app [] _ [o3])
  refine tailS_ok (by omega) B (T := G + 1) (μ0 := μ) (lns := [.str (ln.drop 1), .str (ln.take (ln.length - 1)), .str (ln ++ [100]), .str (100 :: ln), .str (ln ++ [35]), .str [], .loc μ5.length, rowD (ln.map fun c => [c]), .non, .int 1, .bl true, .str (ln ++ [32]), .tup [.str ln], .loc (μ5 ++ [Obj.lst (ln.map fun c => D.str [c])]).length]) hln (by omega) (fun s hs => (hS s hs).mono (by omega)) (fun s hs => by rw [hSn s hs]; omega) ⟨⟨ys, (gT _ _ _).get hT5 (by simp), by rw [hy4]; decide, by rw [hy4]; decide, le_snL ((Le.gr g5).trans (Le.gr (gT _ _ _).nil)) sn4⟩, gr_stm (gT _ _ _) t5, g1.trans (g2.trans ((Gr.app [] μ2 [Obj.lst sgs]).nil.trans (g4.nil.trans (g5.trans (gT _ _ _).nil)))), by omega, by have := g1.len; have := g2.len; omega⟩ ((gT _ _ _).get hg5 (by simp)) (by omega) (by omega) (get_new _ _) rfl (snl _ _ _ ?_ ?_) (by simp; omega) hSLl hlt hSL
  · exact sn_loc (by omega) (by omega) ((Gr.app [] _ _).get ((Gr.app [] _ _).get (get_new _ _) (by simp)) (by simp))
  · exact sn_loc (by simp <;> omega) (by simp <;> omega) ((Gr.app [] _ _).get (get_new _ _) (by simp))
end K86
end
section
set_option Elab.async false
set_option linter.all false
set_option autoImplicit false
set_option maxRecDepth 100000
set_option maxHeartbeats 1000000
namespace K86
open PL
def aq1 : S := (.asg (.nm 3) (.call 1007 (.cons (.v 0) (.cons (.v 1) .nil))))
def aq2 : S := (.asg (.nm 4) (.bf .tuple (.comp (.nm 13) (.val (.v 1)) .yes (.meth .join (.str []) (.cons (.comp (.nm 14) (.val (.v 13)) .yes (.ite (.cmp .ne (.v 14) (.str [])) (.slU (.v 14) (.int 1)) (.str [35])) [14]) .nil)) [13])))
def aq3 : S := (.asg (.nm 5) (.bf .tuple (.comp (.nm 13) (.val (.v 1)) .yes (.meth .join (.str []) (.cons (.comp (.nm 14) (.val (.v 13)) .yes (.ite (.cmp .ne (.v 14) (.str [])) (.slL (.v 14) (.neg (.int 1))) (.str [35])) [14]) .nil)) [13])))
def aq4 : S := (.ite (.or (.cmp .isn (.call 59 (.cons (.v 1) .nil)) (.bl true)) (.or (.cmp .isn (.call 55 (.cons (.v 1) (.cons (.v 3) .nil))) (.bl true)) (.cmp .isn (.call 55 (.cons (.v 1) (.cons (.bf .list (.v 3)) .nil))) (.bl false)))) (.cons (.ret (.bl false)) .nil) .nil)
def aq5 : S := (.fr (.nm 6) (.val (.tup (.cons (.v 3) (.cons (.v 4) (.cons (.v 5) .nil))))) (.cons (.ite (.not (.call 1012 (.cons (.v 1) (.cons (.v 6) .nil)))) (.cons (.ret (.bl false)) .nil) .nil) .nil))
def aq6 : S := (.ite (.or (.not (.call 1012 (.cons .non (.cons (.v 1) .nil)))) (.not (.call 1012 (.cons .non (.cons (.bf .list (.v 1)) .nil))))) (.cons (.ret (.bl false)) .nil) .nil)
def aq7 : S := (.asg (.nm 7) (.call 1014 (.cons (.v 0) (.cons (.v 1) .nil))))
def aq8 : S := (.asg (.nm 8) (.call 1015 (.cons (.v 0) (.cons (.v 1) (.cons (.v 3) .nil)))))
def aq9 : S := (.asg (.nm 9) (.call 1001 (.cons (.v 0) (.cons (.bf .len (.v 7)) .nil))))
def aq10 : S := (.asg (.nm 10) (.call 1001 (.cons (.v 0) (.cons (.bf .len (.v 8)) .nil))))
def aq11 : S := (.fr (.nm 11) (.rng (.v 2)) (.cons (.ite (.not (.call 1012 (.cons .non (.cons (.ix (.v 7) (.bin .mod (.bf .int (.bin .add (.v 9) (.bin .mul (.int 5) (.v 11)))) (.bf .len (.v 7)))) .nil)))) (.cons (.ret (.bl false)) .nil) .nil) (.cons (.ite (.not (.call 1012 (.cons (.v 1) (.cons (.ix (.v 8) (.bin .mod (.bf .int (.bin .add (.v 10) (.bin .mul (.int 5) (.v 11)))) (.bf .len (.v 8)))) .nil)))) (.cons (.ret (.bl false)) .nil) .nil) .nil)))
def aq12 : S := (.asg (.nm 12) (.call 1005 (.cons (.v 0) (.cons (.bf .len (.v 1)) (.cons (.bf .len (.ix (.v 1) (.int 0))) .nil)))))
def aq13 : S := (.ret (.and (.call 1012 (.cons (.v 1) (.cons (.call 1007 (.cons (.v 0) (.cons (.v 12) .nil))) .nil))) (.call 1012 (.cons (.v 12) (.cons (.v 3) .nil)))))
def aT : Ss := .cons aq4 (.cons aq5 (.cons aq6 (.cons aq7 (.cons aq8 (.cons aq9 (.cons aq10 (.cons aq11 (.cons aq12 (.cons aq13 .nil)))))))))
theorem aq_eq : f_law_asked = ⟨3, 15, .cons aq1 (.cons aq2 (.cons aq3 aT))⟩ := rfl
/-! a right board's look -/
theorem scanR_b {n : Nat} (hn1 : 1 ≤ n) (hn8 : n ≤ 8) : ∀ {b : Board} {i : Nat}, (∀ x ∈ b, x.length = n) → scanR n i (b.map rowD) = none
  | [], _, _ => rfl
  | r :: b, i, h => by
    have hr := h r (by simp)
    have : rowBad n (rowD r) = none := by
      show (if 1 ≤ (r.map D.str).length ∧ (r.map D.str).length ≤ 8 ∧ (r.map D.str).length = n then none else some sSize) = none
      rw [if_pos (by simp; omega)]
    rw [List.map_cons, scanR_cons, this]
    exact scanR_b hn1 hn8 fun x hx => h x (by simp [hx])
theorem scanC_b {i : Nat} : ∀ {r : List Txt} {j : Nat}, (∀ s ∈ r, s ∈ K8) → scanC i j (r.map .str) = none
  | [], _, _ => rfl
  | s :: r, j, h => by
    show (if isK (.str s) then scanC i (j + 1) (r.map .str) else _) = none
    rw [if_pos (show isK (.str s) = true from decide_eq_true (h s (by simp)))]
    exact scanC_b fun x hx => h x (by simp [hx])
theorem scanK_b : ∀ {b : Board} {i : Nat}, (∀ x ∈ b, ∀ s ∈ x, s ∈ K8) → scanK i (b.map rowD) = none
  | [], _, _ => rfl
  | r :: b, i, h => by
    show scanK i (.tup (r.map .str) :: b.map rowD) = none
    rw [scanK_cons, scanC_b (h r (by simp))]
    exact scanK_b fun x hx => h x (by simp [hx])
theorem cnt_t : ∀ r : List Txt, cnt (r.map .str) = cntT r
  | [] => rfl
  | s :: r => by
    rw [List.map_cons, cnt_str, cnt_t r]; rfl
theorem cntR_b : ∀ b : Board, cntR (b.map rowD) = cntB b
  | [] => rfl
  | r :: b => by
    show cntR (.tup (r.map .str) :: b.map rowD) = cntT r + cntB b
    rw [cntR_cons, cnt_t, cntR_b b]
theorem dLen_head {b : Board} {m n : Nat} (B : Bok b m n) : dLen ((b.map rowD).headD .non) = n := by
  cases b with
  | nil => have := B.r; have := B.r1; simp at *; omega
  | cons r b =>
    show (r.map D.str).length = n
    rw [List.length_map]; exact B.c r (by simp)
theorem board_fit {b : Board} {m n : Nat} (B : Bok b m n) (h : 0 < cntB b) : boardR (bD b) = .ok (cntB b) := by
  show boardR (.tup (b.map rowD)) = _
  have := B.r; have := B.r1; have := B.r8
  rw [boardR_eq, if_neg (by rw [List.length_map]; omega), dLen_head B, scanR_b B.c1 B.c8 B.c]
  simp only [scanK_b B.k]
  rw [cntR_b, if_neg (by omega)]
theorem strs_ex {n : Nat} : ∀ {ys : List D}, (∀ d ∈ ys, ∃ s, d = .str s ∧ Ts n s) → ∃ l : List Txt, ys = l.map .str ∧ ∀ s ∈ l, Ts n s
  | [], _ => ⟨[], rfl, by simp⟩
  | y :: ys, h => by
    obtain ⟨s, rfl, hs⟩ := h y (by simp)
    obtain ⟨l, rfl, hl⟩ := strs_ex (ys := ys) fun d hd => h d (by simp [hd])
    exact ⟨s :: l, rfl, by intro x hx; rcases List.mem_cons.mp hx with rfl | hx; exact hs; exact hl x hx⟩
theorem aT_ok {k : Nat} (hk : 5 ≤ k) {b : Board} {m n N : Nat} (B : Bok b m n) (hb : 0 < cntB b) (hN : N ≤ 100) {S : List Txt} (hf : fitB b S = true) {d1 d2 : D} {μ : Store} (st : Stm μ) (s1 : Sn μ d1) (s2 : Sn μ d2) :
    xS (exs prog.cst (cF k) N0 aT [some (.loc 2), some (bD b), some (.int N), some (rowD S), some d1, some d2, none, none, none, none, none, none, none, none, none] μ) (handQ fun d μ' => d = .bl true ∧ Stm μ' ∧ Gr [0, 2] μ μ') fun x _ μ => noX x μ := by
  have hm := B.r; have hm1 := B.r1; have hm8 := B.r8; have hn1 := B.c1; have hn8 := B.c8
  have hSl := fitB_len hf
  have hS := fun s hs => (fit_ts B hf s hs).1
  have sb : ∀ μ, Sn μ (bD b) := fun μ => B.sn μ
  have sS : ∀ μ, Sn μ (rowD S) := fun μ => sn_row hS (by omega) (by omega) μ
  obtain ⟨hh, hh0⟩ := head_len B
  have a0 : atIx (b.map rowD) 0 = some (rowD (b.headD [])) := b_at (i := 0) hh0
  have t3 := st.len
  have i1 : ∀ μ, cF k 59 [bD b] μ = .ok (.bl true) μ := fun μ => by rw [is_board_ok (by omega) (sb μ), board_fit B hb]; rfl
  have i2 : ∀ μ, cF k 55 [bD b, rowD S] μ = .ok (.bl true) μ := fun μ => by rw [is_setting_ok (by omega) B (sS μ), set_fit B hf]; rfl
  have i3 : ∀ μ ys, 3 ≤ μ.length → cF k 55 [bD b, .loc μ.length] (μ ++ [.lst ys]) = .ok (.bl false) (μ ++ [.lst ys]) := fun μ ys h => by rw [is_setting_ok (by omega) B (sn_loc (by omega) (by omega) (get_new _ _))]; rfl
  have l0 : ∀ μ, bfF .list (rowD S) μ = .ok (.loc μ.length) (μ ++ [.lst (S.map .str)]) := fun _ => rfl
  unfold aT
  simp_arith [aq4, i1, i2, l0, i3 μ _ t3]
  generalize hμa : μ ++ [Obj.lst (S.map D.str)] = μa
  have ga : Gr [] μ μa := by rw [← hμa]; exact Gr.app _ _ _
  simp_arith [aq5]
  refine for_restL (w := .row [rowD S, d1, d2]) (fun d : D => d) (fun r ρ μ' => (∃ x, ρ = [some (.loc 2), some (bD b), some (.int N), some (rowD S), some d1, some d2, x, none, none, none, none, none, none, none, none]) ∧ Gr [] μ μ' ∧ ∀ d ∈ r, Sn μ' d) (fun _ _ _ _ => trivial) ?_ ?_ [rowD S, d1, d2] _ μa ⟨⟨_, rfl⟩, ga, ?_⟩
  · rintro x r ρ μ' ⟨⟨y, h7⟩, g, hs⟩
    subst h7
    obtain ⟨ν, e⟩ := right_s hk B (hs x (by simp))
    simp_arith [e]
    exact ⟨⟨_, rfl⟩, g.trans (Gr.app _ _ _), fun d hd => gr_sn (Gr.app [0, 2] _ _) (hs d (by simp [hd]))⟩
  rotate_left
  · intro d hd
    simp only [List.mem_cons, List.not_mem_nil, or_false] at hd
    rcases hd with rfl | rfl | rfl
    · exact sS _
    · exact gr_sn ga.nil s1
    · exact gr_sn ga.nil s2
  rintro ρ μ1 ⟨⟨y, h7⟩, g, -⟩
  subst h7
  obtain ⟨ν1, e1⟩ := right_b (show 4 ≤ k by omega) (sb μ1)
  have t1 := gr_stm (g.trans (Gr.app [] _ ν1)) st
  have l1 := t1.len
  obtain ⟨ν2, e2⟩ := right_b (show 4 ≤ k by omega) (μ := μ1 ++ ν1 ++ [.lst (b.map rowD)]) (d := .loc (μ1 ++ ν1).length) (sn_loc (by omega) (by omega) (get_new _ _))
  have t2 := gr_stm ((Gr.app [] _ [Obj.lst (b.map rowD)]).trans (Gr.app [] _ ν2)) t1
  have g2 : Gr [] μ (μ1 ++ ν1 ++ [.lst (b.map rowD)] ++ ν2) := g.trans ((Gr.app [] _ ν1).trans ((Gr.app [] _ [Obj.lst (b.map rowD)]).trans (Gr.app [] _ ν2)))
  simp_arith [aq6, e1, b_list, e2]
  generalize (μ1 ++ ν1 ++ [Obj.lst (b.map rowD)] ++ ν2) = μ2 at *
  obtain ⟨lb, bs, μ3, e3, hlb, lb3, hbs1, hbs2, sbs, t3', g3⟩ := boards_ok (show 3 ≤ k by omega) t2 B
  obtain ⟨ls, ss, μ4, e4, hls, ls3, hss1, hss2, sss, t4, g4⟩ := settings_ok (show 3 ≤ k by omega) t3' B hf
  have hlb4 := g4.get hlb (n02 lb3)
  obtain ⟨v, μ5, e5, hv, t5, g5⟩ := pull_ok (show 1 ≤ k by omega) t4 (n := (bs.length : Int)) (by omega) (by omega)
  have hls5 := g5.get hls (n02 ls3)
  obtain ⟨u, μ6, e6, hu, t6, g6⟩ := pull_ok (show 1 ≤ k by omega) t5 (n := (ss.length : Int)) (by omega) (by omega)
  have hlb6 := g6.get (g5.get hlb4 (n02 lb3)) (n02 lb3)
  have hls6 := g6.get hls5 (n02 ls3)
  have sb6 : SnL μ6 bs := le_snL ((Le.gr g4).trans ((Le.gr g5).trans (Le.gr g6))) sbs
  have ss6 : SnL μ6 ss := le_snL ((Le.gr g5).trans (Le.gr g6)) sss
  have ln1 : bfF .len (.loc lb) μ4 = .ok (.int bs.length) μ4 := len_lst _ hlb4
  have ln2 : bfF .len (.loc ls) μ5 = .ok (.int ss.length) μ5 := len_lst _ hls5
  have G6 : Gr [0, 2] μ μ6 := g2.nil.trans (g3.trans (g4.trans (g5.trans g6)))
  simp_arith [aq7, aq8, aq9, aq10, e3, e4, ln1, e5, ln2, e6, aq11, rng_ok (show N ≤ 1000000 by omega)]
  refine for_idx (xs := List.replicate N ()) (n := N) (by simp) (fun i r ρ μ' => (∃ y z, ρ = [some (.loc 2), some (bD b), some (.int N), some (rowD S), some d1, some d2, y, some (.loc lb), some (.loc ls), some (.int v), some (.int u), z, none, none, none]) ∧ Gr [] μ6 μ') ?_ ?_ _ μ6 ⟨⟨_, _, rfl⟩, Gr.refl _ _⟩
  · rintro i x r ρ μ' hx _ ⟨⟨y, z, h7⟩, g⟩
    subst h7
    have ml : ∀ μ, binF .mul (.int 5) (.int (i : Int)) μ = .ok (.int (5 * (i : Int))) μ := fun μ => mul_sm' (by decide) μ
    have hb' := g.get hlb6 (by simp)
    have md1 : ∀ j μ, binF .mod (.int j) (.int bs.length) μ = .ok (.int (j % bs.length)) μ := fun j μ => mod_ok (by omega) μ
    have md2 : ∀ j μ, binF .mod (.int j) (.int ss.length) μ = .ok (.int (j % ss.length)) μ := fun j μ => mod_ok (by omega) μ
    have nat : ∀ (j : Int) {n : Nat}, 0 < n → ∃ q : Nat, j % (n : Int) = (q : Int) ∧ q < n := fun j n h => ⟨(j % (n : Int)).toNat, (Int.toNat_of_nonneg (Int.emod_nonneg _ (by omega))).symm, by have := Int.emod_lt_of_pos j (show (0 : Int) < n by omega); have := Int.emod_nonneg j (show (n : Int) ≠ 0 by omega); omega⟩
    obtain ⟨q1, hq1, lq1⟩ := nat ((v : Int) + 5 * (i : Int)) hbs1
    obtain ⟨q2, hq2, lq2⟩ := nat ((u : Int) + 5 * (i : Int)) hss1
    have ix1 : ∀ j, ixF prog.cst (.loc lb) (.int j) μ' = okI (atIx bs j) μ' := fun j => ix_lst _ _ hb'
    have at1 := atIx_of (List.getElem?_eq_getElem lq1)
    have ln1 : bfF .len (.loc lb) μ' = .ok (.int bs.length) μ' := len_lst _ hb'
    obtain ⟨ν1, f1⟩ := right_b (show 4 ≤ k by omega) (d := bs[q1]) (μ := μ') (gr_sn g.nil (snL_mem sb6 (by simp)))
    have g' := g.trans (Gr.app [] _ ν1)
    have hs' := g'.get hls6 (by simp)
    have ix2 : ∀ j, ixF prog.cst (.loc ls) (.int j) (μ' ++ ν1) = okI (atIx ss j) (μ' ++ ν1) := fun j => ix_lst _ _ hs'
    have at2 := atIx_of (List.getElem?_eq_getElem lq2)
    have ln2 : bfF .len (.loc ls) (μ' ++ ν1) = .ok (.int ss.length) (μ' ++ ν1) := len_lst _ hs'
    obtain ⟨ν2, f2⟩ := right_s hk B (d := ss[q2]) (μ := μ' ++ ν1) (gr_sn g'.nil (snL_mem ss6 (by simp)))
    simp_arith [ml, ln1, md1, hq1, ix1, at1, f1, ln2, md2, hq2, ix2, at2, f2]
    exact ⟨⟨_, _, rfl⟩, g'.trans (Gr.app _ _ _)⟩
  · rintro ρ μ' ⟨⟨y, z, h7⟩, g⟩
    subst h7
    have t7 := gr_stm g t6
    obtain ⟨b2, μ8, Bo, hc2, f1, t8, g8⟩ := board_ok (show 3 ≤ k by omega) t7 hm1 hm8 hn1 hn8
    rw [← hm, ← hh] at f1
    obtain ⟨S2, μ9, hf2, f2, t9, g9⟩ := setting_ok (show 2 ≤ k by omega) t8 Bo
    obtain ⟨ν1, f3⟩ := right_s hk B (d := rowD S2) (μ := μ9) (sn_row (fun s hs => (fit_ts Bo hf2 s hs).1) (by omega) (by have := fitB_len hf2; have := Bo.r; omega) _)
    obtain ⟨ν2, f4⟩ := right_s hk Bo (d := rowD S) (μ := μ9 ++ ν1) (sS _)
    simp_arith [aq12, aq13, b_len, b_ix, a0, row_len, f1, f2, f3, f4, handQ_rt]
    have gg := (Gr.app [] μ9 ν1).trans (Gr.app [] _ ν2)
    exact ⟨gr_stm gg t9, G6.trans (g.nil.trans (g8.trans (g9.trans gg.nil)))⟩
theorem asked_ok {k : Nat} (hk : 6 ≤ k) {μ : Store} (s : Stm μ) {b : Board} {m n N : Nat} (B : Bok b m n) (hb : 0 < cntB b) (hN : N ≤ 100) : ∃ μ', cF k 1016 [.loc 2, bD b, .int N] μ = .ok (.bl true) μ' ∧ Stm μ' ∧ Gr [0, 2] μ μ' := by
  obtain ⟨k, rfl⟩ : ∃ j, k = j + 1 := ⟨k - 1, by omega⟩
  rw [show cF (k + 1) 1016 [.loc 2, bD b, .int N] μ = callB prog N0 (cF k) f_law_asked [.loc 2, bD b, .int N] μ from call_loc' (fn := f_law_asked) rfl rfl rfl]
  suffices h : xR (callB prog N0 (cF k) f_law_asked [.loc 2, bD b, .int N] μ) (fun d μ' => d = .bl true ∧ Stm μ' ∧ Gr [0, 2] μ μ') noX by
    obtain ⟨d, μ', e, rfl, w⟩ := okR_ex.mp (xR_okR h fun _ _ z => z)
    exact ⟨μ', e, w⟩
  have hm := B.r; have hm1 := B.r1; have hm8 := B.r8; have hn1 := B.c1; have hn8 := B.c8
  obtain ⟨S, μ1, hf, e1, t1, g1⟩ := setting_ok (show 2 ≤ k by omega) s B
  have wb : ∀ μ, walkF (bD b) μ = some (.row (b.map rowD)) := fun _ => rfl
  have wr : ∀ r μ, walkF (rowD r) μ = some (.row (r.map .str)) := fun _ _ => rfl
  rw [aq_eq]
  simp_arith [aq1, e1, aq2, wb]
  refine okR_xR (comp_allS rowD (w := .row (b.map rowD)) (fun _ _ => trivial) (by omega) (fun x hx μ2 g2 => ?_) fun ys μ2 hy2 hT2 sn2 g2 => ?_)
  · simp_arith [wr]
    refine comp_all D.str (w := .row (x.map .str)) (fun _ d => ∃ s, d = .str s ∧ Ts 3 s) (fun _ h => h) (fun _ _ => trivial) (by have := B.c x hx; omega) (fun kd hkd μ3 g3 => ?_) fun ys μ3 hy3 hT3 hG g3 => ?_
    · have tk := k8_ts kd (B.k x hx kd hkd)
      have c1 : ∀ μ, slF (.str kd) none (some 1) μ = .ok (.str (kd.take 1)) μ := fun μ => by rw [slF_str, if_pos (by rw [mostLen_eq]; have := tk.1; omega), show cut kd none (some 1) = kd.take 1 from cut_to kd 1]
      cases h0 : (kd == ([] : Txt)) with
      | true =>
        simp_arith [h0]
        exact ⟨_, rfl, ⟨_, rfl, by simp, by simp⟩, Gr.refl _ _⟩
      | false =>
        simp_arith [h0, c1]
        exact ⟨_, rfl, ⟨_, rfl, tk.take 1⟩, Gr.refl _ _⟩
    · obtain ⟨l, rfl, hl⟩ := strs_ex hG
      have := B.c x hx
      have hyl : l.length = x.length := by simpa using hy3
      have jn : methF prog.cst .join (.str []) [.loc μ2.length] μ3 = .ok (.str (joinT [] l)) μ3 := join_ok prog.cst (by unfold rowF; simp only [hT3]) hl (by omega)
      simp_arith [jn]
      exact ⟨_, rfl, (joinT_ts hl).sn (by omega) _, g3⟩
  have tp : bfF .tuple (.loc μ1.length) μ2 = .ok (.tup ys) μ2 := tuple_lst _ hT2
  simp_arith [tp, aq3, wb]
  refine okR_xR (comp_allS rowD (w := .row (b.map rowD)) (fun _ _ => trivial) (by omega) (fun x hx μ3 g3 => ?_) fun zs μ3 hy3 hT3 sn3 g3 => ?_)
  · simp_arith [wr]
    refine comp_all D.str (w := .row (x.map .str)) (fun _ d => ∃ s, d = .str s ∧ Ts 3 s) (fun _ h => h) (fun _ _ => trivial) (by have := B.c x hx; omega) (fun kd hkd μ4 g4 => ?_) fun ys μ4 hy4 hT4 hG g4 => ?_
    · have tk := k8_ts kd (B.k x hx kd hkd)
      have c1 : ∀ μ, slF (.str kd) (some (-1)) none μ = .ok (.str (kd.drop (kd.length - 1))) μ := fun μ => by rw [slF_str, if_pos (by rw [mostLen_eq]; have := tk.1; omega), cut_from1]
      cases h0 : (kd == ([] : Txt)) with
      | true =>
        simp_arith [h0]
        exact ⟨_, rfl, ⟨_, rfl, by simp, by simp⟩, Gr.refl _ _⟩
      | false =>
        simp_arith [h0, c1]
        exact ⟨_, rfl, ⟨_, rfl, tk.drop _⟩, Gr.refl _ _⟩
    · obtain ⟨l, rfl, hl⟩ := strs_ex hG
      have := B.c x hx
      have hyl : l.length = x.length := by simpa using hy4
      have jn : methF prog.cst .join (.str []) [.loc μ3.length] μ4 = .ok (.str (joinT [] l)) μ4 := join_ok prog.cst (by unfold rowF; simp only [hT4]) hl (by omega)
      simp_arith [jn]
      exact ⟨_, rfl, (joinT_ts hl).sn (by omega) _, g4⟩
  have tp : bfF .tuple (.loc μ2.length) μ3 = .ok (.tup zs) μ3 := tuple_lst _ hT3
  simp_arith [tp]
  refine xS_mono (aT_ok (by omega) B hb hN hf (gr_stm (g2.trans g3) t1) (sn_tup (by omega) fun d hd => gr_sn g3.nil (snL_mem sn2 hd)) (sn_tup (by omega) fun d hd => snL_mem sn3 hd)) (fun f ρ μ' h => ?_) fun _ _ _ z => z
  cases f with
  | rt d => exact ⟨h.1, h.2.1, g1.trans (g2.nil.trans (g3.nil.trans h.2.2))⟩
  | nx => exact ⟨h.1, h.2.1, g1.trans (g2.nil.trans (g3.nil.trans h.2.2))⟩
  | _ => exact h
end K86
end
section
set_option Elab.async false
set_option linter.all false
set_option autoImplicit false
set_option maxRecDepth 100000
set_option maxHeartbeats 1000000
namespace K86
open PL
def sq1 : S := (.asg (.nm 1) (.tup (.cons (.tup (.cons (.str [100, 115, 117]) (.cons (.str []) (.cons (.str [100, 117]) .nil)))) (.cons (.tup (.cons (.str [115]) (.cons (.str [115, 117]) (.cons (.str [100]) .nil)))) .nil))))
def sq2 : S := (.asg (.nm 2) (.lst (.cons (.tup (.cons (.tup .nil) (.cons (.tup (.cons (.neg (.int 1)) (.cons (.neg (.int 1)) (.cons (.str [115, 105, 122, 101]) .nil)))) .nil))) (.cons (.tup (.cons (.tup (.cons (.str [100]) .nil)) (.cons (.tup (.cons (.int 0) (.cons (.neg (.int 1)) (.cons (.str [115, 104, 97, 112, 101]) .nil)))) .nil))) (.cons (.tup (.cons (.tup (.cons (.tup (.cons (.str [100]) .nil)) (.cons (.tup .nil) .nil))) (.cons (.tup (.cons (.int 1) (.cons (.neg (.int 1)) (.cons (.str [115, 105, 122, 101]) .nil)))) .nil))) (.cons (.tup (.cons (.tup (.cons (.tup (.cons (.str [120]) .nil)) (.cons (.tup (.cons (.str [100]) (.cons (.str [100]) .nil))) .nil))) (.cons (.tup (.cons (.int 1) (.cons (.neg (.int 1)) (.cons (.str [115, 105, 122, 101]) .nil)))) .nil))) .nil))))))
def sq3 : S := (.ex (.meth .extend (.v 2) (.cons (.lst (.cons (.tup (.cons (.tup (.cons (.tup (.cons (.str [100]) (.cons (.str [115, 100]) .nil))) (.cons (.tup (.cons (.str []) (.cons (.int 5) .nil))) .nil))) (.cons (.tup (.cons (.int 0) (.cons (.int 1) (.cons (.str [107, 105, 110, 100]) .nil)))) .nil))) (.cons (.tup (.cons (.tup (.cons (.tup (.cons (.str []) .nil)) (.cons (.tup (.cons (.str []) .nil)) .nil))) (.cons (.tup (.cons (.neg (.int 1)) (.cons (.neg (.int 1)) (.cons (.str [101, 109, 112, 116, 121]) .nil)))) .nil))) (.cons (.tup (.cons (.bin .mul (.tup (.cons (.tup (.cons (.str [100]) .nil)) .nil)) (.int 9)) (.cons (.tup (.cons (.neg (.int 1)) (.cons (.neg (.int 1)) (.cons (.str [115, 105, 122, 101]) .nil)))) .nil))) .nil)))) .nil)))
def sq4 : S := (.ex (.meth .extend (.v 2) (.cons (.lst (.cons (.tup (.cons (.bin .mul (.tup (.cons (.bin .mul (.tup (.cons (.str [115]) .nil)) (.int 8)) .nil)) (.int 8)) (.cons (.tup (.cons (.str [116, 111, 108, 100]) (.cons (.int 64) .nil))) .nil))) (.cons (.tup (.cons (.v 1) (.cons (.tup (.cons (.str [116, 111, 108, 100]) (.cons (.int 5) .nil))) .nil))) (.cons (.tup (.cons (.tup (.cons (.tup (.cons (.str []) (.cons (.str []) .nil))) (.cons (.tup (.cons (.str []) (.cons (.bl true) .nil))) .nil))) (.cons (.tup (.cons (.int 1) (.cons (.int 1) (.cons (.str [107, 105, 110, 100]) .nil)))) .nil))) (.cons (.tup (.cons (.tup (.cons (.bin .mul (.tup (.cons (.str [100]) .nil)) (.int 9)) .nil)) (.cons (.tup (.cons (.int 0) (.cons (.neg (.int 1)) (.cons (.str [115, 105, 122, 101]) .nil)))) .nil))) .nil))))) .nil)))
def sq5 : S := (.fr (.tp [3, 4]) (.val (.v 2)) (.cons (.ite (.or (.not (.call 1003 (.cons (.call 1009 (.cons (.v 3) .nil)) (.cons (.v 4) .nil)))) (.not (.call 1012 (.cons .non (.cons (.v 3) .nil))))) (.cons (.ret (.bl false)) .nil) .nil) .nil))
def sq6 : S := (.asg (.nm 5) (.call 1002 (.cons (.v 0) (.cons (.lst (.cons (.str [115]) (.cons (.str [120]) (.cons (.str [85]) (.cons (.str [35]) .nil))))) .nil))))
def sq7 : S := (.asg (.nm 2) (.lst (.cons (.tup (.cons (.tup (.cons (.str [100, 35, 117]) (.cons (.str [115, 115, 100]) .nil))) (.cons (.tup (.cons (.str [116, 111, 108, 100]) (.cons (.int 5) .nil))) .nil))) (.cons (.tup (.cons (.tup (.cons (.str [100, 35, 117]) .nil)) (.cons (.tup (.cons (.neg (.int 1)) (.cons (.neg (.int 1)) (.cons (.str [115, 104, 97, 112, 101]) .nil)))) .nil))) (.cons (.tup (.cons (.tup (.cons (.str [100, 35, 117]) (.cons (.str [115, 115]) .nil))) (.cons (.tup (.cons (.int 1) (.cons (.neg (.int 1)) (.cons (.str [114, 111, 119]) .nil)))) .nil))) (.cons (.tup (.cons (.tup (.cons (.str [100, 100, 117]) (.cons (.str [115, 115]) .nil))) (.cons (.tup (.cons (.int 1) (.cons (.neg (.int 1)) (.cons (.str [114, 111, 119]) .nil)))) .nil))) .nil))))))
def sq8 : S := (.ex (.meth .extend (.v 2) (.cons (.lst (.cons (.tup (.cons (.tup (.cons (.str [100, 100, 117]) (.cons (.str [120, 115, 100]) .nil))) (.cons (.tup (.cons (.int 0) (.cons (.int 1) (.cons (.str [119, 97, 108, 108]) .nil)))) .nil))) (.cons (.tup (.cons (.tup (.cons (.bin .add (.str [100, 35]) (.v 5)) (.cons (.str [120, 115, 100]) .nil))) (.cons (.tup (.cons (.int 0) (.cons (.int 2) (.cons (.str [108, 101, 116, 116, 101, 114]) .nil)))) .nil))) (.cons (.tup (.cons (.tup (.cons (.str [100, 35, 117]) (.cons (.bin .add (.str [115, 100]) (.v 5)) .nil))) (.cons (.tup (.cons (.int 1) (.cons (.int 1) (.cons (.str [108, 101, 116, 116, 101, 114]) .nil)))) .nil))) .nil)))) .nil)))
def sq9 : S := (.ex (.meth .extend (.v 2) (.cons (.lst (.cons (.tup (.cons (.tup (.cons (.str [100, 35, 117]) (.cons (.str [115, 35, 100]) .nil))) (.cons (.tup (.cons (.int 1) (.cons (.int 1) (.cons (.str [108, 101, 116, 116, 101, 114]) .nil)))) .nil))) (.cons (.tup (.cons (.tup (.cons (.str [100, 35, 117]) (.cons (.lst (.cons (.str [115]) (.cons (.str [115]) (.cons (.str [100]) .nil)))) .nil))) (.cons (.tup (.cons (.int 1) (.cons (.neg (.int 1)) (.cons (.str [114, 111, 119]) .nil)))) .nil))) (.cons (.tup (.cons (.lst (.cons (.str [100, 35, 117]) (.cons (.str [115, 115, 100]) .nil))) (.cons (.tup (.cons (.neg (.int 1)) (.cons (.neg (.int 1)) (.cons (.str [115, 104, 97, 112, 101]) .nil)))) .nil))) .nil)))) .nil)))
def sq10 : S := (.fr (.tp [3, 4]) (.val (.v 2)) (.cons (.ite (.or (.not (.call 1003 (.cons (.call 1010 (.cons (.v 1) (.cons (.v 3) .nil))) (.cons (.v 4) .nil)))) (.not (.call 1012 (.cons (.v 1) (.cons (.v 3) .nil))))) (.cons (.ret (.bl false)) .nil) .nil) .nil))
def sq11 : S := (.ret (.and (.cmp .is (.callK 55 [1, 0] (.cons (.tup (.cons (.str [100, 35, 117]) (.cons (.str [115, 117, 100]) .nil))) (.cons (.v 1) .nil))) (.bl true)) (.and (.cmp .is (.callK 59 [0] (.cons (.v 1) .nil)) (.bl true)) (.cmp .eq (.callK 57 [0] (.cons (.tup (.cons (.tup (.cons (.str [117]) .nil)) .nil)) .nil)) (.int 1)))))
theorem sq_eq : f_law_sure = ⟨1, 6, (.cons sq1 (.cons sq2 (.cons sq3 (.cons sq4 (.cons sq5 (.cons sq6 (.cons sq7 (.cons sq8 (.cons sq9 (.cons sq10 (.cons sq11 .nil)))))))))))⟩ := rfl
def B0 : Board := [[[100, 115, 117], [], [100, 117]], [[115], [115, 117], [100]]]
theorem B0_ok : Bok B0 2 3 := ⟨rfl, by decide, by decide, by decide, by decide, by decide, by decide⟩
/-- rows of a thing and what is due -/
def Good (f : D → BR) (μ : Store) (d : D) : Prop := ∃ th, d = .tup [th, (f th).due] ∧ Sn μ th
theorem good_le {f : D → BR} {μ μ' : Store} (h : Le μ μ') {d : D} (g : Good f μ d) : Good f μ' d := by
  obtain ⟨th, e, s⟩ := g
  exact ⟨th, e, le_sn h s⟩
structure V (f : D → BR) (μ0 : Store) (T c : Nat) (μ : Store) : Prop where
  ls : ∃ xs, μ[T]? = some (.lst xs) ∧ xs.length ≤ c ∧ ∀ d ∈ xs, Good f μ d
  st : Stm μ
  gr : Gr [0, 2] μ0 μ
  T0 : 3 ≤ T
  Tm : μ0.length ≤ T
theorem extV_ok {f : D → BR} {k : Nat} {ρ : Env} {v T c c2 : Nat} {μ0 μ : Store} {e : E} {Q : Flow → Env → Store → Prop} {E0 : Exc → Env → Store → Prop} (hv : ρ[v]? = some (some (.loc T))) (w : V f μ0 T c μ) (he : okR (ev prog.cst (cF k) e ρ μ) fun d μ' => ∃ L ys, d = .loc L ∧ μ'[L]? = some (.lst ys) ∧ μ.length ≤ L ∧ ys.length ≤ c2 ∧ (∀ d ∈ ys, Good f μ' d) ∧ Stm μ' ∧ Gr [0, 2] μ μ') (hc : c + c2 ≤ 1000)
    (hQ : ∀ μ', V f μ0 T (c + c2) μ' → Q .nx ρ μ') : xS (ex prog.cst (cF k) N0 (.ex (.meth .extend (.v v) (.cons e .nil))) ρ μ) Q E0 := by
  obtain ⟨xs, hx, hl, hs⟩ := w.ls
  obtain ⟨d, μ', e1, L, ys, rfl, hL, hLm, hlc, hys, st, g⟩ := okR_ex.mp he
  have il : isLstD (.loc T) μ = true := mfOk_lst _ hx
  have T0 := w.T0; have Tm := w.Tm
  have hT : T < μ.length := (List.getElem?_eq_some_iff.mp hx).1
  have hx' := g.get hx (n02 T0)
  have ex := ext_lst prog.cst hx' hL (by rw [mostLen_eq]; omega) (by omega)
  simp_arith [hv, il, e1, ex]
  have hT' : T < μ'.length := (List.getElem?_eq_some_iff.mp hx').1
  refine hQ _ ⟨⟨xs ++ ys, List.getElem?_set_self hT', by simp; omega, fun d hd => ?_⟩, st.set _ (by omega) (by omega), gr_set (w.gr.trans g) _ (.inr Tm), T0, Tm⟩
  rcases List.mem_append.mp hd with h | h
  · exact good_le ((Le.gr g).trans (Le.set _ _ _)) (hs d h)
  · exact good_le (Le.set _ _ _) (hys d h)
theorem all_nil {p : D → Prop} : ∀ d ∈ ([] : List D), p d := fun _ h => nomatch h
theorem all_cons {p : D → Prop} {x : D} {l : List D} (h : p x) (k : ∀ d ∈ l, p d) : ∀ d ∈ x :: l, p d := fun d hd => by
  rcases List.mem_cons.mp hd with rfl | hd
  · exact h
  · exact k d hd
theorem sure_ok {k : Nat} (hk : 6 ≤ k) {μ : Store} (s : Stm μ) : ∃ μ', cF k 1017 [.loc 2] μ = .ok (.bl true) μ' := by
  obtain ⟨k, rfl⟩ : ∃ j, k = j + 1 := ⟨k - 1, by omega⟩
  rw [show cF (k + 1) 1017 [.loc 2] μ = callB prog N0 (cF k) f_law_sure [.loc 2] μ from call_loc' (fn := f_law_sure) rfl rfl rfl]
  suffices h : xR (callB prog N0 (cF k) f_law_sure [.loc 2] μ) (fun d μ' => d = .bl true) noX by
    obtain ⟨d, μ', e, rfl⟩ := okR_ex.mp (xR_okR h fun _ _ z => z)
    exact ⟨μ', e⟩
  have hB : D.tup [.tup [.str [100, 115, 117], .str [], .str [100, 117]], .tup [.str [115], .str [115, 117], .str [100]]] = bD B0 := rfl
  have t3 := s.len
  rw [sq_eq]
  simp_arith [sq1, sq2, hB]
  have gB : ∀ {μ : Store} (th : D) {due : D}, (boardR th).due = due → Sn μ th → Good boardR μ (.tup [th, due]) := fun th _ h s => ⟨th, by rw [h], s⟩
  have gS : ∀ {μ : Store} (th : D) {due : D}, (setR B0 th).due = due → Sn μ th → Good (setR B0) μ (.tup [th, due]) := fun th _ h s => ⟨th, by rw [h], s⟩
  have w0 := Gr.app [] μ [Obj.lst [D.tup [D.tup [], D.tup [D.int (-1), D.int (-1), D.str [115, 105, 122, 101]]],
              D.tup [D.tup [D.str [100]], D.tup [D.int 0, D.int (-1), D.str [115, 104, 97, 112, 101]]],
              D.tup [D.tup [D.tup [D.str [100]], D.tup []], D.tup [D.int 1, D.int (-1), D.str [115, 105, 122, 101]]],
              D.tup
                [D.tup [D.tup [D.str [120]], D.tup [D.str [100], D.str [100]]],
                  D.tup [D.int 1, D.int (-1), D.str [115, 105, 122, 101]]]]]
  refine extV_ok (f := boardR) (T := μ.length) (c := 4) (c2 := 3) (μ0 := μ) rfl ⟨⟨_, get_new _ _, Nat.le_refl _, ?_⟩, gr_stm w0 s, w0.nil, t3, Nat.le_refl _⟩ ?_ (by decide) fun μ1 w1 => ?_
  · exact all_cons (gB _ rfl rfl) (all_cons (gB _ rfl rfl) (all_cons (gB _ rfl rfl) (all_cons (gB _ rfl rfl) all_nil)))
  · have m9 : ∀ μ, binF .mul (.tup [.tup [.str [100]]]) (.int 9) μ = .ok (.tup (List.replicate 9 (.tup [.str [100]]))) μ := fun μ => rfl
    simp_arith [m9]
    exact ⟨_, _, rfl, get_new _ _, Nat.le_refl _, Nat.le_refl _, all_cons (gB _ rfl rfl) (all_cons (gB _ rfl rfl) (all_cons (gB _ rfl rfl) all_nil)), gr_stm (w0.trans (Gr.app _ _ _)) s, Gr.app _ _ _⟩
  rw [thenX_nx, xS_next]
  refine extV_ok (c2 := 4) rfl w1 ?_ (by decide) fun μ2 w2 => ?_
  · have m8 : ∀ μ, binF .mul (.tup [.str [115]]) (.int 8) μ = .ok (.tup (List.replicate 8 (.str [115]))) μ := fun μ => rfl
    have m88 : ∀ μ, binF .mul (.tup [.tup (List.replicate 8 (.str [115]))]) (.int 8) μ = .ok (.tup (List.replicate 8 (.tup (List.replicate 8 (.str [115]))))) μ := fun μ => rfl
    have m9 : ∀ μ, binF .mul (.tup [.str [100]]) (.int 9) μ = .ok (.tup (List.replicate 9 (.str [100]))) μ := fun μ => rfl
    simp only [List.replicate_succ, List.replicate_zero] at m8 m88 m9
    simp_arith [m8, m88, m9]
    exact ⟨_, _, rfl, get_new _ _, Nat.le_refl _, Nat.le_refl _, all_cons (gB _ rfl rfl) (all_cons (gB _ rfl rfl) (all_cons (gB _ rfl rfl) (all_cons (gB _ rfl rfl) all_nil))), gr_stm (Gr.app _ _ _) w1.st, Gr.app _ _ _⟩
  rw [thenX_nx, xS_next]
  obtain ⟨xs, hx, hl, hg⟩ := w2.ls
  have wl : walkF (.loc μ.length) μ2 = some (.lst μ.length xs) := walk_lst _ hx
  simp_arith [sq5, wl]
  refine for_rest (w := .lst μ.length xs) (fun r ρ μ' => (∃ x y, ρ = [some (.loc 2), some (bD B0), some (.loc μ.length), x, y, none]) ∧ Gr [] μ2 μ' ∧ ∀ d ∈ r, Good boardR μ2 d) (fun _ _ _ h => h.2.1.get hx (by simp)) ?_ ?_ xs _ μ2 ⟨⟨_, _, rfl⟩, Gr.refl _ _, hg⟩
  · rintro x r ρ μ' ⟨⟨y, z, h7⟩, g, hs⟩
    subst h7
    obtain ⟨th, rfl, sth⟩ := hs x (by simp)
    have sth' := gr_sn g.nil sth
    obtain ⟨ν, e⟩ := right_b (show 4 ≤ k by omega) sth'
    simp_arith [board_due_ok (show 3 ≤ k by omega) sth', law_same_ok (show 1 ≤ k by omega) (due_nice (boardR th)) (due_nodes _) (due_data _), e]
    exact ⟨⟨_, _, rfl⟩, g.trans (Gr.app _ _ _), fun d hd => hs d (by simp [hd])⟩
  rintro ρ μ3 ⟨⟨y, z, h7⟩, g3, -⟩
  subst h7
  have s3 := gr_stm g3 w2.st
  have G3 : Gr [0, 2] μ μ3 := w2.gr.trans g3.nil
  have t33 := s3.len
  obtain ⟨o, μ4, ho, e4, s4, g4⟩ := one_l (show 2 ≤ k by omega) (s3.app [Obj.lst [.str [115], .str [120], .str [85], .str [35]]]) (get_new _ _) (by omega) (by omega) (by simp) (Nat.le_of_ble_eq_true rfl)
  obtain ⟨cc, rfl, hcc⟩ : ∃ cc, o = .str [cc] ∧ (cc = 115 ∨ cc = 120 ∨ cc = 85 ∨ cc = 35) := by
    simp only [List.mem_cons, List.not_mem_nil, or_false] at ho
    rcases ho with rfl | rfl | rfl | rfl
    · exact ⟨_, rfl, .inl rfl⟩
    · exact ⟨_, rfl, .inr (.inl rfl)⟩
    · exact ⟨_, rfl, .inr (.inr (.inl rfl))⟩
    · exact ⟨_, rfl, .inr (.inr (.inr rfl))⟩
  have t44 := s4.len
  simp_arith [sq6, e4, sq7]
  refine extV_ok (f := setR B0) (T := μ4.length) (c := 4) (c2 := 3) (μ0 := μ4) rfl ⟨⟨_, get_new _ _, Nat.le_refl _, ?_⟩, s4.app _, Gr.app _ _ _, t44, Nat.le_refl _⟩ ?_ (by decide) fun μ5 w5 => ?_
  · exact all_cons (gS _ rfl rfl) (all_cons (gS _ rfl rfl) (all_cons (gS _ rfl rfl) (all_cons (gS _ rfl rfl) all_nil)))
  · rcases hcc with rfl | rfl | rfl | rfl <;> simp_arith <;> exact ⟨_, _, rfl, get_new _ _, Nat.le_refl _, Nat.le_refl _, all_cons (gS _ rfl rfl) (all_cons (gS _ rfl rfl) (all_cons (gS _ rfl rfl) all_nil)), (s4.app _).app _, Gr.app _ _ _⟩
  rw [thenX_nx, xS_next]
  have t55 := w5.st.len
  refine extV_ok (c2 := 3) rfl w5 ?_ (by decide) fun μ6 w6 => ?_
  · simp_arith
    refine ⟨_, _, rfl, get_new _ _, by simp, Nat.le_refl _, all_cons (gS _ rfl rfl) (all_cons (gS _ rfl ?_) (all_cons (gS _ rfl ?_) all_nil)), ((w5.st.app _).app _).app _, (Gr.app _ _ _).trans ((Gr.app _ _ _).trans (Gr.app _ _ _))⟩
    · refine sn_tup (by simp) (all_cons rfl (all_cons ?_ all_nil))
      exact sn_loc (by omega) (by omega) ((Gr.app [] _ _).get ((Gr.app [] _ _).get (get_new _ _) (by simp)) (by simp))
    · exact sn_loc (by simp) (by simp; omega) ((Gr.app [] _ _).get (get_new _ _) (by simp))
  rw [thenX_nx, xS_next]
  obtain ⟨xs, hx, hl, hg⟩ := w6.ls
  have wl : walkF (.loc μ4.length) μ6 = some (.lst μ4.length xs) := walk_lst _ hx
  simp_arith [sq10, wl]
  refine for_rest (w := .lst μ4.length xs) (fun r ρ μ' => (∃ x y, ρ = [some (.loc 2), some (bD B0), some (.loc μ4.length), x, y, some (.str [cc])]) ∧ Gr [] μ6 μ' ∧ ∀ d ∈ r, Good (setR B0) μ6 d) (fun _ _ _ h => h.2.1.get hx (by simp)) ?_ ?_ xs _ μ6 ⟨⟨_, _, rfl⟩, Gr.refl _ _, hg⟩
  · rintro x r ρ μ' ⟨⟨y, z, h7⟩, g, hs⟩
    subst h7
    obtain ⟨th, rfl, sth⟩ := hs x (by simp)
    have sth' := gr_sn g.nil sth
    obtain ⟨ν, e⟩ := right_s (show 5 ≤ k by omega) B0_ok sth'
    simp_arith [setting_due_ok (show 1 ≤ k by omega) B0_ok sth', law_same_ok (show 1 ≤ k by omega) (due_nice (setR B0 th)) (due_nodes _) (due_data _), e]
    exact ⟨⟨_, _, rfl⟩, g.trans (Gr.app _ _ _), fun d hd => hs d (by simp [hd])⟩
  rintro ρ μ7 ⟨⟨y, z, h7⟩, g7, -⟩
  subst h7
  have p1 : permD [1, 0] [.tup [.str [100, 35, 117], .str [115, 117, 100]], bD B0] = some [bD B0, .tup [.str [100, 35, 117], .str [115, 117, 100]]] := rfl
  have p2 : permD [0] [bD B0] = some [bD B0] := rfl
  have p3 : permD [0] [.tup [.tup [.str [117]]]] = some [.tup [.tup [.str [117]]]] := rfl
  have i1 : cF k 55 [bD B0, .tup [.str [100, 35, 117], .str [115, 117, 100]]] μ7 = .ok (.bl true) μ7 := by rw [is_setting_ok (by omega) B0_ok rfl]; rfl
  have i2 : cF k 59 [bD B0] μ7 = .ok (.bl true) μ7 := by rw [is_board_ok (by omega) rfl]; rfl
  have i3 : cF k 57 [.tup [.tup [.str [117]]]] μ7 = .ok (.int 1) μ7 := by rw [check_board_ok (by omega) rfl]; rfl
  simp_arith [sq11, p1, p2, p3, i1, i2, i3, handQ_rt]
end K86
end
section
set_option Elab.async false
set_option linter.all false
set_option autoImplicit false
set_option maxRecDepth 100000
set_option maxHeartbeats 1000000
namespace K86
open PL
theorem law_all {k : Nat} (hk : 9 ≤ k) (ns : List Int) : ∃ μ, cF k 1018 [scrD ns] [] = .ok (.bl true) μ := by
  obtain ⟨k, rfl⟩ : ∃ j, k = j + 1 := ⟨k - 1, by omega⟩
  suffices h : xR (callB prog N0 (cF k) f_law [scrD ns] []) (fun d _ => d = .bl true) noX by
    refine ⟨[], call_dat (fn := f_law) rfl rfl ?_ rfl (okR_mono (xR_okR h fun _ _ z => z) fun d μ h => h)⟩
    show (D.dataL (ns.map .int) && true) = true
    rw [data_ints]; rfl
  obtain ⟨μ0, e0, s0⟩ := stream_ok (k := k) (by omega) ns
  obtain ⟨wd, μ1, e1, _, s1, g1⟩ := pull_ok (show 1 ≤ k by omega) s0 (n := 13) (by decide) (by decide)
  unfold f_law
  have rg : ∀ μ, rng1 (.int 2) μ = .ok (rngW ((2 : Nat) : Int)) μ := fun μ => rng_ok (n := 2) (by decide) μ
  simp_arith [e0, e1, rg]
  refine for_idx (xs := List.replicate 2 ()) (n := 2) (by simp) (fun i r ρ μ' => (∃ x y, ρ = [some (scrD ns), some (.loc 2), some (.bl ((wd : Int) == 8)), x, y]) ∧ Stm μ') ?_ ?_ _ μ1 ⟨⟨_, _, rfl⟩, s1⟩
  · rintro i x r ρ μ' hx _ ⟨⟨y, z, h7⟩, s⟩
    subst h7
    obtain ⟨a, μ2, e2, ha, s2, g2⟩ := pull_ok (show 1 ≤ k by omega) s (n := 4) (by decide) (by decide)
    obtain ⟨b, μ3, e3, hb, s3, g3⟩ := pull_ok (show 1 ≤ k by omega) s2 (n := 4) (by decide) (by decide)
    obtain ⟨bd, μ4, B, hc, e4, s4, g4⟩ := board_ok (show 3 ≤ k by omega) s3 (m := 1 + a) (n := 1 + b) (by omega) (by omega) (by omega) (by omega)
    obtain ⟨μ5, e5, s5, g5⟩ := asked_ok (show 6 ≤ k by omega) s4 (N := 11) B hc (by decide)
    rw [show ((1 + a : Nat) : Int) = 1 + (a : Int) by omega, show ((1 + b : Nat) : Int) = 1 + (b : Int) by omega] at e4
    have e5' : cF k 1016 [.loc 2, bD bd, .int 11] μ4 = .ok (.bl true) μ5 := e5
    simp_arith [e2, e3, e4, e5']
    exact ⟨⟨_, _, rfl⟩, s5⟩
  · rintro ρ μ' ⟨⟨y, z, h7⟩, s⟩
    subst h7
    cases hw : ((wd : Int) == 8) with
    | false =>
      obtain ⟨μ2, e2⟩ := sure_ok (show 6 ≤ k by omega) s
      simp_arith [e2, handQ_rt]
    | true =>
      obtain ⟨a, μ2, e2, ha, s2, g2⟩ := pull_ok (show 1 ≤ k by omega) s (n := 2) (by decide) (by decide)
      obtain ⟨bd, μ4, B, hc, e4, s4, g4⟩ := board_ok (show 3 ≤ k by omega) s2 (m := 8 - a) (n := 8) (by omega) (by omega) (by omega) (by omega)
      obtain ⟨μ5, e5, s5, g5⟩ := asked_ok (show 6 ≤ k by omega) s4 (N := 6) B hc (by decide)
      rw [show ((8 - a : Nat) : Int) = 8 - (a : Int) by omega] at e4
      have e4' : cF k 1005 [.loc 2, .int (8 - (a : Int)), .int 8] μ2 = .ok (bD bd) μ4 := e4
      have e5' : cF k 1016 [.loc 2, bD bd, .int 6] μ4 = .ok (.bl true) μ5 := e5
      obtain ⟨μ6, e6⟩ := sure_ok (show 6 ≤ k by omega) s5
      simp_arith [e2, e4', e5', e6, handQ_rt]
end K86
end
set_option Elab.async false
set_option linter.all false
set_option maxRecDepth 100000
set_option maxHeartbeats 0
theorem K86.hit (ns : List Int) (h : ns.length ≤ 63) : ∃ μ, PL.callF K86.tab.P 100000 60 K86.d_law.id [PL.scriptD ns] [] = .ok (.bl true) μ := K86.law_all (by decide) ns
namespace K86
open PL
open PySem PySem.Spec PyProof.Rows L2
abbrev Rw : PySem.W.OpenRow := PySem.W.OpenLaw.row PySem.Challenge.rw_lightled_k86_whole_spoilt_settings
def loose0 : List PySem.Str := ["LightError", "DataError", "CallError", "TextError", "DeskError", "BadBoard", "BadSetting", "fits_kind", "check_setting", "look_at_sign", "is_setting", "MOST_ROWS", "LETTERS", "is_kind", "check_board", "check_row", "is_board", "_law_stream", "_law_pull", "_law_one", "_law_same", "_law_kinds", "_law_board", "_law_put", "_law_setting", "_law_is_kind", "_law_board_due", "_law_setting_due", "_law_told", "_law_is_right"]
def loose1 : List PySem.Str := ["_law_odd_kinds", "_law_boards", "_law_settings", "_law_asked", "_law_sure"]
def loose : List PySem.Str := loose0 ++ loose1
def hk : PySem.W.Hook := tab.hook 4
def ob (s : PySem.W.SharedT) : He.AlT × Bool := tab.obs 4 (HandSHeadRun.getT s)
theorem ob_eq (s : PySem.W.SharedT) : ob s = hk.obs s.abs := by
  have e : HandSHeadRun.getT s = s.abs.heap.get? := funext (HandSHeadRun.getT_eq s)
  show tab.obs 4 (HandSHeadRun.getT s) = tab.obs 4 s.abs.heap.get?
  rw [e]
theorem run (w : World) : HandSHeadRun.RunEq Rw (PySem.W.view Rw.prog [41]) hk ob 4000 loose w := by
  refine PySem.W.byRow2 "special-get-raises" (P := fun w => HandSHeadRun.RunEq Rw (PySem.W.view Rw.prog [41]) hk ob 4000 loose w) (fun w => ?_) (fun w => ?_) w
  · intro os
    kernel_rfl
  · intro os
    kernel_rfl
end K86
open PySem PySem.W PySem.Calls PyProof.Rows
theorem PySem.Challenge.cw_lightled_k86_whole_spoilt_settings_holds : PySem.Challenge.rw_lightled_k86_whole_spoilt_settings.Holds := by
  w_on; o_law
  refine HandSHeadRun.head_any (r := K86.Rw) (q := view K86.Rw.prog [41]) (H := K86.hk) (ob := K86.ob) (M := 4000) (loose := K86.loose) (d := HandSHeadRun.topDef K86.Rw.prog 41) (kwd := []) K86.ob_eq
    (by kernel_rfl) (fun s => by kernel_rfl) K86.run (by kernel_rfl) (by kernel_rfl) (by kernel_rfl) (by rfl) (by first | assumption | decide +kernel) (by decide +kernel) ⟨rfl, rfl, rfl, rfl, rfl, by decide +kernel⟩ ?hw ?hc
  case hw => w_witness2
  case hc =>
    exact PL.law_walk (L := K86.tab) (l := PySem.Challenge.rw_lightled_k86_whole_spoilt_settings) (n := 63) (k := 60) (M := 100000) (m := 4) (x := "script") K86.d_law rfl (by decide) (by kernel_rfl) ⟨rfl, by decide, by decide⟩ (by simp [K86.tab, K86.ds]) (by kernel_rfl) (by rfl) (fun d hd => List.all_eq_true.mp K86.chk_all d hd) K86.bnd_all K86.bnd2_all K86.okT_all K86.kw_all (fun ns hl => K86.hit ns hl)
