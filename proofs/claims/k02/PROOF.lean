import PyProof.Rows.All
import Wide.All
import OpenK.AllK
import Wide.FinOn
import PySem.PyData
import HandS.ForMost
import HandS.Exc
import HandS.ExcOwn
import HandS.TryOnly
import HandS.TryMany
import HandS.WordsExc
import HandS.Deep
import HandS.Conv
import HandS.Zip
import HandS.TupAny
import HandS.TupMul
import HandS.Style
import HandS.IsInst
import HandS.CallSlots
import HandS.Wide
import HandS.StrSplit
import PyProof.ExcBaseAll.ValueError
import HandS.Flt
import HandS.Defaults
import HandS.HeadHook2
import KE.KStateDown
import HandS.Base
import HandS.Call
import HandS.Ends
import HandS.More
import HandS.Words
import HandS.Codes
import HandS.Head0
import HandS.Head1
import HandS.Head2
import HandS.HeadEnd
import HandS.HeadHook1
import HandS.HeadHook4
import PySem.Challenge.RW_anynesting_k02_whole_walks_through_nesti
set_option Elab.async false
set_option linter.all false
set_option maxRecDepth 100000
set_option maxHeartbeats 0
/-! PLCore: a small functional reading of the part of Python that the program and the laws are written in. Plain Lean; no heap. -/
namespace PL
open PySem (Str)
/-- data as a value: no heap. lst and dct are lists and dicts as they stand; ro: a list that is only read; fn: a def of the module -/
inductive D where
  | non | bl (b : Bool) | int (i : Int) | str (s : Str)
  | tup (l : List D) | lst (l : List D) | ro (l : List D) | dct (l : List (D × D))
  | fn (x : Str)
/-- shared (never written again), owned by its slot, or handed in by reference -/
inductive Fg where
  | shr | own | pin
  deriving DecidableEq
abbrev Slot := Option (Fg × D)
abbrev Env := List Slot
/-- an error: its class, its one field -/
structure Ex where
  cls : Str
  fld : Option (Str × D)
structure Vl where
  own : Bool
  d : D
abbrev sh (d : D) : Vl := ⟨false, d⟩
abbrev ow (d : D) : Vl := ⟨true, d⟩
inductive R (α : Type) where
  | ok (a : α) (ρ : Env)
  | err (e : Ex) (ρ : Env)
  | bad
def M (α : Type) := Env → R α
def M.bind {α β : Type} (m : M α) (f : α → M β) : M β := fun ρ => match m ρ with
  | .ok a ρ' => f a ρ'
  | .err e ρ' => .err e ρ'
  | .bad => .bad
def M.ret {α : Type} (a : α) : M α := fun ρ => .ok a ρ
def M.bad {α : Type} : M α := fun _ => .bad
def M.err {α : Type} (e : Ex) : M α := fun ρ => .err e ρ
instance : Monad M where
  pure := M.ret
  bind := M.bind
theorem bind_ok {α β : Type} {f : M α} {g : α → M β} {ρ ρ' : Env} {a : α} (h : f ρ = .ok a ρ') : (f >>= g) ρ = g a ρ' := by
  show M.bind f g ρ = _
  unfold M.bind
  rw [h]
theorem bind_err {α β : Type} {f : M α} {g : α → M β} {ρ ρ' : Env} {e : Ex} (h : f ρ = .err e ρ') : (f >>= g) ρ = .err e ρ' := by
  show M.bind f g ρ = _
  unfold M.bind
  rw [h]
theorem bind_bad {α β : Type} {f : M α} {g : α → M β} {ρ : Env} (h : f ρ = .bad) : (f >>= g) ρ = .bad := by
  show M.bind f g ρ = _
  unfold M.bind
  rw [h]
theorem ret_bind {α β : Type} (a : α) (g : α → M β) : (pure a >>= g) = g a := rfl
def M.opt {α : Type} (o : Option α) : M α := fun ρ => match o with
  | some a => .ok a ρ
  | none => .bad
/-- what a def does: its arguments' values, what it gives and the values of the arguments handed in by reference behind it -/
inductive RF where
  | ok (v : Vl) (outs : List D)
  | err (e : Ex) (outs : List D)
  | bad
abbrev Fn := List D → RF
/-- the module's functions and constants -/
structure Gm where
  fn : Nat → Fn
  con : Nat → D
def szL : Nat := 16777216
/-! ### data -/
mutual
def D.toPy : D → PySem.PyData
  | .non => .none
  | .bl b => .bool b
  | .int i => .int i
  | .str s => .str s
  | .tup l => .tuple (D.toPys l)
  | .lst l => .list (D.toPys l)
  | .ro _ => .none
  | .dct _ => .none
  | .fn _ => .none
def D.toPys : List D → List PySem.PyData
  | [] => []
  | d :: ds => d.toPy :: D.toPys ds
end
mutual
/-- Python's == -/
def D.eqv : D → D → Bool
  | .non, .non => true
  | .bl a, .bl b => a == b
  | .bl a, .int j => (if a then 1 else 0) == j
  | .int i, .bl b => i == (if b then 1 else 0)
  | .int i, .int j => i == j
  | .str x, .str y => x == y
  | .tup xs, .tup ys => D.eqvs xs ys
  | .lst xs, .lst ys => D.eqvs xs ys
  | _, _ => false
def D.eqvs : List D → List D → Bool
  | [], [] => true
  | x :: xs, y :: ys => x.eqv y && D.eqvs xs ys
  | _, _ => false
end
mutual
/-- may be compared: no dict, no read-only list, texts of code points, at most 60 deep -/
def D.cmpb : Nat → D → Bool
  | _, .non => true
  | _, .bl _ => true
  | _, .int _ => true
  | _, .str s => s.cps.all (· < 0x110000)
  | 0, .tup _ => false
  | n + 1, .tup l => D.cmpbs n l
  | 0, .lst _ => false
  | n + 1, .lst l => D.cmpbs n l
  | _, .ro _ => false
  | _, .dct _ => false
  | _, .fn _ => false
def D.cmpbs : Nat → List D → Bool
  | _, [] => true
  | n, d :: ds => d.cmpb n && D.cmpbs n ds
end
mutual
/-- no list or dict within -/
def D.flat : D → Bool
  | .tup l => D.flats l
  | .lst _ => false
  | .ro _ => false
  | .dct _ => false
  | _ => true
def D.flats : List D → Bool
  | [] => true
  | d :: ds => d.flat && D.flats ds
end
/-- a value that names no list: of an owned list, its items -/
def Vl.flat (v : Vl) : Bool := match v.own, v.d with
  | true, .lst l => D.flats l
  | true, _ => false
  | false, d => d.flat
/-! ### operations on data -/
def isInts : List D → Option (List Int)
  | [] => some []
  | .int i :: r => (isInts r).map (i :: ·)
  | _ :: _ => none
def isBls : List D → Option (List Bool)
  | [] => some []
  | .bl b :: r => (isBls r).map (b :: ·)
  | _ :: _ => none
def isStrs : List D → Option (List Str)
  | [] => some []
  | .str x :: r => (isStrs r).map (x :: ·)
  | _ :: _ => none
/-- the place that an index means -/
def ixOf (n : Nat) (i : Int) : Option Nat :=
  if 0 ≤ i then (if i < n then some i.toNat else none) else (if -(n : Int) ≤ i then some (i + n).toNat else none)
def at? {α : Type} (l : List α) (i : Int) : Option α := (ixOf l.length i).bind fun j => l[j]?
/-- the end that a slice's bound means, in a sequence of n -/
def cl (n d : Nat) : Option Int → Nat
  | none => d
  | some v => (if v < 0 then max (v + (n : Int)) 0 else min v (n : Int)).toNat
def cut {α : Type} (l : List α) (lo hi : Option Int) : List α := (l.drop (cl l.length 0 lo)).take (cl l.length l.length hi - cl l.length 0 lo)
inductive Bop where
  | add | sub | mul | fdiv | mod | pow
  deriving DecidableEq
inductive Cop where
  | eq | ne | lt | le | gt | ge
  deriving DecidableEq
def small64 (i : Int) : Bool := decide (i.natAbs < 2 ^ 64)
theorem small64_of {i : Int} (h : small64 i = true) : -(2 ^ 64) < i ∧ i < 2 ^ 64 := by
  unfold small64 at h
  have := of_decide_eq_true h
  omega
def bin : Bop → D → D → Option Vl
  | .add, .int i, .int j => some (sh (.int (i + j)))
  | .add, .str x, .str y => if x.length + y.length ≤ szL then some (sh (.str (x ++ y))) else none
  | .add, .tup x, .tup y => if x.length + y.length ≤ szL then some (sh (.tup (x ++ y))) else none
  | .add, .lst x, .lst y => if x.length + y.length ≤ szL then some (ow (.lst (x ++ y))) else none
  | .sub, .int i, .int j => some (sh (.int (i - j)))
  | .mul, .int i, .int j => if small64 i || small64 j || decide (i.natAbs.log2 + j.natAbs.log2 < 1000000) then some (sh (.int (i * j))) else none
  | .mul, .tup x, .int k => if x ≠ [] ∧ 2 ≤ k ∧ k ≤ 1000 ∧ x.length ≤ 1000 then some (sh (.tup (List.replicate k.toNat x).flatten)) else none
  | .mul, .lst x, .int k => if -(2 ^ 63) ≤ k ∧ k < 2 ^ 63 ∧ x.length * k.toNat ≤ szL then some (ow (.lst (List.replicate k.toNat x).flatten)) else none
  | .mul, .str x, .int k => if -(2 ^ 63) ≤ k ∧ k ≤ 1000 ∧ x.length ≤ 1000 then some (sh (.str ⟨(List.replicate k.toNat x.cps.toList).flatten.toArray⟩)) else none
  | .fdiv, .int i, .int j => if 0 < j ∧ j.natAbs.log2 < 9000 then some (sh (.int (i / j))) else none
  | .mod, .int i, .int j => if 0 < j then some (sh (.int (i % j))) else none
  | .pow, .int i, .int j => if 0 ≤ j ∧ j ≤ 1000000 ∧ i.natAbs < 2 ^ 64 then some (sh (.int (i ^ j.toNat))) else none
  | _, _, _ => none
def isScal : D → Bool
  | .non => true
  | .bl _ => true
  | .int _ => true
  | .str _ => true
  | _ => false
def cmpv : Cop → D → D → Option Bool
  | .eq, .str x, .str y => some (x == y)
  | .ne, .str x, .str y => some (!(x == y))
  | .eq, a, b => if a.cmpb 60 && b.cmpb 60 then some (a.eqv b) else none
  | .ne, a, b => if a.cmpb 60 && b.cmpb 60 then some (!a.eqv b) else none
  | .lt, .int i, .int j => some (decide (i < j))
  | .le, .int i, .int j => some (decide (i ≤ j))
  | .gt, .int i, .int j => some (decide (j < i))
  | .ge, .int i, .int j => some (decide (j ≤ i))
  | _, _, _ => none
/-- x in xs -/
def memv : D → D → Option Bool
  | a, .lst l => if isScal a && l.all isScal || a.cmpb 60 && D.cmpbs 60 l then some (l.any fun z => z.eqv a) else none
  | a, .tup l => if isScal a && l.all isScal then some (l.any fun z => z.eqv a) else none
  | _, _ => none
def itemv : D → D → Option D
  | .tup l, .int i => at? l i
  | .lst l, .int i => at? l i
  | .ro l, .int i => at? l i
  | .str s, .int i => if s.length ≤ szL then (at? s.cps.toList i).map fun c => .str ⟨#[c]⟩ else none
  | _, _ => none
def cutv : D → Option Int → Option Int → Option Vl
  | .tup l, lo, hi => some (sh (.tup (cut l lo hi)))
  | .lst l, lo, hi => some (ow (.lst (cut l lo hi)))
  | .str s, lo, hi => if s.length ≤ szL then some (sh (.str ⟨(cut s.cps.toList lo hi).toArray⟩)) else none
  | _, _, _ => none
def lenv : D → Option Int
  | .tup l => some l.length
  | .lst l => some l.length
  | .ro l => some l.length
  | .str s => if s.length ≤ szL then some s.length else none
  | _ => none
/-- the built-ins of one argument -/
inductive B1 where
  | len | list | tuple | int | str | sum | all | any | abs
  deriving DecidableEq
def b1 : B1 → D → Option Vl
  | .len, d => (lenv d).map fun n => sh (.int n)
  | .list, .lst l => some (ow (.lst l))
  | .list, .tup l => some (ow (.lst l))
  | .tuple, .lst l => some (sh (.tup l))
  | .tuple, .tup l => some (sh (.tup l))
  | .int, .int i => some (sh (.int i))
  | .int, .bl b => some (sh (.int (if b then 1 else 0)))
  | .str, .int i => if i.natAbs.log2 < 1920 then some (sh (.str (toString i))) else none
  | .sum, .lst l => (isInts l).map fun ns => sh (.int ns.sum)
  | .all, .lst l => (isBls l).map fun bs => sh (.bl (bs.all id))
  | .any, .lst l => (isBls l).map fun bs => sh (.bl (bs.any id))
  | .abs, .int i => some (sh (.int (if i < 0 then -i else i)))
  | _, _ => none
inductive B2 where
  | min | max
  deriving DecidableEq
def b2 : B2 → D → D → Option Vl
  | .min, .int i, .int j => some (sh (.int (if j < i then j else i)))
  | .max, .int i, .int j => some (sh (.int (if j > i then j else i)))
  | _, _, _ => none
def max3 : D → D → D → Option Vl
  | .int i, .int j, .int k => some (sh (.int (max (max i j) k)))
  | _, _, _ => none
/-- the types that isinstance is asked of -/
inductive Ty where
  | int | bool | str | tuple | list
  deriving DecidableEq
def isTy : Ty → D → Option Bool
  | .int, .int _ => some true
  | .int, .bl _ => some true
  | .bool, .bl _ => some true
  | .str, .str _ => some true
  | .tuple, .tup _ => some true
  | .list, .lst _ => some true
  | _, .ro _ => none
  | _, .dct _ => none
  | _, .fn _ => none
  | _, _ => some false
/-! ### what is written -/
inductive Tg where
  | nm (i : Nat)
  | tup (ts : List Tg)
inductive E where
  | var (i : Nat)                                 -- read; what was owned is shared from there on
  | mov (i : Nat)                                 -- read for the last time, the ownership goes along
  | pk (i : Nat)                                  -- as an operand: looked at
  | io (i : Nat)                                  -- as an argument: by reference
  | int (i : Int) | str (s : Str) | bl (b : Bool) | non
  | con (g : Nat)                                 -- a name of the module's
  | tup (es : List E) | lst (es : List E)
  | bin (op : Bop) (a b : E)
  | neg (a : E)
  | cmp (op : Cop) (a b : E)
  | chain (op op' : Cop) (a b c : E)
  | isN (neg : Bool) (a : E)
  | isB (neg : Bool) (a b : E)
  | mem (neg : Bool) (a p : E)
  | and (a b : E) | or (a b : E) | not (a : E)
  | ite (c a b : E)
  | ix (p i : E)
  | cut (p : E) (lo hi : Option E)
  | rev (p : E)
  | call (f : Nat) (es : List E)
  | b1 (b : B1) (p : E)
  | b2 (b : B2) (p q : E)
  | max3 (p q r : E)
  | isi (t : Ty) (a : E)
  | rng (a : E)                                   -- list(range(a))
  | rngT (a : E)                                  -- tuple(range(a))
  | comp (own : List Nat) (tg : Tg) (sk : Nat) (s1 : E) (s2 : Option E) (cnd : Option E) (elt : E)
  | comp2 (own : List Nat) (own2 : List Nat) (tg : Tg) (sk : Nat) (s1 : E) (s2 : Option E) (tg' : Tg) (sk' : Nat) (s1' : E) (s2' : Option E) (elt : E)
  | join (a p : E)
  | split (a b : E)
  | index (p a : E)
  | strGet (ks : List (Str × Int)) (a : E) (dflt : Int)   -- {"k": n, ..}.get(a, dflt)
  | callV (i : Nat) (tbl : List (Str × Nat)) (es : List E)   -- a call of the def that a slot holds
inductive S where
  | asg (i : Nat) (e : E)
  | asgT (tg : Tg) (e : E)
  | par (is : List Nat) (es : List E)
  | app (i : Nat) (e : E)
  | setix (i : Nat) (k e : E)
  | ife (c : E) (a b : List S)
  | forIn (tg : Tg) (sk : Nat) (s1 : E) (s2 : Option E) (body : List S)
  | whl (fuel : Nat) (c : E) (body : List S)
  | ret (e : E)
  | retN
  | ex (e : E)
  | pass
  | bad
  | raise (cls : Str) (fld : Option (Str × E))
  | tryAs (known : List Str) (body : List S) (cls : Str) (i x kind : Nat) (w : Str)   -- except cls as slot i: x = (w, its field), x = w + str(its field)
  | tryN (known : List Str) (body : List S) (hs : List (Str × List S))
inductive Fl where
  | nx
  | rt (v : Vl)
/-! ### its meaning -/
/-- an operand: a value, or a slot that is looked at -/
inductive Ref where
  | val (d : D)
  | slot (i : Nat)
def E.peek : E → Option Nat
  | .pk i => some i
  | _ => none
def E.isIo : E → Option Nat
  | .io i => some i
  | _ => none
def see (i : Nat) : M Ref := fun ρ => match ρ[i]? with
  | some (some (f, _)) => if f = .shr then .bad else .ok (.slot i) ρ
  | _ => .bad
def opnd (e : E) (m : M Vl) : M Ref := match e.peek with
  | some i => see i
  | none => m >>= fun v => pure (.val v.d)
def slotd (i : Nat) : M D := fun ρ => match ρ[i]? with
  | some (some (f, d)) => if f = .shr then .bad else .ok d ρ
  | _ => .bad
def deref : Ref → M D
  | .val d => pure d
  | .slot i => slotd i
def rdVar (i : Nat) : M Vl := fun ρ => match ρ[i]? with
  | some (some (.shr, d)) => .ok (sh d) ρ
  | some (some (.own, d)) => .ok (sh d) (ρ.set i (some (.shr, d)))
  | _ => .bad
def mvVar (i : Nat) : M Vl := fun ρ => match ρ[i]? with
  | some (some (.own, d)) => .ok (ow d) (ρ.set i none)
  | _ => .bad
/-- a slot's new value -/
def put (i : Nat) (v : Vl) : M Unit := fun ρ => match ρ[i]? with
  | some (some (.pin, _)) => .bad
  | some _ => .ok () (ρ.set i (some (if v.own then .own else .shr, v.d)))
  | none => .bad
mutual
def asgTg : Tg → D → M Unit
  | .nm i, d => put i (sh d)
  | .tup ts, .tup ds => if ts.length = ds.length then asgTgs ts ds else M.bad
  | .tup _, _ => M.bad
def asgTgs : List Tg → List D → M Unit
  | [], [] => pure ()
  | [], _ :: _ => M.bad
  | t :: ts, d :: ds => asgTg t d >>= fun _ => asgTgs ts ds
  | _ :: _, [] => M.bad
end
/-- an owned slot's object, changed -/
def change (i : Nat) (f : D → Option D) : M Unit := fun ρ => match ρ[i]? with
  | some (some (.shr, _)) => .bad
  | some (some (g, d)) => (match f d with
    | some d' => .ok () (ρ.set i (some (g, d')))
    | none => .bad)
  | _ => .bad
def appd (x : D) : D → Option D
  | .lst l => if l.length < szL then some (.lst (l ++ [x])) else none
  | _ => none
def setd (k x : D) : D → Option D
  | .lst l => (match k with
    | .int i => (ixOf l.length i).map fun j => .lst (l.set j x)
    | _ => none)
  | _ => none
/-- arguments -/
inductive Arg where
  | val (d : D)
  | bor (i : Nat)
  | io (i : Nat)
def argsOf : List Arg → Env → Option (List D)
  | [], _ => some []
  | .val d :: r, ρ => (argsOf r ρ).map (d :: ·)
  | .bor i :: r, ρ => (match ρ[i]? with
    | some (some (.own, d)) => (argsOf r ρ).map (d :: ·)
    | some (some (.pin, d)) => (argsOf r ρ).map (d :: ·)
    | _ => none)
  | .io i :: r, ρ => (match ρ[i]? with
    | some (some (.own, d)) => (argsOf r ρ).map (d :: ·)
    | some (some (.pin, d)) => (argsOf r ρ).map (d :: ·)
    | _ => none)
def slotsOf : List Arg → List Nat
  | [] => []
  | .val _ :: r => slotsOf r
  | .bor i :: r => i :: slotsOf r
  | .io i :: r => i :: slotsOf r
def anyBor : List Arg → Bool
  | [] => false
  | .bor _ :: _ => true
  | _ :: r => anyBor r
/-- what stands in the slots behind a call -/
def putOuts : List Arg → List D → Env → Env
  | .io i :: r, d :: ds, ρ => putOuts r ds (match ρ[i]? with
    | some (some (f, _)) => ρ.set i (some (f, d))
    | _ => ρ)
  | _ :: r, _ :: ds, ρ => putOuts r ds ρ
  | _, _, ρ => ρ
def outsFlat : List Arg → List D → Bool
  | .io _ :: r, d :: ds => (match d with
    | .lst l => D.flats l
    | _ => false) && outsFlat r ds
  | _ :: r, _ :: ds => outsFlat r ds
  | _, _ => true
def nodupB : List Nat → Bool
  | [] => true
  | i :: r => !r.contains i && nodupB r
def callF (F : Fn) (as : List Arg) : M Vl := fun ρ => match argsOf as ρ with
  | none => .bad
  | some ds => if nodupB (slotsOf as) = false then .bad else match F ds with
    | .ok v outs => if anyBor as && !(v.flat && outsFlat as outs) then .bad else if outs.length = as.length then .ok v (putOuts as outs ρ) else .bad
    | .err e outs => if anyBor as then .bad else if outs.length = as.length then .err e (putOuts as outs ρ) else .bad
    | .bad => .bad
def asBl (v : Vl) : M Bool := match v.d with
  | .bl b => pure b
  | _ => M.bad
def asInt (d : D) : M Int := match d with
  | .int i => pure i
  | _ => M.bad
def rangeD (lo hi : Int) : List D := (List.range (hi - lo).toNat).map fun i => .int (lo + (i : Nat))
def rangeOk (lo hi : Int) : Bool := decide (-(2 ^ 62) ≤ lo ∧ lo < 2 ^ 62 ∧ -(2 ^ 62) ≤ hi ∧ hi < 2 ^ 62)
def enumD : Nat → List D → List D
  | _, [] => []
  | n, d :: ds => .tup [.int n, d] :: enumD (n + 1) ds
def zipD : List D → List D → List D
  | x :: xs, y :: ys => .tup [x, y] :: zipD xs ys
  | _, _ => []
/-- the items of a source: 0 a sequence, 1 range(a), 2 range(a, b), 3 enumerate(a list), 4 zip of two lists or two tuples -/
def itemsOf : Nat → D → Option D → Option (List D)
  | 0, .lst l, none => some l
  | 0, .tup l, none => some l
  | 1, .int n, none => if rangeOk 0 n then some (rangeD 0 n) else none
  | 2, .int a, some (.int b) => if rangeOk a b then some (rangeD a b) else none
  | 3, .lst l, none => some (enumD 0 l)
  | 4, .lst x, some (.lst y) => some (zipD x y)
  | 4, .tup x, some (.tup y) => some (zipD x y)
  | _, _, _ => none
def wipe (ρ : Env) : List Nat → Env
  | [] => ρ
  | v :: vs => (wipe ρ vs).set v none
/-- the block's own names back as they were -/
def restore (ρ0 ρ : Env) : List Nat → Env
  | [] => ρ
  | v :: vs => (restore ρ0 ρ vs).set v (ρ0.getD v none)
def noOwned (ρ : Env) : List Nat → Bool
  | [] => true
  | v :: vs => (match ρ[v]? with
    | some none => true
    | some (some (.shr, _)) => true
    | _ => false) && noOwned ρ vs
/-- a comprehension's turns -/
def compL (own : List Nat) (asg : D → M Unit) (cnd : M Bool) (elt : M D) : List D → M (List D)
  | [] => pure []
  | x :: xs => fun ρ => (asg x >>= fun _ => cnd >>= fun c => match c with
    | true => elt >>= fun y => (fun ρ => compL own asg cnd elt xs (wipe ρ own)) >>= fun ys => pure (y :: ys)
    | false => fun ρ => compL own asg cnd elt xs (wipe ρ own)) ρ
def block {α : Type} (own : List Nat) (m : M α) : M α := fun ρ => if noOwned ρ own then (match m (wipe ρ own) with
  | .ok a ρ' => .ok a (restore ρ ρ' own)
  | .err _ _ => .bad
  | .bad => .bad) else .bad
def loopL (turn : D → M Fl) : List D → M Fl
  | [] => pure .nx
  | x :: xs => turn x >>= fun f => match f with
    | .nx => loopL turn xs
    | .rt v => pure (.rt v)
def whileL (c : M Bool) (body : M Fl) : Nat → M Fl
  | 0 => M.bad
  | n + 1 => c >>= fun b => match b with
    | false => pure .nx
    | true => body >>= fun f => match f with
      | .nx => whileL c body n
      | .rt v => pure (.rt v)
def tryL (body : M Fl) (h : Ex → Option (M Fl)) : M Fl := fun ρ => match body ρ with
  | .err e ρ' => (match h e with
    | some m => m ρ'
    | none => .err e ρ')
  | r => r
def strKeyGet (ks : List (Str × Int)) (x : Str) (d : Int) : Int := match ks.lookup x with
  | some n => n
  | none => d
end PL
namespace PL
open PySem (Str)
def flatD : List D → Option (List D)
  | [] => some []
  | .lst l :: r => (flatD r).map (l ++ ·)
  | _ :: _ => none
def indexD : D → D → Option Int
  | .lst l, x => if isScal x && l.all isScal || x.cmpb 60 && D.cmpbs 60 l then (let n := l.findIdx fun z => z.eqv x; if n < l.length then some (n : Int) else none) else none
  | _, _ => none
/-- the pieces of a text of one sign c between -/
def splitL (c : Nat) : List Nat → List (List Nat)
  | [] => [[]]
  | x :: r => if x = c then [] :: splitL c r else (match splitL c r with
    | p :: ps => (x :: p) :: ps
    | [] => [[x]])
def splitD (x : Str) : D → Option Vl
  | .str y => (match y.cps.toList with
    | [c] => if x.length + 2 ≤ szL then some (ow (.lst ((splitL c x.cps.toList).map fun p => .str ⟨p.toArray⟩))) else none
    | _ => none)
  | _ => none
def joinD (x : Str) : D → Option Vl
  | .lst l => (isStrs l).bind fun ss => if (ss.map (·.length)).sum + ss.length * x.length ≤ szL then some (sh (.str (Str.join x ss))) else none
  | _ => none
def asStr (d : D) : M Str := match d with
  | .str x => pure x
  | _ => M.bad
def asLst (d : D) : M Unit := match d with
  | .lst _ => pure ()
  | _ => M.bad
end PL
/-! PLEval: the meaning of what is written, over a table of functions. Plain Lean. -/
namespace PL
open PySem (Str)
def evNot (v : Vl) : M Vl := asBl v >>= fun b => pure (sh (.bl !b))
def cmpM (op : Cop) (x y : D) : M Vl := M.opt ((cmpv op x y).map fun b => sh (.bl b))
def optInt : Option D → Option (Option Int)
  | none => some none
  | some (.int i) => some (some i)
  | some _ => none
/-- a slice's part is an int or left out -/
def asPart (o : Option D) : M (Option Int) := M.opt (optInt o)
/-- the number of the def that a value is -/
def fnAt (tbl : List (Str × Nat)) : D → Option Nat
  | .fn x => tbl.lookup x
  | _ => none
def sel {α : Type} (k : Bool) (a b : α) : α := match k with
  | true => a
  | false => b
mutual
def evE (Γ : Gm) : E → M Vl
  | .var i => rdVar i
  | .mov i => mvVar i
  | .pk _ => M.bad
  | .io _ => M.bad
  | .int i => pure (sh (.int i))
  | .str s => pure (sh (.str s))
  | .bl b => pure (sh (.bl b))
  | .non => pure (sh .non)
  | .con g => pure (sh (Γ.con g))
  | .tup es => evL Γ es >>= fun ds => if ds.length ≤ szL then pure (sh (.tup ds)) else M.bad
  | .lst es => evL Γ es >>= fun ds => if ds.length ≤ szL then pure (ow (.lst ds)) else M.bad
  | .bin op a b => opnd a (evE Γ a) >>= fun x => opnd b (evE Γ b) >>= fun y => deref x >>= fun x => deref y >>= fun y => M.opt (bin op x y)
  | .neg a => evE Γ a >>= fun v => asInt v.d >>= fun i => pure (sh (.int (-i)))
  | .cmp op a b => opnd a (evE Γ a) >>= fun x => opnd b (evE Γ b) >>= fun y => deref x >>= fun x => deref y >>= fun y => cmpM op x y
  | .chain op op' a b c => evE Γ a >>= fun x => evE Γ b >>= fun y => cmpM op x.d y.d >>= fun z => asBl z >>= fun k => sel k (evE Γ c >>= fun w => cmpM op' y.d w.d) (pure (sh (.bl false)))
  | .isN n a => opnd a (evE Γ a) >>= fun r => deref r >>= fun d => pure (sh (.bl (match d with
    | .non => !n
    | _ => n)))
  | .isB n a b => evE Γ a >>= fun x => evE Γ b >>= fun y => asBl x >>= fun p => asBl y >>= fun q => pure (sh (.bl ((p == q) != n)))
  | .mem n a p => evE Γ a >>= fun x => opnd p (evE Γ p) >>= fun r => deref r >>= fun d => M.opt ((memv x.d d).map fun b => sh (.bl (b != n)))
  | .and a b => evE Γ a >>= fun v => asBl v >>= fun k => sel k (evE Γ b) (pure (sh (.bl false)))
  | .or a b => evE Γ a >>= fun v => asBl v >>= fun k => sel k (pure (sh (.bl true))) (evE Γ b)
  | .not a => evE Γ a >>= evNot
  | .ite c a b => evE Γ c >>= fun v => asBl v >>= fun k => sel k (evE Γ a) (evE Γ b)
  | .ix p i => opnd p (evE Γ p) >>= fun r => evE Γ i >>= fun k => deref r >>= fun d => M.opt ((itemv d k.d).map sh)
  | .cut p lo hi => opnd p (evE Γ p) >>= fun r => (evO Γ lo >>= asPart) >>= fun l => (evO Γ hi >>= asPart) >>= fun h => deref r >>= fun d => M.opt (cutv d l h)
  | .rev p => opnd p (evE Γ p) >>= fun r => deref r >>= fun d => match d with
    | .lst l => pure (ow (.lst l.reverse))
    | .tup l => pure (sh (.tup l.reverse))
    | _ => M.bad
  | .call f es => evA Γ es >>= fun as => callF (Γ.fn f) as
  | .b1 b p => opnd p (evE Γ p) >>= fun r => deref r >>= fun d => M.opt (b1 b d)
  | .b2 b p q => evE Γ p >>= fun x => evE Γ q >>= fun y => M.opt (b2 b x.d y.d)
  | .max3 p q r => evE Γ p >>= fun x => evE Γ q >>= fun y => evE Γ r >>= fun z => M.opt (max3 x.d y.d z.d)
  | .isi t a => evE Γ a >>= fun v => M.opt ((isTy t v.d).map fun b => sh (.bl b))
  | .rng a => evE Γ a >>= fun v => asInt v.d >>= fun n => if rangeOk 0 n && decide (n ≤ szL) then pure (ow (.lst (rangeD 0 n))) else M.bad
  | .rngT a => evE Γ a >>= fun v => asInt v.d >>= fun n => if rangeOk 0 n && decide (n ≤ szL) then pure (sh (.tup (rangeD 0 n))) else M.bad
  | .comp own tg sk s1 s2 cnd elt => evE Γ s1 >>= fun v => evO Γ s2 >>= fun d2 => M.opt (itemsOf sk v.d d2) >>= fun xs =>
    if xs.length ≤ szL then block own (compL own (asgTg tg) (evC Γ cnd) (evE Γ elt >>= fun v => pure v.d) xs) >>= fun ys => pure (ow (.lst ys)) else M.bad
  | .comp2 own own2 tg sk s1 s2 tg' sk' s1' s2' elt => evE Γ s1 >>= fun v => evO Γ s2 >>= fun d2 => M.opt (itemsOf sk v.d d2) >>= fun xs =>
    block own (compL own (asgTg tg) (pure true)
      (evE Γ s1' >>= fun v => evO Γ s2' >>= fun d2 => M.opt (itemsOf sk' v.d d2) >>= fun xs =>
        (fun ρ => compL own2 (asgTg tg') (pure true) (evE Γ elt >>= fun v => pure v.d) xs (wipe ρ own2)) >>= fun ys => pure (.lst ys)) xs) >>= fun yss =>
    match flatD yss with
    | some ys => if ys.length ≤ szL then pure (ow (.lst ys)) else M.bad
    | none => M.bad
  | .join a p => evE Γ a >>= fun v => asStr v.d >>= fun x => opnd p (evE Γ p) >>= fun r => deref r >>= fun d => M.opt (joinD x d)
  | .split a b => evE Γ a >>= fun v => asStr v.d >>= fun x => evE Γ b >>= fun u => M.opt (splitD x u.d)
  | .index p a => opnd p (evE Γ p) >>= fun r => deref r >>= fun d => asLst d >>= fun _ => evE Γ a >>= fun v => deref r >>= fun d => M.opt ((indexD d v.d).map fun n => sh (.int n))
  | .strGet ks a dflt => evE Γ a >>= fun v => asStr v.d >>= fun x => pure (sh (.int (strKeyGet ks x dflt)))
  | .callV i tbl es => rdVar i >>= fun v => M.opt (fnAt tbl v.d) >>= fun j => evA Γ es >>= fun as => callF (Γ.fn j) as
def evL (Γ : Gm) : List E → M (List D)
  | [] => pure []
  | e :: es => evE Γ e >>= fun v => evL Γ es >>= fun ds => pure (v.d :: ds)
def evO (Γ : Gm) : Option E → M (Option D)
  | none => pure none
  | some e => evE Γ e >>= fun v => pure (some v.d)
def evC (Γ : Gm) : Option E → M Bool
  | none => pure true
  | some e => evE Γ e >>= asBl
def evA (Γ : Gm) : List E → M (List Arg)
  | [] => pure []
  | e :: es => match e.peek with
    | some i => see i >>= fun _ => evA Γ es >>= fun as => pure (.bor i :: as)
    | none => (match e.isIo with
      | some i => see i >>= fun _ => evA Γ es >>= fun as => pure (.io i :: as)
      | none => evE Γ e >>= fun v => evA Γ es >>= fun as => pure (.val v.d :: as))
end
/-- values side by side, what is new stays owned -/
def evV (Γ : Gm) : List E → M (List Vl)
  | [] => pure []
  | e :: es => evE Γ e >>= fun v => evV Γ es >>= fun vs => pure (v :: vs)
def putAll : List Nat → List Vl → M Unit
  | [], [] => pure ()
  | i :: is, v :: vs => put i v >>= fun _ => putAll is vs
  | _, _ => M.bad
def evSrc (Γ : Gm) (sk : Nat) (s1 : E) (s2 : Option E) : M (List D) :=
  evE Γ s1 >>= fun v => evO Γ s2 >>= fun d2 => M.opt (itemsOf sk v.d d2)
/-- x = (w, e.f) or x = w + str(e.f) for the error's field -/
def asSuite (i x kind : Nat) (w : Str) (fld : Option (Str × D)) : M Fl := fun ρ => match ρ[i]?, fld with
  | some none, some (_, d) => (match kind, d with
    | 0, d => (put x (sh (.tup [.str w, d])) >>= fun _ => pure .nx) ρ
    | 1, .int n => if n.natAbs.log2 < 1920 ∧ w.length ≤ 1000 then (put x (sh (.str (w ++ toString n))) >>= fun _ => pure .nx) ρ else .bad
    | _, _ => .bad)
  | _, _ => .bad
mutual
def evS (Γ : Gm) : S → M Fl
  | .asg i e => evE Γ e >>= fun v => put i v >>= fun _ => pure .nx
  | .asgT tg e => evE Γ e >>= fun v => asgTg tg v.d >>= fun _ => pure .nx
  | .par is es => evV Γ es >>= fun vs => putAll is vs >>= fun _ => pure .nx
  | .app i e => slotd i >>= fun d => asLst d >>= fun _ => evE Γ e >>= fun v => change i (appd v.d) >>= fun _ => pure .nx
  | .setix i k e => evE Γ e >>= fun v => see i >>= fun _ => evE Γ k >>= fun k => change i (setd k.d v.d) >>= fun _ => pure .nx
  | .ife c a b => evE Γ c >>= fun v => asBl v >>= fun k => sel k (evSs Γ a) (evSs Γ b)
  | .forIn tg sk s1 s2 body => evSrc Γ sk s1 s2 >>= fun xs => loopL (fun x => asgTg tg x >>= fun _ => evSs Γ body) xs
  | .whl fuel c body => whileL (evE Γ c >>= asBl) (evSs Γ body) fuel
  | .ret e => evE Γ e >>= fun v => pure (.rt v)
  | .retN => pure (.rt (sh .non))
  | .ex e => evE Γ e >>= fun _ => pure .nx
  | .pass => pure .nx
  | .bad => M.bad
  | .raise cls none => M.err ⟨cls, none⟩
  | .raise cls (some (f, e)) => evE Γ e >>= fun v => M.err ⟨cls, some (f, v.d)⟩
  | .tryAs known body cls i x kind w => tryL (evSs Γ body) fun e => if e.cls ∈ known then (if e.cls = cls then some (asSuite i x kind w e.fld) else none) else some M.bad
  | .tryN known body hs => tryL (evSs Γ body) fun e => if e.cls ∈ known then evH Γ hs e else some M.bad
def evSs (Γ : Gm) : List S → M Fl
  | [] => pure .nx
  | s :: ss => evS Γ s >>= fun f => match f with
    | .nx => evSs Γ ss
    | .rt v => pure (.rt v)
def evH (Γ : Gm) : List (Str × List S) → Ex → Option (M Fl)
  | [], _ => none
  | (c, ss) :: r, e => if e.cls = c then some (evSs Γ ss) else evH Γ r e
end
/-! ### a def -/
def init : List Bool → List D → Env
  | m :: ms, d :: ds => some (if m then .pin else .shr, d) :: init ms ds
  | _, _ => []
def outsAt : List Bool → Env → Option (List D)
  | [], _ => some []
  | true :: ms, some (.pin, d) :: ρ => (outsAt ms ρ).map (d :: ·)
  | true :: _, _ => none
  | false :: ms, _ :: ρ => (outsAt ms ρ).map (.non :: ·)
  | false :: _, [] => none
/-- a def with so many slots, its parameters first (true: by reference) -/
def semD (mask : List Bool) (n : Nat) (m : M Fl) : Fn := fun ds =>
  if ds.length = mask.length then (match m (init mask ds ++ List.replicate (n - mask.length) none) with
    | .ok f ρ => (match outsAt mask ρ with
      | some outs => .ok (match f with
        | .rt v => v
        | .nx => sh .non) outs
      | none => .bad)
    | .err e ρ => (match outsAt mask ρ with
      | some outs => .err e outs
      | none => .bad)
    | .bad => .bad) else .bad
end PL
/-! PLRel: how data lies in the abstract heap; the readings of PLEval over the hand layer. -/
namespace PL
open PySem L2 PySem.Spec PyProof.Rows
/-- the address that the written part's top has for a name -/
def gaK (K : PySem.W.Frag) (x : Str) : Addr := match PySem.W.nsIn K mainGlobals x with
  | some (some (.ref a)) => a
  | _ => 0
mutual
inductive Rp (K : PySem.W.Frag) (F : Hp) : V → D → Prop
  | non : Rp K F .non .non
  | bl (b : Bool) : Rp K F (.bl b) (.bl b)
  | int (i : Int) : Rp K F (.int i) (.int i)
  | str (s : Str) : Rp K F (.str s) (.str s)
  | tup {a : Addr} {xs : List V} {ds : List D} : SqT K F a xs → Rps K F xs ds → Rp K F (.ref a) (.tup ds)
  | lst {a : Addr} {xs : List V} {ds : List D} : F a = some (.lst xs) → Rps K F xs ds → Rp K F (.ref a) (.lst ds)
  | ro {a : Addr} {xs : List V} {ds : List D} : SqL K F a xs → Rps K F xs ds → Rp K F (.ref a) (.ro ds)
  | fn (x : Str) : Rp K F (.ref (gaK K x)) (.fn x)
inductive Rps (K : PySem.W.Frag) (F : Hp) : List V → List D → Prop
  | nil : Rps K F [] []
  | cons {v : V} {vs : List V} {d : D} {ds : List D} : Rp K F v d → Rps K F vs ds → Rps K F (v :: vs) (d :: ds)
end
theorem sqT_mono {K : PySem.W.Frag} {F F' : Hp} {a : Addr} {xs : List V} (e : Same F F') (h : SqT K F a xs) : SqT K F' a xs := by
  rcases h with (h | ⟨o, h⟩) | h
  · exact .inl (.inl (e _ _ h))
  · exact .inl (.inr ⟨o, e _ _ h⟩)
  · exact .inr h
mutual
theorem Rp.mono {K : PySem.W.Frag} {F F' : Hp} (e : Same F F') : ∀ {v : V} {d : D}, Rp K F v d → Rp K F' v d
  | _, _, .non => .non
  | _, _, .bl b => .bl b
  | _, _, .int i => .int i
  | _, _, .str s => .str s
  | _, _, .tup h r => .tup (sqT_mono e h) (Rps.mono e r)
  | _, _, .lst h r => .lst (e _ _ h) (Rps.mono e r)
  | _, _, .ro h r => .ro (e.seq h) (Rps.mono e r)
  | _, _, .fn x => .fn x
theorem Rps.mono {K : PySem.W.Frag} {F F' : Hp} (e : Same F F') : ∀ {vs : List V} {ds : List D}, Rps K F vs ds → Rps K F' vs ds
  | _, _, .nil => .nil
  | _, _, .cons h r => .cons (Rp.mono e h) (Rps.mono e r)
end
/-- a heap that bears the same tuples bears the same flat data -/
def SameT (F F' : Hp) : Prop := ∀ a u, (∀ xs, u ≠ .lst xs) → F a = some u → F' a = some u
mutual
theorem Rp.flat {K : PySem.W.Frag} {F F' : Hp} (e : SameT F F') : ∀ {v : V} {d : D}, Rp K F v d → d.flat = true → Rp K F' v d
  | _, _, .non, _ => .non
  | _, _, .bl b, _ => .bl b
  | _, _, .int i, _ => .int i
  | _, _, .str s, _ => .str s
  | _, _, .tup h r, q => .tup (by
      rcases h with (h | ⟨o, h⟩) | h
      · exact .inl (.inl (e _ _ (fun xs z => nomatch z) h))
      · exact .inl (.inr ⟨o, e _ _ (fun xs z => nomatch z) h⟩)
      · exact .inr h) (Rps.flat e r (by simpa [D.flat] using q))
  | _, _, .lst h r, q => by simp [D.flat] at q
  | _, _, .ro h r, q => by simp [D.flat] at q
  | _, _, .fn x, _ => .fn x
theorem Rps.flat {K : PySem.W.Frag} {F F' : Hp} (e : SameT F F') : ∀ {vs : List V} {ds : List D}, Rps K F vs ds → D.flats ds = true → Rps K F' vs ds
  | _, _, .nil, _ => .nil
  | _, _, .cons h r, q => by
    simp only [D.flats, Bool.and_eq_true] at q
    exact .cons (Rp.flat e h q.1) (Rps.flat e r q.2)
end
section
variable {K : PySem.W.Frag} {F : Hp}
theorem Rps.length : ∀ {vs : List V} {ds : List D}, Rps K F vs ds → vs.length = ds.length
  | _, _, .nil => rfl
  | _, _, .cons _ r => congrArg (· + 1) (Rps.length r)
theorem Rps.append : ∀ {vs ws : List V} {ds es : List D}, Rps K F vs ds → Rps K F ws es → Rps K F (vs ++ ws) (ds ++ es)
  | _, _, _, _, .nil, s => s
  | _, _, _, _, .cons h r, s => .cons h (Rps.append r s)
theorem Rps.get : ∀ {vs : List V} {ds : List D} {i : Nat} {d : D}, Rps K F vs ds → ds[i]? = some d → ∃ v, vs[i]? = some v ∧ Rp K F v d
  | _, _, _, _, .nil, e => by simp at e
  | _, _, 0, _, .cons h _, e => by simp at e; subst e; exact ⟨_, rfl, h⟩
  | _, _, i + 1, d, .cons _ r, e => by
    obtain ⟨v, h1, h2⟩ := Rps.get (i := i) (d := d) r (by simpa using e)
    exact ⟨v, by simpa using h1, h2⟩
theorem Rps.getV : ∀ {vs : List V} {ds : List D} {i : Nat} {v : V}, Rps K F vs ds → vs[i]? = some v → ∃ d, ds[i]? = some d ∧ Rp K F v d
  | _, _, _, _, .nil, e => by simp at e
  | _, _, 0, _, .cons h _, e => by simp at e; subst e; exact ⟨_, rfl, h⟩
  | _, _, i + 1, v, .cons _ r, e => by
    obtain ⟨d, h1, h2⟩ := Rps.getV (i := i) (v := v) r (by simpa using e)
    exact ⟨d, by simpa using h1, h2⟩
theorem Rps.take : ∀ {vs : List V} {ds : List D} (n : Nat), Rps K F vs ds → Rps K F (vs.take n) (ds.take n)
  | _, _, 0, _ => by simp; exact .nil
  | _, _, n + 1, .nil => by simp; exact .nil
  | _, _, n + 1, .cons h r => by simp only [List.take_succ_cons]; exact .cons h (Rps.take n r)
theorem Rps.drop : ∀ {vs : List V} {ds : List D} (n : Nat), Rps K F vs ds → Rps K F (vs.drop n) (ds.drop n)
  | _, _, 0, h => by simpa using h
  | _, _, n + 1, .nil => by simp; exact .nil
  | _, _, n + 1, .cons h r => by simpa using Rps.drop n r
theorem Rps.set : ∀ {vs : List V} {ds : List D} {v : V} {d : D} (n : Nat), Rp K F v d → Rps K F vs ds → Rps K F (vs.set n v) (ds.set n d)
  | _, _, _, _, _, _, .nil => by simp; exact .nil
  | _, _, _, _, 0, q, .cons h r => .cons q r
  | _, _, _, _, n + 1, q, .cons h r => .cons h (Rps.set n q r)
theorem Rps.reverse {vs : List V} {ds : List D} (h : Rps K F vs ds) : Rps K F vs.reverse ds.reverse := by
  induction vs generalizing ds with
  | nil => cases h; exact .nil
  | cons v vs ih =>
    cases h with
    | cons h r =>
      rw [List.reverse_cons, List.reverse_cons]
      exact (ih r).append (.cons h .nil)
theorem Rps.rep {vs : List V} {ds : List D} (h : Rps K F vs ds) : ∀ n : Nat, Rps K F (List.replicate n vs).flatten (List.replicate n ds).flatten
  | 0 => by simp; exact .nil
  | n + 1 => by rw [List.replicate_succ, List.replicate_succ, List.flatten_cons, List.flatten_cons]; exact h.append (Rps.rep h n)
theorem Rps.ints : ∀ {vs : List V} {ds : List D} {ns : List Int}, Rps K F vs ds → isInts ds = some ns → vs = ns.map V.int
  | _, _, ns, .nil, e => by simp [isInts] at e; subst e; rfl
  | _, _, ns, .cons h r, e => by
    cases h with
    | int i =>
      simp only [isInts, Option.map_eq_some_iff] at e
      obtain ⟨m, e1, rfl⟩ := e
      rw [Rps.ints r e1]; rfl
    | _ => simp [isInts] at e
theorem Rps.bls : ∀ {vs : List V} {ds : List D} {ns : List Bool}, Rps K F vs ds → isBls ds = some ns → vs = ns.map V.bl
  | _, _, ns, .nil, e => by simp [isBls] at e; subst e; rfl
  | _, _, ns, .cons h r, e => by
    cases h with
    | bl i =>
      simp only [isBls, Option.map_eq_some_iff] at e
      obtain ⟨m, e1, rfl⟩ := e
      rw [Rps.bls r e1]; rfl
    | _ => simp [isBls] at e
theorem Rps.strs : ∀ {vs : List V} {ds : List D} {ns : List Str}, Rps K F vs ds → isStrs ds = some ns → vs = ns.map V.str
  | _, _, ns, .nil, e => by simp [isStrs] at e; subst e; rfl
  | _, _, ns, .cons h r, e => by
    cases h with
    | str i =>
      simp only [isStrs, Option.map_eq_some_iff] at e
      obtain ⟨m, e1, rfl⟩ := e
      rw [Rps.strs r e1]; rfl
    | _ => simp [isStrs] at e
end
/-! ### the slots -/
/-- an owned object at a -/
def OwnAt (K : PySem.W.Frag) (F G H : Hp) (a : Addr) (d : D) : Prop :=
  F a = none ∧ G a = none ∧ match d with
    | .lst ds => ∃ xs, H a = some (.lst xs) ∧ Rps K F xs ds
    | _ => False
structure EnvOk (K : PySem.W.Frag) (pa : Nat → Option Addr) (F G H : Hp) (σ : L2.St) (ρ : Env) : Prop where
  fh : Same F H
  gh : Same G H
  fg : ∀ a o, F a = some o → G a = none
  len : ρ.length = σ.length
  shr : ∀ (i : Nat) (d : D), ρ[i]? = some (some (Fg.shr, d)) → ∃ v, σ[i]? = some (some v) ∧ Rp K F v d
  own : ∀ (i : Nat) (g : Fg) (d : D), ρ[i]? = some (some (g, d)) → g ≠ Fg.shr → ∃ a, σ[i]? = some (some (V.ref a)) ∧ OwnAt K F G H a d
  pin : ∀ (i : Nat) (d : D), ρ[i]? = some (some (Fg.pin, d)) → ∃ a, pa i = some a ∧ σ[i]? = some (some (V.ref a))
  dist : ∀ (i j : Nat) (g g' : Fg) (d d' : D) (a : Addr), i ≠ j → ρ[i]? = some (some (g, d)) → g ≠ Fg.shr → ρ[j]? = some (some (g', d')) → g' ≠ Fg.shr → σ[i]? = some (some (V.ref a)) → σ[j]? ≠ some (some (V.ref a))
/-- a is no owned slot's -/
def NotOwn (σ : L2.St) (ρ : Env) (a : Addr) : Prop := ∀ (i : Nat) (g : Fg) (d : D), ρ[i]? = some (some (g, d)) → g ≠ Fg.shr → σ[i]? ≠ some (some (V.ref a))
def Res (K : PySem.W.Frag) (F G H : Hp) (σ : L2.St) (ρ : Env) (v : V) (r : Vl) : Prop := match r.own with
  | false => Rp K F v r.d
  | true => ∃ a, v = .ref a ∧ OwnAt K F G H a r.d ∧ NotOwn σ ρ a
/-- an error as it lies -/
def ExR (K : PySem.W.Frag) (mg : Str → Option Value) (F : Hp) (c : Value) (x : Option Addr) (e : Ex) : Prop :=
  mg e.cls = some c ∧ match e.fld with
    | none => x = none
    | some (f, d) => ∃ a v, x = some a ∧ F a = some (.xd [(f, v)]) ∧ Rp K F v d
/-- what stays the same within a def's body: the written part, the module's names, the pinned slots, the objects of others, the wish about errors -/
structure Fx where
  K : PySem.W.Frag
  mg : Str → Option Value
  pa : Nat → Option Addr
  G : Hp
  W : WX
/-- how what is computed lies -/
abbrev Lie (C α : Type) := Hp → Hp → L2.St → Env → C → α → Prop
def Cont {C α : Type} (Z : Fx) (rel : Lie C α) (σ : L2.St) (F : Hp) (r : R α) (Q : C → Hp → Prop) : Prop := match r with
  | .ok a ρ => ∀ v F' H', Same F F' → EnvOk Z.K Z.pa F' Z.G H' σ ρ → rel F' H' σ ρ v a → Q v H'
  | .err e ρ => ∀ F' H' c x, Same F F' → EnvOk Z.K Z.pa F' Z.G H' σ ρ → ExR Z.K Z.mg F' c x e → Z.W c x σ H'
  | .bad => False
def Rd {C α : Type} (Z : Fx) (rel : Lie C α) (f : M α) : L2.St → Hp → (C → Hp → Prop) → Prop := fun σ H Q =>
  ∃ F ρ, EnvOk Z.K Z.pa F Z.G H σ ρ ∧ Cont Z rel σ F (f ρ) Q
/-- the ways data lies -/
abbrev lV (Z : Fx) : Lie V Vl := fun F H σ ρ v r => Res Z.K F Z.G H σ ρ v r
abbrev lD (Z : Fx) : Lie V D := fun F _ _ _ v d => Rp Z.K F v d
abbrev lDs (Z : Fx) : Lie (List V) (List D) := fun F _ _ _ vs ds => Rps Z.K F vs ds
abbrev lB : Lie Bool Vl := fun _ _ _ _ b r => r.d = .bl b
abbrev lBool : Lie Bool Bool := fun _ _ _ _ b r => r = b
def RefR (K : PySem.W.Frag) (F : Hp) (σ : L2.St) (v : V) : Ref → Prop
  | .val d => Rp K F v d
  | .slot i => σ[i]? = some (some v)
abbrev lR (Z : Fx) : Lie V Ref := fun F _ σ _ v r => RefR Z.K F σ v r
abbrev rdE (Z : Fx) (f : M Vl) : TE := Rd Z (lV Z) f
abbrev rdT (Z : Fx) (f : M Vl) : TT := Rd Z lB f
abbrev rdR (Z : Fx) (f : M Ref) : TE := Rd Z (lR Z) f
section
variable {Z : Fx} {C α β C' : Type} {rel : Lie C α} {rel' : Lie C' β} {σ : L2.St} {F F' H : Hp} {ρ : Env}
theorem Cont.mono {r : R α} {Q : C → Hp → Prop} (e : Same F F') (c : Cont Z rel σ F r Q) : Cont Z rel σ F' r Q := by
  cases r with
  | ok a ρ => exact fun v F2 H2 s => c v F2 H2 (e.trans s)
  | err x ρ => exact fun F2 H2 cl d s => c F2 H2 cl d (e.trans s)
  | bad => exact c
theorem Cont.imp {r : R α} {Q Q' : C → Hp → Prop} (c : Cont Z rel σ F r Q) (h : ∀ v H', Q v H' → Q' v H') : Cont Z rel σ F r Q' := by
  cases r with
  | ok a ρ => exact fun v F2 H2 s E l => h v H2 (c v F2 H2 s E l)
  | err x ρ => exact c
  | bad => exact c
/-- one thing, then another -/
theorem Cont.bind {f : M α} {g : α → M β} {Q : C' → Hp → Prop} (E : EnvOk Z.K Z.pa F Z.G H σ ρ) (c : Cont Z rel' σ F ((f >>= g) ρ) Q) :
    Rd Z rel f σ H fun v H1 => ∃ a F1 ρ1, Same F F1 ∧ EnvOk Z.K Z.pa F1 Z.G H1 σ ρ1 ∧ rel F1 H1 σ ρ1 v a ∧ Cont Z rel' σ F1 (g a ρ1) Q := by
  refine ⟨F, ρ, E, ?_⟩
  have c' : Cont Z rel' σ F (match f ρ with
    | .ok a ρ' => g a ρ'
    | .err e ρ' => .err e ρ'
    | .bad => .bad) Q := c
  cases q : f ρ with
  | ok a ρ1 =>
    rw [q] at c'
    exact fun v F1 H1 s E1 l => ⟨a, F1, ρ1, s, E1, l, c'.mono s⟩
  | err x ρ1 => rw [q] at c'; exact c'
  | bad => rw [q] at c'; exact c'
theorem Rd.mk {f : M α} {Q : C → Hp → Prop} (E : EnvOk Z.K Z.pa F Z.G H σ ρ) (c : Cont Z rel σ F (f ρ) Q) : Rd Z rel f σ H Q := ⟨F, ρ, E, c⟩
theorem Rd.imp {f : M α} {Q Q' : C → Hp → Prop} (r : Rd Z rel f σ H Q) (h : ∀ v H', Q v H' → Q' v H') : Rd Z rel f σ H Q' := by
  obtain ⟨F, ρ, E, c⟩ := r
  exact ⟨F, ρ, E, c.imp h⟩
/-- a value that is there -/
theorem Cont.ok {a : α} {Q : C → Hp → Prop} (c : Cont Z rel σ F (.ok a ρ) Q) (E : EnvOk Z.K Z.pa F Z.G H σ ρ) {v : C} (l : rel F H σ ρ v a) : Q v H := c v F H (Same.refl F) E l
theorem cont_opt {o : Option α} {Q : C → Hp → Prop} (c : Cont Z rel σ F (M.opt o ρ) Q) : ∃ a, o = some a ∧ Cont Z rel σ F (.ok a ρ) Q := by
  cases o with
  | none => exact c.elim
  | some a => exact ⟨a, rfl, c⟩
end
/-! ### the heap grows -/
section
variable {K : PySem.W.Frag} {pa : Nat → Option Addr} {F G H : Hp} {σ : L2.St} {ρ : Env}
theorem upd_same_of {H : Hp} {p : Addr} {o : HO} (h : H p = none) : Same H (upd H p o) := fun b u q => by rw [upd_ne (ne_of_none q h)]; exact q
theorem EnvOk.fnone (E : EnvOk K pa F G H σ ρ) {p : Addr} (h : H p = none) : F p = none := E.fh.free h
theorem EnvOk.gnone (E : EnvOk K pa F G H σ ρ) {p : Addr} (h : H p = none) : G p = none := E.gh.free h
theorem OwnAt.grow {a p : Addr} {o : HO} {d : D} (h : OwnAt K F G H a d) (hp : H p = none) (hF : F p = none) : OwnAt K (upd F p o) G (upd H p o) a d := by
  obtain ⟨h1, h2, h3⟩ := h
  have ne : a ≠ p := by
    rintro rfl
    cases d with
    | lst ds => obtain ⟨xs, e, _⟩ := h3; rw [hp] at e; cases e
    | _ => exact h3.elim
  refine ⟨by rw [upd_ne ne]; exact h1, h2, ?_⟩
  cases d with
  | lst ds =>
    obtain ⟨xs, e, r⟩ := h3
    exact ⟨xs, by rw [upd_ne ne]; exact e, r.mono (upd_same_of hF)⟩
  | _ => exact h3
/-- a new object, shared at once -/
theorem EnvOk.new {p : Addr} {o : HO} (E : EnvOk K pa F G H σ ρ) (hp : H p = none) : Same F (upd F p o) ∧ EnvOk K pa (upd F p o) G (upd H p o) σ ρ := by
  have hF := E.fnone hp
  have s := upd_same_of (o := o) hF
  refine ⟨s, fun b u q => ?_, fun b u q => ?_, fun a u q => ?_, E.len, fun i d q => ?_, fun i g d q ng => ?_, E.pin, E.dist⟩
  · by_cases hb : b = p
    · subst hb; rw [upd_same] at q ⊢; exact q
    · rw [upd_ne hb] at q ⊢; exact E.fh b u q
  · rw [upd_ne (ne_of_none (E.gh b u q) hp)]; exact E.gh b u q
  · by_cases ha : a = p
    · subst ha; exact E.gnone hp
    · rw [upd_ne ha] at q; exact E.fg a u q
  · obtain ⟨v, e, r⟩ := E.shr i d q
    exact ⟨v, e, r.mono s⟩
  · obtain ⟨a, e, r⟩ := E.own i g d q ng
    exact ⟨a, e, r.grow hp hF⟩
/-- a new object that nobody shares yet -/
theorem EnvOk.newOwn {p : Addr} {xs : List V} (E : EnvOk K pa F G H σ ρ) (hp : H p = none) : EnvOk K pa F G (upd H p (.lst xs)) σ ρ := by
  refine ⟨fun b u q => ?_, fun b u q => ?_, E.fg, E.len, E.shr, fun i g d q ng => ?_, E.pin, E.dist⟩
  · rw [upd_ne (ne_of_none (E.fh b u q) hp)]; exact E.fh b u q
  · rw [upd_ne (ne_of_none (E.gh b u q) hp)]; exact E.gh b u q
  · obtain ⟨a, e, h1, h2, h3⟩ := E.own i g d q ng
    refine ⟨a, e, h1, h2, ?_⟩
    cases d with
    | lst ds =>
      obtain ⟨ys, e3, r⟩ := h3
      exact ⟨ys, by rw [upd_ne (ne_of_none e3 hp)]; exact e3, r⟩
    | _ => exact h3
theorem EnvOk.notOwn {p : Addr} (E : EnvOk K pa F G H σ ρ) (hp : H p = none) : NotOwn σ ρ p := fun i g d q ng z => by
  obtain ⟨a, e, _, _, h3⟩ := E.own i g d q ng
  rw [e] at z; cases z
  cases d with
  | lst ds => obtain ⟨ys, e3, _⟩ := h3; rw [hp] at e3; cases e3
  | _ => exact h3
theorem EnvOk.ownNew {p : Addr} {xs : List V} {ds : List D} (E : EnvOk K pa F G H σ ρ) (hp : H p = none) (r : Rps K F xs ds) : Res K F G (upd H p (.lst xs)) σ ρ (.ref p) (ow (.lst ds)) :=
  ⟨p, rfl, ⟨E.fnone hp, E.gnone hp, xs, upd_same, r⟩, E.notOwn hp⟩
/-- an owned value is shared -/
theorem EnvOk.share {v : V} {r : Vl} (E : EnvOk K pa F G H σ ρ) (h : Res K F G H σ ρ v r) : ∃ F', Same F F' ∧ EnvOk K pa F' G H σ ρ ∧ Rp K F' v r.d := by
  obtain ⟨ow, d⟩ := r
  cases ow with
  | false => exact ⟨F, Same.refl F, E, h⟩
  | true =>
    obtain ⟨a, rfl, ⟨h1, h2, h3⟩, no⟩ := h
    cases d with
    | lst ds =>
      obtain ⟨xs, e, r⟩ := h3
      have s := upd_same_of (o := HO.lst xs) h1
      refine ⟨upd F a (.lst xs), s, ⟨fun b u q => ?_, E.gh, fun b u q => ?_, E.len, fun i d q => ?_, fun i g d q ng => ?_, E.pin, E.dist⟩, .lst upd_same (r.mono s)⟩
      · by_cases hb : b = a
        · subst hb; rw [upd_same] at q; rw [← q]; exact e
        · rw [upd_ne hb] at q; exact E.fh b u q
      · by_cases hb : b = a
        · subst hb; exact h2
        · rw [upd_ne hb] at q; exact E.fg b u q
      · obtain ⟨v, e, r⟩ := E.shr i d q
        exact ⟨v, e, r.mono s⟩
      · obtain ⟨b, eb, k1, k2, k3⟩ := E.own i g d q ng
        have hb : b ≠ a := by
          rintro rfl
          exact no i g d q ng eb
        refine ⟨b, eb, by rw [upd_ne hb]; exact k1, k2, ?_⟩
        cases d with
        | lst ds2 => obtain ⟨ys, e3, r3⟩ := k3; exact ⟨ys, e3, r3.mono s⟩
        | _ => exact k3
    | _ => exact h3.elim
/-- what is looked at: shared, or an owned list -/
def Seen (K : PySem.W.Frag) (F H : Hp) (v : V) (d : D) : Prop := Rp K F v d ∨ ∃ a xs ds, v = .ref a ∧ d = .lst ds ∧ H a = some (.lst xs) ∧ Rps K F xs ds
theorem EnvOk.slotd {i : Nat} {d : D} {v : V} {ρ' : Env} (E : EnvOk K pa F G H σ ρ) (h : PL.slotd i ρ = .ok d ρ') (hv : σ[i]? = some (some v)) : ρ' = ρ ∧ Seen K F H v d := by
  unfold PL.slotd at h
  split at h
  · rename_i f d' q
    split at h
    · cases h
    · rename_i nf
      cases h
      obtain ⟨a, e, _, _, h3⟩ := E.own i f d q nf
      rw [e] at hv; cases hv
      refine ⟨rfl, .inr ?_⟩
      cases d with
      | lst ds => obtain ⟨xs, e3, r⟩ := h3; exact ⟨a, xs, ds, rfl, rfl, e3, r⟩
      | _ => exact h3.elim
  · cases h
end
/-- an operand's value -/
theorem deref_seen {Z : Fx} {C β : Type} {rel : Lie C β} {σ : L2.St} {F H : Hp} {ρ : Env} {r : Ref} {v : V} {g : D → M β} {Q : C → Hp → Prop} (E : EnvOk Z.K Z.pa F Z.G H σ ρ) (h : RefR Z.K F σ v r) (c : Cont Z rel σ F ((deref r >>= g) ρ) Q) :
    ∃ d, Seen Z.K F H v d ∧ Cont Z rel σ F (g d ρ) Q := by
  cases r with
  | val d => exact ⟨d, .inl h, c⟩
  | slot i =>
    cases q : slotd i ρ with
    | ok d ρ' =>
      rw [bind_ok (f := deref (.slot i)) q] at c
      obtain ⟨rfl, s⟩ := E.slotd q h
      exact ⟨d, s, c⟩
    | err e ρ' =>
      unfold slotd at q
      split at q <;> (try split at q) <;> cases q
    | bad =>
      rw [bind_bad (f := deref (.slot i)) q] at c
      exact c.elim
theorem RefR.mono {K : PySem.W.Frag} {F F' : Hp} {σ : L2.St} {v : V} {r : Ref} (s : Same F F') (h : RefR K F σ v r) : RefR K F' σ v r := by
  cases r with
  | val d => exact Rp.mono s h
  | slot i => exact h
end PL
/-! PLOps: the operators' and built-ins' rules for data. -/
namespace PL
open PySem L2 PySem.Spec PyProof.Rows
theorem szL_eq : szL = sizeLine := by rw [sizeLine_eq]; rfl
section
variable {K : PySem.W.Frag} {F H : Hp} {v : V}
theorem seen_int {i : Int} (h : Seen K F H v (.int i)) : v = .int i := by
  rcases h with h | ⟨_, _, _, _, e, _⟩
  · cases h; rfl
  · cases e
theorem seen_bl {i : Bool} (h : Seen K F H v (.bl i)) : v = .bl i := by
  rcases h with h | ⟨_, _, _, _, e, _⟩
  · cases h; rfl
  · cases e
theorem seen_str {i : Str} (h : Seen K F H v (.str i)) : v = .str i := by
  rcases h with h | ⟨_, _, _, _, e, _⟩
  · cases h; rfl
  · cases e
theorem seen_non (h : Seen K F H v .non) : v = .non := by
  rcases h with h | ⟨_, _, _, _, e, _⟩
  · cases h; rfl
  · cases e
theorem seen_tup {ds : List D} (fh : Same F H) (h : Seen K F H v (.tup ds)) : ∃ a xs, v = .ref a ∧ SqT K H a xs ∧ Rps K F xs ds := by
  rcases h with h | ⟨_, _, _, _, e, _⟩
  · cases h with
    | tup s r => exact ⟨_, _, rfl, sqT_mono fh s, r⟩
  · cases e
theorem seen_lst {ds : List D} (fh : Same F H) (h : Seen K F H v (.lst ds)) : ∃ a xs, v = .ref a ∧ H a = some (.lst xs) ∧ Rps K F xs ds := by
  rcases h with h | ⟨a, xs, _, e1, e, e2, r⟩
  · cases h with
    | lst s r => exact ⟨_, _, rfl, fh _ _ s, r⟩
  · cases e; exact ⟨a, xs, e1, e2, r⟩
theorem seen_ro {ds : List D} (fh : Same F H) (h : Seen K F H v (.ro ds)) : ∃ a xs, v = .ref a ∧ SqL K H a xs ∧ Rps K F xs ds := by
  rcases h with h | ⟨a, xs, _, e1, e, e2, r⟩
  · cases h with
    | ro s r => exact ⟨_, _, rfl, fh.seq s, r⟩
  · cases e
theorem seen_scal {d : D} (hs : isScal d = true) (h : Seen K F H v d) : Rp K F v d := by
  rcases h with h | ⟨_, _, _, _, e, _⟩
  · exact h
  · subst e; simp [isScal] at hs
end
section
variable {Z : Fx} {σ : L2.St} {F H : Hp} {ρ : Env} {Q : VK}
theorem cont_val {v : V} {d : D} (c : Cont Z (lV Z) σ F (.ok (sh d) ρ) Q) (E : EnvOk Z.K Z.pa F Z.G H σ ρ) (r : Rp Z.K F v d) : Q v H := c.ok E r
theorem cont_tup {xs : List V} {ds : List D} (c : Cont Z (lV Z) σ F (.ok (sh (.tup ds)) ρ) Q) (E : EnvOk Z.K Z.pa F Z.G H σ ρ) (r : Rps Z.K F xs ds) : ∀ p, H p = none → Q (.ref p) (upd H p (.tup xs)) := fun p hp =>
  have e := E.new (o := .tup xs) hp
  c _ _ _ e.1 e.2 (.tup (SqT.of upd_same) (r.mono e.1))
theorem cont_lst {xs : List V} {ds : List D} (c : Cont Z (lV Z) σ F (.ok (ow (.lst ds)) ρ) Q) (E : EnvOk Z.K Z.pa F Z.G H σ ρ) (r : Rps Z.K F xs ds) : ∀ p, H p = none → Q (.ref p) (upd H p (.lst xs)) := fun p hp =>
  c _ _ _ (Same.refl F) (E.newOwn hp) (E.ownNew hp r)
end
/-- behind both operands -/
def K2 (Z : Fx) (f : D → D → M Vl) : R2 := fun x y H Q => ∃ σ F ρ dx dy, EnvOk Z.K Z.pa F Z.G H σ ρ ∧ Seen Z.K F H x dx ∧ Seen Z.K F H y dy ∧ Cont Z (lV Z) σ F (f dx dy ρ) Q
def K1 (Z : Fx) (f : D → M Vl) : V → Hp → VK → Prop := fun x H Q => ∃ σ F ρ dx, EnvOk Z.K Z.pa F Z.G H σ ρ ∧ Seen Z.K F H x dx ∧ Cont Z (lV Z) σ F (f dx ρ) Q
/-- calls -/
def KC (Z : Fx) (f : D → M Vl) : List V → Hp → VK → Prop := fun vs H Q => ∃ x, vs = [x] ∧ K1 Z f x H Q
def KC2 (Z : Fx) (f : D → D → M Vl) : List V → Hp → VK → Prop := fun vs H Q => ∃ x y, vs = [x, y] ∧ K2 Z f x y H Q
def opB : Bop → Operator
  | .add => .Add
  | .sub => .Sub
  | .mul => .Mult
  | .fdiv => .FloorDiv
  | .mod => .Mod
  | .pow => .Pow
def opC : Cop → CmpOp
  | .eq => .Eq
  | .ne => .NotEq
  | .lt => .Lt
  | .le => .LtE
  | .gt => .Gt
  | .ge => .GtE
section
variable {X : Cx} {Z : Fx}
theorem mul_text (x : Str) (k : Int) : PySem.Txt.mul x k = ⟨(List.replicate k.toNat x.cps.toList).flatten.toArray⟩ := by
  unfold PySem.Txt.mul
  have z : ∀ (n : Nat) (acc : Array Nat), (List.replicate n x.cps).foldl (· ++ ·) acc = acc ++ (List.replicate n x.cps.toList).flatten.toArray := by
    intro n
    induction n with
    | zero => intro acc; simp
    | succ n ih =>
      intro acc
      rw [List.replicate_succ, List.foldl_cons, ih, List.replicate_succ, List.flatten_cons]
      apply Array.ext'
      simp
  by_cases h1 : k < 1
  · rw [if_pos h1]
    have e : k.toNat = 0 := by omega
    rw [e]
    simp [Str.empty]
  · rw [if_neg h1]
    split
    · rename_i h2
      rw [Bool.or_eq_true] at h2
      rcases h2 with h2 | h2
      · have e : k = 1 := eq_of_beq h2
        subst e
        obtain ⟨c⟩ := x
        simp
      · have e : x.length = 0 := eq_of_beq h2
        obtain ⟨c⟩ := x
        have e' : c.size = 0 := e
        have e2 : c = #[] := Array.eq_empty_of_size_eq_zero e'
        subst e2
        simp
    · rw [z]
      simp
theorem op_bin (hK : X.K = Z.K) (b : Bop) : OpR X (binaryOp (opB b)) (K2 Z fun dx dy => M.opt (bin b dx dy)) := by
  obtain ⟨K, mg, pa, G, W⟩ := Z
  cases hK
  intro pins s σ' H x y v u Q I rx ry ⟨σ, F, ρ, dx, dy, E, hx, hy, c⟩
  replace c := cont_opt c
  obtain ⟨r, e, c⟩ := c
  unfold bin at e
  split at e
  · cases e; cases seen_int hx; cases seen_int hy
    exact op_add pins s σ' H _ _ v u Q I rx ry ⟨_, _, rfl, rfl, cont_val c E (.int _)⟩
  · split at e
    · rename_i hl
      cases e; cases seen_str hx; cases seen_str hy
      exact op_add_str pins s σ' H _ _ v u Q I rx ry ⟨_, _, rfl, rfl, by rw [← szL_eq]; exact hl, cont_val c E (.str _)⟩
    · cases e
  · split at e
    · rename_i hl
      cases e
      obtain ⟨a, xs, rfl, sx, r1⟩ := seen_tup E.fh hx
      obtain ⟨b', ys, rfl, sy, r2⟩ := seen_tup E.fh hy
      have rr := r1.append r2
      refine op_catA pins s σ' H _ _ v u Q I rx ry ⟨a, b', xs, ys, rfl, rfl, sx, sy, by rw [← szL_eq, r1.length, r2.length]; exact hl, fun e1 => ?_, fun _ e1 => ?_, fun _ _ => cont_tup c E rr⟩
      · subst e1
        rcases hy with hy | ⟨_, _, _, _, e, _⟩
        · cases r1; exact cont_val c E hy
        · cases e
      · subst e1
        rcases hx with hx | ⟨_, _, _, _, e, _⟩
        · cases r2; rw [List.append_nil] at c; exact cont_val c E hx
        · cases e
    · cases e
  · split at e
    · rename_i hl
      cases e
      obtain ⟨a, xs, rfl, sx, r1⟩ := seen_lst E.fh hx
      obtain ⟨b', ys, rfl, sy, r2⟩ := seen_lst E.fh hy
      exact op_cat pins s σ' H _ _ v u Q I rx ry ⟨a, b', xs, ys, rfl, rfl, sx, sy, by rw [← szL_eq, r1.length, r2.length]; exact hl, cont_lst c E (r1.append r2)⟩
    · cases e
  · cases e; cases seen_int hx; cases seen_int hy
    exact op_sub pins s σ' H _ _ v u Q I rx ry ⟨_, _, rfl, rfl, cont_val c E (.int _)⟩
  · split at e
    · rename_i hl
      cases e; cases seen_int hx; cases seen_int hy
      have q := cont_val c E (.int _)
      rw [Bool.or_eq_true, Bool.or_eq_true] at hl
      rcases hl with (hl | hl) | hl
      · exact op_mul pins s σ' H _ _ v u Q I rx ry ⟨_, _, rfl, rfl, .inl (small64_of hl), q⟩
      · exact op_mul pins s σ' H _ _ v u Q I rx ry ⟨_, _, rfl, rfl, .inr (small64_of hl), q⟩
      · exact op_mulW pins s σ' H _ _ v u Q I rx ry ⟨_, _, rfl, rfl, (of_decide_eq_true (p := (_ : Int).natAbs.log2 + (_ : Int).natAbs.log2 < 1000000) hl), q⟩
    · cases e
  · split at e
    · rename_i hl
      cases e
      obtain ⟨a, xs, rfl, sx, r1⟩ := seen_tup E.fh hx
      cases seen_int hy
      obtain ⟨l1, l2, l3, l4⟩ := hl
      refine op_repT pins s σ' H _ _ v u Q I rx ry ⟨a, _, xs, rfl, rfl, sx, fun e => ?_, l2, l3, by rw [r1.length]; exact l4, cont_tup c E (r1.rep _)⟩
      subst e; cases r1; exact l1 rfl
    · cases e
  · split at e
    · rename_i hl
      cases e
      obtain ⟨a, xs, rfl, sx, r1⟩ := seen_lst E.fh hx
      cases seen_int hy
      obtain ⟨l1, l2, l3⟩ := hl
      exact op_rep pins s σ' H _ _ v u Q I rx ry ⟨a, _, xs, rfl, rfl, sx, l1, l2, by rw [← szL_eq, r1.length]; exact l3, cont_lst c E (r1.rep _)⟩
    · cases e
  · split at e
    · rename_i hl
      cases e; cases seen_str hx; cases seen_int hy
      obtain ⟨l1, l2, l3⟩ := hl
      obtain ⟨t, rfl⟩ := rx
      obtain ⟨t', rfl⟩ := ry
      refine SB.mul (mulOk_of 1000 1000 l3 l2 l1 (by decide) (by decide)) fun t2 k => ?_
      rw [mul_text]
      exact ⟨.str _, H, I.tok _, ⟨_, rfl⟩, cont_val c E (.str _)⟩
    · cases e
  · split at e
    · rename_i hl
      cases e; cases seen_int hx; cases seen_int hy
      exact op_fdivW pins s σ' H _ _ v u Q I rx ry ⟨_, _, rfl, rfl, hl, cont_val c E (.int _)⟩
    · cases e
  · split at e
    · rename_i hl
      cases e; cases seen_int hx; cases seen_int hy
      exact op_mod pins s σ' H _ _ v u Q I rx ry ⟨_, _, rfl, rfl, hl, cont_val c E (.int _)⟩
    · cases e
  · split at e
    · rename_i hl
      cases e; cases seen_int hx; cases seen_int hy
      exact op_pow pins s σ' H _ _ v u Q I rx ry ⟨_, _, rfl, rfl, hl, cont_val c E (.int _)⟩
    · cases e
  · cases e
end
end PL
/-! PLOps2: comparisons, membership, items, slices, built-ins. -/
namespace PL
open PySem L2 PySem.Spec PyProof.Rows
/-! ### data as the library's data -/
mutual
theorem rp_dp {K : PySem.W.Frag} {F H : Hp} (e : Same F H) : ∀ {n : Nat} {v : V} {d : D}, Rp K F v d → d.cmpb n = true → Dp K H v d.toPy
  | _, _, _, .non, _ => .non
  | _, _, _, .bl b, _ => .bl b
  | _, _, _, .int i, _ => .int i
  | _, _, _, .str s, _ => .str s
  | n + 1, _, _, .tup h r, q => .tup (sqT_mono e h) (rps_dp e r (by simpa [D.cmpb] using q))
  | n + 1, _, _, .lst h r, q => .lst (SqL.of (e _ _ h)) (rps_dp e r (by simpa [D.cmpb] using q))
  | 0, _, _, .tup h r, q => by simp [D.cmpb] at q
  | 0, _, _, .lst h r, q => by simp [D.cmpb] at q
  | _, _, _, .ro h r, q => by simp [D.cmpb] at q
theorem rps_dp {K : PySem.W.Frag} {F H : Hp} (e : Same F H) : ∀ {n : Nat} {vs : List V} {ds : List D}, Rps K F vs ds → D.cmpbs n ds = true → DpAll K H vs (D.toPys ds)
  | _, _, _, .nil, _ => .nil
  | _, _, _, .cons h r, q => by
    simp only [D.cmpbs, Bool.and_eq_true] at q
    exact .cons (rp_dp e h q.1) (rps_dp e r q.2)
end
theorem seen_dp {K : PySem.W.Frag} {F H : Hp} (e : Same F H) {n : Nat} {v : V} {d : D} (h : Seen K F H v d) (q : d.cmpb n = true) : Dp K H v d.toPy := by
  rcases h with h | ⟨a, xs, ds, rfl, rfl, e2, r⟩
  · exact rp_dp e h q
  · cases n with
    | zero => simp [D.cmpb] at q
    | succ n => exact .lst (SqL.of e2) (rps_dp e r (by simpa [D.cmpb] using q))
mutual
theorem cmpb_lay : ∀ {n : Nat} {d : D}, d.cmpb n = true → d.toPy.canLay0 = true ∧ d.toPy.depth ≤ n
  | _, .non, _ => by simp [D.toPy, PyData.canLay0, PyData.depth]
  | _, .bl _, _ => by simp [D.toPy, PyData.canLay0, PyData.depth]
  | _, .int _, _ => by simp [D.toPy, PyData.canLay0, PyData.depth]
  | n, .str s, q => by
    have q' : s.cps.all (· < 0x110000) = true := by
      cases n <;> simpa only [D.cmpb] using q
    refine ⟨?_, by simp [D.toPy, PyData.depth]⟩
    simp only [D.toPy, PyData.canLay0]
    exact q'
  | n + 1, .tup l, q => by
    have h := cmpbs_lay (n := n) (ds := l) (by simpa [D.cmpb] using q)
    simp only [D.toPy, PyData.canLay0, PyData.depth]
    exact ⟨h.1, by omega⟩
  | n + 1, .lst l, q => by
    have h := cmpbs_lay (n := n) (ds := l) (by simpa [D.cmpb] using q)
    simp only [D.toPy, PyData.canLay0, PyData.depth]
    exact ⟨h.1, by omega⟩
  | 0, .tup l, q => by simp [D.cmpb] at q
  | 0, .lst l, q => by simp [D.cmpb] at q
  | _, .ro _, q => by simp [D.cmpb] at q
  | _, .dct _, q => by simp [D.cmpb] at q
theorem cmpbs_lay : ∀ {n : Nat} {ds : List D}, D.cmpbs n ds = true → PyData.canLayAll0 (D.toPys ds) = true ∧ PyData.depthAll (D.toPys ds) ≤ n
  | _, [], _ => by simp [D.toPys, PyData.canLayAll0, PyData.depthAll]
  | n, d :: ds, q => by
    simp only [D.cmpbs, Bool.and_eq_true] at q
    have h1 := cmpb_lay (n := n) (d := d) q.1
    have h2 := cmpbs_lay (n := n) (ds := ds) q.2
    simp only [D.toPys, PyData.canLayAll0, PyData.depthAll]
    exact ⟨by rw [h1.1, h2.1]; rfl, by omega⟩
end
theorem cmpb_shaped {d : D} (q : d.cmpb 60 = true) : SeqAt.shaped d.toPy = true := by
  have h := cmpb_lay q
  show (d.toPy.canLay0 && decide (d.toPy.depth ≤ 64)) = true
  rw [Bool.and_eq_true]
  exact ⟨h.1, decide_eq_true (by omega)⟩
theorem cmpbs_shaped {ds : List D} (q : D.cmpbs 60 ds = true) : SeqAt.shaped (.list (D.toPys ds)) = true := by
  have h := cmpbs_lay q
  show (PyData.canLay0 (.list (D.toPys ds)) && decide (PyData.depth (.list (D.toPys ds)) ≤ 64)) = true
  simp only [PyData.canLay0, PyData.depth]
  rw [Bool.and_eq_true]
  exact ⟨h.1, decide_eq_true (by omega)⟩
mutual
theorem eqv_py : ∀ {n m : Nat} {a b : D}, a.cmpb n = true → b.cmpb m = true → PyData.eqv a.toPy b.toPy = a.eqv b
  | n + 1, m + 1, .tup xs, .tup ys, p, q => by
    simp only [D.toPy, PyData.eqv, D.eqv]
    exact eqvs_py (n := n) (m := m) (by simpa [D.cmpb] using p) (by simpa [D.cmpb] using q)
  | n + 1, m + 1, .lst xs, .lst ys, p, q => by
    simp only [D.toPy, PyData.eqv, D.eqv]
    exact eqvs_py (n := n) (m := m) (by simpa [D.cmpb] using p) (by simpa [D.cmpb] using q)
  | 0, _, .tup xs, _, p, q => by simp [D.cmpb] at p
  | 0, _, .lst xs, _, p, q => by simp [D.cmpb] at p
  | _, 0, _, .tup xs, p, q => by simp [D.cmpb] at q
  | _, 0, _, .lst xs, p, q => by simp [D.cmpb] at q
  | _, _, .ro _, _, p, q => by simp [D.cmpb] at p
  | _, _, .dct _, _, p, q => by simp [D.cmpb] at p
  | _, _, _, .ro _, p, q => by simp [D.cmpb] at q
  | _, _, _, .dct _, p, q => by simp [D.cmpb] at q
  | _, _, .non, .non, _, _ => by simp [D.toPy, PyData.eqv, D.eqv]
  | _, _, .non, .bl _, _, _ => by simp [D.toPy, PyData.eqv, D.eqv]
  | _, _, .non, .int _, _, _ => by simp [D.toPy, PyData.eqv, D.eqv]
  | _, _, .non, .str _, _, _ => by simp [D.toPy, PyData.eqv, D.eqv]
  | _, _, .non, .tup _, _, _ => by simp [D.toPy, PyData.eqv, D.eqv]
  | _, _, .non, .lst _, _, _ => by simp [D.toPy, PyData.eqv, D.eqv]
  | _, _, .bl _, .non, _, _ => by simp [D.toPy, PyData.eqv, D.eqv]
  | _, _, .bl _, .bl _, _, _ => by simp [D.toPy, PyData.eqv, D.eqv]
  | _, _, .bl _, .int _, _, _ => by simp [D.toPy, PyData.eqv, D.eqv]
  | _, _, .bl _, .str _, _, _ => by simp [D.toPy, PyData.eqv, D.eqv]
  | _, _, .bl _, .tup _, _, _ => by simp [D.toPy, PyData.eqv, D.eqv]
  | _, _, .bl _, .lst _, _, _ => by simp [D.toPy, PyData.eqv, D.eqv]
  | _, _, .int _, .non, _, _ => by simp [D.toPy, PyData.eqv, D.eqv]
  | _, _, .int _, .bl _, _, _ => by simp [D.toPy, PyData.eqv, D.eqv]
  | _, _, .int _, .int _, _, _ => by simp [D.toPy, PyData.eqv, D.eqv]
  | _, _, .int _, .str _, _, _ => by simp [D.toPy, PyData.eqv, D.eqv]
  | _, _, .int _, .tup _, _, _ => by simp [D.toPy, PyData.eqv, D.eqv]
  | _, _, .int _, .lst _, _, _ => by simp [D.toPy, PyData.eqv, D.eqv]
  | _, _, .str _, .non, _, _ => by simp [D.toPy, PyData.eqv, D.eqv]
  | _, _, .str _, .bl _, _, _ => by simp [D.toPy, PyData.eqv, D.eqv]
  | _, _, .str _, .int _, _, _ => by simp [D.toPy, PyData.eqv, D.eqv]
  | _, _, .str _, .str _, _, _ => by simp [D.toPy, PyData.eqv, D.eqv]
  | _, _, .str _, .tup _, _, _ => by simp [D.toPy, PyData.eqv, D.eqv]
  | _, _, .str _, .lst _, _, _ => by simp [D.toPy, PyData.eqv, D.eqv]
  | _, _, .tup _, .non, _, _ => by simp [D.toPy, PyData.eqv, D.eqv]
  | _, _, .tup _, .bl _, _, _ => by simp [D.toPy, PyData.eqv, D.eqv]
  | _, _, .tup _, .int _, _, _ => by simp [D.toPy, PyData.eqv, D.eqv]
  | _, _, .tup _, .str _, _, _ => by simp [D.toPy, PyData.eqv, D.eqv]
  | _, _, .tup _, .lst _, _, _ => by simp [D.toPy, PyData.eqv, D.eqv]
  | _, _, .lst _, .non, _, _ => by simp [D.toPy, PyData.eqv, D.eqv]
  | _, _, .lst _, .bl _, _, _ => by simp [D.toPy, PyData.eqv, D.eqv]
  | _, _, .lst _, .int _, _, _ => by simp [D.toPy, PyData.eqv, D.eqv]
  | _, _, .lst _, .str _, _, _ => by simp [D.toPy, PyData.eqv, D.eqv]
  | _, _, .lst _, .tup _, _, _ => by simp [D.toPy, PyData.eqv, D.eqv]
theorem eqvs_py : ∀ {n m : Nat} {a b : List D}, D.cmpbs n a = true → D.cmpbs m b = true → PyData.eqvAll (D.toPys a) (D.toPys b) = D.eqvs a b
  | _, _, [], [], _, _ => by simp [D.toPys, PyData.eqvAll, D.eqvs]
  | _, _, [], _ :: _, _, _ => by simp [D.toPys, PyData.eqvAll, D.eqvs]
  | _, _, _ :: _, [], _, _ => by simp [D.toPys, PyData.eqvAll, D.eqvs]
  | n, m, x :: xs, y :: ys, p, q => by
    simp only [D.cmpbs, Bool.and_eq_true] at p q
    simp only [D.toPys, PyData.eqvAll, D.eqvs]
    rw [eqv_py p.1 q.1, eqvs_py p.2 q.2]
end
theorem any_py {n m : Nat} {a : D} (p : a.cmpb n = true) : ∀ {l : List D}, D.cmpbs m l = true → ((D.toPys l).any fun z => PyData.eqv z a.toPy) = l.any fun z => z.eqv a
  | [], _ => by simp [D.toPys]
  | x :: xs, q => by
    simp only [D.cmpbs, Bool.and_eq_true] at q
    simp only [D.toPys, List.any_cons]
    rw [eqv_py q.1 p, any_py p q.2]
theorem scal_flat {K : PySem.W.Frag} {F : Hp} {v : V} {d : D} (r : Rp K F v d) (h : isScal d = true) : flatV v = true := by
  cases r <;> simp_all [isScal, flatV]
theorem scal_flats {K : PySem.W.Frag} {F : Hp} : ∀ {vs : List V} {ds : List D}, Rps K F vs ds → ds.all isScal = true → vs.all flatV = true
  | _, _, .nil, _ => rfl
  | _, _, .cons r t, h => by
    simp only [List.all_cons, Bool.and_eq_true] at h ⊢
    exact ⟨scal_flat r h.1, scal_flats t h.2⟩
theorem scal_eqV {K : PySem.W.Frag} {F : Hp} {v w : V} {d e : D} (r : Rp K F v d) (t : Rp K F w e) (h : isScal d = true) (g : isScal e = true) : eqV v w = d.eqv e := by
  cases r <;> cases t <;> simp_all [isScal, eqV, D.eqv]
theorem scal_inV {K : PySem.W.Frag} {F : Hp} {v : V} {d : D} (r : Rp K F v d) (h : isScal d = true) : ∀ {vs : List V} {ds : List D}, Rps K F vs ds → ds.all isScal = true → inV v vs = ds.any fun z => z.eqv d
  | _, _, .nil, _ => rfl
  | _, _, .cons t ts, g => by
    simp only [List.all_cons, Bool.and_eq_true] at g
    have ih := scal_inV r h ts g.2
    unfold inV at ih ⊢
    simp only [List.any_cons]
    rw [scal_eqV t r g.1 h, ih]
section
variable {X : Cx} {Z : Fx}
theorem op_cmpD (hK : X.K = Z.K) (hu : X.A.units + 65 < cLine) (o : Cop) : OpR X (compareOp (opC o)) (K2 Z (cmpM o)) := by
  obtain ⟨K, mg, pa, G, W⟩ := Z
  cases hK
  intro pins s σ' H x y v u Q I rx ry ⟨σ, F, ρ, dx, dy, E, hx, hy, c⟩
  replace c := cont_opt c
  obtain ⟨r, e, c⟩ := c
  obtain ⟨b, e, rfl⟩ := Option.map_eq_some_iff.mp e
  have q := cont_val c E (.bl b)
  unfold cmpv at e
  split at e
  · cases e; cases seen_str hx; cases seen_str hy
    exact op_eq pins s σ' H _ _ v u Q I rx ry ⟨rfl, by rw [dec_str]; exact q⟩
  · cases e; cases seen_str hx; cases seen_str hy
    exact op_ne pins s σ' H _ _ v u Q I rx ry ⟨rfl, by rw [dec_str]; exact q⟩
  · split at e
    · rename_i hl
      rw [Bool.and_eq_true] at hl
      cases e
      exact op_eqD (by omega) pins s σ' H _ _ v u Q I rx ry ⟨_, _, seen_dp E.fh hx hl.1, seen_dp E.fh hy hl.2, cmpb_shaped hl.1, cmpb_shaped hl.2, by rw [eqv_py hl.1 hl.2]; exact q⟩
    · cases e
  · split at e
    · rename_i hl
      rw [Bool.and_eq_true] at hl
      cases e
      exact op_neD (by omega) pins s σ' H _ _ v u Q I rx ry ⟨_, _, seen_dp E.fh hx hl.1, seen_dp E.fh hy hl.2, cmpb_shaped hl.1, cmpb_shaped hl.2, by rw [eqv_py hl.1 hl.2]; exact q⟩
    · cases e
  · cases e; cases seen_int hx; cases seen_int hy
    exact op_lt pins s σ' H _ _ v u Q I rx ry ⟨_, _, rfl, rfl, q⟩
  · cases e; cases seen_int hx; cases seen_int hy
    exact op_le pins s σ' H _ _ v u Q I rx ry ⟨_, _, rfl, rfl, q⟩
  · cases e; cases seen_int hx; cases seen_int hy
    exact op_gt pins s σ' H _ _ v u Q I rx ry ⟨_, _, rfl, rfl, q⟩
  · cases e; cases seen_int hx; cases seen_int hy
    exact op_ge pins s σ' H _ _ v u Q I rx ry ⟨_, _, rfl, rfl, q⟩
  · cases e
theorem op_memD (hK : X.K = Z.K) (hu : X.A.units + 65 < cLine) (n : Bool) : OpR X (compareOp (if n then .NotIn else .In)) (K2 Z fun x d => M.opt ((memv x d).map fun b => sh (.bl (b != n)))) := by
  obtain ⟨K, mg, pa, G, W⟩ := Z
  cases hK
  intro pins s σ' H x y v u Q I rx ry ⟨σ, F, ρ, dx, dy, E, hx, hy, c⟩
  replace c := cont_opt c
  obtain ⟨r, e, c⟩ := c
  obtain ⟨b, e1, e2⟩ := Option.map_eq_some_iff.mp e
  subst e2
  clear e
  have q := cont_val c E (.bl _)
  unfold memv at e1
  split at e1
  · split at e1
    · rename_i l hl
      obtain rfl := Option.some.inj e1
      rw [Bool.or_eq_true, Bool.and_eq_true, Bool.and_eq_true] at hl
      rcases hl with ⟨h1, h2⟩ | ⟨h1, h2⟩
      · obtain ⟨a, xs, rfl, sx, r1⟩ := seen_lst E.fh hy
        have rx' := seen_scal h1 hx
        have e2 := scal_inV rx' h1 r1 h2
        cases n with
        | false => exact op_in_seq pins s σ' H _ _ v u Q I rx ry ⟨a, xs, rfl, .inl (SqL.of sx), scal_flat rx' h1, scal_flats r1 h2, by rw [e2]; simpa using q⟩
        | true => exact op_notIn_seq pins s σ' H _ _ v u Q I rx ry ⟨a, xs, rfl, .inl (SqL.of sx), scal_flat rx' h1, scal_flats r1 h2, by rw [e2]; simpa using q⟩
      · have hd : Dp X.K H y (.list (D.toPys l)) := by
          obtain ⟨a, xs, rfl, sx, r1⟩ := seen_lst E.fh hy
          exact .lst (SqL.of sx) (rps_dp E.fh r1 h2)
        have e2 := any_py (a := dx) h1 h2
        cases n with
        | false => exact op_inD hu pins s σ' H _ _ v u Q I rx ry ⟨_, _, seen_dp E.fh hx h1, hd, cmpb_shaped h1, cmpbs_shaped h2, by rw [e2]; simpa using q⟩
        | true => exact op_notInD hu pins s σ' H _ _ v u Q I rx ry ⟨_, _, seen_dp E.fh hx h1, hd, cmpb_shaped h1, cmpbs_shaped h2, by rw [e2]; simpa using q⟩
    · cases e1
  · split at e1
    · rename_i l hl
      obtain rfl := Option.some.inj e1
      rw [Bool.and_eq_true] at hl
      obtain ⟨h1, h2⟩ := hl
      obtain ⟨a, xs, rfl, sx, r1⟩ := seen_tup E.fh hy
      have rx' := seen_scal h1 hx
      have e2 := scal_inV rx' h1 r1 h2
      cases n with
      | false => exact op_in_seq pins s σ' H _ _ v u Q I rx ry ⟨a, xs, rfl, .inr sx, scal_flat rx' h1, scal_flats r1 h2, by rw [e2]; simpa using q⟩
      | true => exact op_notIn_seq pins s σ' H _ _ v u Q I rx ry ⟨a, xs, rfl, .inr sx, scal_flat rx' h1, scal_flats r1 h2, by rw [e2]; simpa using q⟩
    · cases e1
  · cases e1
end
end PL
/-! PLOps3: items, slices, built-ins of one and two arguments, isinstance, methods. -/
namespace PL
open PySem L2 PySem.Spec PyProof.Rows
theorem cl_eq (n d : Nat) (o : Option Int) : HT.sIx n d o = cl n d o := by
  cases o with
  | none => rfl
  | some v =>
    show (if v < 0 then (v + (n : Int)).toNat else min v.toNat n) = (if v < 0 then max (v + (n : Int)) 0 else min v (n : Int)).toNat
    split <;> omega
theorem cut_rps {K : PySem.W.Frag} {F : Hp} {xs : List V} {ds : List D} (r : Rps K F xs ds) (lo hi : Option Int) : Rps K F (cutV xs lo hi) (cut ds lo hi) := by
  unfold cutV cut
  rw [cl_eq, cl_eq, r.length]
  exact (r.drop _).take _
theorem at_rps {K : PySem.W.Frag} {F : Hp} {xs : List V} {ds : List D} (r : Rps K F xs ds) {i : Int} {d : D} (h : at? ds i = some d) : ∃ v, atI xs i = some v ∧ Rp K F v d := by
  unfold at? ixOf at h
  have hl := r.length
  by_cases h0 : 0 ≤ i
  · rw [if_pos h0] at h
    by_cases h1 : i < (ds.length : Int)
    · rw [if_pos h1] at h
      obtain ⟨v, h2, h3⟩ := r.get (i := i.toNat) (d := d) h
      have e : i = ((i.toNat : Nat) : Int) := by omega
      exact ⟨v, by rw [e]; exact atI_nat h2, h3⟩
    · rw [if_neg h1] at h; cases h
  · rw [if_neg h0] at h
    by_cases h1 : -(ds.length : Int) ≤ i
    · rw [if_pos h1] at h
      obtain ⟨v, h2, h3⟩ := r.get (i := (i + ds.length).toNat) (d := d) h
      refine ⟨v, ?_, h3⟩
      unfold atI
      have e : ixN xs.length i = some (i + ds.length).toNat := by
        unfold ixN
        rw [hl]
        first
          | rw [if_neg (by omega), if_pos (by omega)]
          | (split <;> first | omega | (congr 1) | (split <;> first | omega | congr 1))
      rw [e]
      exact h2
    · rw [if_neg h1] at h; cases h
theorem at_str {l : List Nat} {i : Int} {c : Nat} (h : at? l i = some c) : atI l i = some c := by
  unfold at? ixOf at h
  by_cases h0 : 0 ≤ i
  · rw [if_pos h0] at h
    by_cases h1 : i < (l.length : Int)
    · rw [if_pos h1] at h
      have e : i = ((i.toNat : Nat) : Int) := by omega
      rw [e]; exact atI_nat h
    · rw [if_neg h1] at h; cases h
  · rw [if_neg h0] at h
    by_cases h1 : -(l.length : Int) ≤ i
    · rw [if_pos h1] at h
      unfold atI
      have e : ixN l.length i = some (i + l.length).toNat := by
        unfold ixN
        first
          | rw [if_neg (by omega), if_pos (by omega)]
          | (split <;> first | omega | (congr 1) | (split <;> first | omega | congr 1))
      rw [e]
      exact h
    · rw [if_neg h1] at h; cases h
section
variable {X : Cx} {Z : Fx}
theorem ix_D (hK : X.K = Z.K) : IxR X (K2 Z fun d k => M.opt ((itemv d k).map sh)) := by
  obtain ⟨K, mg, pa, G, W⟩ := Z
  cases hK
  intro value slice pins s σ' H x y v u Q I rx ry ⟨σ, F, ρ, dx, dy, E, hx, hy, c⟩ hs
  replace c := cont_opt c
  obtain ⟨r, e, c⟩ := c
  obtain ⟨d, e1, e2⟩ := Option.map_eq_some_iff.mp e
  subst e2
  clear e
  unfold itemv at e1
  split at e1
  · obtain ⟨a, xs, rfl, sx, r1⟩ := seen_tup E.fh hx
    cases seen_int hy
    obtain ⟨z, h1, h2⟩ := at_rps r1 e1
    exact ix_tup value slice pins s σ' H _ _ v u Q I rx ry ⟨a, xs, _, z, rfl, rfl, sx, h1, cont_val c E h2⟩ hs
  · obtain ⟨a, xs, rfl, sx, r1⟩ := seen_lst E.fh hx
    cases seen_int hy
    obtain ⟨z, h1, h2⟩ := at_rps r1 e1
    exact ix_list value slice pins s σ' H _ _ v u Q I rx ry ⟨a, xs, _, z, rfl, rfl, SqL.of sx, h1, cont_val c E h2⟩ hs
  · obtain ⟨a, xs, rfl, sx, r1⟩ := seen_ro E.fh hx
    cases seen_int hy
    obtain ⟨z, h1, h2⟩ := at_rps r1 e1
    exact ix_list value slice pins s σ' H _ _ v u Q I rx ry ⟨a, xs, _, z, rfl, rfl, sx, h1, cont_val c E h2⟩ hs
  · split at e1
    · rename_i hl
      obtain ⟨z, e2, e3⟩ := Option.map_eq_some_iff.mp e1
      subst e3
      cases seen_str hx
      cases seen_int hy
      exact ix_str value slice pins s σ' H _ _ v u Q I rx ry ⟨_, _, z, rfl, rfl, by rw [← szL_eq]; exact hl, at_str e2, cont_val c E (.str _)⟩ hs
    · cases e1
  · cases e1
/-- behind a slice's parts -/
def KS (Z : Fx) : V → Option Int → Option Int → Hp → VK → Prop := fun x lo hi H Q => ∃ σ F ρ d, EnvOk Z.K Z.pa F Z.G H σ ρ ∧ Seen Z.K F H x d ∧ Cont Z (lV Z) σ F (M.opt (cutv d lo hi) ρ) Q
theorem sl_D (hK : X.K = Z.K) : SlR X (KS Z) := by
  obtain ⟨K, mg, pa, G, W⟩ := Z
  cases hK
  intro pins s σ' H x v vl vu lo hi sl Q I rx hs pl pu ⟨σ, F, ρ, d, E, hx, c⟩
  replace c := cont_opt c
  obtain ⟨r, e, c⟩ := c
  unfold cutv at e
  split at e
  · obtain rfl := Option.some.inj e
    have hx0 := hx
    obtain ⟨a, xs, rfl, sx, r1⟩ := seen_tup E.fh hx
    refine sl_tupA pins s σ' H _ v vl vu lo hi sl Q I rx hs pl pu ⟨a, xs, rfl, sx, fun hw => ?_, fun _ => cont_tup c E (cut_rps r1 lo hi)⟩
    rw [cl_eq, cl_eq, r1.length] at hw
    have e2 : ∀ ds : List D, ds.length = xs.length → cl ds.length 0 lo = 0 ∧ cl ds.length ds.length hi = ds.length → cut ds lo hi = ds := fun ds _ h => by
      unfold cut
      rw [h.1, h.2, List.drop_zero, Nat.sub_zero, List.take_length]
    rw [e2 _ r1.length.symm hw] at c
    rcases hx0 with hx0 | ⟨_, _, _, _, e, _⟩
    · exact cont_val c E hx0
    · cases e
  · obtain rfl := Option.some.inj e
    obtain ⟨a, xs, rfl, sx, r1⟩ := seen_lst E.fh hx
    exact sl_list pins s σ' H _ v vl vu lo hi sl Q I rx hs pl pu ⟨a, xs, rfl, SqL.of sx, cont_lst c E (cut_rps r1 lo hi)⟩
  · split at e
    · rename_i hl
      obtain rfl := Option.some.inj e
      cases seen_str hx
      refine sl_str pins s σ' H _ v vl vu lo hi sl Q I rx hs pl pu ⟨_, rfl, by rw [← szL_eq]; exact hl, ?_⟩
      unfold cutS
      rw [cl_eq, cl_eq]
      exact cont_val c E (.str _)
    · cases e
  · cases e
/-! ### built-ins -/
def nmB1 : B1 → Str
  | .len => "len"
  | .list => "list"
  | .tuple => "tuple"
  | .int => "int"
  | .str => "str"
  | .sum => "sum"
  | .all => "all"
  | .any => "any"
  | .abs => "abs"
def vaB1 : B1 → Value
  | .len => .builtin "len"
  | .list => .type "list"
  | .tuple => .type "tuple"
  | .int => .type "int"
  | .str => .type "str"
  | .sum => .builtin "sum"
  | .all => .builtin "all"
  | .any => .builtin "any"
  | .abs => .builtin "abs"
theorem boot_B1 (b : B1) : bootBuiltins (nmB1 b) = some (vaB1 b) := by cases b <;> decide +kernel
theorem vals_one {x : V} {us : List Value} (r : Vals [x] us) : Vals [x] us := r
theorem call_b1 (hK : X.K = Z.K) (hc : X.calm = true) (b : B1) : CallR X (vaB1 b) (KC Z fun d => M.opt (b1 b d)) := by
  obtain ⟨K, mg, pa, G, W⟩ := Z
  cases hK
  intro pins s σ' H vs us Q I rv ⟨x, e0, σ, F, ρ, d, E, hx, c⟩
  subst e0
  replace c := cont_opt c
  obtain ⟨r, e, c⟩ := c
  unfold b1 at e
  split at e
  · obtain ⟨n, e1, e2⟩ := Option.map_eq_some_iff.mp e
    subst e2
    clear e
    have q := cont_val c E (.int n)
    unfold lenv at e1
    split at e1
    · cases e1
      obtain ⟨a, xs, rfl, sx, r1⟩ := seen_tup E.fh hx
      exact call_len_seq pins s σ' H _ us Q I rv ⟨a, xs, rfl, .inr sx, by rw [r1.length]; exact q⟩
    · cases e1
      obtain ⟨a, xs, rfl, sx, r1⟩ := seen_lst E.fh hx
      exact call_len_seq pins s σ' H _ us Q I rv ⟨a, xs, rfl, .inl (SqL.of sx), by rw [r1.length]; exact q⟩
    · cases e1
      obtain ⟨a, xs, rfl, sx, r1⟩ := seen_ro E.fh hx
      exact call_len_seq pins s σ' H _ us Q I rv ⟨a, xs, rfl, .inl sx, by rw [r1.length]; exact q⟩
    · split at e1
      · rename_i hl
        cases e1
        cases seen_str hx
        exact call_len_str pins s σ' H _ us Q I rv ⟨_, rfl, by rw [← szL_eq]; exact hl, q⟩
      · cases e1
    · cases e1
  · cases e
    obtain ⟨a, xs, rfl, sx, r1⟩ := seen_lst E.fh hx
    exact call_list_of pins s σ' H _ us Q I rv ⟨a, xs, rfl, .inl (SqL.of sx), cont_lst c E r1⟩
  · cases e
    obtain ⟨a, xs, rfl, sx, r1⟩ := seen_tup E.fh hx
    exact call_list_of pins s σ' H _ us Q I rv ⟨a, xs, rfl, .inr sx, cont_lst c E r1⟩
  · cases e
    obtain ⟨a, xs, rfl, sx, r1⟩ := seen_lst E.fh hx
    exact call_tuple_of pins s σ' H _ us Q I rv ⟨a, xs, rfl, .inl ⟨SqL.of sx, cont_tup c E r1⟩⟩
  · cases e
    have hx0 := hx
    obtain ⟨a, xs, rfl, sx, r1⟩ := seen_tup E.fh hx
    rcases hx0 with hx0 | ⟨_, _, _, _, e, _⟩
    · exact call_tuple_of pins s σ' H _ us Q I rv ⟨a, xs, rfl, .inr ⟨sx, cont_val c E hx0⟩⟩
    · cases e
  · cases e
    cases seen_int hx
    exact call_int1 pins s σ' H _ us Q I rv (.inl ⟨_, rfl, cont_val c E (.int _)⟩)
  · cases e
    cases seen_bl hx
    exact call_int1 pins s σ' H _ us Q I rv (.inr ⟨_, rfl, cont_val c E (.int _)⟩)
  · split at e
    · rename_i hl
      cases e
      cases seen_int hx
      exact call_str_int pins s σ' H _ us Q I rv ⟨_, rfl, hl, cont_val c E (.str _)⟩
    · cases e
  · obtain ⟨ns, e1, e2⟩ := Option.map_eq_some_iff.mp e
    subst e2
    obtain ⟨a, xs, rfl, sx, r1⟩ := seen_lst E.fh hx
    obtain rfl := r1.ints e1
    exact cr_sum hc pins s σ' H _ us Q I rv ⟨a, ns, rfl, SqL.of sx, cont_val c E (.int _)⟩
  · obtain ⟨ns, e1, e2⟩ := Option.map_eq_some_iff.mp e
    subst e2
    obtain ⟨a, xs, rfl, sx, r1⟩ := seen_lst E.fh hx
    obtain rfl := r1.bls e1
    exact cr_all hc pins s σ' H _ us Q I rv ⟨a, ns, rfl, SqL.of sx, cont_val c E (.bl _)⟩
  · obtain ⟨ns, e1, e2⟩ := Option.map_eq_some_iff.mp e
    subst e2
    obtain ⟨a, xs, rfl, sx, r1⟩ := seen_lst E.fh hx
    obtain rfl := r1.bls e1
    exact cr_any hc pins s σ' H _ us Q I rv ⟨a, ns, rfl, SqL.of sx, cont_val c E (.bl _)⟩
  · cases e
    cases seen_int hx
    exact call_abs pins s σ' H _ us Q I rv ⟨_, rfl, cont_val c E (.int _)⟩
  · cases e
def nmB2 : B2 → Str
  | .min => "min"
  | .max => "max"
def vaB2 : B2 → Value
  | .min => .builtin "min"
  | .max => .builtin "max"
theorem boot_B2 (b : B2) : bootBuiltins (nmB2 b) = some (vaB2 b) := by cases b <;> decide +kernel
theorem call_b2 (hK : X.K = Z.K) (hc : X.calm = true) (b : B2) : CallR X (vaB2 b) (KC2 Z fun d e => M.opt (b2 b d e)) := by
  obtain ⟨K, mg, pa, G, W⟩ := Z
  cases hK
  intro pins s σ' H vs us Q I rv ⟨x, y, e0, σ, F, ρ, dx, dy, E, hx, hy, c⟩
  subst e0
  replace c := cont_opt c
  obtain ⟨r, e, c⟩ := c
  unfold b2 at e
  split at e
  · cases e; cases seen_int hx; cases seen_int hy
    exact call_min2 hc pins s σ' H _ us Q I rv ⟨_, _, rfl, cont_val c E (.int _)⟩
  · cases e; cases seen_int hx; cases seen_int hy
    exact call_max2 hc pins s σ' H _ us Q I rv ⟨_, _, rfl, cont_val c E (.int _)⟩
  · cases e
/-! ### isinstance -/
def nmTy : Ty → String
  | .int => "int"
  | .bool => "bool"
  | .str => "str"
  | .tuple => "tuple"
  | .list => "list"
def tyD : D → String
  | .non => "NoneType"
  | .bl _ => "bool"
  | .int _ => "int"
  | .str _ => "str"
  | .tup _ => "tuple"
  | .lst _ => "list"
  | _ => "list"
theorem kit_D {t : Ty} {d : D} {b : Bool} (h : isTy t d = some b) : kitB (tyD d) (nmTy t) = some b := by
  cases t <;> cases d <;> simp [isTy] at h <;> subst h <;> simp only [tyD, nmTy] <;> decide +kernel
theorem seen_ty {K : PySem.W.Frag} {F H : Hp} (fh : Same F H) {v : V} {d : D} {t : Ty} {b : Bool} (h : Seen K F H v d) (q : isTy t d = some b) : TyX K H v (.type (tyD d)) := by
  cases d with
  | non => cases seen_non h; exact .base .non
  | bl b => cases seen_bl h; exact .base (.bl _)
  | int b => cases seen_int h; exact .base (.int _)
  | str b => cases seen_str h; exact .base (.str _)
  | tup l =>
    obtain ⟨a, xs, rfl, sx, _⟩ := seen_tup fh h
    rcases sx with (sx | ⟨o, sx⟩) | ⟨o, its, n, sx, hc, _⟩
    · exact .base (.tup sx)
    · exact .fTuple sx
    · exact .kTuple sx hc
  | lst l =>
    obtain ⟨a, xs, rfl, sx, _⟩ := seen_lst fh h
    exact .base (.lst sx)
  | ro l => cases t <;> simp [isTy] at q
  | dct l => cases t <;> simp [isTy] at q
  | fn x => cases t <;> simp [isTy] at q
theorem call_isiD (hK : X.K = Z.K) (t : Ty) : CallR X (.builtin "isinstance") (fun vs H Q => ∃ x, vs = [x, .ty (nmTy t)] ∧ K1 Z (fun d => M.opt ((isTy t d).map fun b => sh (.bl b))) x H Q) := by
  obtain ⟨K, mg, pa, G, W⟩ := Z
  cases hK
  intro pins s σ' H vs us Q I rv ⟨x, e0, σ, F, ρ, d, E, hx, c⟩
  subst e0
  replace c := cont_opt c
  obtain ⟨r, e, c⟩ := c
  obtain ⟨b, q, e2⟩ := Option.map_eq_some_iff.mp e
  subst e2
  exact call_isi pins s σ' H _ us Q I rv ⟨x, .ty (nmTy t), .type (tyD d), .type (nmTy t), b, rfl, .ty _, seen_ty E.fh hx q, kit_ty (kit_D q), cont_val c E (.bl _)⟩
end
end PL
/-! PLCons: construct by construct, from the parts' readings. -/
namespace PL
open PySem L2 PySem.Spec PyProof.Rows
/-! ### how a function's promise is told -/
/-- the parameters' slots behind a call -/
def outEnv : List Bool → List D → Env
  | true :: ms, d :: ds => some (.pin, d) :: outEnv ms ds
  | false :: ms, _ :: ds => none :: outEnv ms ds
  | _, _ => []
def spOf (K : PySem.W.Frag) (mg : Str → Option Value) (mask : List Bool) (F : Fn) : Sp := fun vs H Q E => ∃ pa Fz G ds, EnvOk K pa Fz G H (vs.map some) (init mask ds) ∧ vs.length = mask.length ∧ ds.length = mask.length ∧ match F ds with
  | .ok r outs => ∀ x F' H', Same Fz F' → EnvOk K pa F' G H' (vs.map some) (outEnv mask outs) → Res K F' G H' (vs.map some) (outEnv mask outs) x r → Q x H'
  | .err e outs => ∀ F' H' c x, Same Fz F' → EnvOk K pa F' G H' (vs.map some) (outEnv mask outs) → ExR K mg F' c x e → E c x H'
  | .bad => False
/-- the functions, constants, built-ins that are named; the error classes that are raised here; those that are told apart -/
structure Tab where
  fns : List (Str × List Bool)
  cons : List Str
  blt : List Str
  exc : List Str
  known : List Str
def veL : List Value := [.type "ValueError", .type "Exception", .type "BaseException", .type "object"]
/-- a class of errors without __init__ of its own -/
def ExcF (K : PySem.W.Frag) (mg : Str → Option Value) (x : Str) : Prop := ∃ C : Addr, mg x = some (.ref C) ∧ PySem.W.excIn K C veL "ValueError.__new__" = true ∧ PySem.W.keepIn K (.ref C) = true ∧ PySem.W.subIn K (.ref C) (.type "BaseException") = some true ∧ PySem.W.typeIn K (.ref C) = some (.type "type")
/-- two classes told apart -/
def ExmF (K : PySem.W.Frag) (mg : Str → Option Value) (x y : Str) : Prop := ∃ cx cy, mg x = some cx ∧ mg y = some cy ∧ PySem.W.exmOne K cx cy = some (decide (x = y))
structure Good (P : Program) (w : World) (K : PySem.W.Frag) (mg : Str → Option Value) (base : Heap) (lev : Nat) (T : Tab) (Γ : Gm) : Prop where
  fns : ∀ (j : Nat) (x : Str) (mask : List Bool), T.fns[j]? = some (x, mask) → ∃ (f : Addr) (fd : FuncData) (ps : List Str), mg x = some (.ref f) ∧ f = gaK K x ∧ PySem.W.keepIn K (.ref f) = true ∧ Binds K fd ps [] ∧ ps.length = mask.length ∧
    FnOk P w K mg base (L2.CX P w) lev f fd ps (spOf K mg mask (Γ.fn j))
  cons : ∀ (j : Nat) (x : Str), T.cons[j]? = some x → ∃ u v, mg x = some u ∧ RelV v u ∧ ∀ F, Rp K F v (Γ.con j)
  blt : ∀ x ∈ T.blt, mg x = none
  exc : ∀ x ∈ T.exc, ExcF K mg x
  exm : ∀ x ∈ T.known, ∀ y ∈ T.known, ExmF K mg x y
/-- a body's context and its reading's -/
structure Fit (X : Cx) (Z : Fx) (lev : Nat) (T : Tab) (Γ : Gm) : Prop where
  hK : X.K = Z.K
  hmg : X.mg = Z.mg
  calm : X.calm = true
  nd : X.N.Nodup
  room : Room lev X.A
  one : 1 ≤ lev
  kind : X.env.scope.kind = .function
  takes : Takes X Z.W
  good : Good X.prog X.w X.K X.mg X.base lev T Γ
theorem Fit.units {X : Cx} {Z : Fx} {lev : Nat} {T : Tab} {Γ : Gm} (h : Fit X Z lev T Γ) : X.A.units + 65 < cLine := by
  have := h.room.un
  omega
theorem pe_mono {X : Cx} {e : Expr} {t t' : TE} (h : PE X e t) (i : ∀ σ H Q, t' σ H Q → t σ H Q) : PE X e t' := ⟨fun pins s σ H Q I q => h.run pins s σ H Q I (i σ H Q q)⟩
theorem pt_mono {X : Cx} {e : Expr} {t t' : TT} (h : PT X e t) (i : ∀ σ H Q, t' σ H Q → t σ H Q) : PT X e t' := ⟨fun pins s σ H Q I q => h.run pins s σ H Q I (i σ H Q q)⟩
theorem pw_mono {X : Cx} {e : Expr} {t t' : TT} (h : PW X e t) (i : ∀ σ H Q, t' σ H Q → t σ H Q) : PW X e t' := ⟨fun wh pins s σ H Q I q => h.run wh pins s σ H Q I (i σ H Q q)⟩
theorem pa_mono {X : Cx} {e : List Expr} {t t' : TA} (h : PA X e t) (i : ∀ σ H Q, t' σ H Q → t σ H Q) : PA X e t' := ⟨fun p pins s σ H Q I q => h.run p pins s σ H Q I (i σ H Q q)⟩
section
variable {X : Cx} {Z : Fx} {Γ : Gm} {lev : Nat} {T : Tab} {pos : Pos}
/-! ### names -/
theorem rd_var {i : Nat} (σ : L2.St) (H : Hp) (Q : VK) (h : rdE Z (rdVar i) σ H Q) : tVar i σ H Q := by
  obtain ⟨F, ρ, E, c⟩ := h
  unfold rdVar at c
  split at c
  · rename_i d q
    obtain ⟨v, e, r⟩ := E.shr i d q
    exact ⟨v, e, cont_val c E r⟩
  · rename_i d q
    obtain ⟨a, e, h1, h2, h3⟩ := E.own i _ d q (by decide)
    refine ⟨.ref a, e, ?_⟩
    cases d with
    | lst ds =>
      obtain ⟨xs, e3, r⟩ := h3
      have s := upd_same_of (o := HO.lst xs) h1
      have hi : i < ρ.length := (List.getElem?_eq_some_iff.mp q).1
      refine c (.ref a) (upd F a (.lst xs)) H s ⟨fun b u z => ?_, E.gh, fun b u z => ?_, by rw [List.length_set]; exact E.len, fun j d z => ?_, fun j g d z ng => ?_, fun j d z => ?_, fun j k g g' d d' b ne z ng z' ng' => ?_⟩ (.lst upd_same (r.mono s))
      · by_cases hb : b = a
        · subst hb; rw [upd_same] at z; rw [← z]; exact e3
        · rw [upd_ne hb] at z; exact E.fh b u z
      · by_cases hb : b = a
        · subst hb; exact h2
        · rw [upd_ne hb] at z; exact E.fg b u z
      · by_cases hj : i = j
        · subst hj
          rw [List.getElem?_set_self hi] at z
          cases z
          exact ⟨.ref a, e, .lst upd_same (r.mono s)⟩
        · rw [List.getElem?_set_ne hj] at z
          obtain ⟨v, e4, r4⟩ := E.shr j d z
          exact ⟨v, e4, r4.mono s⟩
      · by_cases hj : i = j
        · subst hj
          rw [List.getElem?_set_self hi] at z
          cases z; exact absurd rfl ng
        · rw [List.getElem?_set_ne hj] at z
          obtain ⟨b, eb, k1, k2, k3⟩ := E.own j g d z ng
          have hb : b ≠ a := by
            rintro rfl
            exact E.dist i j _ g _ d b hj q (by decide) z ng e eb
          refine ⟨b, eb, by rw [upd_ne hb]; exact k1, k2, ?_⟩
          cases d with
          | lst ds2 => obtain ⟨ys, e4, r4⟩ := k3; exact ⟨ys, e4, r4.mono s⟩
          | _ => exact k3
      · by_cases hj : i = j
        · subst hj
          rw [List.getElem?_set_self hi] at z
          cases z
        · rw [List.getElem?_set_ne hj] at z
          exact E.pin j d z
      · by_cases hj : i = j
        · subst hj
          rw [List.getElem?_set_self hi] at z
          cases z; exact absurd rfl ng
        · by_cases hk : i = k
          · subst hk
            rw [List.getElem?_set_self hi] at z'
            cases z'; exact absurd rfl ng'
          · rw [List.getElem?_set_ne hj] at z
            rw [List.getElem?_set_ne hk] at z'
            exact E.dist j k g g' d d' b ne z ng z' ng'
    | _ => exact h3.elim
  · exact c.elim
theorem rd_mov {i : Nat} (σ : L2.St) (H : Hp) (Q : VK) (h : rdE Z (mvVar i) σ H Q) : tVar i σ H Q := by
  obtain ⟨F, ρ, E, c⟩ := h
  unfold mvVar at c
  split at c
  · rename_i d q
    obtain ⟨a, e, o⟩ := E.own i _ d q (by decide)
    have hi : i < ρ.length := (List.getElem?_eq_some_iff.mp q).1
    have old : ∀ {j : Nat} {x : Fg × D}, (ρ.set i none)[j]? = some (some x) → i ≠ j ∧ ρ[j]? = some (some x) := fun {j x} z => by
      by_cases hj : i = j
      · subst hj; rw [List.getElem?_set_self hi] at z; cases z
      · rw [List.getElem?_set_ne hj] at z; exact ⟨hj, z⟩
    refine ⟨.ref a, e, c (.ref a) F H (Same.refl F) ⟨E.fh, E.gh, E.fg, by rw [List.length_set]; exact E.len, fun j d z => E.shr j d (old z).2, fun j g d z ng => E.own j g d (old z).2 ng, fun j d z => E.pin j d (old z).2,
      fun j k g g' d d' b ne z ng z' ng' => E.dist j k g g' d d' b ne (old z).2 ng (old z').2 ng'⟩ ⟨a, rfl, o, fun j g d z ng => ?_⟩⟩
    exact E.dist i j _ g _ d a (old z).1 q (by decide) (old z).2 ng e
  · exact c.elim
theorem see_snd {i : Nat} {C β : Type} {rel : Lie C β} {σ : L2.St} {F H : Hp} {ρ : Env} {g : Ref → M β} {Q : C → Hp → Prop} (E : EnvOk Z.K Z.pa F Z.G H σ ρ) (c : Cont Z rel σ F ((see i >>= g) ρ) Q) :
    ∃ a, σ[i]? = some (some (V.ref a)) ∧ Cont Z rel σ F (g (.slot i) ρ) Q := by
  cases q : see i ρ with
  | ok r ρ' =>
    have q0 := q
    unfold see at q
    split at q
    · rename_i f d e
      split at q
      · cases q
      · rename_i nf
        cases q
        obtain ⟨a, h, _⟩ := E.own i f d e nf
        rw [bind_ok q0] at c
        exact ⟨a, h, c⟩
    · cases q
  | err e ρ' =>
    unfold see at q
    split at q <;> (try split at q) <;> cases q
  | bad =>
    rw [bind_bad q] at c
    exact c.elim
theorem see_pure (i : Nat) : (see i >>= fun r => (pure r : M Ref)) = see i := by
  funext ρ
  cases q : see i ρ with
  | ok r ρ' => rw [bind_ok q]; rfl
  | err e ρ' => rw [bind_err q]
  | bad => rw [bind_bad q]
/-- an operand -/
theorem opnd_snd {a : E} {ast : Expr} (hp : ∀ i, a.peek = some i → PE X ast (tVar i)) (he : a.peek = none → PE X ast (rdE Z (evE Γ a))) : PE X ast (rdR Z (opnd a (evE Γ a))) := by
  cases q : a.peek with
  | some i =>
    refine pe_mono (hp i q) fun σ H Q h => ?_
    obtain ⟨F, ρ, E, c⟩ := h
    unfold opnd at c
    rw [q] at c
    have c1 : Cont Z (lR Z) σ F ((see i >>= fun r => (pure r : M Ref)) ρ) Q := by rw [see_pure]; exact c
    obtain ⟨a, h, c2⟩ := see_snd E c1
    exact ⟨.ref a, h, c2.ok E h⟩
  | none =>
    refine pe_mono (he q) fun σ H Q h => ?_
    obtain ⟨F, ρ, E, c⟩ := h
    unfold opnd at c
    rw [q] at c
    refine (Cont.bind E c).imp fun v H1 ⟨r, F1, ρ1, s, E1, l, c1⟩ => ?_
    obtain ⟨F2, s2, E2, l2⟩ := E1.share l
    exact (c1.mono s2).ok E2 l2
end
end PL
/-! PLCons2: construct by construct, from the parts' readings. -/
namespace PL
open PySem L2 PySem.Spec PyProof.Rows
/-! ### forms of the text -/
def nst : PySem.Expr → Bool
  | .Starred .. => false
  | _ => true
theorem star_cons {e : PySem.Expr} {es : List PySem.Expr} {env : PySem.Env} (h : nst e = true) : starEach (e :: es) env = (false, eval e env) :: starEach es env := by
  cases e <;> first | rfl | cases h
theorem star_any {env : PySem.Env} {pos : Pos} : ∀ {es : List PySem.Expr}, es.all nst = true → (backTo pos (starEach es env)).any (·.1) = false
  | [], _ => rfl
  | e :: es, h => by
    rw [List.all_cons, Bool.and_eq_true] at h
    rw [star_cons h.1]
    show (false || (backTo pos (starEach es env)).any (·.1)) = false
    rw [star_any h.2]; rfl
def nslice : PySem.Expr → Bool
  | .Slice .. => false
  | _ => true
theorem plain_ix {e : PySem.Expr} (h : nslice e = true) : PlainIx e := by
  intro o i
  cases e <;> first | rfl | cases h
def nset : PySem.Expr → Bool
  | .Set .. => false
  | _ => true
theorem nmark {e : PySem.Expr} {op : CmpOp} (h : nset e = true) : behindInMarks op e = false := by
  cases e <;> first | rfl | cases h
theorem nfold {e : PySem.Expr} {env : PySem.Env} (h : nset e = true) : ∀ x, foldedSetIterable e env x = pure x := by
  intro x
  cases e <;> first | rfl | cases h
def ncall0 : PySem.Expr → Bool
  | .Call (.Name ..) [] [] _ => false
  | _ => true
theorem nbase {e : PySem.Expr} {f : Str} {env : PySem.Env} {t : Sem Value} (h : ncall0 e = true) : attributeBase e f env t = t := by
  unfold attributeBase
  split
  · cases h
  · rfl
section
variable {X : Cx} {Z : Fx} {Γ : Gm} {lev : Nat} {T : Tab} {pos p : Pos}
/-! ### two operands, one -/
theorem two_opnds {A B : M Ref} {f : D → D → M Vl} (σ : L2.St) (H : Hp) (Q : VK) (h : rdE Z (A >>= fun x => B >>= fun y => deref x >>= fun x => deref y >>= fun y => f x y) σ H Q) : tOp (K2 Z f) (rdR Z A) (rdR Z B) σ H Q := by
  obtain ⟨F, ρ, E, c⟩ := h
  refine (Cont.bind E c).imp fun x H1 ⟨ra, F1, ρ1, s1, E1, l1, c1⟩ => ?_
  refine (Cont.bind E1 c1).imp fun y H2 ⟨rb, F2, ρ2, s2, E2, l2, c2⟩ => ?_
  obtain ⟨da, sa, c3⟩ := deref_seen E2 (RefR.mono s2 l1) c2
  obtain ⟨db, sb, c4⟩ := deref_seen E2 l2 c3
  exact ⟨σ, F2, ρ2, da, db, E2, sa, sb, c4⟩
theorem one_opnd {A : M Ref} {f : D → M Vl} (σ : L2.St) (H : Hp) (Q : VK) (h : rdE Z (A >>= fun x => deref x >>= fun x => f x) σ H Q) : rdR Z A σ H fun x H1 => K1 Z f x H1 Q := by
  obtain ⟨F, ρ, E, c⟩ := h
  refine (Cont.bind E c).imp fun x H1 ⟨ra, F1, ρ1, s1, E1, l1, c1⟩ => ?_
  obtain ⟨da, sa, c3⟩ := deref_seen E1 l1 c1
  exact ⟨σ, F1, ρ1, da, E1, sa, c3⟩
/-- a value, looked at at once -/
theorem one_val {A : M Vl} {f : D → M Vl} (σ : L2.St) (H : Hp) (Q : VK) (h : rdE Z (A >>= fun v => f v.d) σ H Q) : rdE Z A σ H fun x H1 => K1 Z f x H1 Q := by
  obtain ⟨F, ρ, E, c⟩ := h
  refine (Cont.bind E c).imp fun x H1 ⟨ra, F1, ρ1, s1, E1, l1, c1⟩ => ?_
  obtain ⟨F2, s2, E2, l2⟩ := E1.share l1
  exact ⟨σ, F2, ρ1, ra.d, E2, .inl l2, c1.mono s2⟩
theorem two_vals {A B : M Vl} {f : D → D → M Vl} (σ : L2.St) (H : Hp) (Q : VK) (h : rdE Z (A >>= fun x => B >>= fun y => f x.d y.d) σ H Q) : tOp (K2 Z f) (rdE Z A) (rdE Z B) σ H Q := by
  obtain ⟨F, ρ, E, c⟩ := h
  refine (Cont.bind E c).imp fun x H1 ⟨ra, F1, ρ1, s1, E1, l1, c1⟩ => ?_
  obtain ⟨F2, s2, E2, l2⟩ := E1.share l1
  refine (Cont.bind E2 (c1.mono s2)).imp fun y H2 ⟨rb, F3, ρ3, s3, E3, l3, c3⟩ => ?_
  obtain ⟨F4, s4, E4, l4⟩ := E3.share l3
  exact ⟨σ, F4, ρ3, ra.d, rb.d, E4, .inl (l2.mono (s3.trans s4)), .inl l4, c3.mono s4⟩
/-- an operand, then a value -/
theorem opnd_val {A : M Ref} {B : M Vl} {f : D → D → M Vl} (σ : L2.St) (H : Hp) (Q : VK) (h : rdE Z (A >>= fun x => B >>= fun y => deref x >>= fun x => f x y.d) σ H Q) : tOp (K2 Z f) (rdR Z A) (rdE Z B) σ H Q := by
  obtain ⟨F, ρ, E, c⟩ := h
  refine (Cont.bind E c).imp fun x H1 ⟨ra, F1, ρ1, s1, E1, l1, c1⟩ => ?_
  refine (Cont.bind E1 c1).imp fun y H2 ⟨rb, F3, ρ3, s3, E3, l3, c3⟩ => ?_
  obtain ⟨F4, s4, E4, l4⟩ := E3.share l3
  obtain ⟨da, sa, c4⟩ := deref_seen E4 (RefR.mono (s3.trans s4) l1) (c3.mono s4)
  exact ⟨σ, F4, ρ3, da, rb.d, E4, sa, .inl l4, c4⟩
theorem val_opnd {A : M Vl} {B : M Ref} {f : D → D → M Vl} (σ : L2.St) (H : Hp) (Q : VK) (h : rdE Z (A >>= fun x => B >>= fun y => deref y >>= fun y => f x.d y) σ H Q) : tOp (K2 Z f) (rdE Z A) (rdR Z B) σ H Q := by
  obtain ⟨F, ρ, E, c⟩ := h
  refine (Cont.bind E c).imp fun x H1 ⟨ra, F1, ρ1, s1, E1, l1, c1⟩ => ?_
  obtain ⟨F2, s2, E2, l2⟩ := E1.share l1
  refine (Cont.bind E2 (c1.mono s2)).imp fun y H2 ⟨rb, F3, ρ3, s3, E3, l3, c3⟩ => ?_
  obtain ⟨db, sb, c4⟩ := deref_seen E3 l3 c3
  exact ⟨σ, F3, ρ3, ra.d, db, E3, .inl (l2.mono s3), sb, c4⟩
/-! ### lists of items -/
theorem snd_nil : PA X [] (Rd Z (lDs Z) (evL Γ [])) := pa_mono pa_nil fun σ H Q ⟨F, ρ, E, c⟩ => by
  rw [evL] at c
  exact c [] F H (Same.refl F) E .nil
theorem snd_cons {e : E} {es : List E} {a : PySem.Expr} {as : List PySem.Expr} (ha : PE X a (rdE Z (evE Γ e))) (hs : PA X as (Rd Z (lDs Z) (evL Γ es))) (hn : nst a = true) : PA X (a :: as) (Rd Z (lDs Z) (evL Γ (e :: es))) :=
  pa_mono (pa_cons ha hs (star_cons hn)) fun σ H Q ⟨F, ρ, E, c⟩ => by
    rw [evL] at c
    refine (Cont.bind E c).imp fun x H1 ⟨ra, F1, ρ1, s1, E1, l1, c1⟩ => ?_
    obtain ⟨F2, s2, E2, l2⟩ := E1.share l1
    refine (Cont.bind E2 (c1.mono s2)).imp fun xs H2 ⟨ds, F3, ρ3, s3, E3, l3, c3⟩ => ?_
    exact c3 _ F3 H2 (Same.refl F3) E3 (.cons (l2.mono s3) l3)
theorem snd_tup {es : List E} {as : List PySem.Expr} {k : Nat} (h : PA X as (Rd Z (lDs Z) (evL Γ es))) : PE X (.Tuple as k pos) (rdE Z (evE Γ (.tup es))) :=
  pe_mono (pe_tup h) fun σ H Q ⟨F, ρ, E, c⟩ => by
    rw [evE] at c
    refine (Cont.bind E c).imp fun xs H1 ⟨ds, F1, ρ1, s1, E1, l1, c1⟩ => ?_
    split at c1
    · rename_i hl
      exact ⟨by rw [← szL_eq, l1.length]; exact hl, cont_tup c1 E1 l1⟩
    · exact c1.elim
theorem snd_lst {es : List E} {as : List PySem.Expr} (h : PA X as (Rd Z (lDs Z) (evL Γ es))) : PE X (.List as pos) (rdE Z (evE Γ (.lst es))) :=
  pe_mono (pe_lst h) fun σ H Q ⟨F, ρ, E, c⟩ => by
    rw [evE] at c
    refine (Cont.bind E c).imp fun xs H1 ⟨ds, F1, ρ1, s1, E1, l1, c1⟩ => ?_
    split at c1
    · rename_i hl
      exact ⟨by rw [← szL_eq, l1.length]; exact hl, cont_lst c1 E1 l1⟩
    · exact c1.elim
/-! ### constants -/
theorem snd_const {v : V} {d : D} {m : M Vl} {ast : PySem.Expr} (hm : m = pure (sh d)) (r : ∀ F, Rp Z.K F v d) (h : PE X ast (tC v)) : PE X ast (rdE Z m) :=
  pe_mono h fun σ H Q ⟨F, ρ, E, c⟩ => by
    subst hm
    exact cont_val c E (r F)
/-! ### operators -/
theorem snd_bin {op : Bop} {a b : E} {x y : PySem.Expr} (hK : X.K = Z.K) (ha : PE X x (rdR Z (opnd a (evE Γ a)))) (hb : PE X y (rdR Z (opnd b (evE Γ b)))) : PE X (.BinOp x (opB op) y pos) (rdE Z (evE Γ (.bin op a b))) :=
  pe_mono (pe_op (op_bin hK op) ha hb) fun σ H Q h => by
    rw [evE] at h
    exact two_opnds σ H Q h
theorem snd_cmp {op : Cop} {a b : E} {x y : PySem.Expr} (ft : Fit X Z lev T Γ) (ha : PE X x (rdR Z (opnd a (evE Γ a)))) (hb : PE X y (rdR Z (opnd b (evE Γ b)))) : PE X (.Compare x [opC op] [y] pos) (rdE Z (evE Γ (.cmp op a b))) :=
  pe_mono (pe_cmpR (op_cmpD ft.hK ft.units op) ha hb (by cases op <;> exact nomark _)) fun σ H Q h => by
    rw [evE] at h
    exact two_opnds σ H Q h
theorem snd_mem {n : Bool} {a b : E} {x y : PySem.Expr} (ft : Fit X Z lev T Γ) (hn : nset y = true) (ha : PE X x (rdE Z (evE Γ a))) (hb : PE X y (rdR Z (opnd b (evE Γ b)))) : PE X (.Compare x [if n then .NotIn else .In] [y] pos) (rdE Z (evE Γ (.mem n a b))) :=
  pe_mono (pe_cmpR (op_memD ft.hK ft.units n) ha hb (nmark hn)) fun σ H Q h => by
    rw [evE] at h
    exact val_opnd (f := fun x d => M.opt ((memv x d).map fun b => sh (.bl (b != n)))) σ H Q h
theorem op_isND (hK : X.K = Z.K) (n : Bool) : OpR X (compareOp (if n then .IsNot else .Is)) (fun x y H Q => y = .non ∧ K1 Z (fun d => pure (sh (.bl (match d with
    | .non => !n
    | _ => n)))) x H Q) := by
  intro pins s σ' H x y v u Q I rx ry ⟨ey, σ, F, ρ, d, E, hx, c⟩
  have e : decide (x = .non) = (match d with
    | .non => true
    | _ => false) := by
    rcases hx with hx | ⟨a, xs, ds, rfl, rfl, _⟩
    · cases hx <;> simp
    · simp
  have q := cont_val c E (.bl _)
  cases n with
  | false =>
    refine op_isN pins s σ' H x y v u Q I rx ry ⟨ey, ?_⟩
    rw [e]
    cases d <;> exact q
  | true =>
    refine op_notN pins s σ' H x y v u Q I rx ry ⟨ey, ?_⟩
    rw [e]
    cases d <;> exact q
theorem snd_isN {n : Bool} {a : E} {x : PySem.Expr} {k : Nat} {p2 : Pos} (hK : X.K = Z.K) (ha : PE X x (rdR Z (opnd a (evE Γ a)))) : PE X (.Compare x [if n then .IsNot else .Is] [.Constant .none k p2] pos) (rdE Z (evE Γ (.isN n a))) :=
  pe_mono (pe_cmpR (op_isND hK n) ha pe_non rfl) fun σ H Q h => by
    rw [evE] at h
    refine (one_opnd (f := fun d => pure (sh (.bl (match d with
      | .non => !n
      | _ => n)))) σ H Q h).imp fun x H1 q => ?_
    exact ⟨rfl, q⟩
theorem op_isBD (n : Bool) : OpR X (compareOp (if n then .IsNot else .Is)) (K2 Z fun x y => asBl (sh x) >>= fun p => asBl (sh y) >>= fun q => pure (sh (.bl ((p == q) != n)))) := by
  intro pins s σ' H x y v u Q I rx ry ⟨σ, F, ρ, dx, dy, E, hx, hy, c⟩
  cases dx with
  | bl p =>
    cases dy with
    | bl q =>
      cases seen_bl hx
      cases seen_bl hy
      have z := cont_val c E (.bl _)
      cases n with
      | false =>
        refine op_isBl pins s σ' H _ _ v u Q I rx ry ⟨p, q, rfl, rfl, ?_⟩
        rw [show decide (p = q) = ((p == q) != false) by cases p <;> cases q <;> rfl]
        exact z
      | true =>
        refine op_notBl pins s σ' H _ _ v u Q I rx ry ⟨p, q, rfl, rfl, ?_⟩
        rw [show (!decide (p = q)) = ((p == q) != true) by cases p <;> cases q <;> rfl]
        exact z
    | _ => exact c.elim
  | _ => exact c.elim
theorem snd_isB {n : Bool} {a b : E} {x y : PySem.Expr} (hn : nset y = true) (ha : PE X x (rdE Z (evE Γ a))) (hb : PE X y (rdE Z (evE Γ b))) : PE X (.Compare x [if n then .IsNot else .Is] [y] pos) (rdE Z (evE Γ (.isB n a b))) :=
  pe_mono (pe_cmpR (op_isBD n) ha hb (nmark hn)) fun σ H Q h => by
    rw [evE] at h
    exact two_vals (f := fun x y => asBl (sh x) >>= fun p => asBl (sh y) >>= fun q => pure (sh (.bl ((p == q) != n)))) σ H Q h
theorem snd_neg {a : E} {x : PySem.Expr} (ha : PE X x (rdE Z (evE Γ a))) : PE X (.UnaryOp .USub x pos) (rdE Z (evE Γ (.neg a))) :=
  pe_mono (pe_un un_neg ha) fun σ H Q h => by
    rw [evE] at h
    refine (one_val (f := fun d => asInt d >>= fun i => pure (sh (.int (-i)))) σ H Q h).imp fun x H1 ⟨σ', F, ρ, d, E, hx, c⟩ => ?_
    cases d with
    | int i =>
      cases seen_int hx
      exact ⟨i, rfl, cont_val c E (.int _)⟩
    | _ => exact c.elim
/-! ### truth -/
theorem asBl_of {r : Vl} {v : V} {F G H : Hp} {σ : L2.St} {ρ : Env} {K : PySem.W.Frag} {b : Bool} (h : Res K F G H σ ρ v r) (e : r.d = .bl b) : v = .bl b := by
  obtain ⟨o, d⟩ := r
  cases e
  cases o with
  | false =>
    have h' : Rp K F v (.bl b) := h
    cases h'; rfl
  | true =>
    obtain ⟨a, _, ⟨_, _, z⟩, _⟩ := h
    exact z.elim
theorem rd_bl {m : M Vl} {C β : Type} {rel : Lie C β} {g : Bool → M β} {Q : C → Hp → Prop} {σ : L2.St} {F H : Hp} {ρ : Env} (E : EnvOk Z.K Z.pa F Z.G H σ ρ) (c : Cont Z rel σ F ((m >>= fun v => asBl v >>= g) ρ) Q) :
    rdE Z m σ H fun x H1 => ∃ b, x = .bl b ∧ ∃ F1 ρ1, Same F F1 ∧ EnvOk Z.K Z.pa F1 Z.G H1 σ ρ1 ∧ Cont Z rel σ F1 (g b ρ1) Q := by
  refine (Cont.bind E c).imp fun x H1 ⟨ra, F1, ρ1, s1, E1, l1, c1⟩ => ?_
  cases q : ra.d with
  | bl b =>
    refine ⟨b, asBl_of l1 q, F1, ρ1, s1, E1, ?_⟩
    unfold asBl at c1
    rw [q] at c1
    exact c1
  | _ =>
    unfold asBl at c1
    rw [q] at c1
    exact c1.elim
abbrev rdB (Z : Fx) (m : M Bool) : TT := Rd Z lBool m
theorem rd_blT {m : M Vl} {C β : Type} {rel : Lie C β} {g : Bool → M β} {Q : C → Hp → Prop} {σ : L2.St} {F H : Hp} {ρ : Env} (E : EnvOk Z.K Z.pa F Z.G H σ ρ) (c : Cont Z rel σ F ((m >>= fun v => asBl v >>= g) ρ) Q) :
    rdB Z (m >>= asBl) σ H fun b H1 => ∃ F1 ρ1, Same F F1 ∧ EnvOk Z.K Z.pa F1 Z.G H1 σ ρ1 ∧ Cont Z rel σ F1 (g b ρ1) Q := by
  have e : (m >>= fun v => asBl v >>= g) = ((m >>= asBl) >>= g) := by
    funext ρ
    cases q : m ρ with
    | ok a ρ' =>
      rw [bind_ok q]
      cases q2 : asBl a ρ' with
      | ok b ρ2 => rw [bind_ok q2, bind_ok (f := m >>= asBl) (a := b) (ρ' := ρ2)]; rw [bind_ok q]; exact q2
      | err x ρ2 => rw [bind_err q2, bind_err (f := m >>= asBl) (e := x) (ρ' := ρ2)]; rw [bind_ok q]; exact q2
      | bad => rw [bind_bad q2, bind_bad (f := m >>= asBl)]; rw [bind_ok q]; exact q2
    | err x ρ' => rw [bind_err q, bind_err (f := m >>= asBl) (e := x) (ρ' := ρ')]; rw [bind_err q]
    | bad => rw [bind_bad q, bind_bad (f := m >>= asBl)]; rw [bind_bad q]
  rw [e] at c
  refine (Cont.bind E c).imp fun b H1 ⟨ra, F1, ρ1, s1, E1, l1, c1⟩ => ?_
  cases (show ra = b from l1)
  exact ⟨F1, ρ1, s1, E1, c1⟩
/-- what may stand as a test and is a plain value -/
def plainT : PySem.Expr → Bool
  | .Call .. => true
  | .Name .. => true
  | .Subscript .. => true
  | .Constant .. => true
  | _ => false
theorem pt_plain {m : M Vl} {e : PySem.Expr} (h : PE X e (rdE Z m)) (hp : plainT e = true) : PT X e (rdB Z (m >>= asBl)) := by
  refine pt_mono (pt_val h (by intro w; cases e <;> first | rfl | cases hp)) fun σ H Q ⟨F, ρ, E, c⟩ => ?_
  have c' : Cont Z lBool σ F ((m >>= fun v => asBl v >>= fun b => (pure b : M Bool)) ρ) Q := by
    have e : (m >>= fun v => asBl v >>= fun b => (pure b : M Bool)) = (m >>= asBl) := by
      have e2 : (fun v => asBl v >>= fun b => (pure b : M Bool)) = asBl := by
        funext v ρ
        unfold asBl
        cases v.d <;> rfl
      rw [e2]
    rw [e]; exact c
  exact (rd_bl E c').imp fun x H1 ⟨b, e, F1, ρ1, _, E1, c1⟩ => ⟨b, e, c1.ok E1 rfl⟩
/-- the same of a comparison -/
theorem pt_cmpv {m : M Vl} {op : CmpOp} {x y : PySem.Expr} {r : R2} {ta tb : TE} (ho : OpR X (compareOp op) r) (ha : PE X x ta) (hb : PE X y tb) (hm : behindInMarks op y = false) (h : ∀ σ H Q, rdE Z m σ H Q → tOp r ta tb σ H Q) :
    PT X (.Compare x [op] [y] pos) (rdB Z (m >>= asBl)) := by
  refine pt_mono (pt_cmpR ho ha hb hm) fun σ H Q ⟨F, ρ, E, c⟩ => ?_
  have c' : Cont Z lBool σ F ((m >>= fun v => asBl v >>= fun b => (pure b : M Bool)) ρ) Q := by
    have e : (m >>= fun v => asBl v >>= fun b => (pure b : M Bool)) = (m >>= asBl) := by
      have e2 : (fun v => asBl v >>= fun b => (pure b : M Bool)) = asBl := by
        funext v ρ
        unfold asBl
        cases v.d <;> rfl
      rw [e2]
    rw [e]; exact c
  exact h σ H _ ((rd_bl E c').imp fun x H1 ⟨b, e, F1, ρ1, _, E1, c1⟩ => ⟨b, e, c1.ok E1 rfl⟩)
end
end PL
/-! PLCons3: and, or, not, if-else, items, slices, calls of built-ins. -/
namespace PL
open PySem L2 PySem.Spec PyProof.Rows
section
variable {X : Cx} {Z : Fx} {Γ : Gm} {lev : Nat} {T : Tab} {pos p : Pos}
theorem snd_and {a b : E} {x y : PySem.Expr} {r : List PySem.Expr} (ha : PE X x (rdE Z (evE Γ a))) (hb : PE X (.BoolOp .And (y :: r) pos) (rdE Z (evE Γ b))) : PE X (.BoolOp .And (x :: y :: r) pos) (rdE Z (evE Γ (.and a b))) :=
  pe_mono (pe_and ha hb) fun σ H Q ⟨F, ρ, E, c⟩ => by
    rw [evE] at c
    refine (rd_bl E c).imp fun x H1 ⟨b, e, F1, ρ1, _, E1, c1⟩ => ⟨b, e, ?_⟩
    cases b with
    | true => exact iteT ⟨F1, ρ1, E1, c1⟩
    | false => exact iteF (cont_val c1 E1 (.bl _))
theorem snd_or {a b : E} {x y : PySem.Expr} {r : List PySem.Expr} (ha : PE X x (rdE Z (evE Γ a))) (hb : PE X (.BoolOp .Or (y :: r) pos) (rdE Z (evE Γ b))) : PE X (.BoolOp .Or (x :: y :: r) pos) (rdE Z (evE Γ (.or a b))) :=
  pe_mono (pe_or ha hb) fun σ H Q ⟨F, ρ, E, c⟩ => by
    rw [evE] at c
    refine (rd_bl E c).imp fun x H1 ⟨b, e, F1, ρ1, _, E1, c1⟩ => ⟨b, e, ?_⟩
    cases b with
    | false => exact iteF ⟨F1, ρ1, E1, c1⟩
    | true => exact iteT (cont_val c1 E1 (.bl _))
theorem bl_eta (m : M Vl) : (m >>= fun v => asBl v >>= fun b => (pure b : M Bool)) = (m >>= asBl) := by
  have e2 : (fun v => asBl v >>= fun b => (pure b : M Bool)) = asBl := by
    funext v ρ
    unfold asBl
    cases v.d <;> rfl
  rw [e2]
theorem bind_assoc {α β γ : Type} (m : M α) (f : α → M β) (g : β → M γ) : ((m >>= f) >>= g) = (m >>= fun a => f a >>= g) := by
  funext ρ
  cases q : m ρ with
  | ok a ρ' =>
    rw [bind_ok (g := fun a => f a >>= g) q]
    cases q2 : f a ρ' with
    | ok b ρ2 => rw [bind_ok q2, bind_ok (f := m >>= f) (a := b) (ρ' := ρ2)]; rw [bind_ok q]; exact q2
    | err x ρ2 => rw [bind_err q2, bind_err (f := m >>= f) (e := x) (ρ' := ρ2)]; rw [bind_ok q]; exact q2
    | bad => rw [bind_bad q2, bind_bad (f := m >>= f)]; rw [bind_ok q]; exact q2
  | err x ρ' => rw [bind_err (g := fun a => f a >>= g) q, bind_err (f := m >>= f) (e := x) (ρ' := ρ')]; rw [bind_err q]
  | bad => rw [bind_bad (g := fun a => f a >>= g) q, bind_bad (f := m >>= f)]; rw [bind_bad q]
theorem sndT_and {a b : E} {x y : PySem.Expr} {r : List PySem.Expr} (ha : PT X x (rdB Z (evE Γ a >>= asBl))) (hb : PW X (.BoolOp .And (y :: r) pos) (rdB Z (evE Γ b >>= asBl))) : PW X (.BoolOp .And (x :: y :: r) pos) (rdB Z (evE Γ (.and a b) >>= asBl)) :=
  pw_mono (pw_and ha hb) fun σ H Q ⟨F, ρ, E, c⟩ => by
    rw [evE, bind_assoc] at c
    have e : (fun v => (asBl v >>= fun k => sel k (evE Γ b) (pure (sh (.bl false)))) >>= asBl) = fun v => asBl v >>= fun k => (sel k (evE Γ b) (pure (sh (.bl false))) >>= asBl) := by
      funext v
      rw [bind_assoc]
    rw [e] at c
    refine (rd_blT E c).imp fun k H1 ⟨F1, ρ1, _, E1, c1⟩ => ?_
    cases k with
    | true => exact iteT ⟨F1, ρ1, E1, c1⟩
    | false => exact iteF ((show Cont Z lBool σ F1 (.ok false ρ1) Q from c1).ok E1 rfl)
theorem sndT_or {a b : E} {x y : PySem.Expr} {r : List PySem.Expr} (ha : PT X x (rdB Z (evE Γ a >>= asBl))) (hb : PW X (.BoolOp .Or (y :: r) pos) (rdB Z (evE Γ b >>= asBl))) : PW X (.BoolOp .Or (x :: y :: r) pos) (rdB Z (evE Γ (.or a b) >>= asBl)) :=
  pw_mono (pw_or ha hb) fun σ H Q ⟨F, ρ, E, c⟩ => by
    rw [evE, bind_assoc] at c
    have e : (fun v => (asBl v >>= fun k => sel k (pure (sh (.bl true))) (evE Γ b)) >>= asBl) = fun v => asBl v >>= fun k => (sel k (pure (sh (.bl true))) (evE Γ b) >>= asBl) := by
      funext v
      rw [bind_assoc]
    rw [e] at c
    refine (rd_blT E c).imp fun k H1 ⟨F1, ρ1, _, E1, c1⟩ => ?_
    cases k with
    | false => exact iteF ⟨F1, ρ1, E1, c1⟩
    | true => exact iteT ((show Cont Z lBool σ F1 (.ok true ρ1) Q from c1).ok E1 rfl)
theorem pw_one {op : BoolOp} {y : PySem.Expr} {t : TT} (h : PT X y t) : PW X (.BoolOp op [y] pos) t := by
  cases op
  · exact pw_and1 h
  · exact pw_or1 h
theorem snd_not {a : E} {x : PySem.Expr} (ha : PE X x (rdE Z (evE Γ a))) : PE X (.UnaryOp .Not x pos) (rdE Z (evE Γ (.not a))) :=
  pe_mono (pe_not ha) fun σ H Q ⟨F, ρ, E, c⟩ => by
    rw [evE] at c
    exact (rd_bl (g := fun b => pure (sh (.bl !b))) E c).imp fun x H1 ⟨b, e, F1, ρ1, _, E1, c1⟩ => ⟨b, e, cont_val c1 E1 (.bl _)⟩
theorem sndT_not {a : E} {x : PySem.Expr} (ha : PT X x (rdB Z (evE Γ a >>= asBl))) : PT X (.UnaryOp .Not x pos) (rdB Z (evE Γ (.not a) >>= asBl)) :=
  pt_mono (pt_not ha) fun σ H Q ⟨F, ρ, E, c⟩ => by
    rw [evE, bind_assoc] at c
    have e : (fun v => evNot v >>= asBl) = fun v => asBl v >>= fun b => (pure (!b) : M Bool) := by
      funext v
      unfold evNot
      rw [bind_assoc]
      rfl
    rw [e] at c
    exact (rd_blT E c).imp fun b H1 ⟨F1, ρ1, _, E1, c1⟩ => c1.ok E1 rfl
theorem snd_ite {c a b : E} {x y z : PySem.Expr} (hc : PT X x (rdB Z (evE Γ c >>= asBl))) (ha : PE X y (rdE Z (evE Γ a))) (hb : PE X z (rdE Z (evE Γ b))) : PE X (.IfExp x y z pos) (rdE Z (evE Γ (.ite c a b))) :=
  pe_mono (pe_ifExp hc ha hb) fun σ H Q ⟨F, ρ, E, c⟩ => by
    rw [evE] at c
    refine (rd_blT E c).imp fun k H1 ⟨F1, ρ1, _, E1, c1⟩ => ?_
    cases k with
    | true => exact iteT ⟨F1, ρ1, E1, c1⟩
    | false => exact iteF ⟨F1, ρ1, E1, c1⟩
/-- a < b < c of ints -/
theorem op_ord (hK : X.K = Z.K) (hu : X.A.units + 65 < cLine) (o : Cop) : OpR X (compareOp (opC o)) (K2 Z (cmpM o)) := op_cmpD hK hu o
theorem snd_chain {o o' : Cop} {a b c : E} {x y z : PySem.Expr} (ft : Fit X Z lev T Γ) (ha : PE X x (rdE Z (evE Γ a))) (hb : PE X y (rdE Z (evE Γ b))) (hc : PE X z (rdE Z (evE Γ c))) :
    PE X (.Compare x [opC o, opC o'] [y, z] pos) (rdE Z (evE Γ (.chain o o' a b c))) ∧ PT X (.Compare x [opC o, opC o'] [y, z] pos) (rdB Z (evE Γ (.chain o o' a b c) >>= asBl)) := by
  have key : ∀ (σ : L2.St) (H : Hp) (Q : VK), rdE Z (evE Γ (.chain o o' a b c)) σ H Q → tChain (K2 Z (cmpM o)) (K2 Z (cmpM o')) (rdE Z (evE Γ a)) (rdE Z (evE Γ b)) (rdE Z (evE Γ c)) σ H Q := fun σ H Q ⟨F, ρ, E, c⟩ => by
    rw [evE] at c
    refine (Cont.bind E c).imp fun x H1 ⟨ra, F1, ρ1, s1, E1, l1, c1⟩ => ?_
    obtain ⟨F2, s2, E2, l2⟩ := E1.share l1
    refine (Cont.bind E2 (c1.mono s2)).imp fun y H2 ⟨rb, F3, ρ3, s3, E3, l3, c3⟩ => ?_
    obtain ⟨F4, s4, E4, l4⟩ := E3.share l3
    refine ⟨σ, F4, ρ3, ra.d, rb.d, E4, .inl (l2.mono (s3.trans s4)), .inl l4, ?_⟩
    have c5 := c3.mono s4
    cases q : cmpv o ra.d rb.d with
    | none =>
      have e : cmpM o ra.d rb.d ρ3 = .bad := by unfold cmpM; rw [q]; rfl
      rw [bind_bad e] at c5
      exact c5.elim
    | some k =>
      have e : cmpM o ra.d rb.d ρ3 = .ok (sh (.bl k)) ρ3 := by unfold cmpM; rw [q]; rfl
      rw [bind_ok e] at c5
      rw [e]
      intro v F' H' s E' l
      have ev : v = .bl k := asBl_of l rfl
      refine ⟨k, ev, ?_⟩
      cases k with
      | false => exact iteF (cont_val (c5.mono s) E' (.bl _))
      | true =>
        refine iteT ?_
        refine (Cont.bind E' ((show Cont Z (lV Z) σ F4 ((evE Γ _ >>= fun w => cmpM o' rb.d w.d) ρ3) Q from c5).mono s)).imp fun w H3 ⟨rc, F5, ρ5, s5, E5, l5, c6⟩ => ?_
        obtain ⟨F6, s6, E6, l6⟩ := E5.share l5
        exact ⟨σ, F6, ρ5, rb.d, rc.d, E6, .inl (l4.mono (s.trans (s5.trans s6))), .inl l6, c6.mono s6⟩
  refine ⟨pe_mono (pe_chain (op_ord ft.hK ft.units o) (op_ord ft.hK ft.units o') ha hb hc (by show behindInMarks (opC o') z = false; cases o' <;> exact nomark _)) key, ?_⟩
  refine pt_mono (pt_chain (op_ord ft.hK ft.units o) (op_ord ft.hK ft.units o') ha hb hc (by show behindInMarks (opC o') z = false; cases o' <;> exact nomark _)) fun σ H Q ⟨F, ρ, E, c⟩ => ?_
  rw [← bl_eta] at c
  exact key σ H _ ((rd_bl E c).imp fun x H1 ⟨b, e, F1, ρ1, _, E1, c1⟩ => ⟨b, e, c1.ok E1 rfl⟩)
/-! ### items and slices -/
theorem snd_ix {a b : E} {x y : PySem.Expr} (hK : X.K = Z.K) (hn : nslice y = true) (ha : PE X x (rdR Z (opnd a (evE Γ a)))) (hb : PE X y (rdE Z (evE Γ b))) : PE X (.Subscript x y pos) (rdE Z (evE Γ (.ix a b))) :=
  pe_mono (pe_ix (ix_D hK) ha hb (plain_ix hn)) fun σ H Q h => by
    rw [evE] at h
    exact opnd_val (f := fun d k => M.opt ((itemv d k).map sh)) σ H Q h
abbrev lO (Z : Fx) : Lie (Option Int) (Option D) := fun _ _ _ _ v d => optInt d = some v
theorem sndO_none : PO X none (Rd Z (fun _ _ _ _ v d => d = v) (evO Γ none >>= asPart)) := ⟨fun pins s σ H Q I ⟨F, ρ, E, c⟩ => po_none.run pins s σ H Q I (by
  rw [evO] at c
  exact c none F H (Same.refl F) E rfl)⟩
theorem sndO_some {a : E} {x : PySem.Expr} (h : PE X x (rdE Z (evE Γ a))) : PO X (some x) (Rd Z (fun _ _ _ _ v d => d = v) (evO Γ (some a) >>= asPart)) := ⟨fun pins s σ H Q I ⟨F, ρ, E, c⟩ => (po_some h).run pins s σ H Q I (by
  rw [evO, bind_assoc] at c
  refine (Cont.bind E c).imp fun v H1 ⟨r, F1, ρ1, s1, E1, l1, c1⟩ => ?_
  have c2 : Cont Z (fun _ _ _ _ v d => d = v) σ F1 (asPart (some r.d) ρ1) Q := c1
  unfold asPart at c2
  obtain ⟨o, e, c3⟩ := cont_opt c2
  obtain ⟨ow, d⟩ := r
  cases d with
  | int i =>
    cases e
    cases ow with
    | false =>
      have l1' : Rp Z.K F1 v (.int i) := l1
      cases l1'
      exact ⟨i, rfl, c3 _ F1 H1 (Same.refl F1) E1 rfl⟩
    | true =>
      obtain ⟨_, _, ⟨_, _, z⟩, _⟩ := l1
      exact z.elim
  | _ => cases e)⟩
theorem snd_cut {a : E} {lo hi : Option E} {x : PySem.Expr} {xl xh : Option PySem.Expr} {p2 : Pos} (hK : X.K = Z.K) (ha : PE X x (rdR Z (opnd a (evE Γ a)))) (hl : PO X xl (Rd Z (fun _ _ _ _ v d => d = v) (evO Γ lo >>= asPart)))
    (hh : PO X xh (Rd Z (fun _ _ _ _ v d => d = v) (evO Γ hi >>= asPart))) : PE X (.Subscript x (.Slice xl xh none p2) pos) (rdE Z (evE Γ (.cut a lo hi))) :=
  pe_mono (pe_slice (sl_D hK) ha hl hh) fun σ H Q ⟨F, ρ, E, c⟩ => by
    rw [evE] at c
    refine (Cont.bind E c).imp fun v H1 ⟨r, F1, ρ1, s1, E1, l1, c1⟩ => ?_
    refine (Cont.bind E1 c1).imp fun l H2 ⟨l', F2, ρ2, s2, E2, e2, c2⟩ => ?_
    subst e2
    refine (Cont.bind E2 c2).imp fun h H3 ⟨h', F3, ρ3, s3, E3, e3, c3⟩ => ?_
    subst e3
    obtain ⟨d, sd, c4⟩ := deref_seen E3 (RefR.mono (s2.trans s3) l1) c3
    exact ⟨σ, F3, ρ3, d, E3, sd, c4⟩
/-! ### built-ins -/
def ndb (x : Str) : Bool := !(x == ("__debug__" : Str)) && !(x == ("__classdict__" : Str)) && decide (x ≠ "__name__")
theorem snd_b1 {b : B1} {a : E} {x : PySem.Expr} (ft : Fit X Z lev T Γ) (hg : Gl X (nmB1 b)) (hm : X.mg (nmB1 b) = none) (hn : nst x = true) (ha : PE X x (rdR Z (opnd a (evE Γ a)))) :
    PE X (.Call (.Name (nmB1 b) p) [x] [] pos) (rdE Z (evE Γ (.b1 b a))) := by
  have key : ∀ (σ : L2.St) (H : Hp) (Q : VK), rdE Z (evE Γ (.b1 b a)) σ H Q → tCB (KC Z fun d => M.opt (b1 b d)) (tCons (rdR Z (opnd a (evE Γ a))) tNil) σ H Q := fun σ H Q h => by
    rw [evE] at h
    exact (one_opnd (f := fun d => M.opt (b1 b d)) σ H Q h).imp fun x H1 q => ⟨x, rfl, q⟩
  have pa := pa_cons ha pa_nil (star_cons (es := []) hn)
  cases b
  · exact pe_mono (pe_callB (id := "len") (call_b1 ft.hK ft.calm .len) hg hm (boot_B1 .len) pa (by decide) (by decide) (star_cons hn) rfl) key
  · exact pe_mono (pe_callTy (T := "list") (call_b1 ft.hK ft.calm .list) hg hm (boot_B1 .list) pa (by decide) (by decide) (star_cons hn) rfl) key
  · exact pe_mono (pe_callTy (T := "tuple") (call_b1 ft.hK ft.calm .tuple) hg hm (boot_B1 .tuple) pa (by decide) (by decide) (star_cons hn) rfl) key
  · exact pe_mono (pe_callTy (T := "int") (call_b1 ft.hK ft.calm .int) hg hm (boot_B1 .int) pa (by decide) (by decide) (star_cons hn) rfl) key
  · exact pe_mono (pe_callTy (T := "str") (call_b1 ft.hK ft.calm .str) hg hm (boot_B1 .str) pa (by decide) (by decide) (star_cons hn) rfl) key
  · exact pe_mono (pe_callB (id := "sum") (call_b1 ft.hK ft.calm .sum) hg hm (boot_B1 .sum) pa (by decide) (by decide) (star_cons hn) rfl) key
  · exact pe_mono (pe_callB (id := "all") (call_b1 ft.hK ft.calm .all) hg hm (boot_B1 .all) pa (by decide) (by decide) (star_cons hn) rfl) key
  · exact pe_mono (pe_callB (id := "any") (call_b1 ft.hK ft.calm .any) hg hm (boot_B1 .any) pa (by decide) (by decide) (star_cons hn) rfl) key
  · exact pe_mono (pe_callB (id := "abs") (call_b1 ft.hK ft.calm .abs) hg hm (boot_B1 .abs) pa (by decide) (by decide) (star_cons hn) rfl) key
theorem snd_b2 {b : B2} {a c : E} {x y : PySem.Expr} (ft : Fit X Z lev T Γ) (hg : Gl X (nmB2 b)) (hm : X.mg (nmB2 b) = none) (hn : nst x = true) (hn2 : nst y = true) (ha : PE X x (rdE Z (evE Γ a))) (hb : PE X y (rdE Z (evE Γ c))) :
    PE X (.Call (.Name (nmB2 b) p) [x, y] [] pos) (rdE Z (evE Γ (.b2 b a c))) := by
  have key : ∀ (σ : L2.St) (H : Hp) (Q : VK), rdE Z (evE Γ (.b2 b a c)) σ H Q → tCB (KC2 Z fun d e => M.opt (b2 b d e)) (tCons (rdE Z (evE Γ a)) (tCons (rdE Z (evE Γ c)) tNil)) σ H Q := fun σ H Q h => by
    rw [evE] at h
    exact (two_vals (f := fun d e => M.opt (b2 b d e)) σ H Q h).imp fun x H1 q => q.imp fun y H2 q => ⟨x, y, rfl, q⟩
  have pa := pa_cons ha (pa_cons hb pa_nil (star_cons (es := []) hn2)) (star_cons hn)
  have st : (backTo pos (starEach [y] X.env)).any (·.1) = false := star_any (es := [y]) (by simp [hn2])
  cases b
  · exact pe_mono (pe_callB (id := "min") (call_b2 ft.hK ft.calm .min) hg hm (boot_B2 .min) pa (by decide) (by decide) (star_cons hn) st) key
  · exact pe_mono (pe_callB (id := "max") (call_b2 ft.hK ft.calm .max) hg hm (boot_B2 .max) pa (by decide) (by decide) (star_cons hn) st) key
def nmTyS (t : Ty) : Str := (nmTy t : Str)
theorem boot_Ty (t : Ty) : bootBuiltins (nmTyS t) = some (.type (nmTy t)) := by cases t <;> decide +kernel
theorem snd_isi {t : Ty} {a : E} {x : PySem.Expr} {p2 : Pos} (ft : Fit X Z lev T Γ) (hg : Gl X "isinstance") (hm : X.mg "isinstance" = none) (hg2 : Gl X (nmTyS t)) (hm2 : X.mg (nmTyS t) = none) (hn : nst x = true) (ha : PE X x (rdE Z (evE Γ a))) :
    PE X (.Call (.Name "isinstance" p) [x, .Name (nmTyS t) p2] [] pos) (rdE Z (evE Γ (.isi t a))) := by
  have pt : PE X (.Name (nmTyS t) p2) (tC (.ty (nmTy t))) := pe_bltn hg2 hm2 (boot_Ty t) rfl (by cases t <;> decide) (by cases t <;> decide)
  refine pe_mono (pe_callB (call_isiD ft.hK t) hg hm boot_isinstance (pa_cons ha (pa_cons pt pa_nil rfl) (star_cons hn)) (by decide) (by decide) (star_cons hn) rfl) fun σ H Q h => ?_
  rw [evE] at h
  exact (one_val (f := fun d => M.opt ((isTy t d).map fun b => sh (.bl b))) σ H Q h).imp fun x H1 q => ⟨x, rfl, q⟩
end
end PL
/-! PLCall: a call of a function of the module. -/
namespace PL
open PySem L2 PySem.Spec PyProof.Rows
def E.ioB (e : E) : Bool := e.isIo.isSome && e.peek.isNone
def kindsOf : List Arg → List Bool
  | [] => []
  | .io _ :: r => true :: kindsOf r
  | _ :: r => false :: kindsOf r
inductive ArgsR (K : PySem.W.Frag) (F : Hp) (σ : L2.St) : List V → List Arg → Prop
  | nil : ArgsR K F σ [] []
  | val {v : V} {d : D} {vs : List V} {as : List Arg} : Rp K F v d → ArgsR K F σ vs as → ArgsR K F σ (v :: vs) (.val d :: as)
  | bor {i : Nat} {a : Addr} {vs : List V} {as : List Arg} : σ[i]? = some (some (V.ref a)) → ArgsR K F σ vs as → ArgsR K F σ (.ref a :: vs) (.bor i :: as)
  | io {i : Nat} {a : Addr} {vs : List V} {as : List Arg} : σ[i]? = some (some (V.ref a)) → ArgsR K F σ vs as → ArgsR K F σ (.ref a :: vs) (.io i :: as)
theorem ArgsR.mono {K : PySem.W.Frag} {F F' : Hp} {σ : L2.St} (s : Same F F') {vs : List V} {as : List Arg} (h : ArgsR K F σ vs as) : ArgsR K F' σ vs as := by
  induction h with
  | nil => exact .nil
  | val r _ ih => exact .val (r.mono s) ih
  | bor e _ ih => exact .bor e ih
  | io e _ ih => exact .io e ih
abbrev lAs (Z : Fx) (es : List E) : Lie (List V) (List Arg) := fun F _ σ _ vs as => ArgsR Z.K F σ vs as ∧ kindsOf as = es.map E.ioB
/-- the addresses of the slots looked at, handed in -/
def borA (σ : L2.St) : List Arg → List Addr
  | .bor i :: r => (match σ[i]? with
    | some (some (V.ref a)) => a :: borA σ r
    | _ => borA σ r)
  | _ :: r => borA σ r
  | [] => []
def ioA (σ : L2.St) : List Arg → List Addr
  | .io i :: r => (match σ[i]? with
    | some (some (V.ref a)) => a :: ioA σ r
    | _ => ioA σ r)
  | _ :: r => ioA σ r
  | [] => []
theorem mem_borA {σ : L2.St} {a : Addr} : ∀ {as : List Arg}, a ∈ borA σ as → ∃ i, i ∈ slotsOf as ∧ σ[i]? = some (some (V.ref a))
  | [], h => by cases h
  | .val _ :: r, h => mem_borA (as := r) h
  | .io i :: r, h => by
    obtain ⟨j, h1, h2⟩ := mem_borA (as := r) h
    exact ⟨j, List.mem_cons_of_mem _ h1, h2⟩
  | .bor i :: r, h => by
    unfold borA at h
    split at h
    · rename_i b e
      rcases List.mem_cons.mp h with rfl | h
      · exact ⟨i, List.mem_cons_self, e⟩
      · obtain ⟨j, h1, h2⟩ := mem_borA (as := r) h
        exact ⟨j, List.mem_cons_of_mem _ h1, h2⟩
    · obtain ⟨j, h1, h2⟩ := mem_borA (as := r) h
      exact ⟨j, List.mem_cons_of_mem _ h1, h2⟩
theorem mem_ioA {σ : L2.St} {a : Addr} : ∀ {as : List Arg}, a ∈ ioA σ as → ∃ i, i ∈ slotsOf as ∧ σ[i]? = some (some (V.ref a))
  | [], h => by cases h
  | .val _ :: r, h => mem_ioA (as := r) h
  | .bor i :: r, h => by
    obtain ⟨j, h1, h2⟩ := mem_ioA (as := r) h
    exact ⟨j, List.mem_cons_of_mem _ h1, h2⟩
  | .io i :: r, h => by
    unfold ioA at h
    split at h
    · rename_i b e
      rcases List.mem_cons.mp h with rfl | h
      · exact ⟨i, List.mem_cons_self, e⟩
      · obtain ⟨j, h1, h2⟩ := mem_ioA (as := r) h
        exact ⟨j, List.mem_cons_of_mem _ h1, h2⟩
    · obtain ⟨j, h1, h2⟩ := mem_ioA (as := r) h
      exact ⟨j, List.mem_cons_of_mem _ h1, h2⟩
theorem borA_nil {σ : L2.St} : ∀ {as : List Arg}, anyBor as = false → borA σ as = []
  | [], _ => rfl
  | .val _ :: r, h => borA_nil (as := r) h
  | .io _ :: r, h => borA_nil (as := r) h
  | .bor _ :: r, h => by cases h
/-- an argument list's slots are owned ones -/
theorem args_own : ∀ {as : List Arg} {ρ : Env} {ds : List D}, argsOf as ρ = some ds → ∀ i ∈ slotsOf as, ∃ f d, ρ[i]? = some (some (f, d)) ∧ f ≠ Fg.shr
  | [], _, _, _, i, h => by cases h
  | .val d :: r, ρ, ds, e, i, h => by
    obtain ⟨es, e1, _⟩ := Option.map_eq_some_iff.mp (show (argsOf r ρ).map (d :: ·) = some ds from e)
    exact args_own e1 i h
  | .bor j :: r, ρ, ds, e, i, h => by
    unfold argsOf at e
    split at e
    · rename_i d q
      obtain ⟨es, e1, _⟩ := Option.map_eq_some_iff.mp e
      rcases List.mem_cons.mp h with rfl | h
      · exact ⟨_, d, q, by decide⟩
      · exact args_own e1 i h
    · rename_i d q
      obtain ⟨es, e1, _⟩ := Option.map_eq_some_iff.mp e
      rcases List.mem_cons.mp h with rfl | h
      · exact ⟨_, d, q, by decide⟩
      · exact args_own e1 i h
    · cases e
  | .io j :: r, ρ, ds, e, i, h => by
    unfold argsOf at e
    split at e
    · rename_i d q
      obtain ⟨es, e1, _⟩ := Option.map_eq_some_iff.mp e
      rcases List.mem_cons.mp h with rfl | h
      · exact ⟨_, d, q, by decide⟩
      · exact args_own e1 i h
    · rename_i d q
      obtain ⟨es, e1, _⟩ := Option.map_eq_some_iff.mp e
      rcases List.mem_cons.mp h with rfl | h
      · exact ⟨_, d, q, by decide⟩
      · exact args_own e1 i h
    · cases e
theorem args_at : ∀ {as : List Arg} {ρ : Env} {ds : List D}, argsOf as ρ = some ds → as.length = ds.length ∧ ∀ (k : Nat) (x : Arg), as[k]? = some x → ∃ d : D, ds[k]? = some d ∧ match x with
    | .val d' => d' = d
    | .bor i => ∃ f, f ≠ Fg.shr ∧ ρ[i]? = some (some (f, d))
    | .io i => ∃ f, f ≠ Fg.shr ∧ ρ[i]? = some (some (f, d))
  | [], ρ, ds, e => by
    cases (show some [] = some ds from e)
    exact ⟨rfl, fun k x h => by simp at h⟩
  | .val d :: r, ρ, ds, e => by
    obtain ⟨es, e1, rfl⟩ := Option.map_eq_some_iff.mp (show (argsOf r ρ).map (d :: ·) = some ds from e)
    obtain ⟨h1, h2⟩ := args_at e1
    refine ⟨by simp [h1], fun k x h => ?_⟩
    cases k with
    | zero => simp at h; subst h; exact ⟨d, rfl, rfl⟩
    | succ k => simpa using h2 k x (by simpa using h)
  | .bor j :: r, ρ, ds, e => by
    unfold argsOf at e
    split at e
    · rename_i d q
      obtain ⟨es, e1, rfl⟩ := Option.map_eq_some_iff.mp e
      obtain ⟨h1, h2⟩ := args_at e1
      refine ⟨by simp [h1], fun k x h => ?_⟩
      cases k with
      | zero => simp at h; subst h; exact ⟨d, rfl, _, by decide, q⟩
      | succ k => simpa using h2 k x (by simpa using h)
    · rename_i d q
      obtain ⟨es, e1, rfl⟩ := Option.map_eq_some_iff.mp e
      obtain ⟨h1, h2⟩ := args_at e1
      refine ⟨by simp [h1], fun k x h => ?_⟩
      cases k with
      | zero => simp at h; subst h; exact ⟨d, rfl, _, by decide, q⟩
      | succ k => simpa using h2 k x (by simpa using h)
    · cases e
  | .io j :: r, ρ, ds, e => by
    unfold argsOf at e
    split at e
    · rename_i d q
      obtain ⟨es, e1, rfl⟩ := Option.map_eq_some_iff.mp e
      obtain ⟨h1, h2⟩ := args_at e1
      refine ⟨by simp [h1], fun k x h => ?_⟩
      cases k with
      | zero => simp at h; subst h; exact ⟨d, rfl, _, by decide, q⟩
      | succ k => simpa using h2 k x (by simpa using h)
    · rename_i d q
      obtain ⟨es, e1, rfl⟩ := Option.map_eq_some_iff.mp e
      obtain ⟨h1, h2⟩ := args_at e1
      refine ⟨by simp [h1], fun k x h => ?_⟩
      cases k with
      | zero => simp at h; subst h; exact ⟨d, rfl, _, by decide, q⟩
      | succ k => simpa using h2 k x (by simpa using h)
    · cases e
theorem argsR_at {K : PySem.W.Frag} {F : Hp} {σ : L2.St} {vs : List V} {as : List Arg} (h : ArgsR K F σ vs as) : vs.length = as.length ∧ ∀ (k : Nat) (x : Arg), as[k]? = some x → ∃ v : V, vs[k]? = some v ∧ match x with
    | .val d => Rp K F v d
    | .bor i => ∃ a, v = .ref a ∧ σ[i]? = some (some (V.ref a))
    | .io i => ∃ a, v = .ref a ∧ σ[i]? = some (some (V.ref a)) := by
  induction h with
  | nil => exact ⟨rfl, fun k x h => by simp at h⟩
  | val r _ ih =>
    refine ⟨by simp [ih.1], fun k x h => ?_⟩
    cases k with
    | zero => simp at h; subst h; exact ⟨_, rfl, r⟩
    | succ k => simpa using ih.2 k x (by simpa using h)
  | bor e _ ih =>
    refine ⟨by simp [ih.1], fun k x h => ?_⟩
    cases k with
    | zero => simp at h; subst h; exact ⟨_, rfl, _, rfl, e⟩
    | succ k => simpa using ih.2 k x (by simpa using h)
  | io e _ ih =>
    refine ⟨by simp [ih.1], fun k x h => ?_⟩
    cases k with
    | zero => simp at h; subst h; exact ⟨_, rfl, _, rfl, e⟩
    | succ k => simpa using ih.2 k x (by simpa using h)
theorem borA_at {σ : L2.St} {a : Addr} {i : Nat} : ∀ {as : List Arg} {k : Nat}, as[k]? = some (.bor i) → σ[i]? = some (some (V.ref a)) → a ∈ borA σ as
  | [], k, h, _ => by simp at h
  | x :: r, 0, h, e => by
    simp at h
    subst h
    unfold borA
    rw [e]
    exact List.mem_cons_self
  | x :: r, k + 1, h, e => by
    have ih := borA_at (as := r) (k := k) (by simpa using h) e
    cases x with
    | val d => exact ih
    | io j => exact ih
    | bor j =>
      unfold borA
      split
      · exact List.mem_cons_of_mem _ ih
      · exact ih
theorem ioA_at {σ : L2.St} {a : Addr} {i : Nat} : ∀ {as : List Arg} {k : Nat}, as[k]? = some (.io i) → σ[i]? = some (some (V.ref a)) → a ∈ ioA σ as
  | [], k, h, _ => by simp at h
  | x :: r, 0, h, e => by
    simp at h
    subst h
    unfold ioA
    rw [e]
    exact List.mem_cons_self
  | x :: r, k + 1, h, e => by
    have ih := ioA_at (as := r) (k := k) (by simpa using h) e
    cases x with
    | val d => exact ih
    | bor j => exact ih
    | io j =>
      unfold ioA
      split
      · exact List.mem_cons_of_mem _ ih
      · exact ih
theorem bor_mem {σ : L2.St} {a : Addr} : ∀ {as : List Arg}, a ∈ borA σ as → ∃ (k i : Nat), as[k]? = some (.bor i) ∧ σ[i]? = some (some (V.ref a))
  | [], h => by cases h
  | .val _ :: r, h => by
    obtain ⟨k, i, h1, h2⟩ := bor_mem (as := r) h
    exact ⟨k + 1, i, by simpa using h1, h2⟩
  | .io i :: r, h => by
    obtain ⟨k, i, h1, h2⟩ := bor_mem (as := r) h
    exact ⟨k + 1, i, by simpa using h1, h2⟩
  | .bor i :: r, h => by
    unfold borA at h
    split at h
    · rename_i b e
      rcases List.mem_cons.mp h with rfl | h
      · exact ⟨0, i, rfl, e⟩
      · obtain ⟨k, i, h1, h2⟩ := bor_mem (as := r) h
        exact ⟨k + 1, i, by simpa using h1, h2⟩
    · obtain ⟨k, i, h1, h2⟩ := bor_mem (as := r) h
      exact ⟨k + 1, i, by simpa using h1, h2⟩
theorem io_mem {σ : L2.St} {a : Addr} : ∀ {as : List Arg}, a ∈ ioA σ as → ∃ (k i : Nat), as[k]? = some (.io i) ∧ σ[i]? = some (some (V.ref a))
  | [], h => by cases h
  | .val _ :: r, h => by
    obtain ⟨k, i, h1, h2⟩ := io_mem (as := r) h
    exact ⟨k + 1, i, by simpa using h1, h2⟩
  | .bor i :: r, h => by
    obtain ⟨k, i, h1, h2⟩ := io_mem (as := r) h
    exact ⟨k + 1, i, by simpa using h1, h2⟩
  | .io i :: r, h => by
    unfold ioA at h
    split at h
    · rename_i b e
      rcases List.mem_cons.mp h with rfl | h
      · exact ⟨0, i, rfl, e⟩
      · obtain ⟨k, i, h1, h2⟩ := io_mem (as := r) h
        exact ⟨k + 1, i, by simpa using h1, h2⟩
    · obtain ⟨k, i, h1, h2⟩ := io_mem (as := r) h
      exact ⟨k + 1, i, by simpa using h1, h2⟩
def slotOf : Arg → Option Nat
  | .val _ => none
  | .bor i => some i
  | .io i => some i
/-- two places of an argument list with different slots -/
theorem slots_ne : ∀ {as : List Arg}, nodupB (slotsOf as) = true → ∀ {k m : Nat} {x y : Arg} {i j : Nat}, as[k]? = some x → as[m]? = some y → slotOf x = some i → slotOf y = some j → k ≠ m → i ≠ j := by
  have mem : ∀ {as : List Arg} {k : Nat} {x : Arg} {i : Nat}, as[k]? = some x → slotOf x = some i → i ∈ slotsOf as := by
    intro as
    induction as with
    | nil => intro k x i h; simp at h
    | cons z r ih =>
      intro k x i h e
      cases k with
      | zero =>
        simp at h
        subst h
        cases z <;> simp [slotOf] at e <;> subst e <;> simp [slotsOf]
      | succ k =>
        have q := ih (k := k) (by simpa using h) e
        cases z <;> simp [slotsOf, q]
  intro as
  induction as with
  | nil => intro _ k m x y i j h; simp at h
  | cons z r ih =>
    intro nd k m x y i j h1 h2 e1 e2 ne
    have tail : nodupB (slotsOf r) = true := by
      cases z <;> simp [slotsOf, nodupB] at nd <;> first | exact nd | exact nd.2
    have head : ∀ i, slotOf z = some i → i ∉ slotsOf r := by
      intro i e
      cases z <;> simp [slotOf] at e <;> subst e <;> simp [slotsOf, nodupB] at nd <;> exact nd.1
    cases k with
    | zero =>
      cases m with
      | zero => exact absurd rfl ne
      | succ m =>
        simp at h1
        subst h1
        rintro rfl
        exact head i e1 (mem (k := m) (by simpa using h2) e2)
    | succ k =>
      cases m with
      | zero =>
        simp at h2
        subst h2
        rintro rfl
        exact head i e2 (mem (k := k) (by simpa using h1) e1)
      | succ m => exact ih tail (by simpa using h1) (by simpa using h2) e1 e2 (by omega)
theorem kinds_at : ∀ {as : List Arg} {k : Nat} {x : Arg}, as[k]? = some x → (kindsOf as)[k]? = some (match x with
    | .io _ => true
    | _ => false)
  | [], k, x, h => by simp at h
  | z :: r, 0, x, h => by
    simp at h
    subst h
    cases z <;> rfl
  | z :: r, k + 1, x, h => by
    have ih := kinds_at (as := r) (k := k) (by simpa using h)
    cases z <;> simpa [kindsOf] using ih
theorem kinds_length : ∀ as : List Arg, (kindsOf as).length = as.length
  | [] => rfl
  | x :: r => by cases x <;> simp [kindsOf, kinds_length r]
theorem init_at : ∀ {mask : List Bool} {ds : List D} {k : Nat} {f : Fg} {d : D}, (init mask ds)[k]? = some (some (f, d)) → ∃ m, mask[k]? = some m ∧ ds[k]? = some d ∧ f = if m then .pin else .shr
  | [], ds, k, f, d, h => by simp [init] at h
  | m :: ms, [], k, f, d, h => by simp [init] at h
  | m :: ms, d' :: ds, 0, f, d, h => by
    simp [init] at h
    exact ⟨m, rfl, by simp [h.2], h.1.symm⟩
  | m :: ms, d' :: ds, k + 1, f, d, h => by
    obtain ⟨m', h1, h2, h3⟩ := init_at (mask := ms) (ds := ds) (k := k) (by simpa [init] using h)
    exact ⟨m', by simpa using h1, by simpa using h2, h3⟩
theorem init_length : ∀ {mask : List Bool} {ds : List D}, mask.length = ds.length → (init mask ds).length = mask.length
  | [], [], _ => rfl
  | m :: ms, d :: ds, h => by simp [init]; exact init_length (by simpa using h)
  | [], _ :: _, h => by simp at h
  | _ :: _, [], h => by simp at h
end PL
/-! PLCall2: a call of a function of the module, the state ahead and behind. -/
namespace PL
open PySem L2 PySem.Spec PyProof.Rows
section
variable {K : PySem.W.Frag} {pa : Nat → Option Addr} {F G H : Hp} {σ : L2.St} {ρ : Env}
def inF (F H : Hp) (B : List Addr) : Hp := fun a => if a ∈ B then H a else F a
def inG (Fc H : Hp) (O : List Addr) : Hp := fun a => if (Fc a).isSome || decide (a ∈ O) then none else H a
def outF (F' : Hp) (B : List Addr) : Hp := fun a => if a ∈ B then none else F' a
def paOf (σ : L2.St) (as : List Arg) : Nat → Option Addr := fun k => match as[k]? with
  | some (.io i) => (match σ[i]? with
    | some (some (V.ref a)) => some a
    | _ => none)
  | _ => none
/-- the state as the callee takes it -/
theorem call_in {vs : List V} {as : List Arg} {ds : List D} {mask : List Bool} (E : EnvOk K pa F G H σ ρ) (l : ArgsR K F σ vs as) (hk : kindsOf as = mask) (ha : argsOf as ρ = some ds) (nd : nodupB (slotsOf as) = true) :
    EnvOk K (paOf σ as) (inF F H (borA σ as)) (inG (inF F H (borA σ as)) H (ioA σ as)) H (vs.map some) (init mask ds) ∧ vs.length = mask.length ∧ ds.length = mask.length ∧ Same F (inF F H (borA σ as)) := by
  obtain ⟨la, at_⟩ := args_at ha
  obtain ⟨lv, vt⟩ := argsR_at l
  have hm : mask.length = as.length := by rw [← hk]; exact kinds_length as
  have sF : Same F (inF F H (borA σ as)) := fun a o q => by
    unfold inF
    split
    · exact E.fh a o q
    · exact q
  -- a slot's address
  have own_at : ∀ {k : Nat} {x : Arg} {i : Nat}, as[k]? = some x → slotOf x = some i → ∃ a d f, σ[i]? = some (some (V.ref a)) ∧ ds[k]? = some d ∧ vs[k]? = some (V.ref a) ∧ f ≠ Fg.shr ∧ ρ[i]? = some (some (f, d)) ∧ OwnAt K F G H a d := by
    intro k x i hx hs
    obtain ⟨d, hd, q⟩ := at_ k x hx
    obtain ⟨v, hv, r⟩ := vt k x hx
    cases x with
    | val d' => cases hs
    | bor j =>
      cases hs
      obtain ⟨f, nf, q⟩ := q
      obtain ⟨a, rfl, e⟩ := r
      obtain ⟨b, e2, o⟩ := E.own _ f d q nf
      rw [e] at e2; cases e2
      exact ⟨a, d, f, e, hd, hv, nf, q, o⟩
    | io j =>
      cases hs
      obtain ⟨f, nf, q⟩ := q
      obtain ⟨a, rfl, e⟩ := r
      obtain ⟨b, e2, o⟩ := E.own _ f d q nf
      rw [e] at e2; cases e2
      exact ⟨a, d, f, e, hd, hv, nf, q, o⟩
  have io_bor : ∀ {k : Nat} {i : Nat} {a : Addr}, as[k]? = some (.io i) → σ[i]? = some (some (V.ref a)) → a ∉ borA σ as := by
    intro k i a hx e hb
    obtain ⟨m, j, h1, h2⟩ := bor_mem hb
    have ne : k ≠ m := by
      rintro rfl
      rw [hx] at h1; cases h1
    obtain ⟨b, d, f, e1, _, _, nf, q, _⟩ := own_at hx rfl
    obtain ⟨b', d', f', e1', _, _, nf', q', _⟩ := own_at h1 rfl
    rw [e] at e1; cases e1
    exact E.dist i j f f' d d' a (slots_ne nd hx h1 rfl rfl ne) q nf q' nf' e h2
  refine ⟨⟨fun a o q => ?_, fun a o q => ?_, fun a o q => ?_, ?_, fun k d q => ?_, fun k g d q ng => ?_, fun k d q => ?_, fun k m g g' d d' a ne q ng q' ng' e => ?_⟩, by omega, by omega, sF⟩
  · unfold inF at q
    split at q
    · exact q
    · exact E.fh a o q
  · unfold inG at q
    split at q
    · cases q
    · exact q
  · unfold inG
    rw [if_pos (by simp [q])]
  · rw [init_length (by omega), List.length_map]; omega
  · obtain ⟨m, h1, h2, h3⟩ := init_at q
    cases m with
    | true => cases h3
    | false =>
      have hkk : k < as.length := by
        have := (List.getElem?_eq_some_iff.mp h2).1
        omega
      obtain ⟨x, hx⟩ : ∃ x, as[k]? = some x := ⟨as[k], List.getElem?_eq_getElem hkk⟩
      have kk := kinds_at hx
      rw [hk, h1] at kk
      obtain ⟨v, hv, r⟩ := vt k x hx
      refine ⟨v, by rw [List.getElem?_map, hv]; rfl, ?_⟩
      obtain ⟨d', hd', q'⟩ := at_ k x hx
      rw [h2] at hd'; cases hd'
      cases x with
      | val d' =>
        cases q'
        exact Rp.mono sF r
      | bor i =>
        obtain ⟨a, d2, f, e, hd2, hv2, nf, q2, o1, o2, o3⟩ := own_at hx rfl
        rw [hv] at hv2; cases hv2
        rw [h2] at hd2; cases hd2
        cases d with
        | lst es =>
          obtain ⟨xs, e3, r3⟩ := o3
          refine .lst ?_ (r3.mono sF)
          unfold inF
          rw [if_pos (borA_at hx e)]
          exact e3
        | _ => exact o3.elim
      | io i => simp at kk
  · obtain ⟨m, h1, h2, h3⟩ := init_at q
    cases m with
    | false => exact absurd h3 ng
    | true =>
      have hkk : k < as.length := by
        have := (List.getElem?_eq_some_iff.mp h2).1
        omega
      obtain ⟨x, hx⟩ : ∃ x, as[k]? = some x := ⟨as[k], List.getElem?_eq_getElem hkk⟩
      have kk := kinds_at hx
      rw [hk, h1] at kk
      cases x with
      | val d' => simp at kk
      | bor i => simp at kk
      | io i =>
        obtain ⟨a, d2, f, e, hd2, hv2, nf, q2, o1, o2, o3⟩ := own_at hx rfl
        rw [h2] at hd2; cases hd2
        have nb := io_bor hx e
        refine ⟨a, by rw [List.getElem?_map, hv2]; rfl, ?_, ?_, ?_⟩
        · unfold inF
          rw [if_neg nb]
          exact o1
        · unfold inG
          rw [if_pos (by simp [ioA_at hx e])]
        · cases d with
          | lst es =>
            obtain ⟨xs, e3, r3⟩ := o3
            exact ⟨xs, e3, r3.mono sF⟩
          | _ => exact o3
  · obtain ⟨m, h1, h2, h3⟩ := init_at q
    have hkk : k < as.length := by
      have := (List.getElem?_eq_some_iff.mp h2).1
      omega
    obtain ⟨x, hx⟩ : ∃ x, as[k]? = some x := ⟨as[k], List.getElem?_eq_getElem hkk⟩
    cases m with
    | false => cases h3
    | true =>
      have kk := kinds_at hx
      rw [hk, h1] at kk
      cases x with
      | val d' => simp at kk
      | bor i => simp at kk
      | io i =>
        obtain ⟨a, d2, f, e, hd2, hv2, nf, q2, _⟩ := own_at hx rfl
        refine ⟨a, ?_, by rw [List.getElem?_map, hv2]; rfl⟩
        unfold paOf
        rw [hx]
        simp only [e]
  · have io_of : ∀ {k : Nat} {g : Fg} {d : D}, (init mask ds)[k]? = some (some (g, d)) → g ≠ Fg.shr → ∃ i, as[k]? = some (.io i) := by
      intro k g d q ng
      obtain ⟨m, h1, h2, h3⟩ := init_at q
      cases m with
      | false => exact absurd h3 ng
      | true =>
        have hkk : k < as.length := by
          have := (List.getElem?_eq_some_iff.mp h2).1
          omega
        obtain ⟨x, hx⟩ : ∃ x, as[k]? = some x := ⟨as[k], List.getElem?_eq_getElem hkk⟩
        have kk := kinds_at hx
        rw [hk, h1] at kk
        cases x with
        | val d' => simp at kk
        | bor i => simp at kk
        | io i => exact ⟨i, hx⟩
    obtain ⟨i, hx⟩ := io_of q ng
    obtain ⟨j, hy⟩ := io_of q' ng'
    obtain ⟨b, d1, f, e1, _, hv1, nf, q1, _⟩ := own_at hx rfl
    obtain ⟨b', d2, f', e2, _, hv2, nf', q2, _⟩ := own_at hy rfl
    rw [List.getElem?_map, hv1] at e
    cases e
    rw [List.getElem?_map, hv2]
    intro z
    cases z
    exact E.dist i j f f' d1 d2 _ (slots_ne nd hx hy rfl rfl ne) q1 nf q2 nf' e1 e2
end
/-- the slots behind a call -/
theorem putOuts_length : ∀ (as : List Arg) (ds : List D) (ρ : Env), (putOuts as ds ρ).length = ρ.length
  | [], _, _ => by unfold putOuts; rfl
  | .val _ :: r, [], _ => by unfold putOuts; rfl
  | .bor _ :: r, [], _ => by unfold putOuts; rfl
  | .io _ :: r, [], _ => by unfold putOuts; rfl
  | .val _ :: r, d :: ds, ρ => by unfold putOuts; exact putOuts_length r ds ρ
  | .bor _ :: r, d :: ds, ρ => by unfold putOuts; exact putOuts_length r ds ρ
  | .io i :: r, d :: ds, ρ => by
    unfold putOuts
    rw [putOuts_length r ds]
    split
    · rw [List.length_set]
    · rfl
theorem putOuts_other {i : Nat} : ∀ {as : List Arg} {ds : List D} {ρ : Env}, (∀ k : Nat, as[k]? ≠ some (.io i)) → (putOuts as ds ρ)[i]? = ρ[i]?
  | [], _, _, _ => by unfold putOuts; rfl
  | .val _ :: r, [], _, _ => by unfold putOuts; rfl
  | .bor _ :: r, [], _, _ => by unfold putOuts; rfl
  | .io _ :: r, [], _, _ => by unfold putOuts; rfl
  | .val _ :: r, d :: ds, ρ, h => by unfold putOuts; exact putOuts_other fun k => by simpa using h (k + 1)
  | .bor _ :: r, d :: ds, ρ, h => by unfold putOuts; exact putOuts_other fun k => by simpa using h (k + 1)
  | .io j :: r, d :: ds, ρ, h => by
    unfold putOuts
    rw [putOuts_other fun k => by simpa using h (k + 1)]
    have ne : j ≠ i := by
      rintro rfl
      exact h 0 rfl
    split
    · rw [List.getElem?_set_ne ne]
    · rfl
theorem putOuts_io {i : Nat} {f : Fg} {d0 : D} : ∀ {as : List Arg} {ds : List D} {ρ : Env} {k : Nat}, nodupB (slotsOf as) = true → as[k]? = some (.io i) → ρ[i]? = some (some (f, d0)) → as.length = ds.length → ∃ d, ds[k]? = some d ∧ (putOuts as ds ρ)[i]? = some (some (f, d))
  | [], _, _, k, _, h, _, _ => by simp at h
  | x :: r, [], _, _, _, _, _, h => by simp at h
  | x :: r, d :: ds, ρ, 0, nd, h, hr, hl => by
    simp at h
    subst h
    refine ⟨d, rfl, ?_⟩
    unfold putOuts
    rw [hr]
    simp only [slotsOf, nodupB, Bool.and_eq_true] at nd
    rw [putOuts_other fun k hk => ?_]
    · rw [List.getElem?_set_self (List.getElem?_eq_some_iff.mp hr).1]
    · have m : i ∈ slotsOf r := by
        clear hr hl nd
        induction r generalizing k with
        | nil => simp at hk
        | cons y r ih =>
          cases k with
          | zero => simp at hk; subst hk; simp [slotsOf]
          | succ k =>
            have := ih k (by simpa using hk)
            cases y <;> simp [slotsOf, this]
      have := nd.1
      simp at this
      exact this m
  | x :: r, d :: ds, ρ, k + 1, nd, h, hr, hl => by
    have nd' : nodupB (slotsOf r) = true := by
      cases x <;> simp [slotsOf, nodupB] at nd <;> first | exact nd | exact nd.2
    have h' : r[k]? = some (.io i) := by simpa using h
    have hl' : r.length = ds.length := by simpa using hl
    cases x with
    | val _ => unfold putOuts; simpa using putOuts_io (k := k) nd' h' hr hl'
    | bor _ => unfold putOuts; simpa using putOuts_io (k := k) nd' h' hr hl'
    | io j =>
      have ne : j ≠ i := slots_ne (as := .io j :: r) nd (k := 0) (m := k + 1) rfl h rfl rfl (by omega)
      unfold putOuts
      have hr' : (match ρ[j]? with
        | some (some (f, _)) => ρ.set j (some (f, d))
        | _ => ρ)[i]? = some (some (f, d0)) := by
        split
        · rw [List.getElem?_set_ne ne]; exact hr
        · exact hr
      obtain ⟨d', h1, h2⟩ := putOuts_io (k := k) nd' h' hr' hl'
      exact ⟨d', by simpa using h1, h2⟩
theorem outEnv_at : ∀ {mask : List Bool} {ds : List D} {k : Nat} {d : D}, mask[k]? = some true → ds[k]? = some d → (outEnv mask ds)[k]? = some (some (.pin, d))
  | [], _, _, _, h, _ => by simp at h
  | m :: ms, [], _, _, _, h => by simp at h
  | true :: ms, d' :: ds, 0, d, _, h => by simp at h; subst h; rfl
  | false :: ms, d' :: ds, 0, d, h, _ => by simp at h
  | true :: ms, d' :: ds, k + 1, d, h1, h2 => by simpa [outEnv] using outEnv_at (k := k) (by simpa using h1) (by simpa using h2)
  | false :: ms, d' :: ds, k + 1, d, h1, h2 => by simpa [outEnv] using outEnv_at (k := k) (by simpa using h1) (by simpa using h2)
section
variable {K : PySem.W.Frag} {pa pc : Nat → Option Addr} {F F' G H H' : Hp} {σ : L2.St} {ρ : Env}
theorem sameT_out {B : List Addr} (h : ∀ a ∈ B, ∃ xs, F' a = some (.lst xs)) : SameT F' (outF F' B) := fun a u nu q => by
  unfold outF
  split
  · rename_i hb
    obtain ⟨xs, e⟩ := h a hb
    rw [q] at e
    cases e
    exact absurd rfl (nu xs)
  · exact q
/-- the state behind a call -/
theorem call_out {vs : List V} {as : List Arg} {ds outs : List D} {mask : List Bool} (E : EnvOk K pa F G H σ ρ) (l : ArgsR K F σ vs as) (hk : kindsOf as = mask) (ha : argsOf as ρ = some ds) (nd : nodupB (slotsOf as) = true) (ho : outs.length = as.length)
    (s : Same (inF F H (borA σ as)) F') (E' : EnvOk K pc F' (inG (inF F H (borA σ as)) H (ioA σ as)) H' (vs.map some) (outEnv mask outs)) (hfl : anyBor as = true → outsFlat as outs = true) :
    Same F (outF F' (borA σ as)) ∧ EnvOk K pa (outF F' (borA σ as)) G H' σ (putOuts as outs ρ) ∧
      (∀ {x : V} {r : Vl}, (anyBor as = true → r.flat = true) → Res K F' (inG (inF F H (borA σ as)) H (ioA σ as)) H' (vs.map some) (outEnv mask outs) x r → Res K (outF F' (borA σ as)) G H' σ (putOuts as outs ρ) x r) := by
  obtain ⟨la, at_⟩ := args_at ha
  obtain ⟨lv, vt⟩ := argsR_at l
  have own_at : ∀ {k : Nat} {x : Arg} {i : Nat}, as[k]? = some x → slotOf x = some i → ∃ a d f, σ[i]? = some (some (V.ref a)) ∧ ds[k]? = some d ∧ vs[k]? = some (V.ref a) ∧ f ≠ Fg.shr ∧ ρ[i]? = some (some (f, d)) ∧ OwnAt K F G H a d := by
    intro k x i hx hs
    obtain ⟨d, hd, q⟩ := at_ k x hx
    obtain ⟨v, hv, r⟩ := vt k x hx
    cases x with
    | val d' => cases hs
    | bor j =>
      cases hs
      obtain ⟨f, nf, q⟩ := q
      obtain ⟨a, rfl, e⟩ := r
      obtain ⟨b, e2, o⟩ := E.own _ f d q nf
      rw [e] at e2; cases e2
      exact ⟨a, d, f, e, hd, hv, nf, q, o⟩
    | io j =>
      cases hs
      obtain ⟨f, nf, q⟩ := q
      obtain ⟨a, rfl, e⟩ := r
      obtain ⟨b, e2, o⟩ := E.own _ f d q nf
      rw [e] at e2; cases e2
      exact ⟨a, d, f, e, hd, hv, nf, q, o⟩
  have isl : ∀ {a : Addr} {d : D}, OwnAt K F G H a d → ∃ xs ds, d = .lst ds ∧ H a = some (.lst xs) ∧ Rps K F xs ds := fun {a d} o => by
    obtain ⟨_, _, o3⟩ := o
    cases d with
    | lst es => obtain ⟨xs, e, r⟩ := o3; exact ⟨xs, es, rfl, e, r⟩
    | _ => exact o3.elim
  -- the borrowed ones as they were
  have bor_at : ∀ {a : Addr}, a ∈ borA σ as → F a = none ∧ G a = none ∧ (∃ xs, H a = some (.lst xs)) ∧ F' a = H a ∧ H' a = H a := fun {a} hb => by
    obtain ⟨k, i, h1, h2⟩ := bor_mem hb
    obtain ⟨b, d, f, e1, _, _, nf, q, o⟩ := own_at h1 rfl
    rw [h2] at e1; cases e1
    obtain ⟨xs, ds, _, e, _⟩ := isl o
    have z : F' a = some (.lst xs) := s a _ (by unfold inF; rw [if_pos hb]; exact e)
    exact ⟨o.1, o.2.1, ⟨xs, e⟩, by rw [z, e], by rw [E'.fh a _ z, e]⟩
  have sF : Same F (outF F' (borA σ as)) := fun a o q => by
    have nb : a ∉ borA σ as := fun hb => by rw [(bor_at hb).1] at q; cases q
    unfold outF
    rw [if_neg nb]
    exact s a o (by unfold inF; rw [if_neg nb]; exact q)
  have sT : SameT F' (outF F' (borA σ as)) := sameT_out fun a hb => by
    obtain ⟨_, _, ⟨xs, e⟩, e2, _⟩ := bor_at hb
    exact ⟨xs, by rw [e2]; exact e⟩
  have noB : anyBor as = false → outF F' (borA σ as) = F' := fun h => by
    funext a
    unfold outF
    rw [borA_nil h, if_neg (by simp)]
  have gG : ∀ a o, G a = some o → inG (inF F H (borA σ as)) H (ioA σ as) a = some o := fun a o q => by
    have nf : F a = none := by
      cases z : F a with
      | none => rfl
      | some u => rw [E.fg a u z] at q; cases q
    have nb : a ∉ borA σ as := fun hb => by rw [(bor_at hb).2.1] at q; cases q
    have no : a ∉ ioA σ as := fun hb => by
      obtain ⟨k, i, h1, h2⟩ := io_mem hb
      obtain ⟨b, d, f, e1, _, _, _, _, o⟩ := own_at h1 rfl
      rw [h2] at e1; cases e1
      rw [o.2.1] at q; cases q
    unfold inG inF
    rw [if_neg nb, nf]
    simp [no, E.gh a o q]
  -- an owned slot that isn't handed in by reference
  have other : ∀ {i : Nat} {f : Fg} {d : D} {a : Addr}, ρ[i]? = some (some (f, d)) → f ≠ Fg.shr → σ[i]? = some (some (V.ref a)) → (∀ k : Nat, as[k]? ≠ some (.io i)) → H' a = H a ∧ outF F' (borA σ as) a = none := by
    intro i f d a q nf e hno
    obtain ⟨b, e2, o⟩ := E.own i f d q nf
    rw [e] at e2; cases e2
    obtain ⟨xs, es, _, eh, _⟩ := isl o
    by_cases hb : a ∈ borA σ as
    · refine ⟨(bor_at hb).2.2.2.2, ?_⟩
      unfold outF
      rw [if_pos hb]
    · have no : a ∉ ioA σ as := fun hc => by
        obtain ⟨k, j, h1, h2⟩ := io_mem hc
        obtain ⟨b, d2, f2, e1, _, _, nf2, q2, _⟩ := own_at h1 rfl
        by_cases hij : i = j
        · subst hij; exact hno k h1
        · exact E.dist i j f f2 d d2 a hij q nf q2 nf2 e h2
      have hg : inG (inF F H (borA σ as)) H (ioA σ as) a = some (.lst xs) := by
        unfold inG inF
        rw [if_neg hb, o.1]
        simp [no, eh]
      refine ⟨by rw [E'.gh a _ hg, eh], ?_⟩
      unfold outF
      rw [if_neg hb]
      cases z : F' a with
      | none => rfl
      | some u =>
        rw [E'.fg a u z] at hg
        cases hg
  have rps_out : ∀ {xs : List V} {es : List D}, Rps K F' xs es → (anyBor as = true → D.flats es = true) → Rps K (outF F' (borA σ as)) xs es := fun {xs es} r h => by
    cases z : anyBor as with
    | false => rw [noB z]; exact r
    | true => exact r.flat sT (h z)
  -- a slot handed in by reference
  have byref : ∀ {i k : Nat} {f : Fg} {d0 : D} {a : Addr}, as[k]? = some (.io i) → ρ[i]? = some (some (f, d0)) → f ≠ Fg.shr → σ[i]? = some (some (V.ref a)) → ∃ d, (putOuts as outs ρ)[i]? = some (some (f, d)) ∧ OwnAt K (outF F' (borA σ as)) G H' a d := by
    intro i k f d0 a hx q nf e
    obtain ⟨d, hd, hp⟩ := putOuts_io (k := k) (ds := outs) nd hx q (by omega)
    refine ⟨d, hp, ?_⟩
    have hm : mask[k]? = some true := by
      have kk := kinds_at hx
      rw [hk] at kk
      exact kk
    obtain ⟨b, e2, o1, o2, o3⟩ := E'.own k .pin d (outEnv_at hm hd) (by decide)
    obtain ⟨b2, d2, f2, e1, _, hv, _, _, o⟩ := own_at hx rfl
    rw [e] at e1; cases e1
    rw [List.getElem?_map, hv] at e2
    cases e2
    refine ⟨?_, o.2.1, ?_⟩
    · unfold outF
      split
      · rfl
      · exact o1
    · cases d with
      | lst es =>
        obtain ⟨xs, e3, r3⟩ := o3
        refine ⟨xs, e3, rps_out r3 fun z => ?_⟩
        have h := hfl z
        have of : ∀ {as : List Arg} {outs : List D} {k : Nat}, outsFlat as outs = true → as[k]? = some (.io i) → outs[k]? = some (.lst es) → D.flats es = true := by
          intro as
          induction as with
          | nil => intro outs k _ h; simp at h
          | cons y r ih =>
            intro outs k h h1 h2
            cases outs with
            | nil => simp at h2
            | cons o os =>
              cases k with
              | zero =>
                simp at h1 h2
                subst h1 h2
                simp [outsFlat] at h
                exact h.1
              | succ k =>
                refine ih (outs := os) (k := k) ?_ (by simpa using h1) (by simpa using h2)
                cases y <;> simp [outsFlat] at h <;> first | exact h | exact h.2
        exact of h hx hd
      | _ => exact o3
  have slot_of : ∀ {i : Nat} {f : Fg} {d : D}, (putOuts as outs ρ)[i]? = some (some (f, d)) → ((∀ k : Nat, as[k]? ≠ some (.io i)) ∧ ρ[i]? = some (some (f, d))) ∨ ∃ (k : Nat) (d0 : D), as[k]? = some (.io i) ∧ ρ[i]? = some (some (f, d0)) := by
    intro i f d q
    by_cases h : ∃ k : Nat, as[k]? = some (.io i)
    · obtain ⟨k, hx⟩ := h
      obtain ⟨a, d0, f0, _, _, _, nf, q0, _⟩ := own_at hx rfl
      obtain ⟨d1, _, hp⟩ := putOuts_io (k := k) (ds := outs) nd hx q0 (by omega)
      rw [q] at hp
      cases hp
      exact .inr ⟨k, d0, hx, q0⟩
    · have h' : ∀ k : Nat, as[k]? ≠ some (.io i) := fun k z => h ⟨k, z⟩
      rw [putOuts_other h'] at q
      exact .inl ⟨h', q⟩
  have E2 : EnvOk K pa (outF F' (borA σ as)) G H' σ (putOuts as outs ρ) := by
    refine ⟨fun a o q => ?_, fun a o q => E'.gh a o (gG a o q), fun a o q => ?_, by rw [putOuts_length]; exact E.len, fun i d q => ?_, fun i g d q ng => ?_, fun i d q => ?_, fun i j g g' d d' a ne q ng q' ng' e => ?_⟩
    · unfold outF at q
      split at q
      · cases q
      · exact E'.fh a o q
    · unfold outF at q
      split at q
      · cases q
      · cases z : G a with
        | none => rfl
        | some u =>
          have := gG a u z
          rw [E'.fg a o q] at this
          cases this
    · rcases slot_of q with ⟨_, q⟩ | ⟨k, d0, hx, q0⟩
      · obtain ⟨v, e, r⟩ := E.shr i d q
        exact ⟨v, e, r.mono sF⟩
      · obtain ⟨_, _, f0, _, _, _, nf, q1, _⟩ := own_at hx rfl
        rw [q0] at q1; cases q1
        exact absurd rfl nf
    · rcases slot_of q with ⟨hno, q⟩ | ⟨k, d0, hx, q0⟩
      · obtain ⟨a, e, o⟩ := E.own i g d q ng
        obtain ⟨h1, h2⟩ := other q ng e hno
        refine ⟨a, e, h2, o.2.1, ?_⟩
        obtain ⟨xs, es, rfl, e3, r⟩ := isl o
        exact ⟨xs, by rw [h1]; exact e3, r.mono sF⟩
      · obtain ⟨a, e, _⟩ := E.own i g d0 q0 ng
        obtain ⟨d1, hp, o⟩ := byref hx q0 ng e
        rw [q] at hp; cases hp
        exact ⟨a, e, o⟩
    · rcases slot_of q with ⟨_, q⟩ | ⟨k, d0, hx, q0⟩
      · exact E.pin i d q
      · exact E.pin i d0 q0
    · have old : ∀ {i : Nat} {g : Fg} {d : D}, (putOuts as outs ρ)[i]? = some (some (g, d)) → ∃ d0, ρ[i]? = some (some (g, d0)) := fun {i g d} q => by
        rcases slot_of q with ⟨_, q⟩ | ⟨k, d0, hx, q0⟩
        · exact ⟨d, q⟩
        · exact ⟨d0, q0⟩
      obtain ⟨e0, q0⟩ := old q
      obtain ⟨e1, q1⟩ := old q'
      exact E.dist i j g g' e0 e1 a ne q0 ng q1 ng' e
  refine ⟨sF, E2, fun {x r} hf hr => ?_⟩
  obtain ⟨ow, d⟩ := r
  cases ow with
  | false =>
    have hr' : Rp K F' x d := hr
    show Rp K (outF F' (borA σ as)) x d
    cases z : anyBor as with
    | false => rw [noB z]; exact hr'
    | true => exact hr'.flat sT (hf z)
  | true =>
    obtain ⟨a, rfl, ⟨o1, o2, o3⟩, no⟩ := hr
    have nb : a ∉ borA σ as := fun hb => by
      obtain ⟨_, _, ⟨xs, e⟩, e2, _⟩ := bor_at hb
      rw [e2, e] at o1; cases o1
    refine ⟨a, rfl, ⟨by unfold outF; rw [if_neg nb]; exact o1, ?_, ?_⟩, fun i g d' q ng e => ?_⟩
    · cases z : G a with
      | none => rfl
      | some u => rw [gG a u z] at o2; cases o2
    · cases d with
      | lst es =>
        obtain ⟨xs, e3, r3⟩ := o3
        exact ⟨xs, e3, rps_out r3 fun z => hf z⟩
      | _ => exact o3
    · rcases slot_of q with ⟨hno, q⟩ | ⟨k, d0, hx, q0⟩
      · obtain ⟨b, e2, o⟩ := E.own i g d' q ng
        rw [e] at e2; cases e2
        obtain ⟨xs, es, _, eh, _⟩ := isl o
        have noio : a ∉ ioA σ as := fun hc => by
          obtain ⟨k, j, h1, h2⟩ := io_mem hc
          obtain ⟨b, d2, f2, e1, _, _, nf2, q2, _⟩ := own_at h1 rfl
          by_cases hij : i = j
          · subst hij; exact hno k h1
          · exact E.dist i j g f2 d' d2 a hij q ng q2 nf2 e h2
        have hg : inG (inF F H (borA σ as)) H (ioA σ as) a = some (.lst xs) := by
          unfold inG inF
          rw [if_neg nb, o.1]
          simp [noio, eh]
        rw [hg] at o2; cases o2
      · have hm : mask[k]? = some true := by
          have kk := kinds_at hx
          rw [hk] at kk
          exact kk
        obtain ⟨d1, hd1, _⟩ := putOuts_io (k := k) nd hx q0 (ds := outs) (by omega)
        obtain ⟨b2, d2, f2, e1, _, hv, _, _, _⟩ := own_at hx rfl
        rw [e] at e1; cases e1
        exact no k .pin d1 (outEnv_at hm hd1) (by decide) (by rw [List.getElem?_map, hv]; rfl)
end
section
variable {X : Cx} {Z : Fx} {Γ : Gm} {lev : Nat} {T : Tab} {pos p : Pos}
theorem sndA_nil : PA X [] (Rd Z (lAs Z []) (evA Γ [])) := pa_mono pa_nil fun σ H Q ⟨F, ρ, E, c⟩ => by
  rw [evA] at c
  exact c [] F H (Same.refl F) E ⟨.nil, rfl⟩
theorem sndA_val {e : E} {es : List E} {a : PySem.Expr} {as : List PySem.Expr} (hp : e.peek = none) (hi : e.isIo = none) (ha : PE X a (rdE Z (evE Γ e))) (hs : PA X as (Rd Z (lAs Z es) (evA Γ es))) (hn : nst a = true) :
    PA X (a :: as) (Rd Z (lAs Z (e :: es)) (evA Γ (e :: es))) :=
  pa_mono (pa_cons ha hs (star_cons hn)) fun σ H Q ⟨F, ρ, E, c⟩ => by
    rw [evA, hp, hi] at c
    refine (Cont.bind E c).imp fun x H1 ⟨ra, F1, ρ1, s1, E1, l1, c1⟩ => ?_
    obtain ⟨F2, s2, E2, l2⟩ := E1.share l1
    refine (Cont.bind E2 (c1.mono s2)).imp fun xs H2 ⟨ds, F3, ρ3, s3, E3, l3, c3⟩ => ?_
    exact c3 _ F3 H2 (Same.refl F3) E3 ⟨.val (l2.mono s3) l3.1, by
      show false :: kindsOf ds = PL.E.ioB e :: es.map PL.E.ioB
      rw [l3.2]
      simp [PL.E.ioB, hi]⟩
theorem sndA_bor {e : E} {i : Nat} {es : List E} {a : PySem.Expr} {as : List PySem.Expr} (hp : e.peek = some i) (ha : PE X a (tVar i)) (hs : PA X as (Rd Z (lAs Z es) (evA Γ es))) (hn : nst a = true) :
    PA X (a :: as) (Rd Z (lAs Z (e :: es)) (evA Γ (e :: es))) :=
  pa_mono (pa_cons ha hs (star_cons hn)) fun σ H Q ⟨F, ρ, E, c⟩ => by
    rw [evA, hp] at c
    obtain ⟨b, hb, c1⟩ := see_snd E c
    refine ⟨.ref b, hb, ?_⟩
    refine (Cont.bind E c1).imp fun xs H2 ⟨ds, F3, ρ3, s3, E3, l3, c3⟩ => ?_
    exact c3 _ F3 H2 (Same.refl F3) E3 ⟨.bor hb l3.1, by
      show false :: kindsOf ds = PL.E.ioB e :: es.map PL.E.ioB
      rw [l3.2]
      simp [PL.E.ioB, hp]⟩
theorem sndA_io {e : E} {i : Nat} {es : List E} {a : PySem.Expr} {as : List PySem.Expr} (hp : e.peek = none) (hi : e.isIo = some i) (ha : PE X a (tVar i)) (hs : PA X as (Rd Z (lAs Z es) (evA Γ es))) (hn : nst a = true) :
    PA X (a :: as) (Rd Z (lAs Z (e :: es)) (evA Γ (e :: es))) :=
  pa_mono (pa_cons ha hs (star_cons hn)) fun σ H Q ⟨F, ρ, E, c⟩ => by
    rw [evA, hp, hi] at c
    obtain ⟨b, hb, c1⟩ := see_snd E c
    refine ⟨.ref b, hb, ?_⟩
    refine (Cont.bind E c1).imp fun xs H2 ⟨ds, F3, ρ3, s3, E3, l3, c3⟩ => ?_
    exact c3 _ F3 H2 (Same.refl F3) E3 ⟨.io hb l3.1, by
      show true :: kindsOf ds = PL.E.ioB e :: es.map PL.E.ioB
      rw [l3.2]
      simp [PL.E.ioB, hp, hi]⟩
/-- behind the arguments -/
theorem call_key {σ : L2.St} {F H : Hp} {ρ : Env} {vs : List V} {as : List Arg} {mask : List Bool} {f : Fn} {Q : VK} (E : EnvOk Z.K Z.pa F Z.G H σ ρ) (l : ArgsR Z.K F σ vs as) (hk : kindsOf as = mask) (c : Cont Z (lV Z) σ F (callF f as ρ) Q) :
    spOf Z.K Z.mg mask f vs H Q (fun cl d H' => Z.W cl d σ H') := by
  unfold callF at c
  split at c
  · exact c.elim
  · rename_i ds ha
    split at c
    · exact c.elim
    · rename_i nd
      have nd' : nodupB (slotsOf as) = true := by simpa using nd
      obtain ⟨E1, h1, h2, s0⟩ := call_in E l hk ha nd'
      refine ⟨_, _, _, ds, E1, h1, h2, ?_⟩
      cases q : f ds with
      | ok r outs =>
        rw [q] at c
        intro x F' H' s E' hr
        simp only at c
        split at c
        · exact c.elim
        · rename_i hb
          have hb' : anyBor as = true → r.flat = true ∧ outsFlat as outs = true := fun z => by
            simp [z] at hb
            exact hb
          split at c
          · rename_i ho
            obtain ⟨g1, g2, g3⟩ := call_out E l hk ha nd' ho s E' fun z => (hb' z).2
            exact c x _ H' g1 g2 (g3 (fun z => (hb' z).1) hr)
          · exact c.elim
      | err e outs =>
        rw [q] at c
        intro F' H' cl d s E' hx
        simp only at c
        split at c
        · exact c.elim
        · rename_i hb
          split at c
          · rename_i ho
            have nb : anyBor as = false := by simpa using hb
            obtain ⟨g1, g2, g3⟩ := call_out E l hk ha nd' ho s E' fun z => by rw [nb] at z; cases z
            have e2 : outF F' (borA σ as) = F' := by
              funext a
              unfold outF
              rw [borA_nil nb, if_neg (by simp)]
            rw [e2] at g1 g2
            exact c F' H' cl d g1 g2 hx
          · exact c.elim
      | bad =>
        rw [q] at c
        exact c.elim
theorem snd_call {j : Nat} {x : Str} {mask : List Bool} {es : List E} {a : PySem.Expr} {as : List PySem.Expr} (ft : Fit X Z lev T Γ) (hT : T.fns[j]? = some (x, mask)) (hk : es.map E.ioB = mask) (hg : Gl X x) (hd : (x == ("__debug__" : Str)) = false) (hn : (a :: as).all nst = true)
    (ha : PA X (a :: as) (Rd Z (lAs Z es) (evA Γ es))) : PE X (.Call (.Name x p) (a :: as) [] pos) (rdE Z (evE Γ (.call j es))) := by
  obtain ⟨f, fd, ps, h1, _, h2, h3, h4, h5⟩ := ft.good.fns j x mask hT
  rw [List.all_cons, Bool.and_eq_true] at hn
  refine pe_mono (pe_callSD (E := WE Z.W) h5 ft.room hg h1 h2 h3 .nil (passAt ft.takes) ha hd (star_cons hn.1) (star_any hn.2)) fun σ H Q ⟨F, ρ, E, c⟩ => ?_
  rw [evE] at c
  refine (Cont.bind E c).imp fun vs H1 ⟨ras, F1, ρ1, s1, E1, l1, c1⟩ => ?_
  rw [List.append_nil, ft.hK, ft.hmg]
  exact call_key E1 l1.1 (l1.2.trans hk) c1
/-- a call of the def that a slot holds, what is raised wished for at the caller's slots -/
theorem pe_callLS {i k : Nat} {f : Addr} {fd : FuncData} {ps : List Str} {sp : Sp} {E : L2.St → XK} {x : Str} {e : Expr} {es : List Expr} {t : TA} {CX : CXT} (F : FnOk X.prog X.w X.K X.mg X.base CX k f fd ps sp) (hr : Room k X.A) (hN : X.N[i]? = some x) (hv : Vis X.env.scope x) (hk : PySem.W.keepIn X.K (.ref f) = true) (hb : Binds X.K fd ps []) (hx : ∀ σ, PassesAt CX X σ (E σ)) (ha : PA X (e :: es) t)
    (hdb : (x == ("__debug__" : Str)) = false) (hcd : (x == ("__classdict__" : Str)) = false)
    (he : starEach (e :: es) X.env = (false, eval e X.env) :: starEach es X.env) (hpl : (backTo pos (starEach es X.env)).any (·.1) = false) : PE X (.Call (.Name x p) (e :: es) [] pos) (fun σ H Q => σ[i]? = some (some (.ref f)) ∧ t σ H fun vs H1 => sp (vs ++ []) H1 Q (E σ)) := by
  refine ⟨fun pins s σ H Q I h => ?_⟩
  obtain ⟨hs, ht⟩ := h
  refine wpAny_Call_Name_kw (thn ((pe_var (pos := p) hN hv hdb hcd).run pins s σ H (fun v H1 => v = .ref f ∧ H1 = H) I ⟨.ref f, hs, rfl, rfl⟩) fun u s1 ⟨v, H1, I1, r1, q1⟩ => ?_)
  obtain ⟨rfl, rfl⟩ := q1
  cases r1
  refine PySem.W.callWith_K (h₀ := X.base) I.ok.mod.kin hk (thn (ha.run pos pins s1 σ _ _ I1 ht) fun us s2 ⟨vs, H2, I2, r, q⟩ => ⟨I2.kIn, ?_⟩) he hpl
  exact run_fnSD F hr hb .nil (hx σ) I2 r q
theorem lookup_mem {α : Type} : ∀ {l : List (Str × α)} {y : Str} {j : α}, l.lookup y = some j → (y, j) ∈ l
  | [], y, j, h => by simp at h
  | (k, n) :: r, y, j, h => by
    rw [List.lookup] at h
    cases w : y == k with
    | true =>
      rw [w] at h
      simp at w h
      simp [w, h]
    | false =>
      rw [w] at h
      exact List.mem_cons_of_mem _ (lookup_mem h)
theorem snd_callV {i : Nat} {x : Str} {tbl : List (Str × Nat)} {es : List E} {a : PySem.Expr} {as : List PySem.Expr} (ft : Fit X Z lev T Γ) (hT : ∀ p ∈ tbl, ∃ mask, T.fns[p.2]? = some (p.1, mask) ∧ es.map E.ioB = mask) (hN : X.N[i]? = some x) (hv : Vis X.env.scope x) (hd : (x == ("__debug__" : Str)) = false) (hcd : (x == ("__classdict__" : Str)) = false) (hn : (a :: as).all nst = true)
    (ha : PA X (a :: as) (Rd Z (lAs Z es) (evA Γ es))) : PE X (.Call (.Name x p) (a :: as) [] pos) (rdE Z (evE Γ (.callV i tbl es))) := by
  rw [List.all_cons, Bool.and_eq_true] at hn
  refine ⟨fun pins s σ H Q I ⟨F, ρ, E, c⟩ => ?_⟩
  rw [evE] at c
  cases q : rdVar i ρ with
  | bad => rw [bind_bad q] at c; exact c.elim
  | err e ρ1 =>
    unfold rdVar at q
    split at q <;> cases q
  | ok v ρ1 =>
    rw [bind_ok q] at c
    cases q2 : fnAt tbl v.d with
    | none =>
      rw [q2] at c
      exact c.elim
    | some j =>
      rw [q2] at c
      have c2 : Cont Z (lV Z) σ F ((evA Γ es >>= fun as => callF (Γ.fn j) as) ρ1) Q := c
      obtain ⟨y, e1, e2⟩ : ∃ y, v.d = .fn y ∧ tbl.lookup y = some j := by
        unfold fnAt at q2
        split at q2
        · rename_i y e
          exact ⟨y, e, q2⟩
        · cases q2
      have hm : (y, j) ∈ tbl := lookup_mem e2
      obtain ⟨mask, hT1, hk⟩ := hT _ hm
      obtain ⟨f, fd, ps, h1, h0, h2, h3, h4, h5⟩ := ft.good.fns j y mask hT1
      have sl : ρ1 = ρ ∧ ρ[i]? = some (some (.shr, v.d)) := by
        unfold rdVar at q
        split at q
        · rename_i d e
          cases q
          exact ⟨rfl, e⟩
        · rename_i d e
          cases q
          obtain ⟨a, _, _, _, h9⟩ := E.own i _ _ e (by decide)
          rw [show d = .fn y from e1] at h9
          exact h9.elim
        · cases q
      obtain ⟨rfl, sl⟩ := sl
      obtain ⟨u, s1, r1⟩ := E.shr i _ sl
      rw [e1] at r1
      cases r1
      refine (pe_callLS (E := WE Z.W) h5 ft.room hN hv h2 h3 (passAt ft.takes) ha hd hcd (star_cons hn.1) (star_any hn.2)).run pins s σ H Q I ⟨by rw [s1, h0, ft.hK], ?_⟩
      refine (Cont.bind E c2).imp fun vs H1 ⟨ras, F1, ρ1, s1, E1, l1, c1⟩ => ?_
      rw [List.append_nil, ft.hK, ft.hmg]
      exact call_key E1 l1.1 (l1.2.trans hk) c1
end
end PL
/-! PLIter: what a loop or a comprehension walks, and its targets. -/
namespace PL
open PySem L2 PySem.Spec PyProof.Rows
/-- at each turn the iterator gives the item; it may make one new object -/
structure Yields (K : PySem.W.Frag) (F : Hp) (J : It) (items : List D) : Prop where
  go : ∀ (i : Nat) (H Fc : Hp), Same F Fc → Same Fc H → i < items.length → J.go i H
  stop : ∀ (H Fc : Hp), Same F Fc → Same Fc H → J.stop items.length H
  yld : ∀ (i : Nat) (H Fc : Hp) (d : D), Same F Fc → Same Fc H → items[i]? = some d → ∀ x H', J.yld i H x H' → (H' = H ∧ Rp K Fc x d) ∨ ∃ p o, H p = none ∧ H' = upd H p o ∧ Rp K (upd Fc p o) x d
abbrev lI (Z : Fx) : Lie It (List D) := fun F _ _ _ J ds => Yields Z.K F J ds
abbrev rdI (Z : Fx) (m : M (List D)) : TI := Rd Z (lI Z) m
section
variable {K : PySem.W.Frag} {F : Hp}
theorem yields_list {a : Addr} {xs : List V} {ds : List D} (e : F a = some (.lst xs)) (r : Rps K F xs ds) : Yields K F (Itl K a) ds where
  go := fun i H Fc s1 s2 hi => by
    obtain ⟨x, hx, _⟩ := r.get (i := i) (d := ds[i]) (List.getElem?_eq_getElem hi)
    exact ⟨xs, x, SqL.of (s2 _ _ (s1 _ _ e)), hx⟩
  stop := fun H Fc s1 s2 => ⟨xs, SqL.of (s2 _ _ (s1 _ _ e)), by rw [r.length]; exact Nat.le_refl _⟩
  yld := fun i H Fc d s1 s2 hd x H' y => by
    obtain ⟨rfl, hy⟩ := y
    obtain ⟨v, hv, rv⟩ := r.get hd
    have := hy xs (SqL.of (s2 _ _ (s1 _ _ e)))
    rw [hv] at this
    cases this
    exact .inl ⟨rfl, rv.mono s1⟩
theorem yields_tup {a : Addr} {xs : List V} {ds : List D} (e : SqT K F a xs) (r : Rps K F xs ds) : Yields K F (Itt K a) ds where
  go := fun i H Fc s1 s2 hi => by
    obtain ⟨x, hx, _⟩ := r.get (i := i) (d := ds[i]) (List.getElem?_eq_getElem hi)
    exact ⟨xs, x, sqT_mono s2 (sqT_mono s1 e), hx⟩
  stop := fun H Fc s1 s2 => ⟨xs, sqT_mono s2 (sqT_mono s1 e), by rw [r.length]; exact Nat.le_refl _⟩
  yld := fun i H Fc d s1 s2 hd x H' y => by
    obtain ⟨rfl, hy⟩ := y
    obtain ⟨v, hv, rv⟩ := r.get hd
    have := hy xs (sqT_mono s2 (sqT_mono s1 e))
    rw [hv] at this
    cases this
    exact .inl ⟨rfl, rv.mono s1⟩
theorem rangeD_at {lo hi : Int} {i : Nat} {d : D} (h : (rangeD lo hi)[i]? = some d) : d = .int (lo + (i : Nat)) := by
  unfold rangeD at h
  rw [List.getElem?_map] at h
  cases q : (List.range (hi - lo).toNat)[i]? with
  | none => rw [q] at h; cases h
  | some j =>
    rw [q] at h
    obtain ⟨hj, e⟩ := List.getElem?_eq_some_iff.mp q
    rw [List.getElem_range] at e
    subst e
    exact (Option.some.inj h).symm
theorem rangeD_length (lo hi : Int) : (rangeD lo hi).length = (hi - lo).toNat := by unfold rangeD; rw [List.length_map, List.length_range]
theorem yields_range {lo hi : Int} : Yields K F (Itr lo (hi - lo).toNat) (rangeD lo hi) where
  go := fun i H Fc s1 s2 hi' => by rw [rangeD_length] at hi'; exact hi'
  stop := fun H Fc s1 s2 => by rw [rangeD_length]; exact Nat.le_refl _
  yld := fun i H Fc d s1 s2 hd x H' y => by
    obtain ⟨rfl, rfl⟩ := y
    cases rangeD_at hd
    exact .inl ⟨rfl, .int _⟩
theorem enumD_at : ∀ {ds : List D} {n i : Nat} {d : D}, (enumD n ds)[i]? = some d → ∃ x, ds[i]? = some x ∧ d = .tup [.int ((n + i : Nat) : Int), x]
  | [], n, i, d, h => by simp [enumD] at h
  | x :: xs, n, 0, d, h => by
    simp [enumD] at h
    exact ⟨x, rfl, by rw [← h]; simp⟩
  | x :: xs, n, i + 1, d, h => by
    obtain ⟨y, h1, h2⟩ := enumD_at (ds := xs) (n := n + 1) (i := i) (by simpa [enumD] using h)
    refine ⟨y, by simpa using h1, ?_⟩
    rw [h2]
    have : n + 1 + i = n + (i + 1) := by omega
    rw [this]
theorem enumD_length : ∀ (n : Nat) (ds : List D), (enumD n ds).length = ds.length
  | _, [] => rfl
  | n, _ :: r => by simp [enumD, enumD_length (n + 1) r]
theorem yields_enum {a : Addr} {xs : List V} {ds : List D} (e : F a = some (.lst xs)) (r : Rps K F xs ds) : Yields K F (Ite K a) (enumD 0 ds) where
  go := fun i H Fc s1 s2 hi => by
    rw [enumD_length] at hi
    obtain ⟨x, hx, _⟩ := r.get (i := i) (d := ds[i]) (List.getElem?_eq_getElem hi)
    exact ⟨xs, x, SqL.of (s2 _ _ (s1 _ _ e)), hx⟩
  stop := fun H Fc s1 s2 => by
    rw [enumD_length]
    exact ⟨xs, SqL.of (s2 _ _ (s1 _ _ e)), by rw [r.length]; exact Nat.le_refl _⟩
  yld := fun i H Fc d s1 s2 hd x H' y => by
    obtain ⟨T, z, rfl, hT, rfl, hy⟩ := y
    obtain ⟨d', hd', rfl⟩ := enumD_at hd
    obtain ⟨v, hv, rv⟩ := r.get hd'
    have := hy xs (SqL.of (s2 _ _ (s1 _ _ e)))
    rw [hv] at this
    cases this
    have hF : Fc T = none := s2.free hT
    refine .inr ⟨T, _, hT, rfl, .tup (SqT.of upd_same) ?_⟩
    rw [Nat.zero_add]
    exact .cons (.int _) (.cons ((rv.mono s1).mono (upd_same_of hF)) .nil)
theorem zipD_at : ∀ {xs ys : List D} {i : Nat} {d : D}, (zipD xs ys)[i]? = some d → ∃ x y, xs[i]? = some x ∧ ys[i]? = some y ∧ d = .tup [x, y]
  | [], _, i, d, h => by simp [zipD] at h
  | _ :: _, [], i, d, h => by simp [zipD] at h
  | x :: xs, y :: ys, 0, d, h => by
    simp [zipD] at h
    exact ⟨x, y, rfl, rfl, h.symm⟩
  | x :: xs, y :: ys, i + 1, d, h => by
    obtain ⟨a, b, h1, h2, h3⟩ := zipD_at (xs := xs) (ys := ys) (i := i) (by simpa [zipD] using h)
    exact ⟨a, b, by simpa using h1, by simpa using h2, h3⟩
theorem zipD_length : ∀ (xs ys : List D), (zipD xs ys).length = min xs.length ys.length
  | [], _ => by simp [zipD]
  | _ :: _, [] => by simp [zipD]
  | x :: xs, y :: ys => by
    have := zipD_length xs ys
    simp only [zipD, List.length_cons]
    omega
theorem yields_zip {a b : Addr} {xs ys : List V} {ds es : List D} (e : F a = some (.lst xs)) (r : Rps K F xs ds) (e' : F b = some (.lst ys)) (r' : Rps K F ys es) : Yields K F (Itz K a b) (zipD ds es) where
  go := fun i H Fc s1 s2 hi => by
    rw [zipD_length] at hi
    obtain ⟨x, hx, _⟩ := r.get (i := i) (d := ds[i]'(by omega)) (List.getElem?_eq_getElem (by omega))
    obtain ⟨y, hy, _⟩ := r'.get (i := i) (d := es[i]'(by omega)) (List.getElem?_eq_getElem (by omega))
    exact ⟨xs, ys, x, y, SqL.of (s2 _ _ (s1 _ _ e)), SqL.of (s2 _ _ (s1 _ _ e')), hx, hy⟩
  stop := fun H Fc s1 s2 => by
    rw [zipD_length]
    exact ⟨xs, ys, SqL.of (s2 _ _ (s1 _ _ e)), SqL.of (s2 _ _ (s1 _ _ e')), by rw [r.length, r'.length]; omega⟩
  yld := fun i H Fc d s1 s2 hd x H' y => by
    obtain ⟨T, z1, z2, rfl, hT, rfl, hy1, hy2⟩ := y
    obtain ⟨d1, d2, hd1, hd2, rfl⟩ := zipD_at hd
    obtain ⟨v, hv, rv⟩ := r.get hd1
    obtain ⟨w, hw, rw'⟩ := r'.get hd2
    have q1 := hy1 xs (SqL.of (s2 _ _ (s1 _ _ e)))
    have q2 := hy2 ys (SqL.of (s2 _ _ (s1 _ _ e')))
    rw [hv] at q1
    rw [hw] at q2
    cases q1; cases q2
    have hF : Fc T = none := s2.free hT
    exact .inr ⟨T, _, hT, rfl, .tup (SqT.of upd_same) (.cons ((rv.mono s1).mono (upd_same_of hF)) (.cons ((rw'.mono s1).mono (upd_same_of hF)) .nil))⟩
theorem yields_zipT {a b : Addr} {xs ys : List V} {ds es : List D} (e : SqT K F a xs) (r : Rps K F xs ds) (e' : SqT K F b ys) (r' : Rps K F ys es) : Yields K F (RZ.ItzT K a b) (zipD ds es) where
  go := fun i H Fc s1 s2 hi => by
    rw [zipD_length] at hi
    obtain ⟨x, hx, _⟩ := r.get (i := i) (d := ds[i]'(by omega)) (List.getElem?_eq_getElem (by omega))
    obtain ⟨y, hy, _⟩ := r'.get (i := i) (d := es[i]'(by omega)) (List.getElem?_eq_getElem (by omega))
    exact ⟨xs, ys, x, y, sqT_mono s2 (sqT_mono s1 e), sqT_mono s2 (sqT_mono s1 e'), hx, hy⟩
  stop := fun H Fc s1 s2 => by
    rw [zipD_length]
    exact ⟨xs, ys, sqT_mono s2 (sqT_mono s1 e), sqT_mono s2 (sqT_mono s1 e'), by rw [r.length, r'.length]; omega⟩
  yld := fun i H Fc d s1 s2 hd x H' y => by
    obtain ⟨T, z1, z2, rfl, hT, rfl, hy1, hy2⟩ := y
    obtain ⟨d1, d2, hd1, hd2, rfl⟩ := zipD_at hd
    obtain ⟨v, hv, rv⟩ := r.get hd1
    obtain ⟨w, hw, rw'⟩ := r'.get hd2
    have q1 := hy1 xs (sqT_mono s2 (sqT_mono s1 e))
    have q2 := hy2 ys (sqT_mono s2 (sqT_mono s1 e'))
    rw [hv] at q1
    rw [hw] at q2
    cases q1; cases q2
    have hF : Fc T = none := s2.free hT
    exact .inr ⟨T, _, hT, rfl, .tup (SqT.of upd_same) (.cons ((rv.mono s1).mono (upd_same_of hF)) (.cons ((rw'.mono s1).mono (upd_same_of hF)) .nil))⟩
end
theorem pi_mono {X : Cx} {tg e : PySem.Expr} {t t' : TI} (h : PI X tg e t) (i : ∀ σ H Q, t' σ H Q → t σ H Q) : PI X tg e t' := ⟨fun pins s σ H Q I q => h.run pins s σ H Q I (i σ H Q q)⟩
section
variable {X : Cx} {Z : Fx} {Γ : Gm} {lev : Nat} {T : Tab} {pos p tpos : Pos} {tg : PySem.Expr}
/-- a list or a tuple -/
theorem pi_seq {l : PySem.Expr} {tl : TE} (hl : PE X l tl) : PI X tg l (fun σ H R => tl σ H fun x H1 => (∃ a, x = .ref a ∧ (∃ xs, SqL X.K H1 a xs) ∧ R (Itl X.K a) H1) ∨ ∃ a, x = .ref a ∧ (∃ xs, SqT X.K H1 a xs) ∧ R (Itt X.K a) H1) := by
  refine ⟨fun pins s σ H R I h => ?_⟩
  refine thn (hl.run pins s σ H _ I h) fun v s1 ⟨x, H1, I1, r1, q1⟩ => ?_
  rcases q1 with ⟨a, e, ⟨xs, hq⟩, q⟩ | ⟨a, e, ⟨xs, hq⟩, q⟩
  · subst e
    cases r1
    obtain ⟨its, rv, p, hz⟩ := I1.list hq
    refine wpAny_pyIter_list p.isList ?_
    refine ⟨s1.heap.objs.size, [s1.heap.objs.size], _, _, H1, rfl, I1.kept (t' := s1.toks) fun b o e => Heap.get?_push_of_some _ e, turn_list a _, ⟨_, Heap.get?_push_size _ rfl, rfl, rfl⟩, fun b hb => ?_, q⟩
    have e : b = s1.heap.objs.size := by simpa using hb
    subst e
    exact I1.fpOk (Nat.le_refl _) (I1.hok.fresh (Nat.le_refl _))
  · subst e
    cases r1
    obtain ⟨its, rv, p, hz⟩ := I1.tuple hq
    refine wpAny_pyIter_tuple (show s1.heap.IsTuple a its.toArray from p) ?_
    refine ⟨s1.heap.objs.size, [s1.heap.objs.size], _, _, H1, rfl, I1.kept (t' := s1.toks) fun b o e => Heap.get?_push_of_some _ e, turn_tuple a _, ⟨_, Heap.get?_push_size _ rfl, rfl, rfl⟩, fun b hb => ?_, q⟩
    have e : b = s1.heap.objs.size := by simpa using hb
    subst e
    exact I1.fpOk (Nat.le_refl _) (I1.hok.fresh (Nat.le_refl _))
theorem sndI_seq {a : E} {x : PySem.Expr} (hK : X.K = Z.K) (ha : PE X x (rdE Z (evE Γ a))) : PI X tg x (rdI Z (evSrc Γ 0 a none)) := by
  refine pi_mono (pi_seq ha) fun σ H Q ⟨F, ρ, E, c⟩ => ?_
  unfold evSrc at c
  refine (Cont.bind E c).imp fun v H1 ⟨r, F1, ρ1, s1, E1, l1, c1⟩ => ?_
  obtain ⟨F2, s2, E2, l2⟩ := E1.share l1
  rw [evO, ret_bind] at c1
  obtain ⟨ds, e, c2⟩ := cont_opt c1
  have c3 := c2.mono s2
  obtain ⟨ow, d⟩ := r
  cases d with
  | lst l =>
    cases e
    cases l2 with
    | lst hs hr => exact .inl ⟨_, rfl, ⟨_, SqL.of (E2.fh _ _ hs)⟩, by rw [hK]; exact c3.ok E2 (yields_list hs hr)⟩
  | tup l =>
    cases e
    cases l2 with
    | tup hs hr => exact .inr ⟨_, rfl, ⟨_, by rw [hK]; exact sqT_mono E2.fh hs⟩, by rw [hK]; exact c3.ok E2 (yields_tup hs hr)⟩
  | _ => cases e
theorem sndI_rng1 {a : E} {x : PySem.Expr} (hg : Gl X "range") (hm : X.mg "range" = none) (hn : nst x = true) (ha : PE X x (rdE Z (evE Γ a))) : PI X tg (.Call (.Name "range" p) [x] [] pos) (rdI Z (evSrc Γ 1 a none)) := by
  refine pi_mono (pi_range1 hg hm (pa_cons ha pa_nil (star_cons hn)) (star_cons hn)) fun σ H Q ⟨F, ρ, E, c⟩ => ?_
  unfold evSrc at c
  refine (Cont.bind E c).imp fun v H1 ⟨r, F1, ρ1, s1, E1, l1, c1⟩ => ?_
  rw [evO, ret_bind] at c1
  obtain ⟨ds, e, c2⟩ := cont_opt c1
  obtain ⟨F2, s2, E2, l2⟩ := E1.share l1
  have c3 := c2.mono s2
  obtain ⟨ow, d⟩ := r
  cases d with
  | int n =>
    simp only [itemsOf] at e
    split at e
    · rename_i ok
      cases e
      cases l2
      have ok' := of_decide_eq_true ok
      refine ⟨n, rfl, ok'.2.2.1, ok'.2.2.2, ?_⟩
      have y : Yields Z.K F2 (Itr 0 (n - 0).toNat) (rangeD 0 n) := yields_range
      rw [Int.sub_zero] at y
      exact c3.ok E2 y
    · cases e
  | _ => cases e
theorem sndI_rng2 {a b : E} {x y : PySem.Expr} (hg : Gl X "range") (hm : X.mg "range" = none) (hn : nst x = true) (hn2 : nst y = true) (ha : PE X x (rdE Z (evE Γ a))) (hb : PE X y (rdE Z (evE Γ b))) : PI X tg (.Call (.Name "range" p) [x, y] [] pos) (rdI Z (evSrc Γ 2 a (some b))) := by
  refine pi_mono (pi_range2 hg hm (pa_cons ha (pa_cons hb pa_nil (star_cons hn2)) (star_cons hn)) (by rw [star_cons hn, star_cons hn2]; rfl) (star_cons hn2)) fun σ H Q ⟨F, ρ, E, c⟩ => ?_
  unfold evSrc at c
  refine (Cont.bind E c).imp fun v H1 ⟨r, F1, ρ1, s1, E1, l1, c1⟩ => ?_
  obtain ⟨F2, s2, E2, l2⟩ := E1.share l1
  rw [evO, bind_assoc] at c1
  refine (Cont.bind E2 (c1.mono s2)).imp fun w H3 ⟨r', F3, ρ3, s3, E3, l3, c3⟩ => ?_
  obtain ⟨F4, s4, E4, l4⟩ := E3.share l3
  rw [ret_bind] at c3
  obtain ⟨ds, e, c5⟩ := cont_opt c3
  have c6 := c5.mono s4
  obtain ⟨ow, d⟩ := r
  obtain ⟨ow', d'⟩ := r'
  unfold itemsOf at e
  split at e <;> try (cases e; done)
  · rename_i h1 h2 h3
    simp at h1
  · rename_i h1 h2 h3
    simp at h1
  · rename_i h1 h2 h3
    simp at h1
  · rename_i a1 b1 h1 h2 h3
    split at e
    · rename_i ok
      cases e
      cases h2
      cases h3
      cases l2
      cases l4
      have ok' := of_decide_eq_true ok
      exact ⟨_, _, rfl, ok', c6.ok E4 yields_range⟩
    · cases e
  all_goals (rename_i h1 h2 h3; simp at h1)
theorem sndI_enum {a : E} {x : PySem.Expr} {elts : List PySem.Expr} {kk : Nat} (hK : X.K = Z.K) (hg : Gl X "enumerate") (hm : X.mg "enumerate" = none) (hn : nst x = true) (ha : PE X x (rdE Z (evE Γ a))) :
    PI X (.Tuple elts kk tpos) (.Call (.Name "enumerate" p) [x] [] pos) (rdI Z (evSrc Γ 3 a none)) := by
  refine pi_mono (pi_enum hg hm (pa_cons ha pa_nil (star_cons hn)) (star_cons hn)) fun σ H Q ⟨F, ρ, E, c⟩ => ?_
  unfold evSrc at c
  refine (Cont.bind E c).imp fun v H1 ⟨r, F1, ρ1, s1, E1, l1, c1⟩ => ?_
  rw [evO, ret_bind] at c1
  obtain ⟨ds, e, c2⟩ := cont_opt c1
  obtain ⟨F2, s2, E2, l2⟩ := E1.share l1
  have c3 := c2.mono s2
  obtain ⟨ow, d⟩ := r
  cases d with
  | lst l =>
    cases e
    cases l2 with
    | lst hs hr => exact ⟨_, _, rfl, SqL.of (E2.fh _ _ hs), by rw [hK]; exact c3.ok E2 (yields_enum hs hr)⟩
  | _ => cases e
theorem sndI_zip {a b : E} {x y : PySem.Expr} {elts : List PySem.Expr} {kk : Nat} (hK : X.K = Z.K) (hg : Gl X "zip") (hm : X.mg "zip" = none) (hn : nst x = true) (hn2 : nst y = true) (ha : PE X x (rdE Z (evE Γ a))) (hb : PE X y (rdE Z (evE Γ b))) :
    PI X (.Tuple elts kk tpos) (.Call (.Name "zip" p) [x, y] [] pos) (rdI Z (evSrc Γ 4 a (some b))) := by
  refine pi_mono (RZ.pi_zipA hg hm (pa_cons ha (pa_cons hb pa_nil (star_cons hn2)) (star_cons hn)) (star_cons hn) (star_any (es := [y]) (by simp [hn2]))) fun σ H Q ⟨F, ρ, E, c⟩ => ?_
  unfold evSrc at c
  refine (Cont.bind E c).imp fun v H1 ⟨r, F1, ρ1, s1, E1, l1, c1⟩ => ?_
  obtain ⟨F2, s2, E2, l2⟩ := E1.share l1
  rw [evO, bind_assoc] at c1
  refine (Cont.bind E2 (c1.mono s2)).imp fun w H3 ⟨r', F3, ρ3, s3, E3, l3, c3⟩ => ?_
  obtain ⟨F4, s4, E4, l4⟩ := E3.share l3
  rw [ret_bind] at c3
  obtain ⟨ds, e, c5⟩ := cont_opt c3
  have c6 := c5.mono s4
  have l6 := l2.mono (s3.trans s4)
  obtain ⟨ow, d⟩ := r
  obtain ⟨ow', d'⟩ := r'
  cases d with
  | lst l =>
    cases d' with
    | lst l' =>
      cases e
      cases l6 with
      | lst hs hr =>
        cases l4 with
        | lst hs' hr' => exact ⟨_, _, _, _, rfl, .inl ⟨SqL.of (E4.fh _ _ hs), SqL.of (E4.fh _ _ hs'), by rw [hK]; exact c6.ok E4 (yields_zip hs hr hs' hr')⟩⟩
    | _ => cases e
  | tup l =>
    cases d' with
    | tup l' =>
      cases e
      cases l6 with
      | tup hs hr =>
        cases l4 with
        | tup hs' hr' => exact ⟨_, _, _, _, rfl, .inr ⟨by rw [hK]; exact sqT_mono E4.fh hs, by rw [hK]; exact sqT_mono E4.fh hs', by rw [hK]; exact c6.ok E4 (yields_zipT hs hr hs' hr')⟩⟩
    | _ => cases e
  | _ => cases e
/-! ### targets -/
mutual
def Tg.slots : Tg → List Nat
  | .nm i => [i]
  | .tup ts => slotsTg ts
def slotsTg : List Tg → List Nat
  | [] => []
  | t :: ts => t.slots ++ slotsTg ts
end
/-- an assignment's reading: the slots of the target alone change -/
def rdG (Z : Fx) (sl : List Nat) (f : D → M Unit) : TG := fun v σ H Q => ∃ F ρ d, EnvOk Z.K Z.pa F Z.G H σ ρ ∧ Rp Z.K F v d ∧ match f d ρ with
  | .ok _ ρ' => ∀ σ', EnvOk Z.K Z.pa F Z.G H σ' ρ' → σ'.length = σ.length → (∀ i, i ∉ sl → σ'[i]? = σ[i]?) → Q σ' H
  | _ => False
def rdGs (Z : Fx) (sl : List Nat) (f : List D → M Unit) : TGs := fun vs σ H Q => ∃ F ρ ds, EnvOk Z.K Z.pa F Z.G H σ ρ ∧ Rps Z.K F vs ds ∧ match f ds ρ with
  | .ok _ ρ' => ∀ σ', EnvOk Z.K Z.pa F Z.G H σ' ρ' → σ'.length = σ.length → (∀ i, i ∉ sl → σ'[i]? = σ[i]?) → Q σ' H
  | _ => False
/-- a slot gets a value -/
theorem EnvOk.put {K : PySem.W.Frag} {pa : Nat → Option Addr} {F G H : Hp} {σ : L2.St} {ρ ρ' : Env} {i : Nat} {v : V} {r : Vl} (E : EnvOk K pa F G H σ ρ) (h : Res K F G H σ ρ v r) (e : PL.put i r ρ = .ok () ρ') : EnvOk K pa F G H (σ.set i (some v)) ρ' := by
  have fin : (∃ s : Slot, ρ[i]? = some s ∧ ∀ d, s ≠ some (Fg.pin, d)) ∧ ρ' = ρ.set i (some (if r.own then .own else .shr, r.d)) := by
    unfold PL.put at e
    split at e
    · cases e
    · rename_i s np q
      cases e
      exact ⟨⟨s, q, fun d z => np d z⟩, rfl⟩
    · cases e
  obtain ⟨⟨s, q, np⟩, rfl⟩ := fin
  have hi : i < ρ.length := (List.getElem?_eq_some_iff.mp q).1
  have hi' : i < σ.length := by rw [← E.len]; exact hi
  refine ⟨E.fh, E.gh, E.fg, by rw [List.length_set, List.length_set]; exact E.len, fun j d z => ?_, fun j g d z ng => ?_, fun j d z => ?_, fun j k g g' d d' a ne z ng z' ng' ea => ?_⟩
  · by_cases hj : i = j
    · subst hj
      rw [List.getElem?_set_self hi] at z
      rw [List.getElem?_set_self hi']
      obtain ⟨ow, rd⟩ := r
      cases ow with
      | true => simp at z
      | false =>
        simp at z
        subst z
        exact ⟨v, rfl, h⟩
    · rw [List.getElem?_set_ne hj] at z
      rw [List.getElem?_set_ne hj]
      exact E.shr j d z
  · by_cases hj : i = j
    · subst hj
      rw [List.getElem?_set_self hi] at z
      rw [List.getElem?_set_self hi']
      obtain ⟨ow, rd⟩ := r
      cases ow with
      | false =>
        simp at z
        exact absurd z.1.symm ng
      | true =>
        simp at z
        obtain ⟨_, rfl⟩ := z
        obtain ⟨a, rfl, o, _⟩ := h
        exact ⟨a, rfl, o⟩
    · rw [List.getElem?_set_ne hj] at z
      rw [List.getElem?_set_ne hj]
      exact E.own j g d z ng
  · by_cases hj : i = j
    · subst hj
      rw [List.getElem?_set_self hi] at z
      obtain ⟨ow, rd⟩ := r
      cases ow <;> simp at z
    · rw [List.getElem?_set_ne hj] at z
      rw [List.getElem?_set_ne hj]
      exact E.pin j d z
  · have mine : ∀ {k : Nat} {g : Fg} {d : D} {a : Addr}, (ρ.set i (some (if r.own then Fg.own else Fg.shr, r.d)))[i]? = some (some (g, d)) → g ≠ Fg.shr → (σ.set i (some v))[i]? = some (some (V.ref a)) → NotOwn σ ρ a := by
      intro k g d a z ng ea
      rw [List.getElem?_set_self hi] at z
      rw [List.getElem?_set_self hi'] at ea
      obtain ⟨ow, rd⟩ := r
      cases ow with
      | false => simp at z; exact absurd z.1.symm ng
      | true =>
        obtain ⟨b, rfl, o, no⟩ := h
        cases ea
        exact no
    by_cases hj : i = j
    · subst hj
      have no := mine (k := i) z ng ea
      rw [List.getElem?_set_ne ne] at z' ⊢
      exact no k g' d' z' ng'
    · rw [List.getElem?_set_ne hj] at z ea
      by_cases hk : i = k
      · subst hk
        intro q'
        exact mine (k := i) z' ng' q' j g d z ng ea
      · rw [List.getElem?_set_ne hk] at z' ⊢
        exact E.dist j k g g' d d' a ne z ng z' ng' ea
theorem pg_mono {e : PySem.Expr} {t t' : TG} (h : PG X e t) (i : ∀ v σ H Q, t' v σ H Q → t v σ H Q) : PG X e t' := ⟨fun pins s σ H v u Q I r q => h.run pins s σ H v u Q I r (i v σ H Q q)⟩
theorem pgs_mono {e : List PySem.Expr} {t t' : TGs} (h : PGs X e t) (i : ∀ v σ H Q, t' v σ H Q → t v σ H Q) : PGs X e t' := ⟨fun pins s σ H v u Q I r q => h.run pins s σ H v u Q I r (i v σ H Q q)⟩
theorem sndG_nm {i : Nat} {x : Str} (hN : X.N.Nodup) (hi : X.N[i]? = some x) (hx : Loc X.env.scope x) (hf : X.fn x = true ∨ X.env.scope.names.lookup x = some .local) : PG X (.Name x pos) (rdG Z [i] (asgTg (.nm i))) :=
  pg_mono (pg_name hN hi hx hf) fun v σ H Q ⟨F, ρ, d, E, r, c⟩ => by
    rw [asgTg] at c
    cases q : put i (sh d) ρ with
    | ok u ρ' =>
      rw [q] at c
      exact c _ (E.put (r := sh d) r q) List.length_set fun j hj => List.getElem?_set_ne (fun e => hj (by simp [e]))
    | err e ρ' => rw [q] at c; exact c.elim
    | bad => rw [q] at c; exact c.elim
theorem sndGs_nil : PGs X [] (rdGs Z [] (asgTgs [])) := pgs_mono pgs_nil fun vs σ H Q ⟨F, ρ, ds, E, r, c⟩ => by
  cases ds with
  | nil =>
    rw [asgTgs] at c
    cases r
    exact ⟨rfl, c σ E rfl fun _ _ => rfl⟩
  | cons d ds =>
    rw [asgTgs] at c
    exact c.elim
theorem assign_cons {e : PySem.Expr} {es : List PySem.Expr} {env : PySem.Env} (h : nst e = true) : assignEach (e :: es) env = (false, assign e env) :: assignEach es env := by
  cases e <;> first | rfl | cases h
theorem sndGs_cons {t : Tg} {ts : List Tg} {a : PySem.Expr} {as : List PySem.Expr} (hn : nst a = true) (ha : PG X a (rdG Z t.slots (asgTg t))) (hs : PGs X as (rdGs Z (slotsTg ts) (asgTgs ts))) : PGs X (a :: as) (rdGs Z (slotsTg (t :: ts)) (asgTgs (t :: ts))) :=
  pgs_mono (pgs_cons ha hs (by rw [assign_cons hn] <;> rfl)) fun vs σ H Q ⟨F, ρ, ds, E, r, c⟩ => by
    cases r with
    | nil =>
      rw [asgTgs] at c
      exact c.elim
    | @cons v vs d ds r1 rs =>
      rw [asgTgs] at c
      refine ⟨v, vs, rfl, F, ρ, d, E, r1, ?_⟩
      cases q : asgTg t d ρ with
      | ok u ρ1 =>
        rw [bind_ok q] at c
        intro σ1 E1 m1 k1
        refine ⟨F, ρ1, ds, E1, rs, ?_⟩
        cases q2 : asgTgs ts ds ρ1 with
        | ok u2 ρ2 =>
          rw [q2] at c
          intro σ2 E2 m2 k2
          refine c σ2 E2 (m2.trans m1) fun i hi => ?_
          rw [slotsTg, List.mem_append, not_or] at hi
          rw [k2 i hi.2, k1 i hi.1]
        | err e ρ2 => rw [q2] at c; exact c.elim
        | bad => rw [q2] at c; exact c.elim
      | err e ρ1 => rw [bind_err q] at c; exact c.elim
      | bad => rw [bind_bad q] at c; exact c.elim
theorem assign_len {env : PySem.Env} : ∀ {es : List PySem.Expr}, es.all nst = true → (assignEach es env).length = es.length ∧ (assignEach es env).findIdx? (·.1) = none
  | [], _ => ⟨rfl, rfl⟩
  | e :: es, h => by
    rw [List.all_cons, Bool.and_eq_true] at h
    obtain ⟨h1, h2⟩ := assign_len (env := env) h.2
    rw [assign_cons h.1]
    refine ⟨by simp [h1], ?_⟩
    rw [List.findIdx?_cons, h2]
    rfl
theorem sndG_tup {ts : List Tg} {as : List PySem.Expr} {k : Nat} (hK : X.K = Z.K) (hc : X.calm = true) (hl : ts.length = as.length) (hn : as.all nst = true) (hs : PGs X as (rdGs Z (slotsTg ts) (asgTgs ts))) : PG X (.Tuple as k pos) (rdG Z (Tg.slots (.tup ts)) (asgTg (.tup ts))) :=
  pg_mono (pg_tup (n := as.length) hc hs (assign_len hn).1 (assign_len hn).2) fun v σ H Q ⟨F, ρ, d, E, r, c⟩ => by
    cases d with
    | tup ds =>
      rw [asgTg] at c
      by_cases h : ts.length = ds.length
      · rw [if_pos h] at c
        cases r with
        | tup h1 h2 => exact ⟨_, _, rfl, by rw [hK]; exact sqT_mono E.fh h1, by rw [h2.length, ← h, hl], F, ρ, ds, E, h2, by rw [Tg.slots] at c; exact c⟩
      · rw [if_neg h] at c
        exact c.elim
    | _ =>
      rw [asgTg] at c
      · exact c.elim
      all_goals (intro ds z; cases z)
end
end PL
/-! PLComp: comprehensions. -/
namespace PL
open PySem L2 PySem.Spec PyProof.Rows
theorem wipe_get {ρ : Env} {i : Nat} : ∀ {vs : List Nat} {x : Fg × D}, (PL.wipe ρ vs)[i]? = some (some x) → ρ[i]? = some (some x) ∧ i ∉ vs
  | [], x, h => ⟨h, by simp⟩
  | v :: vs, x, h => by
    unfold PL.wipe at h
    by_cases hi : v = i
    · subst hi
      by_cases hv : v < (PL.wipe ρ vs).length
      · rw [List.getElem?_set_self hv] at h; cases h
      · rw [List.getElem?_eq_none (by simpa using hv)] at h; cases h
    · rw [List.getElem?_set_ne hi] at h
      obtain ⟨h1, h2⟩ := wipe_get h
      exact ⟨h1, by simp only [List.mem_cons, not_or]; exact ⟨fun e => hi e.symm, h2⟩⟩
theorem wipe_len (ρ : Env) : ∀ vs : List Nat, (PL.wipe ρ vs).length = ρ.length
  | [] => rfl
  | v :: vs => by unfold PL.wipe; rw [List.length_set, wipe_len ρ vs]
theorem restore_len (ρ0 ρ : Env) : ∀ vs : List Nat, (restore ρ0 ρ vs).length = ρ.length
  | [] => rfl
  | v :: vs => by unfold restore; rw [List.length_set, restore_len ρ0 ρ vs]
theorem restore_get {ρ0 ρ : Env} {i : Nat} {x : Fg × D} : ∀ {vs : List Nat}, (restore ρ0 ρ vs)[i]? = some (some x) → (i ∈ vs ∧ ρ0[i]? = some (some x)) ∨ (i ∉ vs ∧ ρ[i]? = some (some x))
  | [], h => .inr ⟨by simp, h⟩
  | v :: vs, h => by
    unfold restore at h
    by_cases hi : v = i
    · subst hi
      by_cases hv : v < (restore ρ0 ρ vs).length
      · rw [List.getElem?_set_self hv] at h
        refine .inl ⟨by simp, ?_⟩
        have h2 : ρ0.getD v none = some x := Option.some.inj h
        rw [List.getD_eq_getElem?_getD] at h2
        cases q : ρ0[v]? with
        | none => rw [q] at h2; cases h2
        | some y => rw [q] at h2; exact congrArg some h2
      · rw [List.getElem?_eq_none (by simpa using hv)] at h; cases h
    · rw [List.getElem?_set_ne hi] at h
      rcases restore_get h with ⟨h1, h2⟩ | ⟨h1, h2⟩
      · exact .inl ⟨List.mem_cons_of_mem _ h1, h2⟩
      · exact .inr ⟨by simp only [List.mem_cons, not_or]; exact ⟨fun e => hi e.symm, h1⟩, h2⟩
theorem noOwned_at {ρ : Env} {i : Nat} {f : Fg} {d : D} : ∀ {vs : List Nat}, noOwned ρ vs = true → i ∈ vs → ρ[i]? = some (some (f, d)) → f = .shr
  | [], _, h, _ => by cases h
  | v :: vs, h, hm, e => by
    unfold noOwned at h
    rw [Bool.and_eq_true] at h
    rcases List.mem_cons.mp hm with rfl | hm
    · rw [e] at h
      cases f with
      | shr => rfl
      | own => simp at h
      | pin => simp at h
    · exact noOwned_at h.2 hm e
theorem l2wipe_out {σ : L2.St} {i : Nat} : ∀ {vs : List Nat}, i ∉ vs → (L2.wipe σ vs)[i]? = σ[i]? := fun h => L2.wipe_out h
/-- two stores that agree outside -/
theorem l2wipe_eq {σ σ' : L2.St} {vs : List Nat} (hl : σ.length = σ'.length) (h : ∀ i, i ∉ vs → σ[i]? = σ'[i]?) : L2.wipe σ vs = L2.wipe σ' vs := by
  have at_ : ∀ (τ : L2.St) (i : Nat) (ws : List Nat), i ∈ ws → i < τ.length → (L2.wipe τ ws)[i]? = some none := by
    intro τ i ws
    induction ws with
    | nil => intro hm; cases hm
    | cons w ws ih =>
      intro hm hlt
      unfold L2.wipe
      by_cases hw : w = i
      · subst hw
        rw [List.getElem?_set_self (by rw [L2.wipe_length]; exact hlt)]
      · rw [List.getElem?_set_ne hw]
        rcases List.mem_cons.mp hm with rfl | hm
        · exact absurd rfl hw
        · exact ih hm hlt
  apply List.ext_getElem?
  intro i
  by_cases hi : i ∈ vs
  · by_cases hlt : i < σ.length
    · rw [at_ σ i vs hi hlt, at_ σ' i vs hi (by omega)]
    · rw [List.getElem?_eq_none (by rw [L2.wipe_length]; omega), List.getElem?_eq_none (by rw [L2.wipe_length]; omega)]
  · rw [l2wipe_out hi, l2wipe_out hi, h i hi]
section
variable {K : PySem.W.Frag} {pa : Nat → Option Addr} {F G H : Hp} {σ : L2.St} {ρ : Env}
theorem EnvOk.wipe (E : EnvOk K pa F G H σ ρ) (vs : List Nat) : EnvOk K pa F G H (L2.wipe σ vs) (PL.wipe ρ vs) := by
  refine ⟨E.fh, E.gh, E.fg, by rw [wipe_len, L2.wipe_length]; exact E.len, fun i d q => ?_, fun i g d q ng => ?_, fun i d q => ?_, fun i j g g' d d' a ne q ng q' ng' e => ?_⟩
  · obtain ⟨q, hi⟩ := wipe_get q
    rw [l2wipe_out hi]
    exact E.shr i d q
  · obtain ⟨q, hi⟩ := wipe_get q
    rw [l2wipe_out hi]
    exact E.own i g d q ng
  · obtain ⟨q, hi⟩ := wipe_get q
    rw [l2wipe_out hi]
    exact E.pin i d q
  · obtain ⟨q, hi⟩ := wipe_get q
    obtain ⟨q', hj⟩ := wipe_get q'
    rw [l2wipe_out hi] at e
    rw [l2wipe_out hj]
    exact E.dist i j g g' d d' a ne q ng q' ng' e
/-- another store that holds the same outside the wiped slots -/
theorem EnvOk.agree {σ' : L2.St} {vs : List Nat} (E : EnvOk K pa F G H σ (PL.wipe ρ vs)) (hl : σ'.length = σ.length) (h : ∀ i, i ∉ vs → σ'[i]? = σ[i]?) : EnvOk K pa F G H σ' (PL.wipe ρ vs) := by
  refine ⟨E.fh, E.gh, E.fg, by rw [hl]; exact E.len, fun i d q => ?_, fun i g d q ng => ?_, fun i d q => ?_, fun i j g g' d d' a ne q ng q' ng' e => ?_⟩
  · rw [h i (wipe_get q).2]; exact E.shr i d q
  · rw [h i (wipe_get q).2]; exact E.own i g d q ng
  · rw [h i (wipe_get q).2]; exact E.pin i d q
  · rw [h i (wipe_get q).2] at e
    rw [h j (wipe_get q').2]
    exact E.dist i j g g' d d' a ne q ng q' ng' e
/-- behind the block: its own names as they were -/
theorem EnvOk.restore {F0 H0 : Hp} {ρ0 : Env} {vs : List Nat} (E0 : EnvOk K pa F0 G H0 σ ρ0) (no : noOwned ρ0 vs = true) (s : Same F0 F) {τ : L2.St} (E : EnvOk K pa F G H τ ρ) (hτ : ∀ i, i ∉ vs → τ[i]? = σ[i]?) (hl : τ.length = σ.length) : EnvOk K pa F G H σ (restore ρ0 ρ vs) := by
  refine ⟨E.fh, E.gh, E.fg, by rw [restore_len, E.len, hl], fun i d q => ?_, fun i g d q ng => ?_, fun i d q => ?_, fun i j g g' d d' a ne q ng q' ng' e => ?_⟩
  · rcases restore_get q with ⟨hi, q⟩ | ⟨hi, q⟩
    · obtain ⟨v, e, r⟩ := E0.shr i d q
      exact ⟨v, e, r.mono s⟩
    · rw [← hτ i hi]; exact E.shr i d q
  · rcases restore_get q with ⟨hi, q⟩ | ⟨hi, q⟩
    · exact absurd (noOwned_at no hi q) ng
    · rw [← hτ i hi]; exact E.own i g d q ng
  · rcases restore_get q with ⟨hi, q⟩ | ⟨hi, q⟩
    · cases noOwned_at no hi q
    · rw [← hτ i hi]; exact E.pin i d q
  · rcases restore_get q with ⟨hi, q⟩ | ⟨hi, q⟩
    · exact absurd (noOwned_at no hi q) ng
    · rcases restore_get q' with ⟨hj, q'⟩ | ⟨hj, q'⟩
      · exact absurd (noOwned_at no hj q') ng'
      · rw [← hτ i hi] at e
        rw [← hτ j hj]
        exact E.dist i j g g' d d' a ne q ng q' ng' e
/-- with a further object that nobody else writes -/
theorem EnvOk.guard {p : Addr} {xs : List V} (E : EnvOk K pa F G H σ ρ) (hp : H p = some (.lst xs)) (hF : F p = none) (no : NotOwn σ ρ p) : EnvOk K pa F (upd G p (.lst xs)) H σ ρ := by
  refine ⟨E.fh, fun b u q => ?_, fun b u q => ?_, E.len, E.shr, fun i g d q ng => ?_, E.pin, E.dist⟩
  · by_cases hb : b = p
    · subst hb; rw [upd_same] at q; rw [← q]; exact hp
    · rw [upd_ne hb] at q; exact E.gh b u q
  · by_cases hb : b = p
    · subst hb; rw [hF] at q; cases q
    · rw [upd_ne hb]; exact E.fg b u q
  · obtain ⟨a, e, h1, h2, h3⟩ := E.own i g d q ng
    have ne : a ≠ p := by
      rintro rfl
      exact no i g d q ng e
    exact ⟨a, e, h1, by rw [upd_ne ne]; exact h2, h3⟩
theorem EnvOk.unguard {p : Addr} {xs : List V} (E : EnvOk K pa F (upd G p (.lst xs)) H σ ρ) (hG : G p = none) : EnvOk K pa F G H σ ρ ∧ H p = some (.lst xs) ∧ F p = none ∧ NotOwn σ ρ p := by
  have gp : ∀ b u, G b = some u → upd G p (.lst xs) b = some u := fun b u q => by
    have hb : b ≠ p := by
      rintro rfl
      rw [hG] at q; cases q
    rw [upd_ne hb]; exact q
  have gn : ∀ b, upd G p (.lst xs) b = none → G b = none ∧ b ≠ p := fun b q => by
    have hb : b ≠ p := by
      rintro rfl
      rw [upd_same] at q; cases q
    exact ⟨by rw [upd_ne hb] at q; exact q, hb⟩
  have hFp : F p = none := by
    cases z : F p with
    | none => rfl
    | some u =>
      have := E.fg p u z
      rw [upd_same] at this; cases this
  refine ⟨⟨E.fh, fun b u q => E.gh b u (gp b u q), fun b u q => (gn b (E.fg b u q)).1, E.len, E.shr, fun i g d q ng => ?_, E.pin, E.dist⟩, E.gh p _ upd_same, hFp, fun i g d q ng e => ?_⟩
  · obtain ⟨a, e, h1, h2, h3⟩ := E.own i g d q ng
    exact ⟨a, e, h1, (gn a h2).1, h3⟩
  · obtain ⟨a, e2, h1, h2, h3⟩ := E.own i g d q ng
    rw [e] at e2; cases e2
    exact (gn _ h2).2 rfl
/-- an object of one's own is changed -/
theorem EnvOk.write {p : Addr} {xs ys : List V} (E : EnvOk K pa F G H σ ρ) (hF : F p = none) (hG : G p = none) (no : NotOwn σ ρ p) : EnvOk K pa F G (upd H p (.lst ys)) σ ρ := by
  have nf : ∀ b u, F b = some u → b ≠ p := fun b u q e => by subst e; rw [hF] at q; cases q
  have ng' : ∀ b u, G b = some u → b ≠ p := fun b u q e => by subst e; rw [hG] at q; cases q
  refine ⟨fun b u q => by rw [upd_ne (nf b u q)]; exact E.fh b u q, fun b u q => by rw [upd_ne (ng' b u q)]; exact E.gh b u q, E.fg, E.len, E.shr, fun i g d q ng => ?_, E.pin, E.dist⟩
  obtain ⟨a, e, h1, h2, h3⟩ := E.own i g d q ng
  have ne : a ≠ p := by
    rintro rfl
    exact no i g d q ng e
  refine ⟨a, e, h1, h2, ?_⟩
  cases d with
  | lst ds => obtain ⟨zs, e3, r⟩ := h3; exact ⟨zs, by rw [upd_ne ne]; exact e3, r⟩
  | _ => exact h3
end
theorem ok_bind {α β : Type} {f : M α} {g : α → M β} {ρ ρ' : Env} {b : β} (h : (f >>= g) ρ = .ok b ρ') : ∃ a ρ1, f ρ = .ok a ρ1 ∧ g a ρ1 = .ok b ρ' := by
  cases q : f ρ with
  | ok a ρ1 => rw [bind_ok q] at h; exact ⟨a, ρ1, rfl, h⟩
  | err e ρ1 => rw [bind_err q] at h; cases h
  | bad => rw [bind_bad q] at h; cases h
theorem block_ok {Z : Fx} {C α β : Type} {rel : Lie C β} {σ : L2.St} {F : Hp} {ρ : Env} {own : List Nat} {m : M α} {k : α → M β} {Q : C → Hp → Prop} (c : Cont Z rel σ F ((block own m >>= k) ρ) Q) :
    noOwned ρ own = true ∧ ∃ a ρe, m (PL.wipe ρ own) = .ok a ρe ∧ Cont Z rel σ F (k a (restore ρ ρe own)) Q := by
  by_cases h : noOwned ρ own = true
  · refine ⟨h, ?_⟩
    cases q : m (PL.wipe ρ own) with
    | ok a ρe =>
      have e : block own m ρ = .ok a (restore ρ ρe own) := by unfold block; rw [if_pos h, q]
      rw [bind_ok e] at c
      exact ⟨a, ρe, rfl, c⟩
    | err x ρe =>
      have e : block own m ρ = .bad := by unfold block; rw [if_pos h, q]
      rw [bind_bad e] at c
      exact c.elim
    | bad =>
      have e : block own m ρ = .bad := by unfold block; rw [if_pos h, q]
      rw [bind_bad e] at c
      exact c.elim
  · have e : block own m ρ = .bad := by unfold block; rw [if_neg h]
    rw [bind_bad e] at c
    exact c.elim
theorem src_bind {Γ : Gm} {sk : Nat} {s1 : E} {s2 : Option E} {β : Type} (k : List D → M β) : (evE Γ s1 >>= fun v => evO Γ s2 >>= fun d2 => M.opt (itemsOf sk v.d d2) >>= k) = (evSrc Γ sk s1 s2 >>= k) := by
  unfold evSrc
  rw [bind_assoc]
  congr 1
  funext v
  rw [bind_assoc]
/-- the context within a comprehension's block -/
abbrev Fx.blk (Z : Fx) (G : Hp) : Fx := ⟨Z.K, Z.mg, Z.pa, G, fun _ _ _ _ => False⟩
theorem Fit.blk {X : Cx} {Z : Fx} {lev : Nat} {T : Tab} {Γ : Gm} (ft : Fit X Z lev T Γ) (G : Hp) (s : Shared) (H : Hp) {scope : Scope} (hk : scope.kind = .function) (C : Addr) (cl : List (Str × Addr)) (fp : List Addr) :
    Fit (X.blk s H scope (compEnvC scope cl C X.env) fp) (Z.blk G) lev T Γ where
  hK := ft.hK
  hmg := ft.hmg
  calm := ft.calm
  nd := ft.nd
  room := ft.room
  one := ft.one
  kind := hk
  takes := takes0
  good := ft.good
/-- a reading that holds whatever others hold -/
theorem pe_any {X : Cx} {e : PySem.Expr} {ι : Type} {t : ι → TE} (h : ∀ i, PE X e (t i)) : PE X e (fun σ H Q => ∃ i, t i σ H Q) := ⟨fun pins s σ H Q I ⟨i, q⟩ => (h i).run pins s σ H Q I q⟩
theorem pts_any {X : Cx} {e : List PySem.Expr} {ι : Type} {t : ι → TT} (h : ∀ i, PTs X e (t i)) : PTs X e (fun σ H Q => ∃ i, t i σ H Q) := ⟨fun pins s σ H Q I ⟨i, q⟩ => (h i).run pins s σ H Q I q⟩
theorem pg_any {X : Cx} {e : PySem.Expr} {ι : Type} {t : ι → TG} (h : ∀ i, PG X e (t i)) : PG X e (fun v σ H Q => ∃ i, t i v σ H Q) := ⟨fun pins s σ H v u Q I r ⟨i, q⟩ => (h i).run pins s σ H v u Q I r q⟩
theorem pi_any {X : Cx} {tg e : PySem.Expr} {ι : Type} {t : ι → TI} (h : ∀ i, PI X tg e (t i)) : PI X tg e (fun σ H Q => ∃ i, t i σ H Q) := ⟨fun pins s σ H Q I ⟨i, q⟩ => (h i).run pins s σ H Q I q⟩
theorem pts_mono {X : Cx} {e : List PySem.Expr} {t t' : TT} (h : PTs X e t) (i : ∀ σ H Q, t' σ H Q → t σ H Q) : PTs X e t' := ⟨fun pins s σ H Q I q => h.run pins s σ H Q I (i σ H Q q)⟩
theorem sndC_none {X : Cx} {Z : Fx} {Γ : Gm} : PTs X [] (rdB Z (evC Γ none)) := pts_mono pts_nil fun σ H Q ⟨F, ρ, E, c⟩ => by
  rw [evC] at c
  exact (show Cont Z lBool σ F (.ok true ρ) Q from c).ok E rfl
theorem sndC_some {X : Cx} {Z : Fx} {Γ : Gm} {a : E} {x : PySem.Expr} (h : PT X x (rdB Z (evE Γ a >>= asBl))) : PTs X [x] (rdB Z (evC Γ (some a))) := pts_mono (pts_one h) fun σ H Q r => by
  rw [evC] at r
  exact r
theorem notOwn_wipe {σ : L2.St} {ρ : Env} {p : Addr} {vs : List Nat} (h : NotOwn σ ρ p) : NotOwn (L2.wipe σ vs) (PL.wipe ρ vs) p := fun i g d q ng e => by
  obtain ⟨q, hi⟩ := wipe_get q
  rw [l2wipe_out hi] at e
  exact h i g d q ng e
/-- what a turn yields, in a state of ours -/
theorem Yields.step {K : PySem.W.Frag} {pa : Nat → Option Addr} {F Fi G H H' : Hp} {σ : L2.St} {ρ : Env} {J : It} {items : List D} {i : Nat} {d : D} {x : V} (y : Yields K F J items) (s : Same F Fi) (E : EnvOk K pa Fi G H σ ρ) (hd : items[i]? = some d) (h : J.yld i H x H') :
    ∃ F', Same Fi F' ∧ EnvOk K pa F' G H' σ ρ ∧ Rp K F' x d ∧ ∀ p u, H p = some u → H' p = some u ∧ (Fi p = none → F' p = none) := by
  rcases y.yld i H Fi d s E.fh hd x H' h with ⟨rfl, r⟩ | ⟨p, o, hp, rfl, r⟩
  · exact ⟨Fi, Same.refl _, E, r, fun p u q => ⟨q, fun z => z⟩⟩
  · obtain ⟨s', E'⟩ := E.new (o := o) hp
    refine ⟨_, s', E', r, fun b u q => ?_⟩
    have ne := ne_of_none q hp
    exact ⟨by rw [upd_ne ne]; exact q, fun z => by rw [upd_ne ne]; exact z⟩
section
variable {X : Cx} {Z : Fx} {Γ : Gm} {lev : Nat} {T : Tab} {pos : Pos}
/-- one turn of a comprehension and the rest -/
theorem compL_cons {own : List Nat} {asg : D → M Unit} {cnd : M Bool} {elt : M D} {d : D} {ds : List D} {ρ ρe : Env} {rest : List D} (h : compL own asg cnd elt (d :: ds) ρ = .ok rest ρe) :
    ∃ ρa b ρc, asg d ρ = .ok () ρa ∧ cnd ρa = .ok b ρc ∧ (b = true → ∃ y ρy rest', elt ρc = .ok y ρy ∧ compL own asg cnd elt ds (PL.wipe ρy own) = .ok rest' ρe ∧ rest = y :: rest') ∧ (b = false → compL own asg cnd elt ds (PL.wipe ρc own) = .ok rest ρe) := by
  rw [compL] at h
  obtain ⟨u, ρa, h1, h2⟩ := ok_bind h
  obtain ⟨b, ρc, h3, h4⟩ := ok_bind h2
  refine ⟨ρa, b, ρc, h1, h3, fun hb => ?_, fun hb => ?_⟩
  · subst hb
    obtain ⟨y, ρy, h5, h6⟩ := ok_bind h4
    obtain ⟨r, ρr, h7, h8⟩ := ok_bind h6
    cases h8
    exact ⟨y, ρy, r, h5, h7, rfl⟩
  · subst hb
    exact h4
/-- the state between two turns: D holds what is made so far -/
structure CState (Z : Fx) (own : List Nat) (σ : L2.St) (F1 : Hp) (D0 : Addr) (made : List D) (ρi : Env) (H : Hp) : Prop where
  ex : ∃ (Fi : Hp) (acc : List V), Same F1 Fi ∧ EnvOk Z.K Z.pa Fi Z.G H (L2.wipe σ own) (PL.wipe ρi own) ∧ H D0 = some (.lst acc) ∧ Fi D0 = none ∧ Z.G D0 = none ∧ NotOwn (L2.wipe σ own) (PL.wipe ρi own) D0 ∧ Rps Z.K Fi acc made
theorem comp_core {own : List Nat} {t : Tg} {cnd : Option E} {e : E} {items ys : List D} {σ : L2.St} {F1 H1 : Hp} {ρ1 ρe : Env} {J : It} {Q : VK} (E1 : EnvOk Z.K Z.pa F1 Z.G H1 σ ρ1) (y : Yields Z.K F1 J items) (hl : items.length ≤ szL) (hsub : ∀ i ∈ t.slots, i ∈ own)
    (no : noOwned ρ1 own = true) (hm : compL own (asgTg t) (evC Γ cnd) (evE Γ e >>= fun v => pure v.d) items (PL.wipe ρ1 own) = .ok ys ρe) (c : Cont Z (lV Z) σ F1 (.ok (ow (.lst ys)) (restore ρ1 ρe own)) Q) :
    ∀ D0, H1 D0 = none → ∃ W : Nat → Nat → Hp → Prop, (∃ m, W 0 m (upd H1 D0 (.lst []))) ∧ ∀ i m H, W i m H →
      (J.stop i H ∧ Q (.ref D0) H) ∨ (J.go i H ∧ ∃ Nx : Hp → Prop, (∀ H', Nx H' → ∃ m', m' < m ∧ W (i + 1) m' H') ∧ ∀ x H', J.yld i H x H' →
        (fun v σ H Q => ∃ G, rdG (Z.blk G) t.slots (asgTg t) v σ H Q) x (L2.wipe σ own) H' fun σ2 H2 => L2.wipe σ2 own = L2.wipe σ own ∧ (fun σ H Q => ∃ G, rdB (Z.blk G) (evC Γ cnd) σ H Q) σ2 H2 fun b H3 =>
          if b = true then (fun σ H Q => ∃ G, rdE (Z.blk G) (evE Γ e) σ H Q) σ2 H3 fun y H4 => ∃ acc, H4 D0 = some (.lst acc) ∧ acc.length < sizeLine ∧ Nx (upd H4 D0 (.lst (acc ++ [y]))) else Nx H3) := by
  intro D0 hD
  refine ⟨fun i m H => m = items.length - i ∧ i ≤ items.length ∧ ∃ made ρi rest, CState Z own σ F1 D0 made ρi H ∧ made.length ≤ i ∧ compL own (asgTg t) (evC Γ cnd) (evE Γ e >>= fun v => pure v.d) (items.drop i) (PL.wipe ρi own) = .ok rest ρe ∧ ys = made ++ rest, ?_, ?_⟩
  · refine ⟨items.length, by simp, Nat.zero_le _, [], ρ1, ys, ⟨F1, [], Same.refl _, (E1.newOwn hD).wipe own, upd_same, E1.fnone hD, E1.gnone hD, notOwn_wipe (E1.notOwn hD), .nil⟩, Nat.le_refl _, hm, rfl⟩
  · rintro i m H ⟨rfl, hi, made, ρi, rest, ⟨Fi, acc, s, Ei, hD0, fD, gD, nD, rps⟩, hlen, hrun, hys⟩
    by_cases hlt : i < items.length
    · refine .inr ⟨y.go i H Fi s Ei.fh hlt, fun H' => i + 1 ≤ items.length ∧ ∃ made ρi rest, CState Z own σ F1 D0 made ρi H' ∧ made.length ≤ i + 1 ∧ compL own (asgTg t) (evC Γ cnd) (evE Γ e >>= fun v => pure v.d) (items.drop (i + 1)) (PL.wipe ρi own) = .ok rest ρe ∧ ys = made ++ rest,
        fun H' h => ⟨items.length - (i + 1), by omega, rfl, h⟩, fun x H' hy => ?_⟩
      rw [List.drop_eq_getElem_cons hlt] at hrun
      obtain ⟨ρa, b, ρc, ha, hc, ht, hf⟩ := compL_cons hrun
      obtain ⟨F', s', E', rx, keep⟩ := y.step s Ei (List.getElem?_eq_getElem hlt) hy
      obtain ⟨hD', fD'⟩ := keep D0 _ hD0
      have Eg := E'.guard hD' (fD' fD) nD
      refine ⟨_, F', PL.wipe ρi own, items[i], Eg, rx, ?_⟩
      rw [ha]
      intro σ2 E2 l2 k2
      have w2 : L2.wipe σ2 own = L2.wipe σ own := by
        refine l2wipe_eq (by rw [l2, L2.wipe_length]) fun j hj => ?_
        rw [k2 j (fun z => hj (hsub j z)), l2wipe_out hj]
      refine ⟨w2, _, F', ρa, E2, ?_⟩
      rw [hc]
      intro b' F3 H3 s3 E3 eb
      have eb' : b = b' := eb
      subst eb'
      cases b with
      | true =>
        refine iteT ?_
        obtain ⟨z, ρy, rest', he, hr, rfl⟩ := ht rfl
        obtain ⟨r, ρz, he1, he2⟩ := ok_bind he
        cases he2
        refine ⟨_, F3, ρc, E3, ?_⟩
        rw [he1]
        intro v F4 H4 s4 E4 l4
        obtain ⟨F5, s5, E5, l5⟩ := E4.share l4
        obtain ⟨E6, hD6, fD6, nD6⟩ := E5.unguard gD
        have hal : acc.length = made.length := rps.length
        refine ⟨acc, hD6, by rw [hal, ← szL_eq]; omega, by omega, made ++ [r.d], ρy, rest', ⟨F5, acc ++ [v], s.trans (s'.trans (s3.trans (s4.trans s5))), ?_, upd_same, fD6, gD, ?_, ?_⟩, by simp; omega, hr, by rw [hys]; simp⟩
        · rw [← w2]
          exact (E6.write (ys := acc ++ [v]) (xs := acc) fD6 gD nD6).wipe own
        · rw [← w2]
          exact notOwn_wipe nD6
        · exact (rps.mono (s'.trans (s3.trans (s4.trans s5)))).append (.cons l5 .nil)
      | false =>
        refine iteF ?_
        obtain ⟨E6, hD6, fD6, nD6⟩ := E3.unguard gD
        refine ⟨by omega, made, ρc, rest, ⟨F3, acc, s.trans (s'.trans s3), ?_, hD6, fD6, gD, ?_, rps.mono (s'.trans s3)⟩, by omega, hf rfl, hys⟩
        · rw [← w2]
          exact E6.wipe own
        · rw [← w2]
          exact notOwn_wipe nD6
    · have ei : i = items.length := by omega
      subst ei
      rw [List.drop_length, compL] at hrun
      cases hrun
      refine .inl ⟨y.stop H Fi s Ei.fh, ?_⟩
      rw [List.append_nil] at hys
      subst hys
      refine c (.ref D0) Fi H s (E1.restore no s Ei (fun j hj => l2wipe_out hj) (L2.wipe_length _ _)) ⟨D0, rfl, ⟨fD, gD, acc, hD0, rps⟩, fun j g d q ng eq => ?_⟩
      rcases restore_get q with ⟨hj, q⟩ | ⟨hj, q⟩
      · exact absurd (noOwned_at no hj q) ng
      · rw [← l2wipe_out (vs := own) hj] at eq
        exact nD j g d q ng eq
theorem snd_comp {own : List Nat} {t : Tg} {sk : Nat} {s1 : E} {s2 cnd : Option E} {e : E} {tg iter elt : PySem.Expr} {ifs : List PySem.Expr} {scope : Scope} {ow' : List (Str × Nat)} (ft : Fit X Z lev T Γ) (hown : ow'.map (·.2) = own) (ok : BlkOk X.N X.env.scope scope ow') (hn : nset iter = true)
    (hsub : ∀ i ∈ t.slots, i ∈ own) (hi : PI X tg iter (rdI Z (evSrc Γ sk s1 s2)))
    (hg : ∀ (G : Hp) (s : Shared) (H : Hp) (C : Addr) (cl : List (Str × Addr)) (fp : List Addr), PG (X.blk s H scope (compEnvC scope cl C X.env) fp) tg (rdG (Z.blk G) t.slots (asgTg t)))
    (ht : ∀ (G : Hp) (s : Shared) (H : Hp) (C : Addr) (cl : List (Str × Addr)) (fp : List Addr), PTs (X.blk s H scope (compEnvC scope cl C X.env) fp) ifs (rdB (Z.blk G) (evC Γ cnd)))
    (he : ∀ (G : Hp) (s : Shared) (H : Hp) (C : Addr) (cl : List (Str × Addr)) (fp : List Addr), PE (X.blk s H scope (compEnvC scope cl C X.env) fp) elt (rdE (Z.blk G) (evE Γ e))) :
    (∀ σ H Q, rdE Z (evE Γ (.comp own t sk s1 s2 cnd e)) σ H Q → tLc (rdI Z (evSrc Γ sk s1 s2)) (fun v σ H Q => ∃ G, rdG (Z.blk G) t.slots (asgTg t) v σ H Q) (fun σ H Q => ∃ G, rdB (Z.blk G) (evC Γ cnd) σ H Q) (fun σ H Q => ∃ G, rdE (Z.blk G) (evE Γ e) σ H Q) (ow'.map (·.2)) σ H Q) ∧
      PE X (.ListComp elt [⟨tg, iter, ifs, 0⟩] scope pos) (rdE Z (evE Γ (.comp own t sk s1 s2 cnd e))) := by
  have key : ∀ σ H Q, rdE Z (evE Γ (.comp own t sk s1 s2 cnd e)) σ H Q → tLc (rdI Z (evSrc Γ sk s1 s2)) (fun v σ H Q => ∃ G, rdG (Z.blk G) t.slots (asgTg t) v σ H Q) (fun σ H Q => ∃ G, rdB (Z.blk G) (evC Γ cnd) σ H Q) (fun σ H Q => ∃ G, rdE (Z.blk G) (evE Γ e) σ H Q) (ow'.map (·.2)) σ H Q := by
    rintro σ H Q ⟨F, ρ, E, c⟩
    rw [evE, src_bind] at c
    rw [hown]
    refine (Cont.bind E c).imp fun J H1 ⟨items, F1, ρ1, s1, E1, y, c1⟩ => ?_
    split at c1
    · rename_i hl
      obtain ⟨no, ys, ρe, hm, c2⟩ := block_ok c1
      exact comp_core E1 y hl hsub no hm c2
    · exact c1.elim
  exact ⟨key, pe_mono (pe_lc ft.calm ft.nd hi ok (fun s H C cl fp => pg_any fun G => hg G s H C cl fp) (fun s H C cl fp => pts_any fun G => ht G s H C cl fp) (fun s H C cl fp => pe_any fun G => he G s H C cl fp) (nfold hn)) key⟩
end
end PL
/-! PLStr: methods of texts and lists, ranges as lists, a written dict that is asked. -/
namespace PL
open PySem L2 PySem.Spec PyProof.Rows
/-! ### split -/
theorem splitL_ne (c : Nat) : ∀ l, splitL c l ≠ []
  | [] => by simp [splitL]
  | x :: r => by
    unfold splitL
    split
    · simp
    · split <;> simp
theorem splitL_free {c : Nat} : ∀ {l : List Nat}, c ∉ l → splitL c l = [l]
  | [], _ => rfl
  | x :: r, h => by
    simp only [List.mem_cons, not_or] at h
    unfold splitL
    rw [if_neg (fun e => h.1 e.symm), splitL_free h.2]
theorem splitL_app {c : Nat} : ∀ {l r : List Nat}, c ∉ l → splitL c (l ++ c :: r) = l :: splitL c r
  | [], r, _ => by
    show splitL c (c :: r) = _
    rw [splitL, if_pos rfl]
  | x :: l, r, h => by
    simp only [List.mem_cons, not_or] at h
    show splitL c (x :: (l ++ c :: r)) = _
    rw [splitL, if_neg (fun e => h.1 e.symm), splitL_app h.2]
theorem split_of_join {c : Nat} : ∀ {ps : List Str}, ps ≠ [] → (∀ p ∈ ps, c ∉ p.cps.toList) → splitL c (Str.join ⟨#[c]⟩ ps).cps.toList = ps.map fun p => p.cps.toList
  | [], h, _ => absurd rfl h
  | [p], _, h => by
    show splitL c p.cps.toList = _
    rw [splitL_free (h p (by simp))]; rfl
  | p :: q :: r, _, h => by
    have ih := split_of_join (c := c) (ps := q :: r) (by simp) (fun x hx => h x (List.mem_cons_of_mem _ hx))
    have e : (Str.join ⟨#[c]⟩ (p :: q :: r)).cps.toList = p.cps.toList ++ c :: (Str.join ⟨#[c]⟩ (q :: r)).cps.toList := by
      show ((p ++ (⟨#[c]⟩ : Str)) ++ Str.join ⟨#[c]⟩ (q :: r)).cps.toList = _
      show ((p.cps ++ #[c]) ++ (Str.join ⟨#[c]⟩ (q :: r)).cps).toList = _
      simp
    rw [e, splitL_app (h p (by simp)), ih]; rfl
theorem split_ne (x y : Str) : Txt.split x y ≠ [] := by
  unfold Txt.split
  split
  · simp
  · split
    · simp
    · rw [StrLaws.partsBetween_eq]
      cases Builtin.Str.occurrences x y 0 x.length (x.length + 1) <;> simp [StrLaws.partsFrom]
theorem split_eq (x : Str) (c : Nat) : Txt.split x ⟨#[c]⟩ = (splitL c x.cps.toList).map fun p => ⟨p.toArray⟩ := by
  have h := split_of_join (split_ne x ⟨#[c]⟩) (StrLaws.split_free x c)
  rw [StrLaws.join_split] at h
  rw [h, List.map_map]
  have e : ((fun p : List Nat => (⟨p.toArray⟩ : Str)) ∘ fun p : Str => p.cps.toList) = id := by
    funext p
    rfl
  rw [e, List.map_id]
theorem rps_strs {K : PySem.W.Frag} {F : Hp} : ∀ l : List Str, Rps K F (l.map V.str) (l.map D.str)
  | [] => .nil
  | x :: r => .cons (.str x) (rps_strs r)
theorem asStr_bind {β : Type} {d : D} {g : Str → M β} {C : Type} {Z : Fx} {rel : Lie C β} {σ : L2.St} {F : Hp} {ρ : Env} {Q : C → Hp → Prop} (c : Cont Z rel σ F ((asStr d >>= g) ρ) Q) : ∃ s, d = .str s ∧ Cont Z rel σ F (g s ρ) Q := by
  cases d with
  | str s => exact ⟨s, rfl, c⟩
  | _ => exact c.elim
theorem asInt_bind {β : Type} {d : D} {g : Int → M β} {C : Type} {Z : Fx} {rel : Lie C β} {σ : L2.St} {F : Hp} {ρ : Env} {Q : C → Hp → Prop} (c : Cont Z rel σ F ((asInt d >>= g) ρ) Q) : ∃ s, d = .int s ∧ Cont Z rel σ F (g s ρ) Q := by
  cases d with
  | int s => exact ⟨s, rfl, c⟩
  | _ => exact c.elim
theorem asLst_bind {β : Type} {d : D} {g : Unit → M β} {C : Type} {Z : Fx} {rel : Lie C β} {σ : L2.St} {F : Hp} {ρ : Env} {Q : C → Hp → Prop} (c : Cont Z rel σ F ((asLst d >>= g) ρ) Q) : ∃ s, d = .lst s ∧ Cont Z rel σ F (g () ρ) Q := by
  cases d with
  | lst s => exact ⟨s, rfl, c⟩
  | _ => exact c.elim
section
variable {X : Cx} {Z : Fx} {Γ : Gm} {lev : Nat} {T : Tab} {pos p apos : Pos}
theorem snd_split {a b : E} {x y : PySem.Expr} (hn : nst y = true) (hb : ncall0 x = true) (hl : (apos.endLine == pos.line) = true) (ha : PE X x (rdE Z (evE Γ a))) (hy : PE X y (rdE Z (evE Γ b))) :
    PE X (.Call (.Attribute x "split" apos) [y] [] pos) (rdE Z (evE Γ (.split a b))) := by
  refine pe_mono (pe_split ha hy (star_cons hn) (nbase hb) hl) fun σ H Q ⟨F, ρ, E, c⟩ => ?_
  rw [evE] at c
  refine (Cont.bind E c).imp fun u H1 ⟨r, F1, ρ1, s1, E1, l1, c1⟩ => ?_
  obtain ⟨F2, s2, E2, l2⟩ := E1.share l1
  obtain ⟨z, ez, c2⟩ := asStr_bind c1
  rw [ez] at l2
  cases l2
  refine ⟨⟨z, rfl⟩, (Cont.bind E2 (c2.mono s2)).imp fun w H3 ⟨r', F3, ρ3, s3, E3, l3, c3⟩ => ?_⟩
  obtain ⟨F4, s4, E4, l4⟩ := E3.share l3
  replace c3 := cont_opt (c3.mono s4)
  obtain ⟨v, e, c5⟩ := c3
  cases q : r'.d with
  | str y =>
    rw [q] at e l4
    cases l4
    unfold splitD at e
    simp only at e
    split at e
    · rename_i ch hy'
      split at e
      · rename_i hz
        cases e
        have ey : y = ⟨#[ch]⟩ := by
          obtain ⟨a⟩ := y
          have : a = #[ch] := Array.toList_inj.mp hy'
          rw [this]
        subst ey
        refine ⟨z, ⟨#[ch]⟩, rfl, rfl, rfl, by rw [← szL_eq]; exact hz, ?_⟩
        rw [split_eq]
        have cc := cont_lst c5 E4 (by
          have h := rps_strs (K := Z.K) (F := F4) ((splitL ch z.cps.toList).map fun p => ⟨p.toArray⟩)
          rw [List.map_map (f := fun p : List Nat => (⟨p.toArray⟩ : Str)) (g := D.str)] at h
          exact h)
        exact cc
      · cases e
    · cases e
  | _ => rw [q] at e; cases e
theorem snd_join {a b : E} {x y : PySem.Expr} (hn : nst y = true) (hb : ncall0 x = true) (hl : (apos.endLine == pos.line) = true) (ha : PE X x (rdE Z (evE Γ a))) (hy : PE X y (rdR Z (opnd b (evE Γ b)))) :
    PE X (.Call (.Attribute x "join" apos) [y] [] pos) (rdE Z (evE Γ (.join a b))) := by
  refine pe_mono (pe_join ha hy (star_cons hn) (nbase hb) hl) fun σ H Q ⟨F, ρ, E, c⟩ => ?_
  rw [evE] at c
  refine (Cont.bind E c).imp fun u H1 ⟨r, F1, ρ1, s1, E1, l1, c1⟩ => ?_
  obtain ⟨F2, s2, E2, l2⟩ := E1.share l1
  obtain ⟨z, ez, c2⟩ := asStr_bind c1
  rw [ez] at l2
  cases l2
  refine ⟨⟨z, rfl⟩, (Cont.bind E2 (c2.mono s2)).imp fun w H3 ⟨r', F3, ρ3, s3, E3, l3, c3⟩ => ?_⟩
  obtain ⟨d, sd, c4⟩ := deref_seen E3 l3 c3
  replace c4 := cont_opt c4
  obtain ⟨v, e, c5⟩ := c4
  unfold joinD at e
  split at e
  · obtain ⟨ss, e1, e2⟩ := Option.bind_eq_some_iff.mp e
    split at e2
    · rename_i hz
      cases e2
      obtain ⟨a, xs, rfl, sx, r1⟩ := seen_lst E3.fh sd
      obtain rfl := r1.strs e1
      refine ⟨z, a, ss, rfl, rfl, .inl (SqL.of sx), hz, ?_⟩
      rw [show Txt.join z ss = Str.join z ss from StrLaws.glued_eq_join z ss]
      exact cont_val c5 E3 (.str _)
    · cases e2
  · cases e
theorem rp_list_dp {K : PySem.W.Frag} {F H : Hp} {v : V} {l : List D} (fh : Same F H) (h : Seen K F H v (.lst l)) (q : D.cmpbs 60 l = true) : Dp K H v (.list (D.toPys l)) := by
  obtain ⟨a, xs, rfl, sx, r1⟩ := seen_lst fh h
  exact .lst (SqL.of sx) (rps_dp fh r1 q)
theorem toPys_get : ∀ {l : List D} {j : Nat}, (D.toPys l)[j]? = (l[j]?).map D.toPy
  | [], j => by simp [D.toPys]
  | x :: r, 0 => by simp [D.toPys]
  | x :: r, j + 1 => by simpa [D.toPys] using toPys_get (l := r) (j := j)
theorem cmpbs_get : ∀ {n : Nat} {l : List D} {j : Nat} {d : D}, D.cmpbs n l = true → l[j]? = some d → d.cmpb n = true
  | _, [], j, d, _, h => by simp at h
  | n, x :: r, 0, d, q, h => by
    simp only [D.cmpbs, Bool.and_eq_true] at q
    simp at h; subst h; exact q.1
  | n, x :: r, j + 1, d, q, h => by
    simp only [D.cmpbs, Bool.and_eq_true] at q
    exact cmpbs_get (j := j) q.2 (by simpa using h)
theorem indexD_of {d x : D} {n : Int} (h : indexD d x = some n) : ∃ l, d = .lst l ∧ (isScal x && l.all isScal || x.cmpb 60 && D.cmpbs 60 l) = true ∧ (l.findIdx fun z => z.eqv x) < l.length ∧ n = ((l.findIdx fun z => z.eqv x : Nat) : Int) := by
  cases d with
  | lst l =>
    have h' : (if (isScal x && l.all isScal || x.cmpb 60 && D.cmpbs 60 l) = true then (if (l.findIdx fun z => z.eqv x) < l.length then some ((l.findIdx fun z => z.eqv x : Nat) : Int) else none) else none) = some n := h
    by_cases q : (isScal x && l.all isScal || x.cmpb 60 && D.cmpbs 60 l) = true
    · rw [if_pos q] at h'
      by_cases q2 : (l.findIdx fun z => z.eqv x) < l.length
      · rw [if_pos q2] at h'
        exact ⟨l, rfl, q, q2, (Option.some.inj h').symm⟩
      · rw [if_neg q2] at h'; cases h'
    · rw [if_neg q] at h'; cases h'
  | _ => cases h
theorem snd_index {a b : E} {x y : PySem.Expr} (ft : Fit X Z lev T Γ) (hn : nst y = true) (hb : ncall0 x = true) (hl : (apos.endLine == pos.line) = true) (ha : PE X x (rdR Z (opnd a (evE Γ a)))) (hy : PE X y (rdE Z (evE Γ b))) :
    PE X (.Call (.Attribute x "index" apos) [y] [] pos) (rdE Z (evE Γ (.index a b))) := by
  have few : ((backTo pos (starEach [y] X.env)).all (fun x => !x.1) && (backToKw pos (keywordEach [] X.env)).all (fun x => x.1.isSome)
      && decide (([y] : List PySem.Expr).length + ([] : List Keyword).length + (if ([] : List Keyword).isEmpty then 0 else 1) < 30)) = true := by
    rw [star_cons hn]; rfl
  refine pe_mono (pe_bm PySem.F.plainAttrs_list PySem.F.slot_list_index PySem.F.type_list_index ((mt_index (X := X)).or (mt_indexD ft.units)) ha (pa_cons hy pa_nil (star_cons hn)) (nbase hb) few hl (star_cons hn) rfl) fun σ H Q ⟨F, ρ, E, c⟩ => ?_
  have hK := ft.hK
  obtain ⟨K, mg, pa, G, W⟩ := Z
  cases hK
  rw [evE] at c
  refine (Cont.bind E c).imp fun u H1 ⟨r, F1, ρ1, s1, E1, l1, c1⟩ => ?_
  obtain ⟨d, sd, c2⟩ := deref_seen E1 l1 c1
  obtain ⟨ds, rfl, c3⟩ := asLst_bind c2
  obtain ⟨aa, xs, rfl, sx, r1⟩ := seen_lst E1.fh sd
  refine ⟨Or.inl ⟨rfl, _, SqL.of sx⟩, (Cont.bind E1 c3).imp fun w H3 ⟨r', F3, ρ3, s3, E3, l3, c4⟩ => ?_⟩
  obtain ⟨F4, s4, E4, l4⟩ := E3.share l3
  obtain ⟨d2, sd2, c5⟩ := deref_seen E4 (RefR.mono (s3.trans s4) l1) (c4.mono s4)
  replace c5 := cont_opt c5
  obtain ⟨v, e, c6⟩ := c5
  obtain ⟨n, e1, e2⟩ := Option.map_eq_some_iff.mp e
  subst e2
  clear e
  obtain ⟨l, rfl, hq, hlt, rfl⟩ := indexD_of e1
  obtain ⟨a2, ys, e3, sy, r2⟩ := seen_lst E4.fh sd2
  cases e3
  have q := cont_val c6 E4 (.int _)
  have hz : ∃ z, l[l.findIdx fun z => z.eqv r'.d]? = some z := ⟨_, List.getElem?_eq_getElem hlt⟩
  obtain ⟨z, hz⟩ := hz
  have hzt : z.eqv r'.d = true := by
    have := List.findIdx_getElem (w := hlt)
    rw [List.getElem?_eq_getElem hlt] at hz
    cases hz
    exact this
  have hno : ∀ (m : Nat) (z' : D), m < (l.findIdx fun z => z.eqv r'.d) → l[m]? = some z' → z'.eqv r'.d = false := fun m z' hm hz' => by
    have h := List.not_of_lt_findIdx hm
    obtain ⟨hml, ez⟩ := List.getElem?_eq_some_iff.mp hz'
    rw [← ez]
    simpa using h
  rw [Bool.or_eq_true, Bool.and_eq_true, Bool.and_eq_true] at hq
  rcases hq with ⟨h1, h2⟩ | ⟨h1, h2⟩
  · obtain ⟨zv, hzv, rz⟩ := r2.get hz
    have sc : isScal z = true := List.all_eq_true.mp h2 z (List.mem_of_getElem? hz)
    refine .inl ⟨_, ys, w, _, zv, rfl, rfl, SqL.of sy, scal_flat l4 h1, scal_flats r2 h2, hzv, by rw [scal_eqV rz l4 sc h1]; exact hzt, fun m z' hm hz' => ?_, q⟩
    obtain ⟨d', hd', rd'⟩ := r2.getV hz'
    have sc' : isScal d' = true := List.all_eq_true.mp h2 d' (List.mem_of_getElem? hd')
    rw [scal_eqV rd' l4 sc' h1]
    exact hno m d' hm hd'
  · refine .inr ⟨_, w, r'.d.toPy, D.toPys l, _, z.toPy, rfl, rfl, rp_list_dp E4.fh sd2 h2, rp_dp E4.fh l4 h1, cmpbs_shaped h2, cmpb_shaped h1, by rw [toPys_get, hz]; rfl, by rw [eqv_py (cmpbs_get h2 hz) h1]; exact hzt, fun m z' hm hz' => ?_, q⟩
    rw [toPys_get] at hz'
    obtain ⟨d', hd', rfl⟩ := Option.map_eq_some_iff.mp hz'
    rw [eqv_py (cmpbs_get h2 hd') h1]
    exact hno m d' hm hd'
theorem snd_rng {a : E} {x : PySem.Expr} {p2 p3 : Pos} (hc : X.calm = true) (hg : Gl X "list") (hm : X.mg "list" = none) (hg2 : Gl X "range") (hm2 : X.mg "range" = none) (hn : nst x = true) (ha : PE X x (rdE Z (evE Γ a))) :
    PE X (.Call (.Name "list" p) [.Call (.Name "range" p2) [x] [] p3] [] pos) (rdE Z (evE Γ (.rng a))) := by
  refine pe_mono (pe_listRg hc hg hm (prg_1 hg2 hm2 ha (star_cons hn)) rfl) fun σ H Q ⟨F, ρ, E, c⟩ => ?_
  rw [evE] at c
  refine (Cont.bind E c).imp fun u H1 ⟨r, F1, ρ1, s1, E1, l1, c1⟩ => ?_
  obtain ⟨F2, s2, E2, l2⟩ := E1.share l1
  obtain ⟨n, en, c2⟩ := asInt_bind c1
  rw [en] at l2
  cases l2
  by_cases h : (rangeOk 0 n && decide (n ≤ (szL : Int))) = true
  · rw [if_pos h] at c2
    rw [Bool.and_eq_true] at h
    have h1 := of_decide_eq_true h.1
    have h2 : n ≤ (szL : Int) := of_decide_eq_true h.2
    have e1 : (szL : Int) = 16777216 := rfl
    refine ⟨n, rfl, ⟨by omega, by omega, h1.2.2.1, h1.2.2.2, by omega⟩, ?_⟩
    have rr : Rps Z.K F2 (rgV 0 n) (rangeD 0 n) := by
      unfold rgV rangeD
      have z : ∀ l : List Nat, Rps Z.K F2 (l.map fun i => V.int (0 + (i : Nat))) (l.map fun i => D.int (0 + (i : Nat))) := fun l => by
        induction l with
        | nil => exact .nil
        | cons i r ih => exact .cons (.int _) ih
      exact z _
    exact cont_lst (c2.mono s2) E2 rr
  · rw [if_neg h] at c2
    exact c2.elim
/-! ### {"k": n, ..}.get(x, m) -/
def keyAt : Option PySem.Expr → Option Str
  | some (.Constant (.str k) _ _) => some k
  | _ => none
def valAt : PySem.Expr → Option Int
  | .Constant (.int n) _ _ => some n
  | _ => none
theorem keyAt_of {e : Option PySem.Expr} {k : Str} (h : keyAt e = some k) : ∃ j p, e = some (.Constant (.str k) j p) := by
  unfold keyAt at h
  split at h
  · cases h; exact ⟨_, _, rfl⟩
  · cases h
theorem valAt_of {e : PySem.Expr} {k : Int} (h : valAt e = some k) : ∃ j p, e = .Constant (.int k) j p := by
  unfold valAt at h
  split at h
  · cases h; exact ⟨_, _, rfl⟩
  · cases h
def keysOk : List (Str × Int) → List (Option PySem.Expr) → List PySem.Expr → Bool
  | [], [], [] => true
  | kn :: r, e :: kr, v :: vr => decide (keyAt e = some kn.1) && decide (valAt v = some kn.2) && keysOk r kr vr
  | _, _, _ => false
def trsOf (ks : List (Str × Int)) : List (TE × TE) := ks.map fun p => (tC (.str p.1), tC (.int p.2))
theorem keysOk_snd : ∀ {ks : List (Str × Int)} {keys : List (Option PySem.Expr)} {values : List PySem.Expr}, keysOk ks keys values = true → PPs X pos keys values (trsOf ks) ∧ keys.all (·.isSome) = true ∧ keys.length = values.length ∧ keys.length = ks.length
  | [], [], [], _ => ⟨pps_nil, rfl, rfl, rfl⟩
  | [], _ :: _, _, h => by simp [keysOk] at h
  | [], [], _ :: _, h => by simp [keysOk] at h
  | _ :: _, [], _, h => by simp [keysOk] at h
  | _ :: _, _ :: _, [], h => by simp [keysOk] at h
  | (k, n) :: r, e :: kr, v :: vr, h => by
    simp only [keysOk, Bool.and_eq_true, decide_eq_true_eq] at h
    obtain ⟨⟨h1, h2⟩, h⟩ := h
    obtain ⟨_, _, rfl⟩ := keyAt_of h1
    obtain ⟨_, _, rfl⟩ := valAt_of h2
    obtain ⟨i1, i2, i3, i4⟩ := keysOk_snd h
    exact ⟨pps_cons pe_str pe_int i1, by simpa using i2, by simp [i3], by simp [i4]⟩
theorem tPairs_const {σ : L2.St} : ∀ {ks : List (Str × Int)} {H : Hp} {Q : List (V × V) → Hp → Prop}, Q (ks.map fun p => (V.str p.1, V.int p.2)) H → tPairs (trsOf ks) σ H Q
  | [], _, _, q => q
  | (k, n) :: r, H, Q, q => by
    show tPairs (trsOf r) σ H fun ps H3 => Q ((V.str k, V.int n) :: ps) H3
    exact tPairs_const (ks := r) q
theorem put_fresh {kvs : List (Key × V)} {k : Key} {v : V} (h : ∀ p ∈ kvs, p.1 ≠ k) : putK kvs k v = kvs ++ [(k, v)] := by
  unfold putK
  rw [if_neg]
  simp only [List.any_eq_true, decide_eq_true_eq, not_exists, not_and]
  exact fun p hp e => h p hp e
theorem merge_fresh : ∀ {more kvs : List (Key × V)}, ((kvs ++ more).map (·.1)).Nodup → mergeK kvs more = kvs ++ more
  | [], kvs, _ => by simp [mergeK]
  | p :: r, kvs, h => by
    show mergeK (putK kvs p.1 p.2) r = _
    have h1 : ∀ q ∈ kvs, q.1 ≠ p.1 := fun q hq e => by
      rw [List.map_append, List.nodup_append] at h
      exact h.2.2 q.1 (List.mem_map_of_mem hq) p.1 (by simp) e
    rw [put_fresh h1, merge_fresh (by simpa using h)]
    simp
theorem val_lookup {x : Str} : ∀ {ks : List (Str × Int)}, valV (ks.map fun p => ((Sum.inr p.1 : Key), V.int p.2)) (.inr x) = (ks.lookup x).map V.int
  | [] => rfl
  | (k, n) :: r => by
    have ih := val_lookup (x := x) (ks := r)
    unfold valV at ih ⊢
    rw [List.map_cons, List.find?_cons, List.lookup_cons]
    by_cases e : x = k
    · subst e
      simp
    · have e2 : (x == k) = false := by simpa using e
      rw [e2]
      have e3 : decide ((Sum.inr k : Key) = Sum.inr x) = false := decide_eq_false fun q => e (Sum.inr.inj q).symm
      simp only [e3]
      exact ih
theorem snd_strGet {ks : List (Str × Int)} {a : E} {dflt : Int} {keys : List (Option PySem.Expr)} {values : List PySem.Expr} {x : PySem.Expr} {k : Nat} {p2 p3 : Pos} (ft : Fit X Z lev T Γ) (hk : keysOk ks keys values = true) (hd : (ks.map (·.1)).Nodup) (h0 : ks ≠ []) (h15 : ks.length ≤ 15)
    (hl : (apos.endLine == pos.line) = true) (hn : nst x = true) (ha : PE X x (rdE Z (evE Γ a))) :
    PE X (.Call (.Attribute (.Dict keys values p2) "get" apos) [x, .Constant (.int dflt) k p3] [] pos) (rdE Z (evE Γ (.strGet ks a dflt))) := by
  obtain ⟨i1, i2, i3, i4⟩ := keysOk_snd (X := X) (pos := p2) hk
  have m : M2 X (.Dict keys values p2) "get" apos x (.Constant (.int dflt) k p3) pos := ⟨rfl, by rw [star_cons hn] <;> rfl, hl, by rw [star_cons hn] <;> rfl⟩
  refine pe_mono (pe_dget2 (hu_of ft.room) (pe_disp i1 i2 i3 (by intro e; rw [e] at i4; exact h0 (List.eq_nil_of_length_eq_zero i4.symm)) (by omega)) ha pe_int m) fun σ H Q ⟨F, ρ, E, c⟩ => ?_
  rw [evE] at c
  intro p hp
  refine tPairs_const ?_
  refine ⟨upd_same, ks.map fun p => ((Sum.inr p.1 : Key), V.int p.2), by rw [List.map_map]; rfl, by rw [List.length_map]; exact h15, ?_⟩
  rw [upd_upd]
  obtain ⟨s0, E0⟩ := E.new (o := .dK (mergeK [] (ks.map fun p => ((Sum.inr p.1 : Key), V.int p.2)))) hp
  refine ⟨p, rfl, .inl ⟨_, .inl upd_same⟩, (Cont.bind E0 (c.mono s0)).imp fun w H3 ⟨r', F3, ρ3, s3, E3, l3, c3⟩ => ?_⟩
  obtain ⟨F4, s4, E4, l4⟩ := E3.share l3
  obtain ⟨z, ez, c4⟩ := asStr_bind c3
  rw [ez] at l4
  cases l4
  have hH : H3 p = some (.dK (mergeK [] (ks.map fun p => ((Sum.inr p.1 : Key), V.int p.2)))) := E4.fh p _ (s4 _ _ (s3 _ _ upd_same))
  refine ⟨_, DGet.k (k := .inr z) hH, ?_⟩
  have nd : ((([] : List (Key × V)) ++ ks.map fun p => ((Sum.inr p.1 : Key), V.int p.2)).map (·.1)).Nodup := by
    rw [List.nil_append, List.map_map]
    have e : ((fun x : Key × V => x.1) ∘ fun p : Str × Int => ((Sum.inr p.1 : Key), V.int p.2)) = (fun x : Str => (Sum.inr x : Key)) ∘ (fun p : Str × Int => p.1) := rfl
    rw [e, ← List.map_map]
    exact List.Pairwise.map _ (fun a b ne q => ne (Sum.inr.inj q)) hd
  rw [merge_fresh nd, List.nil_append, val_lookup]
  have q := cont_val (c4.mono s4) E4 (.int _)
  unfold strKeyGet at q
  cases e : ks.lookup z with
  | none => rw [e] at q; exact q
  | some n => rw [e] at q; exact q
end
end PL
/-! PLStmt: statements. -/
namespace PL
open PySem L2 PySem.Spec PyProof.Rows
def SCont (Z : Fx) (F : Hp) (D : Ends) (r : R Fl) : Prop := match r with
  | .ok .nx ρ => ∀ σ' F' H', Same F F' → EnvOk Z.K Z.pa F' Z.G H' σ' ρ → D.nx σ' H'
  | .ok (.rt v) ρ => ∀ x σ' F' H', Same F F' → EnvOk Z.K Z.pa F' Z.G H' σ' ρ → Res Z.K F' Z.G H' σ' ρ x v → D.rt x H'
  | .err e ρ => ∀ σ' F' H' c x, Same F F' → EnvOk Z.K Z.pa F' Z.G H' σ' ρ → ExR Z.K Z.mg F' c x e → Z.W c x σ' H'
  | .bad => False
def rdS (Z : Fx) (f : M Fl) : TS := fun D σ H => ∃ F ρ, EnvOk Z.K Z.pa F Z.G H σ ρ ∧ SCont Z F D (f ρ)
theorem ps_mono {X : Cx} {s : Stmt} {t t' : TS} (h : PS X s t) (i : ∀ D σ H, t' D σ H → t D σ H) : PS X s t' := ⟨fun pins s σ H D I q => h.run pins s σ H D I (i D σ H q)⟩
theorem pss_mono {X : Cx} {s : List Stmt} {t t' : TS} (h : PSs X s t) (i : ∀ D σ H, t' D σ H → t D σ H) : PSs X s t' := ⟨fun pins s σ H D I q => h.run pins s σ H D I (i D σ H q)⟩
section
variable {Z : Fx} {C α : Type} {rel : Lie C α} {σ : L2.St} {F F' H : Hp} {ρ : Env} {D : Ends}
theorem SCont.mono {r : R Fl} (s : Same F F') (c : SCont Z F D r) : SCont Z F' D r := by
  cases r with
  | ok a ρ =>
    cases a with
    | nx => exact fun σ' F2 H' s2 => c σ' F2 H' (s.trans s2)
    | rt v => exact fun x σ' F2 H' s2 => c x σ' F2 H' (s.trans s2)
  | err e ρ => exact fun σ' F2 H' cl x s2 => c σ' F2 H' cl x (s.trans s2)
  | bad => exact c
theorem SCont.bind {f : M α} {g : α → M Fl} (E : EnvOk Z.K Z.pa F Z.G H σ ρ) (c : SCont Z F D ((f >>= g) ρ)) :
    Rd Z rel f σ H fun v H1 => ∃ a F1 ρ1, Same F F1 ∧ EnvOk Z.K Z.pa F1 Z.G H1 σ ρ1 ∧ rel F1 H1 σ ρ1 v a ∧ SCont Z F1 D (g a ρ1) := by
  refine ⟨F, ρ, E, ?_⟩
  cases q : f ρ with
  | ok a ρ1 =>
    rw [bind_ok q] at c
    exact fun v F1 H1 s E1 l => ⟨a, F1, ρ1, s, E1, l, c.mono s⟩
  | err x ρ1 =>
    rw [bind_err q] at c
    exact fun F1 H1 cl d s E1 l => c σ F1 H1 cl d s E1 l
  | bad =>
    rw [bind_bad q] at c
    exact c.elim
/-- one part of a block, then the rest -/
def thenS (a b : M Fl) : M Fl := a >>= fun f => match f with
  | .nx => b
  | .rt v => pure (.rt v)
theorem SCont.split {a b : M Fl} (c : SCont Z F D (thenS a b ρ)) : SCont Z F { D with nx := fun σ' H' => ∃ F' ρ', Same F F' ∧ EnvOk Z.K Z.pa F' Z.G H' σ' ρ' ∧ SCont Z F' D (b ρ') } (a ρ) := by
  unfold thenS at c
  cases q : a ρ with
  | ok f ρ1 =>
    rw [bind_ok q] at c
    cases f with
    | nx => exact fun σ' F' H' s E' => ⟨F', ρ1, s, E', SCont.mono (D := D) s c⟩
    | rt v => exact c
  | err e ρ1 =>
    rw [bind_err q] at c
    exact c
  | bad =>
    rw [bind_bad q] at c
    exact c
end
theorem evSs_cons (Γ : Gm) (s : S) (ss : List S) : evSs Γ (s :: ss) = thenS (evS Γ s) (evSs Γ ss) := by
  rw [evSs]
  rfl
section
variable {X : Cx} {Z : Fx} {Γ : Gm} {lev : Nat} {T : Tab} {pos p : Pos}
theorem sndSs_nil : PSs X [] (rdS Z (evSs Γ [])) := pss_mono pss_nil fun D σ H ⟨F, ρ, E, c⟩ => by
  rw [evSs] at c
  exact c σ F H (Same.refl F) E
theorem sndSs_cons {s : S} {ss : List S} {a : Stmt} {as : List Stmt} (h : PS X a (rdS Z (evS Γ s))) (hs : PSs X as (rdS Z (evSs Γ ss))) : PSs X (a :: as) (rdS Z (evSs Γ (s :: ss))) :=
  pss_mono (pss_cons h hs) fun D σ H ⟨F, ρ, E, c⟩ => by
    rw [evSs_cons] at c
    refine ⟨F, ρ, E, ?_⟩
    have c2 := c.split
    cases q : evS Γ s ρ with
    | ok f ρ1 =>
      rw [q] at c2
      cases f with
      | nx =>
        intro σ' F' H' s' E'
        obtain ⟨F2, ρ2, s2, E2, c3⟩ := c2 σ' F' H' s' E'
        exact ⟨F2, ρ2, E2, c3⟩
      | rt v => exact c2
    | err e ρ1 => rw [q] at c2; exact c2
    | bad => rw [q] at c2; exact c2
/-! ### small statements -/
def ncomp : PySem.Expr → Bool
  | .ListComp .. => false
  | .SetComp .. => false
  | .DictComp .. => false
  | _ => true
theorem nswap {e : PySem.Expr} {t : Option PySem.Expr} {l : Nat} {env : PySem.Env} (h : ncomp e = true) : swapsWith e t l env = pure false := by
  cases e <;> first | rfl | cases h
theorem sub_swap {e o i : PySem.Expr} {l : Nat} {p : Pos} {env : PySem.Env} : swapsWithSole [.Subscript o i p] e l env = pure false := by
  show swapsWith e (some (.Subscript o i p)) l env = pure false
  cases e <;> rfl
theorem asg_key {te : TE} {i : Nat} {m : M Vl} (ht : ∀ σ H Q, rdE Z m σ H Q → te σ H Q) (D : Ends) (σ : L2.St) (H : Hp) (h : rdS Z (m >>= fun v => put i v >>= fun _ => pure .nx) D σ H) : tAsg te (gName i) D σ H := by
  obtain ⟨F, ρ, E, c⟩ := h
  refine ht σ H _ ((SCont.bind E c).imp fun x H1 ⟨r, F1, ρ1, s1, E1, l1, c1⟩ => ?_)
  cases q : put i r ρ1 with
  | ok u ρ2 =>
    rw [bind_ok q] at c1
    exact c1 _ F1 H1 (Same.refl F1) (E1.put l1 q)
  | err e ρ2 =>
    unfold put at q
    split at q <;> cases q
  | bad => rw [bind_bad q] at c1; exact c1.elim
theorem snd_asg {i : Nat} {x : Str} {e : E} {a : PySem.Expr} {p2 : Pos} (hN : X.N.Nodup) (hi : X.N[i]? = some x) (hx : Loc X.env.scope x) (hf : X.fn x = true ∨ X.env.scope.names.lookup x = some .local) (hs : swapsWith a (some (.Name x p2)) pos.line X.env = pure false) (ha : PE X a (rdE Z (evE Γ e))) :
    PS X (.Assign [.Name x p2] a pos) (rdS Z (evS Γ (.asg i e))) :=
  ps_mono (ps_set hN hi hx ha hs hf) fun D σ H h => by
    rw [evS] at h
    exact asg_key (fun _ _ _ q => q) D σ H h
theorem put_noerr {i : Nat} {v : Vl} {ρ ρ' : Env} {e : Ex} : put i v ρ ≠ .err e ρ' := by
  unfold put
  split <;> (intro h; cases h)
mutual
theorem asgTg_noerr : ∀ (t : Tg) (d : D) (ρ : Env) (e : Ex) (ρ' : Env), asgTg t d ρ ≠ .err e ρ'
  | .nm i, d, ρ, e, ρ' => by rw [asgTg]; exact put_noerr
  | .tup ts, .tup ds, ρ, e, ρ' => by
    rw [asgTg]
    split
    · exact asgTgs_noerr ts ds ρ e ρ'
    · intro h; cases h
  | .tup ts, .non, ρ, e, ρ' => by simp [asgTg, M.bad]
  | .tup ts, .bl _, ρ, e, ρ' => by simp [asgTg, M.bad]
  | .tup ts, .int _, ρ, e, ρ' => by simp [asgTg, M.bad]
  | .tup ts, .str _, ρ, e, ρ' => by simp [asgTg, M.bad]
  | .tup ts, .lst _, ρ, e, ρ' => by simp [asgTg, M.bad]
  | .tup ts, .ro _, ρ, e, ρ' => by simp [asgTg, M.bad]
  | .tup ts, .dct _, ρ, e, ρ' => by simp [asgTg, M.bad]
  | .tup ts, .fn _, ρ, e, ρ' => by simp [asgTg, M.bad]
theorem asgTgs_noerr : ∀ (ts : List Tg) (ds : List D) (ρ : Env) (e : Ex) (ρ' : Env), asgTgs ts ds ρ ≠ .err e ρ'
  | [], [], ρ, e, ρ' => by rw [asgTgs]; intro h; cases h
  | [], _ :: _, ρ, e, ρ' => by rw [asgTgs]; intro h; cases h
  | _ :: _, [], ρ, e, ρ' => by rw [asgTgs]; intro h; cases h
  | t :: ts, d :: ds, ρ, e, ρ' => by
    rw [asgTgs]
    intro h
    cases q : asgTg t d ρ with
    | ok u ρ1 => rw [bind_ok q] at h; exact asgTgs_noerr ts ds ρ1 e ρ' h
    | err e2 ρ1 => exact asgTg_noerr t d ρ e2 ρ1 q
    | bad => rw [bind_bad q] at h; cases h
end
theorem asgT_key {te : TE} {t : Tg} {m : M Vl} (ht : ∀ σ H Q, rdE Z m σ H Q → te σ H Q) (D : Ends) (σ : L2.St) (H : Hp) (h : rdS Z (m >>= fun v => asgTg t v.d >>= fun _ => pure .nx) D σ H) : tAsg te (rdG Z t.slots (asgTg t)) D σ H := by
  obtain ⟨F, ρ, E, c⟩ := h
  refine ht σ H _ ((SCont.bind E c).imp fun x H1 ⟨r, F1, ρ1, s1, E1, l1, c1⟩ => ?_)
  obtain ⟨F2, s2, E2, l2⟩ := E1.share l1
  refine ⟨F2, ρ1, r.d, E2, l2, ?_⟩
  cases q : asgTg t r.d ρ1 with
  | ok u ρ2 =>
    rw [bind_ok q] at c1
    exact fun σ' E' _ _ => c1 σ' F2 H1 s2 E'
  | err e ρ2 => 
    rw [bind_err q] at c1
    exact (asgTg_noerr t r.d ρ1 e ρ2 q).elim
  | bad => rw [bind_bad q] at c1; exact c1.elim
end
end PL
/-! PLStmt2: statements: targets, stores, tests, loops. -/
namespace PL
open PySem L2 PySem.Spec PyProof.Rows
section
variable {X : Cx} {Z : Fx} {Γ : Gm} {lev : Nat} {T : Tab} {pos p : Pos}
/-- target = value, the value no written tuple -/
def ntup : PySem.Expr → Bool
  | .Tuple .. => false
  | _ => true
theorem nswapped {t e : PySem.Expr} {env : PySem.Env} (h : ntup e = true) : swappedStores [t] e env = pure none := by
  unfold swappedStores
  cases t <;> cases e <;> first | rfl | cases h
theorem tup_swapSole {ts : List PySem.Expr} {k l : Nat} {p : Pos} {e : PySem.Expr} {env : PySem.Env} : swapsWithSole [.Tuple ts k p] e l env = pure false := by
  show swapsWith e (some (.Tuple ts k p)) l env = pure false
  cases e <;> rfl
theorem snd_asgT {ts : List Tg} {e : E} {as : List PySem.Expr} {k : Nat} {p2 : Pos} {a : PySem.Expr} (hw : swappedStores [.Tuple as k p2] a X.env = pure none) (ha : PE X a (rdE Z (evE Γ e))) (hg : PG X (.Tuple as k p2) (rdG Z (Tg.slots (.tup ts)) (asgTg (.tup ts)))) :
    PS X (.Assign [.Tuple as k p2] a pos) (rdS Z (evS Γ (.asgT (.tup ts) e))) :=
  ps_mono (ps_asg ha hg tup_swapSole hw rfl) fun D σ H h => by
    rw [evS] at h
    exact asgT_key (fun _ _ _ q => q) D σ H h
/-- values side by side: what is owned lies apart -/
structure ResL (K : PySem.W.Frag) (F G H : Hp) (σ : L2.St) (ρ : Env) (vs : List V) (rs : List Vl) : Prop where
  len : vs.length = rs.length
  res : ∀ (i : Nat) (v : V) (r : Vl), vs[i]? = some v → rs[i]? = some r → Res K F G H σ ρ v r
  dist : ∀ (i j : Nat) (v w : V) (r q : Vl), i ≠ j → vs[i]? = some v → rs[i]? = some r → r.own = true → vs[j]? = some w → rs[j]? = some q → q.own = true → v ≠ w
abbrev lVs (Z : Fx) : Lie (List V) (List Vl) := fun F H σ ρ vs rs => ResL Z.K F Z.G H σ ρ vs rs
theorem ResL.nil {K : PySem.W.Frag} {F G H : Hp} {σ : L2.St} {ρ : Env} : ResL K F G H σ ρ [] [] := ⟨rfl, fun i v r h => by simp at h, fun i j v w r q _ h => by simp at h⟩
/-- of fewer foreign objects -/
theorem EnvOk.less {K : PySem.W.Frag} {pa : Nat → Option Addr} {F G G' H : Hp} {σ : L2.St} {ρ : Env} (E : EnvOk K pa F G' H σ ρ) (g : Same G G') : EnvOk K pa F G H σ ρ where
  fh := E.fh
  gh := fun a u q => E.gh a u (g a u q)
  fg := fun a o q => g.free (E.fg a o q)
  len := E.len
  shr := E.shr
  own := fun i f d q n => by
    obtain ⟨a, h1, h2, h3, h4⟩ := E.own i f d q n
    exact ⟨a, h1, h2, g.free h3, h4⟩
  pin := E.pin
  dist := E.dist
theorem Res.less {K : PySem.W.Frag} {F G G' H : Hp} {σ : L2.St} {ρ : Env} {v : V} {r : Vl} (h : Res K F G' H σ ρ v r) (g : Same G G') : Res K F G H σ ρ v r := by
  obtain ⟨o, d⟩ := r
  cases o with
  | false => exact h
  | true =>
    obtain ⟨a, h1, ⟨h2, h3, h4⟩, h5⟩ := h
    exact ⟨a, h1, ⟨h2, g.free h3, h4⟩, h5⟩
/-- an owned value set aside -/
theorem EnvOk.aside {K : PySem.W.Frag} {pa : Nat → Option Addr} {F G H : Hp} {σ : L2.St} {ρ : Env} {a : Addr} {o : HO} (E : EnvOk K pa F G H σ ρ) (hF : F a = none) (hG : G a = none) (hH : H a = some o) (no : NotOwn σ ρ a) : EnvOk K pa F (upd G a o) H σ ρ where
  fh := E.fh
  gh := fun b u q => by
    by_cases hb : b = a
    · subst hb; rw [upd_same] at q; cases q; exact hH
    · rw [upd_ne hb] at q; exact E.gh b u q
  fg := fun b u q => by
    have hb : b ≠ a := fun z => by subst z; rw [hF] at q; cases q
    rw [upd_ne hb]; exact E.fg b u q
  len := E.len
  shr := E.shr
  own := fun i f d q n => by
    obtain ⟨b, h1, h2, h3, h4⟩ := E.own i f d q n
    have hb : b ≠ a := fun z => by subst z; exact no i f d q n h1
    exact ⟨b, h1, h2, by rw [upd_ne hb]; exact h3, h4⟩
  pin := E.pin
  dist := E.dist
theorem snd_evV_nil : PA X [] (Rd Z (lVs Z) (evV Γ [])) := pa_mono pa_nil fun σ H Q ⟨F, ρ, E, c⟩ => c [] F H (Same.refl F) E ResL.nil
theorem snd_evV_cons {e : E} {es : List E} {a : PySem.Expr} {as : List PySem.Expr} (he : PE X a (rdE Z (evE Γ e))) (hs : ∀ G : Hp, PA X as (Rd { Z with G := G } (lVs { Z with G := G }) (evV Γ es))) (hn : nst a = true) : PA X (a :: as) (Rd Z (lVs Z) (evV Γ (e :: es))) := by
  have hs2 : PA X as (fun σ H Q => ∃ G : Hp, Rd { Z with G := G } (lVs { Z with G := G }) (evV Γ es) σ H Q) := ⟨fun p pins s σ H Q I ⟨G, q⟩ => (hs G).run p pins s σ H Q I q⟩
  refine pa_mono (pa_cons he hs2 (star_cons hn)) fun σ H Q ⟨F, ρ, E, c⟩ => ?_
  have c' : Cont Z (lVs Z) σ F ((evE Γ e >>= fun v => evV Γ es >>= fun vs => pure (v :: vs)) ρ) Q := c
  refine (Cont.bind E c').imp fun v H1 ⟨r, F1, ρ1, s1, E1, l1, c1⟩ => ?_
  obtain ⟨o, d⟩ := r
  cases o with
  | false =>
    have l1' : Rp Z.K F1 v d := l1
    refine ⟨Z.G, F1, ρ1, E1, ?_⟩
    cases q : evV Γ es ρ1 with
    | ok rs ρ2 =>
      rw [bind_ok q] at c1
      intro vs F2 H2 s2 E2 l2
      refine c1 (v :: vs) F2 H2 s2 E2 ⟨by simp [l2.len], fun i w r h1 h2 => ?_, fun i j w u r q n h1 h2 h3 h4 h5 h6 => ?_⟩
      · cases i with
        | zero =>
          simp at h1 h2
          subst h1 h2
          exact l1'.mono s2
        | succ i => exact l2.res i w r (by simpa using h1) (by simpa using h2)
      · cases i with
        | zero => simp at h2; subst h2; cases h3
        | succ i =>
          cases j with
          | zero => simp at h5; subst h5; cases h6
          | succ j => exact l2.dist i j w u r q (fun z => n (by rw [z])) (by simpa using h1) (by simpa using h2) h3 (by simpa using h4) (by simpa using h5) h6
    | err x ρ2 =>
      rw [bind_err q] at c1
      exact c1
    | bad =>
      rw [bind_bad q] at c1
      exact c1.elim
  | true =>
    obtain ⟨p, rfl, ⟨o1, o2, o3⟩, no⟩ := l1
    cases d with
    | lst ds =>
      obtain ⟨xs, hx, rx⟩ := o3
      have g0 : Same Z.G (upd Z.G p (.lst xs)) := upd_same_of o2
      refine ⟨upd Z.G p (.lst xs), F1, ρ1, E1.aside o1 o2 hx no, ?_⟩
      cases q : evV Γ es ρ1 with
      | ok rs ρ2 =>
        rw [bind_ok q] at c1
        intro vs F2 H2 s2 E2 l2
        have E2' : EnvOk Z.K Z.pa F2 (upd Z.G p (.lst xs)) H2 σ ρ2 := E2
        have f2 : F2 p = none := by
          cases z : F2 p with
          | none => rfl
          | some u =>
            have := E2'.fg p u z
            rw [upd_same] at this
            cases this
        have no2 : NotOwn σ ρ2 p := fun i g d z n w => by
          obtain ⟨b, h1, h2, h3, h4⟩ := E2'.own i g d z n
          rw [w] at h1
          cases h1
          rw [upd_same] at h3
          cases h3
        have other : ∀ (j : Nat) (w : V) (q : Vl), vs[j]? = some w → rs[j]? = some q → q.own = true → w ≠ .ref p := fun j w q h1 h2 h3 z => by
          have r2 := l2.res j w q h1 h2
          obtain ⟨o, d⟩ := q
          cases h3
          obtain ⟨b, h4, ⟨_, h5, _⟩, _⟩ := r2
          rw [z] at h4
          cases h4
          have h5' : (upd Z.G p (.lst xs)) p = none := h5
          rw [upd_same] at h5'
          cases h5'
        refine c1 (.ref p :: vs) F2 H2 s2 (E2'.less g0) ⟨by simp [l2.len], fun i w r h1 h2 => ?_, fun i j w u r q n h1 h2 h3 h4 h5 h6 => ?_⟩
        · cases i with
          | zero =>
            simp at h1 h2
            subst h1 h2
            exact ⟨p, rfl, ⟨f2, o2, xs, E2'.gh p _ upd_same, rx.mono s2⟩, no2⟩
          | succ i => exact Res.less (l2.res i w r (by simpa using h1) (by simpa using h2)) g0
        · cases i with
          | zero =>
            cases j with
            | zero => exact absurd rfl n
            | succ j =>
              simp at h1
              subst h1
              exact fun z => other j u q (by simpa using h4) (by simpa using h5) h6 z.symm
          | succ i =>
            cases j with
            | zero =>
              simp at h4
              subst h4
              exact other i w r (by simpa using h1) (by simpa using h2) h3
            | succ j => exact l2.dist i j w u r q (fun z => n (by rw [z])) (by simpa using h1) (by simpa using h2) h3 (by simpa using h4) (by simpa using h5) h6
      | err x ρ2 =>
        rw [bind_err q] at c1
        intro F2 H2 cl dd s2 E2 rx2
        exact c1 F2 H2 cl dd s2 (EnvOk.less (G' := upd Z.G p (.lst xs)) E2 g0) rx2
      | bad =>
        rw [bind_bad q] at c1
        exact c1.elim
    | _ => exact o3.elim
/-- two or three plain local names from two or three values -/
theorem par_key {is : List Nat} {vs : List V} {rs : List Vl} {F H : Hp} {σ : L2.St} {ρ : Env} {D : Ends} (E : EnvOk Z.K Z.pa F Z.G H σ ρ) (r : ResL Z.K F Z.G H σ ρ vs rs) (c : SCont Z F D ((putAll is rs >>= fun _ => pure .nx) ρ)) :
    vs.length = is.length ∧ D.nx ((is.zip vs).foldl (fun σ p => σ.set p.1 (some p.2)) σ) H := by
  induction is generalizing vs rs σ ρ with
  | nil =>
    cases rs with
    | nil =>
      have : vs = [] := List.length_eq_zero_iff.mp r.len
      subst this
      refine ⟨rfl, ?_⟩
      rw [putAll] at c
      exact c σ F H (Same.refl F) E
    | cons r1 rs =>
      rw [putAll] at c
      · exact c.elim
      all_goals (intros; simp_all)
  | cons i is ih =>
    cases rs with
    | nil =>
      rw [putAll] at c
      · exact c.elim
      all_goals (intros; simp_all)
    | cons q rs =>
      cases vs with
      | nil => have := r.len; simp at this
      | cons v vs =>
        rw [putAll, bind_assoc] at c
        have r0 := r.res 0 v q rfl rfl
        cases z : put i q ρ with
        | ok u ρ1 =>
          rw [bind_ok z] at c
          have E1 := E.put (r := q) r0 z
          have e1 : ρ1 = ρ.set i (some (if q.own then .own else .shr, q.d)) ∧ i < ρ.length := by
            unfold put at z
            split at z
            · cases z
            · rename_i s h
              cases z
              exact ⟨rfl, (List.getElem?_eq_some_iff.mp h).1⟩
            · cases z
          have rest : ResL Z.K F Z.G H (σ.set i (some v)) ρ1 vs rs := by
            refine ⟨by have := r.len; simpa using this, fun j w q2 h1 h2 => ?_, fun j k w u q1 q2 n h1 h2 h3 h4 h5 h6 => r.dist (j + 1) (k + 1) w u q1 q2 (by omega) (by simpa using h1) (by simpa using h2) h3 (by simpa using h4) (by simpa using h5) h6⟩
            have rr := r.res (j + 1) w q2 (by simpa using h1) (by simpa using h2)
            obtain ⟨o, d⟩ := q2
            cases o with
            | false => exact rr
            | true =>
              obtain ⟨b, rfl, ob, no⟩ := rr
              refine ⟨b, rfl, ob, fun l g d2 z1 n1 z2 => ?_⟩
              by_cases hl : i = l
              · subst hl
                rw [e1.1, List.getElem?_set_self e1.2] at z1
                have hi : i < σ.length := by rw [← E.len]; exact e1.2
                rw [List.getElem?_set_self hi] at z2
                simp only [Option.some.injEq, Prod.mk.injEq] at z1 z2
                have ho : q.own = true := by
                  cases ho : q.own with
                  | true => rfl
                  | false =>
                    rw [ho] at z1
                    exact absurd z1.1.symm n1
                exact r.dist 0 (j + 1) v (.ref b) q _ (by omega) rfl rfl ho (by simpa using h1) (by simpa using h2) rfl z2
              · rw [e1.1, List.getElem?_set_ne hl] at z1
                rw [List.getElem?_set_ne hl] at z2
                exact no l g d2 z1 n1 z2
          obtain ⟨h1, h2⟩ := ih E1 rest c
          exact ⟨by simp [h1], h2⟩
        | err e ρ1 => exact (put_noerr z).elim
        | bad => rw [bind_bad z] at c; exact c.elim
theorem snd_par2 {i j : Nat} {es : List E} {x y : Str} {a b : PySem.Expr} {px py pt : Pos} {kt k2 : Nat} {pt2 : Pos} (hc : X.calm = true) (hN : X.N.Nodup) (hi : X.N[i]? = some x) (hj : X.N[j]? = some y) (hij : i ≠ j)
    (hx : X.env.scope.names.lookup x = some .local) (hy : X.env.scope.names.lookup y = some .local) (hw : swappedStores [.Tuple [.Name x px, .Name y py] kt pt] (.Tuple [a, b] k2 pt2) X.env = pure (some [x, y]))
    (ha : PA X [a, b] (Rd Z (lVs Z) (evV Γ es))) : PS X (.Assign [.Tuple [.Name x px, .Name y py] kt pt] (.Tuple [a, b] k2 pt2) pos) (rdS Z (evS Γ (.par [i, j] es))) :=
  ps_mono (ps_par hc hN hi hj hij hx hy ha hw tup_swapSole) fun D σ H ⟨F, ρ, E, c⟩ => by
    rw [evS] at c
    refine (SCont.bind E c).imp fun vs H1 ⟨ds, F1, ρ1, s1, E1, l1, c1⟩ => ?_
    obtain ⟨h1, h2⟩ := par_key (is := [i, j]) E1 l1 c1
    match vs, h1 with
    | [v, w], _ => exact ⟨v, w, rfl, h2⟩
theorem snd_par3 {i j l : Nat} {es : List E} {x y z : Str} {a b d : PySem.Expr} {px py pz pt : Pos} {kt k2 : Nat} {pt2 : Pos} (hc : X.calm = true) (hN : X.N.Nodup) (hi : X.N[i]? = some x) (hj : X.N[j]? = some y) (hl : X.N[l]? = some z) (hij : i ≠ j) (hil : i ≠ l) (hjl : j ≠ l)
    (hx : X.env.scope.names.lookup x = some .local) (hy : X.env.scope.names.lookup y = some .local) (hz : X.env.scope.names.lookup z = some .local)
    (hw : swappedStores [.Tuple [.Name x px, .Name y py, .Name z pz] kt pt] (.Tuple [a, b, d] k2 pt2) X.env = pure (some [x, y, z]))
    (ha : PA X [a, b, d] (Rd Z (lVs Z) (evV Γ es))) : PS X (.Assign [.Tuple [.Name x px, .Name y py, .Name z pz] kt pt] (.Tuple [a, b, d] k2 pt2) pos) (rdS Z (evS Γ (.par [i, j, l] es))) :=
  ps_mono (ps_par3 hc hN hi hj hl hij hil hjl hx hy hz ha hw tup_swapSole) fun D σ H ⟨F, ρ, E, c⟩ => by
    rw [evS] at c
    refine (SCont.bind E c).imp fun vs H1 ⟨ds, F1, ρ1, s1, E1, l1, c1⟩ => ?_
    obtain ⟨h1, h2⟩ := par_key (is := [i, j, l]) E1 l1 c1
    match vs, h1 with
    | [v, w, u], _ => exact ⟨v, w, u, rfl, h2⟩
/-- an owned slot's list, changed -/
theorem change_ok {i : Nat} {f : D → Option D} {F G H : Hp} {K : PySem.W.Frag} {pa : Nat → Option Addr} {σ : L2.St} {ρ ρ' : Env} (E : EnvOk K pa F G H σ ρ) (q : change i f ρ = .ok () ρ') :
    ∃ a xs ds d', σ[i]? = some (some (V.ref a)) ∧ H a = some (.lst xs) ∧ Rps K F xs ds ∧ f (.lst ds) = some d' ∧ ∀ ys es, d' = .lst es → Rps K F ys es → EnvOk K pa F G (upd H a (.lst ys)) σ ρ' := by
  unfold change at q
  split at q
  · cases q
  · rename_i g d ng e
    have ng' : g ≠ Fg.shr := fun z => ng z
    split at q
    · rename_i d' hf
      cases q
      obtain ⟨a, ea, h1, h2, h3⟩ := E.own i g d e ng'
      cases d with
      | lst ds =>
        obtain ⟨xs, e3, r⟩ := h3
        refine ⟨a, xs, ds, d', ea, e3, r, hf, fun ys es hd ry => ?_⟩
        subst hd
        have hi : i < ρ.length := (List.getElem?_eq_some_iff.mp e).1
        have nf : ∀ b u, F b = some u → b ≠ a := fun b u q z => by subst z; rw [h1] at q; cases q
        have ngg : ∀ b u, G b = some u → b ≠ a := fun b u q z => by subst z; rw [h2] at q; cases q
        refine ⟨fun b u q => by rw [upd_ne (nf b u q)]; exact E.fh b u q, fun b u q => by rw [upd_ne (ngg b u q)]; exact E.gh b u q, E.fg, by rw [List.length_set]; exact E.len, fun j d z => ?_, fun j g2 d z nz => ?_, fun j d z => ?_, fun j k g1 g2 d1 d2 b ne z nz z' nz' eb => ?_⟩
        · by_cases hj : i = j
          · subst hj; rw [List.getElem?_set_self hi] at z; cases z; exact absurd rfl ng'
          · rw [List.getElem?_set_ne hj] at z; exact E.shr j d z
        · by_cases hj : i = j
          · subst hj; rw [List.getElem?_set_self hi] at z; cases z
            exact ⟨a, ea, h1, h2, ys, upd_same, ry⟩
          · rw [List.getElem?_set_ne hj] at z
            obtain ⟨b, eb, k1, k2, k3⟩ := E.own j g2 d z nz
            have nb : b ≠ a := by
              rintro rfl
              exact E.dist i j g g2 _ d b hj e ng' z nz ea eb
            refine ⟨b, eb, k1, k2, ?_⟩
            cases d with
            | lst d2 => obtain ⟨zs, e5, r5⟩ := k3; exact ⟨zs, by rw [upd_ne nb]; exact e5, r5⟩
            | _ => exact k3
        · by_cases hj : i = j
          · subst hj; rw [List.getElem?_set_self hi] at z; cases z
            exact E.pin i _ e
          · rw [List.getElem?_set_ne hj] at z; exact E.pin j d z
        · have old : ∀ {j : Nat} {g2 : Fg} {d : D}, (ρ.set i (some (g, .lst es)))[j]? = some (some (g2, d)) → ∃ d0, ρ[j]? = some (some (g2, d0)) := fun {j g2 d} z => by
            by_cases hj : i = j
            · subst hj; rw [List.getElem?_set_self hi] at z; cases z; exact ⟨_, e⟩
            · rw [List.getElem?_set_ne hj] at z; exact ⟨d, z⟩
          obtain ⟨d3, z3⟩ := old z
          obtain ⟨d4, z4⟩ := old z'
          exact E.dist j k g1 g2 d3 d4 b ne z3 nz z4 nz' eb
      | _ => exact h3.elim
    · cases q
  · cases q
theorem change_noerr {i : Nat} {f : D → Option D} {ρ ρ' : Env} {e : Ex} : change i f ρ ≠ .err e ρ' := by
  unfold change
  split
  · intro h; cases h
  · split <;> (intro h; cases h)
  · intro h; cases h
theorem snd_app {i : Nat} {x : Str} {e : E} {a : PySem.Expr} {p1 p2 : Pos} (hx : PE X (.Name x p1) (tVar i)) (hn : nst a = true) (hl : (p2.endLine == p.line) = true) (ha : PE X a (rdE Z (evE Γ e))) :
    PS X (.Expr (.Call (.Attribute (.Name x p1) "append" p2) [a] [] p) pos) (rdS Z (evS Γ (.app i e))) := by
  have few : ((backTo p (starEach [a] X.env)).all (fun x => !x.1) && (backToKw p (keywordEach [] X.env)).all (fun x => x.1.isSome)
      && decide (([a] : List PySem.Expr).length + ([] : List Keyword).length + (if ([] : List Keyword).isEmpty then 0 else 1) < 30)) = true := by
    rw [star_cons hn]; rfl
  refine ps_mono (ps_expr (pe_bm PySem.F.plainAttrs_list PySem.F.slot_list_append PySem.F.type_list_append mt_append hx (pa_cons ha pa_nil (star_cons hn)) rfl few hl (star_cons hn) rfl) (nswap rfl)) fun D σ H ⟨F, ρ, E, c⟩ => ?_
  rw [evS] at c
  cases q : slotd i ρ with
  | ok d ρ0 =>
    rw [bind_ok q] at c
    have there : ∃ a, σ[i]? = some (some (V.ref a)) := by
      unfold slotd at q
      split at q
      · rename_i f d' z
        split at q
        · cases q
        · rename_i nf
          obtain ⟨a, ea, _⟩ := E.own i f d' z nf
          exact ⟨a, ea⟩
      · cases q
    obtain ⟨aa, ea⟩ := there
    obtain ⟨rfl, sd⟩ := E.slotd q ea
    cases d with
    | lst ds =>
      obtain ⟨a2, xs, e2, sx, _⟩ := seen_lst E.fh sd
      cases e2
      refine ⟨.ref aa, ea, Or.inl ⟨rfl, _, SqL.of sx⟩, ?_⟩
      refine (SCont.bind (Z := Z) E (show SCont Z F D ((evE Γ e >>= fun v => change i (appd v.d) >>= fun _ => pure .nx) ρ0) from c)).imp fun v H1 ⟨r, F1, ρ1, s1, E1, l1, c1⟩ => ?_
      obtain ⟨F2, s2, E2, l2⟩ := E1.share l1
      cases q2 : change i (appd r.d) ρ1 with
      | ok u ρ2 =>
        rw [bind_ok q2] at c1
        obtain ⟨b, ys, es, d', eb, hb, rb, hf, fin⟩ := change_ok E2 q2
        rw [ea] at eb
        cases eb
        unfold appd at hf
        simp only at hf
        split at hf
        · rename_i hlt
          cases hf
          exact ⟨aa, ys, v, rfl, rfl, hb, by rw [rb.length, ← szL_eq]; exact hlt, c1 σ F2 _ s2 (fin _ _ rfl (rb.append (.cons l2 .nil)))⟩
        · cases hf
      | err e2 ρ2 => exact (change_noerr q2).elim
      | bad => rw [bind_bad q2] at c1; exact c1.elim
    | _ => exact c.elim
  | err e2 ρ0 =>
    unfold slotd at q
    split at q <;> (try split at q) <;> cases q
  | bad => rw [bind_bad q] at c; exact c.elim
theorem ix_rps {n : Nat} {i : Int} {j : Nat} (h : ixOf n i = some j) : ixN n i = some j := by
  unfold ixOf at h
  by_cases h0 : 0 ≤ i
  · rw [if_pos h0] at h
    by_cases h1 : i < (n : Int)
    · rw [if_pos h1] at h
      cases h
      unfold ixN
      first
        | rw [if_pos (by omega), if_pos (by omega)]
        | (split <;> first | omega | (congr 1) | (split <;> first | omega | congr 1))
    · rw [if_neg h1] at h; cases h
  · rw [if_neg h0] at h
    by_cases h1 : -(n : Int) ≤ i
    · rw [if_pos h1] at h
      cases h
      unfold ixN
      first
        | rw [if_neg (by omega), if_pos (by omega)]
        | (split <;> first | omega | (congr 1) | (split <;> first | omega | congr 1))
    · rw [if_neg h1] at h; cases h
theorem snd_setix {i : Nat} {x : Str} {e k : E} {a b : PySem.Expr} {p1 p2 : Pos} (hs : nslice b = true) (hx : PE X (.Name x p1) (tVar i)) (ha : PE X a (rdE Z (evE Γ e))) (hb : PE X b (rdE Z (evE Γ k))) :
    PS X (.Assign [.Subscript (.Name x p1) b p2] a pos) (rdS Z (evS Γ (.setix i k e))) := by
  refine ps_mono (ps_asg ha (pg_sub hx hb set_list (by intro _; cases b <;> first | rfl | cases hs)) sub_swap (by unfold swappedStores; cases a <;> rfl) rfl) fun D σ H ⟨F, ρ, E, c⟩ => ?_
  rw [evS] at c
  refine (SCont.bind E c).imp fun v H1 ⟨r, F1, ρ1, s1, E1, l1, c1⟩ => ?_
  obtain ⟨F2, s2, E2, l2⟩ := E1.share l1
  have c2 := c1.mono s2
  cases q : see i ρ1 with
  | ok z ρ2 =>
    rw [bind_ok q] at c2
    have there : ρ2 = ρ1 ∧ ∃ a, σ[i]? = some (some (V.ref a)) := by
      unfold see at q
      split at q
      · rename_i f d' z
        split at q
        · cases q
        · rename_i nf
          cases q
          obtain ⟨a, ea, _⟩ := E2.own i f d' z nf
          exact ⟨rfl, a, ea⟩
      · cases q
    obtain ⟨rfl, aa, ea⟩ := there
    refine ⟨.ref aa, ea, (SCont.bind E2 c2).imp fun w H3 ⟨r', F3, ρ3, s3, E3, l3, c3⟩ => ?_⟩
    obtain ⟨F4, s4, E4, l4⟩ := E3.share l3
    have c4 := c3.mono s4
    cases q2 : change i (setd r'.d r.d) ρ3 with
    | ok u ρ4 =>
      rw [bind_ok q2] at c4
      obtain ⟨b, ys, es, d', eb, hb, rb, hf, fin⟩ := change_ok E4 q2
      rw [ea] at eb
      cases eb
      unfold setd at hf
      simp only at hf
      split at hf
      · rename_i n hn
        obtain ⟨j, hj, rfl⟩ := Option.map_eq_some_iff.mp hf
        rw [hn] at l4
        cases l4
        exact ⟨aa, ys, n, j, rfl, rfl, hb, by rw [rb.length]; exact ix_rps hj, c4 σ F4 _ (Same.refl F4) (fin _ _ rfl (rb.set j (l2.mono (s3.trans s4))))⟩
      · cases hf
    | err e2 ρ4 => exact (change_noerr q2).elim
    | bad => rw [bind_bad q2] at c4; exact c4.elim
  | err e2 ρ2 =>
    unfold see at q
    split at q <;> (try split at q) <;> cases q
  | bad => rw [bind_bad q] at c2; exact c2.elim
/-! ### tests, loops, ends -/
theorem SCont.blT {m : M Vl} {g : Bool → M Fl} {σ : L2.St} {F H : Hp} {ρ : Env} {D : Ends} (E : EnvOk Z.K Z.pa F Z.G H σ ρ) (c : SCont Z F D ((m >>= fun v => asBl v >>= g) ρ)) :
    rdB Z (m >>= asBl) σ H fun b H1 => ∃ F1 ρ1, Same F F1 ∧ EnvOk Z.K Z.pa F1 Z.G H1 σ ρ1 ∧ SCont Z F1 D (g b ρ1) := by
  rw [← bind_assoc] at c
  refine (SCont.bind E c).imp fun b H1 ⟨ra, F1, ρ1, s1, E1, l1, c1⟩ => ?_
  cases (show ra = b from l1)
  exact ⟨F1, ρ1, s1, E1, c1⟩
theorem snd_ife {c : E} {a b : List S} {x : PySem.Expr} {as bs : List Stmt} (hc : PT X x (rdB Z (evE Γ c >>= asBl))) (ha : PSs X as (rdS Z (evSs Γ a))) (hb : PSs X bs (rdS Z (evSs Γ b))) : PS X (.If x as bs pos) (rdS Z (evS Γ (.ife c a b))) :=
  ps_mono (ps_if hc ha hb) fun D σ H ⟨F, ρ, E, cc⟩ => by
    rw [evS] at cc
    refine (SCont.blT E cc).imp fun k H1 ⟨F1, ρ1, _, E1, c1⟩ => ?_
    cases k with
    | true => exact iteT ⟨F1, ρ1, E1, c1⟩
    | false => exact iteF ⟨F1, ρ1, E1, c1⟩
theorem snd_ret {e : E} {a : PySem.Expr} (ha : PE X a (rdE Z (evE Γ e))) : PS X (.Return (some a) pos) (rdS Z (evS Γ (.ret e))) :=
  ps_mono (ps_ret ha) fun D σ H ⟨F, ρ, E, c⟩ => by
    rw [evS] at c
    exact (SCont.bind E c).imp fun x H1 ⟨r, F1, ρ1, s1, E1, l1, c1⟩ => c1 x σ F1 H1 (Same.refl F1) E1 l1
theorem snd_retN : PS X (.Return none pos) (rdS Z (evS Γ .retN)) :=
  ps_mono ps_retN fun D σ H ⟨F, ρ, E, c⟩ => by
    rw [evS] at c
    exact c .non σ F H (Same.refl F) E .non
theorem snd_ex {e : E} {a : PySem.Expr} (hn : ncomp a = true) (ha : PE X a (rdE Z (evE Γ e))) : PS X (.Expr a pos) (rdS Z (evS Γ (.ex e))) :=
  ps_mono (ps_expr ha (nswap hn)) fun D σ H ⟨F, ρ, E, c⟩ => by
    rw [evS] at c
    exact (SCont.bind E c).imp fun x H1 ⟨r, F1, ρ1, s1, E1, l1, c1⟩ => c1 σ F1 H1 (Same.refl F1) E1
theorem snd_pass : PS X (.Pass pos) (rdS Z (evS Γ .pass)) :=
  ps_mono ps_pass fun D σ H ⟨F, ρ, E, c⟩ => by
    rw [evS] at c
    exact c σ F H (Same.refl F) E
theorem snd_for {t : Tg} {sk : Nat} {s1 : E} {s2 : Option E} {body : List S} {tg iter : PySem.Expr} {bs : List Stmt} (hp : PassesOwn (model X.prog X.w) X.A X.env X.xe) (hc : X.calm = true) (hn : nset iter = true) (hi : PI X tg iter (rdI Z (evSrc Γ sk s1 s2))) (hg : PG X tg (rdG Z t.slots (asgTg t))) (hb : PSs X bs (rdS Z (evSs Γ body))) :
    PS X (.For tg iter bs [] pos) (rdS Z (evS Γ (.forIn t sk s1 s2 body))) := by
  refine ps_mono (ps_for hp hc hi hg hb (nfold hn)) fun D σ H ⟨F, ρ, E, c⟩ => ?_
  rw [evS] at c
  refine (SCont.bind E c).imp fun J H1 ⟨items, F1, ρ1, s1, E1, y, c1⟩ => ?_
  refine ⟨fun i m σ H => m = items.length - i ∧ i ≤ items.length ∧ ∃ Fi ρi, Same F1 Fi ∧ EnvOk Z.K Z.pa Fi Z.G H σ ρi ∧ SCont Z Fi D (loopL (fun x => asgTg t x >>= fun _ => evSs Γ body) (items.drop i) ρi), ⟨items.length, by simp, Nat.zero_le _, F1, ρ1, Same.refl _, E1, c1⟩, ?_⟩
  rintro i m σ2 H2 ⟨rfl, hi2, Fi, ρi, s, Ei, ci⟩
  by_cases hlt : i < items.length
  · refine .inr ⟨y.go i H2 Fi s Ei.fh hlt, fun σ' H' => i + 1 ≤ items.length ∧ ∃ Fi ρi, Same F1 Fi ∧ EnvOk Z.K Z.pa Fi Z.G H' σ' ρi ∧ SCont Z Fi D (loopL (fun x => asgTg t x >>= fun _ => evSs Γ body) (items.drop (i + 1)) ρi), fun σ' H' h => ⟨items.length - (i + 1), by omega, rfl, h⟩, fun x H' hy => ?_⟩
    rw [List.drop_eq_getElem_cons hlt, loopL] at ci
    obtain ⟨F', s', E', rx, _⟩ := y.step s Ei (List.getElem?_eq_getElem hlt) hy
    refine ⟨F', ρi, items[i], E', rx, ?_⟩
    rw [bind_assoc] at ci
    cases q : asgTg t items[i] ρi with
    | ok u ρa =>
      rw [bind_ok q] at ci
      intro σ3 E3 _ _
      refine ⟨F', ρa, E3, ?_⟩
      have c2 := (SCont.mono s' (show SCont Z Fi D (thenS (evSs Γ body) (loopL (fun x => asgTg t x >>= fun _ => evSs Γ body) (items.drop (i + 1))) ρa) from ci)).split
      cases q2 : evSs Γ body ρa with
      | ok f ρb =>
        rw [q2] at c2
        cases f with
        | nx =>
          intro σ4 F4 H4 s4 E4
          obtain ⟨F5, ρ5, s5, E5, c5⟩ := c2 σ4 F4 H4 s4 E4
          exact ⟨by omega, F5, ρ5, s.trans (s'.trans s5), E5, c5⟩
        | rt v => exact c2
      | err e ρb => rw [q2] at c2; exact c2
      | bad => rw [q2] at c2; exact c2
    | err e ρa => exact (asgTg_noerr _ _ _ _ _ q).elim
    | bad => rw [bind_bad q] at ci; exact ci.elim
  · have ei : i = items.length := by omega
    subst ei
    rw [List.drop_length, loopL] at ci
    exact .inl ⟨y.stop H2 Fi s Ei.fh, ci σ2 Fi H2 (Same.refl Fi) Ei⟩
theorem snd_whl {fuel : Nat} {c : E} {body : List S} {x : PySem.Expr} {bs : List Stmt} (hp : PassesOwn (model X.prog X.w) X.A X.env X.xe) (hc : PT X x (rdB Z (evE Γ c >>= asBl))) (hb : PSs X bs (rdS Z (evSs Γ body))) :
    PS X (.While x bs [] pos) (rdS Z (evS Γ (.whl fuel c body))) := by
  refine ps_mono (ps_while hp hc hb) fun D σ H ⟨F, ρ, E, cc⟩ => ?_
  rw [evS] at cc
  refine ⟨fun m σ H => ∃ Fi ρi, EnvOk Z.K Z.pa Fi Z.G H σ ρi ∧ SCont Z Fi D (whileL (evE Γ c >>= asBl) (evSs Γ body) m ρi), ⟨fuel, F, ρ, E, cc⟩, ?_⟩
  rintro m σ2 H2 ⟨Fi, ρi, Ei, ci⟩
  cases m with
  | zero => rw [whileL] at ci; exact ci.elim
  | succ m =>
    rw [whileL] at ci
    refine (SCont.bind Ei ci).imp fun b H3 ⟨r, F3, ρ3, s3, E3, l3, c3⟩ => ?_
    cases (show r = b from l3)
    cases b with
    | false => exact iteF (c3 σ2 F3 H3 (Same.refl F3) E3)
    | true =>
      refine iteT ⟨fun σ' H' => ∃ Fi ρi, EnvOk Z.K Z.pa Fi Z.G H' σ' ρi ∧ SCont Z Fi D (whileL (evE Γ c >>= asBl) (evSs Γ body) m ρi), fun σ' H' h => ⟨m, Nat.lt_succ_self m, h⟩, F3, ρ3, E3, ?_⟩
      have c2 := (show SCont Z F3 D (thenS (evSs Γ body) (whileL (evE Γ c >>= asBl) (evSs Γ body) m) ρ3) from c3).split
      cases q2 : evSs Γ body ρ3 with
      | ok f ρb =>
        rw [q2] at c2
        cases f with
        | nx =>
          intro σ4 F4 H4 s4 E4
          obtain ⟨F5, ρ5, s5, E5, c5⟩ := c2 σ4 F4 H4 s4 E4
          exact ⟨F5, ρ5, E5, c5⟩
        | rt v => exact c2
      | err e ρb => rw [q2] at c2; exact c2
      | bad => rw [q2] at c2; exact c2
end
end PL
/-! PLRev: xs[::-1] of a tuple. -/
namespace PL
open PySem L2 PySem.Spec PyProof.Rows
section
variable {prog : Program} {w : World} {A : Around} {E : Value → Shared → Prop} {s : Shared}
theorem adjust_rev (n : Nat) : Builtin.Slice.sliceAdjust none none (-1) (n : Int) = ((n : Int) - 1, -1) := by
  unfold Builtin.Slice.sliceAdjust
  rfl
theorem places_rev (n : Nat) : Builtin.Slice.slicePlaces ((n : Int) - 1) (-1) (-1) = n := by
  unfold Builtin.Slice.slicePlaces
  simp
  omega
theorem sliceApplied_rev {sl : Addr} {vl vu vs : Value} {n : Nat} {Q : Int × Int × Nat → Shared → Prop} (hs : s.heap.IsSliceOf sl vl vu vs) (pl : IsPart vl none) (pu : IsPart vu none) (ps : IsPart vs (some (-1)))
    (h : Q ((n : Int) - 1, -1, n) s) : wpAny (model prog w) A (Builtin.Slice.sliceApplied (.ref sl) (pure (n : Int))) Q E s := by
  obtain ⟨os, hos, hcs, hds⟩ := id hs
  unfold Builtin.Slice.sliceApplied Builtin.Slice.sliceFields
  refine wpAny_bind (wpAny_bind (wpAny_field hos hds (x := vl) rfl (wpAny_bind (wpAny_field hos hds (x := vu) rfl (wpAny_bind (wpAny_field hos hds (x := vs) rfl (wpAny_pure ?_)))))))
  refine wpAny_bind (HT.slicePart_ ps ?_)
  show wpAny _ _ (if ((-1 : Int) == 0) = true then _ else _) _ _ s
  rw [if_neg (by decide)]
  refine wpAny_bind (HT.slicePart_ pl (wpAny_bind (HT.slicePart_ pu (wpAny_bind (wpAny_pure ?_)))))
  show wpAny _ _ (match Builtin.Slice.sliceAdjust none none (-1) (n : Int) with | (lo, hi) => pure (lo, (-1 : Int), Builtin.Slice.slicePlaces lo hi (-1))) _ _ s
  rw [adjust_rev n]
  show wpAny _ _ (pure ((n : Int) - 1, (-1 : Int), Builtin.Slice.slicePlaces ((n : Int) - 1) (-1) (-1))) _ _ s
  rw [places_rev]
  exact wpAny_pure h
theorem fmap_congr {α β : Type} {f g : α → Option β} : ∀ {l : List α}, (∀ x ∈ l, f x = g x) → l.filterMap f = l.filterMap g
  | [], _ => rfl
  | x :: l, h => by
    rw [List.filterMap_cons, List.filterMap_cons, h x (by simp), fmap_congr fun y hy => h y (by simp [hy])]
theorem pick_rev (xs : Array Value) : ((List.range xs.size).filterMap fun (m : Nat) => xs[((xs.size : Int) - 1 + (m : Int) * (-1)).toNat]?).toArray = xs.toList.reverse.toArray := by
  congr 1
  have e : ∀ m ∈ List.range xs.size, xs[((xs.size : Int) - 1 + (m : Int) * (-1)).toNat]? = (xs.toList.reverse)[m]? := by
    intro m hm
    have hm' := List.mem_range.mp hm
    rw [List.getElem?_reverse (by simpa using hm')]
    rw [show ((xs.size : Int) - 1 + (m : Int) * (-1)).toNat = xs.toList.length - 1 - m by rw [Array.length_toList]; omega]
    simp
  rw [fmap_congr e]
  have key : ∀ l : List Value, (List.range l.length).filterMap (fun m => l[m]?) = l := by
    intro l
    induction l with
    | nil => rfl
    | cons x l ih =>
      rw [List.length_cons, List.range_succ_eq_map, List.filterMap_cons]
      simp only [List.getElem?_cons_zero, List.filterMap_map]
      congr 1
  have k2 := key xs.toList.reverse
  rwa [List.length_reverse, Array.length_toList] at k2
theorem getItem_tuple_rev {t sl : Addr} {items : Array Value} {vl vu vs : Value} {Q : Value → Shared → Prop} (ht : IsTup s.heap t items) (hs : s.heap.IsSliceOf sl vl vu vs) (pl : IsPart vl none) (pu : IsPart vu none) (ps : IsPart vs (some (-1)))
    (h : Q (.ref s.heap.objs.size) { s with heap := s.heap.push { cls := .type "tuple", data := .seq items.toList.reverse.toArray } })
    (hsz : items.size ≤ sizeLine) : wpAny (model prog w) A (getItem (.ref t) (.ref sl)) Q E s := by
  have htake : sizeOk (.seq items.toList.reverse.toArray) := by
    show items.toList.reverse.toArray.size ≤ sizeLine
    rw [List.size_toArray, List.length_reverse, Array.length_toList]
    omega
  obtain ⟨os, hos, hcs, hds⟩ := id hs
  have hTs : s.TypeIs (.ref sl) "slice" := ⟨os, hos, hcs⟩
  unfold getItem
  try with_reducible refine wpAny_holding ?_
  first | refine wpAny_bind (wpAny_pure ?_) | skip
  refine wpAny_bind (wpAny_sequenceKey ht.typeIs (by decide) ?_)
  refine wpAny_bind (wpAny_callSpecial?_slot (name := Str.ofString "__getitem__") ht.typeIs PyProof.Rows.slot_tuple_getitem
    (wpAny_call_entry PyProof.Rows.slot_tuple_getitem ht.typeIs entry_tuple_getitem ?_ (args_tuple_getitem _ _)))
  show wpAny _ _ (Builtin.Tuple.tupleItemsOf (.ref t) >>= _) _ _ s
  refine wpAny_bind (tupleItemsOf_ ht ?_)
  refine wpAny_bind (wpAny_typeOf hTs ?_)
  rw [if_pos (by decide)]
  refine wpAny_bind (sliceApplied_rev hs pl pu ps ?_)
  have hno : ¬ ((((items.size : Int) - 1) == 0 && (-1 : Int) == 1 && items.size == items.size) = true) := by
    intro q
    rw [Bool.and_eq_true, Bool.and_eq_true] at q
    exact absurd q.1.2 (by decide)
  show wpAny _ _ (if (((items.size : Int) - 1) == 0 && (-1 : Int) == 1 && items.size == items.size) = true then _ else _) _ _ s
  rw [if_neg hno, pick_rev]
  first
    | exact wpAny_bind (m := Builtin.Tuple.tupleExact _) (wpAny_newObj_type (wpAny_pure ⟨_, rfl, wpAny_pure h⟩) htake)
    | exact wpAny_bind (m := Builtin.Tuple.tupleExact _) (wpAny_newObj_type (wpAny_bind (wpAny_pure (wpAny_pure ⟨_, rfl, wpAny_pure h⟩))) htake)
    | exact wpAny_bind (wpAny_bind (m := Builtin.Tuple.tupleExact _) (wpAny_newObj_type (wpAny_pure (wpAny_pure ⟨_, rfl, wpAny_pure h⟩)) htake))
    | exact wpAny_bind (wpAny_bind (m := Builtin.Tuple.tupleExact _) (wpAny_newObj_type (wpAny_pure ⟨_, rfl, wpAny_pure h⟩) htake))
end
section
variable {X : Cx} {Z : Fx} {Γ : Gm} {pos : Pos}
/-- xs[::-1] of a list, of a tuple -/
theorem pe_revD {e : Expr} {te : TE} {k : Nat} {p1 p2 p3 : Pos} (he : PE X e te) : PE X (.Subscript e (.Slice none none (some (.UnaryOp .USub (.Constant (.int 1) k p1) p2)) p3) pos) (fun σ H Q => te σ H fun x H1 => (∃ a xs, x = .ref a ∧ SqL X.K H1 a xs ∧ ∀ p, H1 p = none → Q (.ref p) (upd H1 p (.lst xs.reverse))) ∨ ∃ a xs, x = .ref a ∧ SqT X.K H1 a xs ∧ ∀ p, H1 p = none → Q (.ref p) (upd H1 p (.tup xs.reverse))) := by
  refine ⟨fun pins s σ H Q I h => ?_⟩
  refine Subscript_ (thn (he.run pins s σ H _ I h) fun v s1 ⟨x, H1, I1, r1, q1⟩ => ?_)
  have hst : PO X (some (.UnaryOp .USub (.Constant (.int 1) k p1) p2)) (tPart (tUn (rU fun i => .int (-i)) (tC (.int 1)))) := po_some (pe_un un_neg pe_int)
  refine wpAny_Slice (thn (po_none.run pins s1 σ H1 (fun o H2 => o = none ∧ H2 = H1) I1 ⟨rfl, rfl⟩) fun vl s2 ⟨l, H2, I2, pl, el, e2⟩ => ?_)
  subst el e2
  refine thn (po_none.run pins s2 σ H2 (fun o H3 => o = none ∧ H3 = H2) I2 ⟨rfl, rfl⟩) fun vu s3 ⟨u, H3, I3, pu, eu, e3⟩ => ?_
  subst eu e3
  refine thn (hst.run pins s3 σ H3 (fun o H4 => o = some (-1) ∧ H4 = H3) I3 ⟨1, rfl, -1, rfl, rfl, rfl⟩) fun vs s4 ⟨o, H4, I4, ps, eo, e4⟩ => ?_
  subst eo e4
  have I5 : Inv X pins σ H4 { s4 with heap := s4.heap.push { cls := .type "slice", data := .fields #[vl, vu, vs] } } := I4.kept (t' := s4.toks) fun b ob q => Heap.get?_push_of_some _ q
  rcases q1 with ⟨a, xs, ex, hx, q⟩ | ⟨a, xs, ex, hx, q⟩
  · subst ex
    cases r1
    obtain ⟨its, r, ht, hz⟩ := I5.list hx
    have hlen := r.length
    show wpAny (model X.prog X.w) X.A (subscriptTail e (.Slice none none (some (.UnaryOp .USub (.Constant (.int 1) k p1) p2)) p3) (.ref a) (.ref s4.heap.objs.size)) (EP X pins σ Q) X.xe { s4 with heap := s4.heap.push { cls := .type "slice", data := .fields #[vl, vu, vs] } }
    refine tail_any (ops := [.ref a, .ref s4.heap.objs.size]) ht.isList.typeIs (PySem.slot_list_getitem.lookup) ?_ (by with_unfolding_all rfl)
    refine wpAny_getItem_list_slice ht.isList (Heap.IsSliceOf.new _ vl vu vs) pl pu ps (by decide) ?_ (by rw [List.size_toArray]; omega)
    rw [PySem.W.krv_pick]
    refine ⟨.ref _, _, I5.laid (t' := s4.toks) (o := .lst xs.reverse) (fun b ob q => Heap.get?_push_of_some _ q) (Nat.le_refl _) ?_, rfl, q _ (I5.hok.fresh (Nat.le_refl _))⟩
    exact ⟨by rw [List.length_reverse]; exact hz, _, 0, r.reverse, Heap.get?_push_size _ rfl⟩
  · subst ex
    cases r1
    obtain ⟨its, r, ht, hz⟩ := I5.tuple hx
    have hlen := r.length
    show wpAny (model X.prog X.w) X.A (subscriptTail e (.Slice none none (some (.UnaryOp .USub (.Constant (.int 1) k p1) p2)) p3) (.ref a) (.ref s4.heap.objs.size)) (EP X pins σ Q) X.xe { s4 with heap := s4.heap.push { cls := .type "slice", data := .fields #[vl, vu, vs] } }
    refine tail_any (ops := [.ref a, .ref s4.heap.objs.size]) ht.typeIs PyProof.Rows.slot_tuple_getitem.lookup ?_ (by with_unfolding_all rfl)
    refine getItem_tuple_rev ht (Heap.IsSliceOf.new _ vl vu vs) pl pu ps ?_ (by rw [List.size_toArray]; omega)
    refine ⟨.ref _, _, I5.laid (t' := s4.toks) (o := .tup xs.reverse) (fun b ob q => Heap.get?_push_of_some _ q) (Nat.le_refl _) ?_, rfl, q _ (I5.hok.fresh (Nat.le_refl _))⟩
    exact ⟨by rw [List.length_reverse]; exact hz, _, r.reverse, IsTup.new _ _⟩
theorem snd_rev {a : E} {x : PySem.Expr} {k : Nat} {p1 p2 p3 : Pos} (hK : X.K = Z.K) (ha : PE X x (rdR Z (opnd a (evE Γ a)))) : PE X (.Subscript x (.Slice none none (some (.UnaryOp .USub (.Constant (.int 1) k p1) p2)) p3) pos) (rdE Z (evE Γ (.rev a))) :=
  pe_mono (pe_revD ha) fun σ H Q ⟨F, ρ, E, c⟩ => by
    rw [evE] at c
    refine (Cont.bind E c).imp fun v H1 ⟨r, F1, ρ1, s1, E1, l1, c1⟩ => ?_
    obtain ⟨d, sd, c4⟩ := deref_seen E1 l1 c1
    rw [hK]
    cases d with
    | lst l =>
      obtain ⟨a, xs, rfl, sx, r1⟩ := seen_lst E1.fh sd
      exact .inl ⟨a, xs, rfl, SqL.of sx, cont_lst c4 E1 r1.reverse⟩
    | tup l =>
      obtain ⟨a, xs, rfl, sx, r1⟩ := seen_tup E1.fh sd
      exact .inr ⟨a, xs, rfl, sx, cont_tup c4 E1 r1.reverse⟩
    | _ => exact c4.elim
end
end PL
/-! PLTry: an error raised, an error caught. -/
namespace PL
open PySem L2 PySem.Spec PyProof.Rows
section
variable {X : Cx} {Z : Fx} {Γ : Gm} {lev : Nat} {T : Tab} {pos p : Pos}
theorem snd_raise {x m : Str} {j : Nat} {p2 pos' : Pos} (ft : Fit X Z lev T Γ) (hT : x ∈ T.exc) (hg : Gl X x) (hd : (x == ("__debug__" : Str)) = false) : PS X (.Raise (some (.Call (.Name x p) [.Constant (.str m) j p2] [] pos)) none pos') (rdS Z (evS Γ (.raise x none))) := by
  obtain ⟨C, h1, h2, h3, h4, h5⟩ := ft.good.exc x hT
  refine ps_mono (ps_raise ft.calm ft.takes (pmk_own PySem.F.excBase_ValueError h2 h1 h3 (raises_own h4 h5) hg hd)) fun D σ H ⟨F, ρ, E, c⟩ => ?_
  rw [evS] at c
  exact c σ F H (.ref C) none (Same.refl F) E ⟨by rw [← ft.hmg]; exact h1, rfl⟩
/-- a suite that calls nothing: x = "w", xs.append("w"), return x -/
inductive Calm : List S → Prop
  | asg (i : Nat) (s : Str) : Calm [.asg i (.str s)]
  | app (i : Nat) (s : Str) : Calm [.app i (.str s)]
  | ret (i : Nat) : Calm [.ret (.var i)]
/-- the clauses' suites, as the clauses stand -/
inductive Hds (X : Cx) (Z : Fx) (Γ : Gm) (known : List Str) : List (Str × List S) → List ExceptHandler → Prop
  | nil : Hds X Z Γ known [] []
  | cons {x : Str} {ss : List S} {b₀ : Stmt} {suite : List Stmt} {np pos' : Pos} {l : List (Str × List S)} {hds : List ExceptHandler} (hk : x ∈ known) (hg : Gl X x) (hd : (x == ("__debug__" : Str)) = false)
      (hs : ∀ (a : Addr) (pn : List (Addr × Obj)), PSs (X.suite a pn) (b₀ :: suite) (rdS Z (evSs Γ ss))) (r : Hds X Z Γ known l hds) : Hds X Z Γ known ((x, ss) :: l) (.ExceptHandler (some (.Name x np)) none (b₀ :: suite) pos' :: hds)
theorem hds_snd {known : List Str} {l : List (Str × List S)} {hds : List ExceptHandler} (ft : Fit X Z lev T Γ) (hk : ∀ x ∈ known, x ∈ T.known) (h : Hds X Z Γ known l hds) : ∃ l2 : List (Value × (Addr → Value → Option Addr → TS)), HdsOk X hds l2 ∧
    ∀ (D : Ends) (σ : L2.St) (H : Hp) (F : Hp) (ρ : Env) (e : Ex) (c : Value) (d : Option Addr), e.cls ∈ known → EnvOk Z.K Z.pa F Z.G H σ ρ → ExR Z.K Z.mg F c d e → SCont Z F D (match evH Γ l e with
      | some m => m ρ
      | none => .err e ρ) → wMany X.K Z.W D l2 c d σ H := by
  induction h with
  | nil => exact ⟨[], .nil, fun D σ H F ρ e c d _ E r q => q σ F H c d (Same.refl F) E r⟩
  | @cons x ss b₀ suite np pos' l hds hx hg hd hs r ih =>
    obtain ⟨l2, h1, h2⟩ := ih
    obtain ⟨_, cy, _, m2, _⟩ := ft.good.exm x (hk x hx) x (hk x hx)
    refine ⟨(cy, fun _ _ _ => rdS Z (evSs Γ ss)) :: l2, .cons ⟨hg, hd, .inl m2⟩ (fun a oe cls d pn _ _ => hs a _) h1, fun D σ H F ρ e c d he E r q => ?_⟩
    obtain ⟨cx, cy2, n1, n2, n3⟩ := ft.good.exm e.cls (hk _ he) x (hk x hx)
    rw [m2] at n2
    cases n2
    have ec : cx = c := by
      have := r.1
      rw [← ft.hmg, n1] at this
      exact Option.some.inj this
    subst ec
    refine ⟨decide (e.cls = x), n3, fun b a ha => ?_, fun b => ?_⟩
    · have b' : e.cls = x := of_decide_eq_true b
      refine ⟨F, ρ, E, ?_⟩
      rw [evH, if_pos b'] at q
      exact q
    · have b' : ¬ e.cls = x := of_decide_eq_false b
      rw [evH, if_neg b'] at q
      exact h2 D σ H F ρ e cx d he E r q
theorem snd_tryN {known : List Str} {ss : List S} {l : List (Str × List S)} {body : List Stmt} {h₀ : ExceptHandler} {hds : List ExceptHandler} (ft : Fit X Z lev T Γ) (hk : ∀ x ∈ known, x ∈ T.known) (hs : X.stack = X.env :: X.outer) (hf : X.env.frame = some X.env.locals)
    (hb : ∀ (W : WX) (pn : List (Addr × Obj)) (xe : Value → Shared → Prop), Takes (X.tr pn xe) W → PassesOwn (model X.prog X.w) X.A X.env xe → PSs (X.tr pn xe) body (rdS { Z with W := W } (evSs Γ ss)))
    (hh : Hds X Z Γ known l (h₀ :: hds)) : PS X (.Try body (h₀ :: hds) [] [] pos) (rdS Z (evS Γ (.tryN known ss l))) := by
  obtain ⟨l2, h1, h2⟩ := hds_snd ft hk hh
  refine ps_mono (ps_try_many hs hf ft.takes hb h1) fun D σ H ⟨F, ρ, E, c⟩ => ?_
  rw [evS] at c
  refine ⟨F, ρ, E, ?_⟩
  unfold tryL at c
  cases q : evSs Γ ss ρ with
  | ok f ρ1 =>
    rw [q] at c
    cases f with
    | nx => exact c
    | rt v => exact c
  | bad =>
    rw [q] at c
    exact c
  | err e ρ1 =>
    rw [q] at c
    intro σ' F' H' cl d s E' r
    by_cases he : e.cls ∈ known
    · simp only [if_pos he] at c
      exact h2 D σ' H' F' ρ1 e cl d he E' r (c.mono s)
    · simp only [if_neg he] at c
      exact c.elim
/-- a suite's statements need no calm -/
theorem calm_asg {i : Nat} {x s : Str} {k : Nat} {p2 p3 : Pos} (hN : X.N.Nodup) (hi : X.N[i]? = some x) (hx : Loc X.env.scope x) (hf : X.fn x = true ∨ X.env.scope.names.lookup x = some .local) : PSs X [.Assign [.Name x p2] (.Constant (.str s) k p3) pos] (rdS Z (evSs Γ [.asg i (.str s)])) :=
  sndSs_cons (snd_asg hN hi hx hf rfl (snd_const (by rw [evE]) (fun F => .str _) pe_str)) sndSs_nil
theorem calm_app {i : Nat} {x s : Str} {k : Nat} {p1 p2 p3 : Pos} (hx : PE X (.Name x p1) (tVar i)) (hl : (p2.endLine == p.line) = true) : PSs X [.Expr (.Call (.Attribute (.Name x p1) "append" p2) [.Constant (.str s) k p3] [] p) pos] (rdS Z (evSs Γ [.app i (.str s)])) :=
  sndSs_cons (snd_app hx rfl hl (snd_const (by rw [evE]) (fun F => .str _) pe_str)) sndSs_nil
theorem calm_ret {i : Nat} {a : PySem.Expr} (hx : PE X a (tVar i)) : PSs X [.Return (some a) pos] (rdS Z (evSs Γ [.ret (.var i)])) :=
  sndSs_cons (snd_ret (pe_mono hx fun σ H Q q => rd_var σ H Q (by rw [evE] at q; exact q))) sndSs_nil
end
end PL
/-! PLChk: the text against what is written in E and S. -/
namespace PL
open PySem L2 PySem.Spec PyProof.Rows
structure Ck where
  N : List Str
  T : Tab
  sc : Scope
  raw : Option Scope
def Ck.fnB (c : Ck) (x : Str) : Bool := match c.raw with
  | none => true
  | some s => s.names.lookup x == some .cell
/-- the checker's context is the body's -/
structure FitC (c : Ck) (X : Cx) : Prop where
  n : X.N = c.N
  sc : X.env.scope = c.sc
  fn : X.fn = c.fnB
def visB (sc : Scope) (x : Str) : Bool := match sc.names.lookup x with
  | some .local => true
  | some .cell => true
  | some .free => true
  | _ => false
def locB (sc : Scope) (x : Str) : Bool := match sc.names.lookup x with
  | some .local => true
  | some .cell => true
  | _ => false
def ndb2 (x : Str) : Bool := !(x == ("__debug__" : Str)) && !(x == ("__classdict__" : Str))
def isNm : PySem.Expr → Option Str
  | .Name x _ => some x
  | _ => none
def nameAt (c : Ck) (i : Nat) (a : PySem.Expr) : Bool := match isNm a with
  | some x => decide (c.N[i]? = some x) && visB c.sc x && ndb2 x
  | none => false
def globB (c : Ck) (x : Str) : Bool := decide (c.sc.names.lookup x = some .globalImplicit)
def bltB (c : Ck) (x : Str) : Bool := globB c x && decide (x ∈ c.T.blt)
def storB (c : Ck) (i : Nat) (x : Str) : Bool := decide (c.N[i]? = some x) && locB c.sc x && (c.fnB x || decide (c.sc.names.lookup x = some .local))
def Ck.blk (c : Ck) (s : Scope) : Ck := ⟨c.N, c.T, relS s c.sc, some s⟩
def ownOf (c : Ck) (own : List Nat) : List (Str × Nat) := own.map fun i => (c.N.getD i "", i)
def plainB (t : Bool) (a : PySem.Expr) : Bool := !t || plainT a
def isTup : PySem.Expr → Bool
  | .Tuple .. => true
  | _ => false
mutual
def chkTg (c : Ck) : Tg → PySem.Expr → Bool
  | .nm i, a => match a with
    | .Name x _ => storB c i x
    | _ => false
  | .tup ts, a => match a with
    | .Tuple as _ _ => decide (ts.length = as.length) && chkTgs c ts as
    | _ => false
def chkTgs (c : Ck) : List Tg → List PySem.Expr → Bool
  | [], [] => true
  | t :: ts, a :: as => nst a && chkTg c t a && chkTgs c ts as
  | _, _ => false
end
/-- a loop's source, from the checks of its parts -/
def chkSrc (c : Ck) (f1 f2 : PySem.Expr → Bool) (no : Bool) (sk : Nat) (a : PySem.Expr) (tp : Bool) : Bool := match sk with
  | 0 => no && f1 a
  | 1 => (match a with
    | .Call (.Name x _) [y] [] _ => no && decide (x = ("range" : Str)) && bltB c x && nst y && f1 y
    | _ => false)
  | 2 => (match a with
    | .Call (.Name x _) [y, z] [] _ => decide (x = ("range" : Str)) && bltB c x && nst y && nst z && f1 y && f2 z
    | _ => false)
  | 3 => (match a with
    | .Call (.Name x _) [y] [] _ => tp && no && decide (x = ("enumerate" : Str)) && bltB c x && nst y && f1 y
    | _ => false)
  | 4 => (match a with
    | .Call (.Name x _) [y, z] [] _ => tp && decide (x = ("zip" : Str)) && bltB c x && nst y && nst z && f1 y && f2 z
    | _ => false)
  | _ => false
mutual
def chk (c : Ck) (t : Bool) : E → PySem.Expr → Bool
  | .var i, a => plainB t a && nameAt c i a
  | .mov i, a => plainB t a && nameAt c i a
  | .pk i, a => !t && nameAt c i a
  | .io i, a => !t && nameAt c i a
  | .int i, a => !t && match a with
    | .Constant (.int j) _ _ => decide (i = j)
    | _ => false
  | .str x, a => !t && match a with
    | .Constant (.str y) _ _ => decide (x = y)
    | _ => false
  | .bl b, a => plainB t a && match a with
    | .Constant (.bool k) _ _ => decide (b = k)
    | _ => false
  | .non, a => !t && match a with
    | .Constant .none _ _ => true
    | _ => false
  | .con g, a => plainB t a && match a with
    | .Name x _ => decide (c.T.cons[g]? = some x) && globB c x && ndb2 x
    | _ => false
  | .tup es, a => !t && match a with
    | .Tuple as _ _ => chkL c es as
    | _ => false
  | .lst es, a => !t && match a with
    | .List as _ => chkL c es as
    | _ => false
  | .bin op p q, a => !t && match a with
    | .BinOp x o y _ => decide (o = opB op) && chk c false p x && chk c false q y
    | _ => false
  | .neg p, a => !t && match a with
    | .UnaryOp o x _ => decide (o = .USub) && chk c false p x
    | _ => false
  | .cmp op p q, a => match a with
    | .Compare x [o] [y] _ => decide (o = opC op) && chk c false p x && chk c false q y
    | _ => false
  | .chain op op' p q r, a => match a with
    | .Compare x [o, o'] [y, z] _ => decide (o = opC op) && decide (o' = opC op') && chk c false p x && chk c false q y && chk c false r z
    | _ => false
  | .isN n p, a => match a with
    | .Compare x [o] [.Constant .none _ _] _ => decide (o = if n then .IsNot else .Is) && chk c false p x
    | _ => false
  | .isB n p q, a => match a with
    | .Compare x [o] [y] _ => decide (o = if n then .IsNot else .Is) && nset y && chk c false p x && chk c false q y
    | _ => false
  | .mem n p q, a => match a with
    | .Compare x [o] [y] _ => decide (o = if n then .NotIn else .In) && nset y && chk c false p x && chk c false q y
    | _ => false
  | .and p q, a => match a with
    | .BoolOp .And (x :: y :: r) pos => chk c t p x && (match r with
      | [] => chk c t q y
      | z :: r => chk c t q (.BoolOp .And (y :: z :: r) pos))
    | _ => false
  | .or p q, a => match a with
    | .BoolOp .Or (x :: y :: r) pos => chk c t p x && (match r with
      | [] => chk c t q y
      | z :: r => chk c t q (.BoolOp .Or (y :: z :: r) pos))
    | _ => false
  | .not p, a => match a with
    | .UnaryOp .Not x _ => chk c t p x
    | _ => false
  | .ite k p q, a => !t && match a with
    | .IfExp x y z _ => chk c true k x && chk c false p y && chk c false q z
    | _ => false
  | .ix p i, a => match a with
    | .Subscript x y _ => nslice y && chk c false p x && chk c false i y
    | _ => false
  | .cut p lo hi, a => match a with
    | .Subscript x (.Slice xl xh none _) _ => chk c false p x && chkO c lo xl && chkO c hi xh
    | _ => false
  | .rev p, a => match a with
    | .Subscript x (.Slice none none (some (.UnaryOp .USub (.Constant (.int 1) _ _) _)) _) _ => chk c false p x
    | _ => false
  | .call f es, a => match a with
    | .Call (.Name x _) (y :: ys) [] _ => (match c.T.fns[f]? with
      | some (x', mask) => decide (x = x') && decide (es.map E.ioB = mask) && globB c x && !(x == ("__debug__" : Str)) && (y :: ys).all nst && chkA c es (y :: ys)
      | none => false)
    | _ => false
  | .callV i tbl es, a => match a with
    | .Call (.Name x _) (y :: ys) [] _ => decide (c.N[i]? = some x) && visB c.sc x && ndb2 x && (tbl.all fun p => match c.T.fns[p.2]? with
        | some (x', mask) => decide (p.1 = x') && decide (es.map E.ioB = mask)
        | none => false) && (y :: ys).all nst && chkA c es (y :: ys)
    | _ => false
  | .b1 b p, a => match a with
    | .Call (.Name x _) [y] [] _ => decide (x = nmB1 b) && bltB c x && nst y && chk c false p y
    | _ => false
  | .b2 b p q, a => match a with
    | .Call (.Name x _) [y, z] [] _ => decide (x = nmB2 b) && bltB c x && nst y && nst z && chk c false p y && chk c false q z
    | _ => false
  | .max3 p q r, a => match a with
    | .Call (.Name x _) [y, z, w] [] _ => decide (x = ("max" : Str)) && bltB c x && nst y && nst z && nst w && chk c false p y && chk c false q z && chk c false r w
    | _ => false
  | .isi ty p, a => match a with
    | .Call (.Name x _) [y, .Name z _] [] _ => decide (x = ("isinstance" : Str)) && decide (z = nmTyS ty) && bltB c x && bltB c z && nst y && chk c false p y
    | _ => false
  | .rng p, a => !t && match a with
    | .Call (.Name x _) [.Call (.Name z _) [y] [] _] [] _ => decide (x = ("list" : Str)) && decide (z = ("range" : Str)) && bltB c x && bltB c z && nst y && chk c false p y
    | _ => false
  | .rngT _, _ => false
  | .comp own tg sk s1 s2 cnd elt, a => !t && match a with
    | .ListComp y [⟨tgA, iter, ifs, 0⟩] scope _ => blkC c.N c.sc scope (ownOf c own) && nset iter && tg.slots.all (fun i => decide (i ∈ own)) && chkSrc c (fun z => chk c false s1 z) (fun z => chkO c s2 (some z)) s2.isNone sk iter (isTup tgA) && chkTg (c.blk scope) tg tgA && chkC (c.blk scope) cnd ifs && chk (c.blk scope) false elt y
    | _ => false
  | .comp2 .., _ => false
  | .join p q, a => !t && match a with
    | .Call (.Attribute x f apos) [y] [] pos => decide (f = ("join" : Str)) && (apos.endLine == pos.line) && nst y && ncall0 x && chk c false p x && chk c false q y
    | _ => false
  | .split p q, a => !t && match a with
    | .Call (.Attribute x f apos) [y] [] pos => decide (f = ("split" : Str)) && (apos.endLine == pos.line) && nst y && ncall0 x && chk c false p x && chk c false q y
    | _ => false
  | .index p q, a => !t && match a with
    | .Call (.Attribute x f apos) [y] [] pos => decide (f = ("index" : Str)) && (apos.endLine == pos.line) && nst y && ncall0 x && chk c false p x && chk c false q y
    | _ => false
  | .strGet ks p dflt, a => !t && match a with
    | .Call (.Attribute (.Dict keys values _) f apos) [x, .Constant (.int d) _ _] [] pos => decide (f = ("get" : Str)) && decide (d = dflt) && keysOk ks keys values && decide ((ks.map (·.1)).Nodup) && !ks.isEmpty && decide (ks.length ≤ 15) && (apos.endLine == pos.line) && nst x && chk c false p x
    | _ => false
def chkL (c : Ck) : List E → List PySem.Expr → Bool
  | [], as => as.isEmpty
  | e :: es, as => match as with
    | a :: as => nst a && chk c false e a && chkL c es as
    | [] => false
def chkO (c : Ck) : Option E → Option PySem.Expr → Bool
  | none, o => o.isNone
  | some e, o => match o with
    | some a => chk c false e a
    | none => false
def chkC (c : Ck) : Option E → List PySem.Expr → Bool
  | none, as => as.isEmpty
  | some e, as => match as with
    | [a] => chk c true e a
    | _ => false
def chkA (c : Ck) : List E → List PySem.Expr → Bool
  | [], as => as.isEmpty
  | e :: es, as => match as with
    | a :: as => nst a && chk c false e a && chkA c es as
    | [] => false
end
end PL
/-! PLChk2: the check is sound, of what is computed. -/
namespace PL
open PySem L2 PySem.Spec PyProof.Rows
def PXt (X : Cx) (a : PySem.Expr) (t : TT) : Prop := match a with
  | .BoolOp .. => PW X a t
  | _ => PT X a t
theorem PXt.pt {X : Cx} {a : PySem.Expr} {t : TT} (h : PXt X a t) : PT X a t := by
  cases a <;> first | exact h | exact PW.pt h
def Snd (X : Cx) (Z : Fx) (Γ : Gm) (t : Bool) (e : E) (a : PySem.Expr) : Prop := match t with
  | false => PE X a (rdE Z (evE Γ e))
  | true => PXt X a (rdB Z (evE Γ e >>= asBl))
section
variable {X : Cx} {Z : Fx} {Γ : Gm} {lev : Nat} {T : Tab} {pos p : Pos} {c : Ck} {t : Bool}
theorem snd_plain {e : E} {a : PySem.Expr} (h : PE X a (rdE Z (evE Γ e))) (hp : plainB t a = true) : Snd X Z Γ t e a := by
  cases t with
  | false => exact h
  | true =>
    have hp' : plainT a = true := by simpa [plainB] using hp
    have q := pt_plain h hp'
    show PXt X a _
    cases a <;> first | exact q | cases hp'
theorem not_t {t : Bool} (h : (!t) = true) : t = false := by simpa using h
theorem ndb2_of {x : Str} (h : ndb2 x = true) : (x == ("__debug__" : Str)) = false ∧ (x == ("__classdict__" : Str)) = false := by
  unfold ndb2 at h
  simpa [Bool.and_eq_true] using h
theorem vis_of {sc : Scope} {x : Str} (h : visB sc x = true) : Vis sc x := by
  unfold visB at h
  unfold Vis
  split at h <;> simp_all
theorem loc_of {sc : Scope} {x : Str} (h : locB sc x = true) : L2.Loc sc x := by
  unfold locB at h
  unfold L2.Loc
  split at h <;> simp_all
theorem nameAt_snd {i : Nat} {a : PySem.Expr} (fc : FitC c X) (h : nameAt c i a = true) : PE X a (tVar i) := by
  unfold nameAt at h
  split at h
  · rename_i x hx
    unfold isNm at hx
    split at hx
    · cases hx
      simp only [Bool.and_eq_true, decide_eq_true_eq] at h
      obtain ⟨⟨h1, h2⟩, h3⟩ := h
      obtain ⟨d1, d2⟩ := ndb2_of h3
      exact pe_var (by rw [fc.n]; exact h1) (by rw [fc.sc]; exact vis_of h2) d1 d2
    · cases hx
  · cases h
theorem glob_of {x : Str} (fc : FitC c X) (h : globB c x = true) : Gl X x := by
  unfold globB at h
  show X.env.scope.names.lookup x = _
  rw [fc.sc]
  exact of_decide_eq_true h
theorem blt_of {x : Str} (ft : Fit X Z lev c.T Γ) (fc : FitC c X) (h : bltB c x = true) : Gl X x ∧ X.mg x = none := by
  unfold bltB at h
  simp only [Bool.and_eq_true, decide_eq_true_eq] at h
  exact ⟨glob_of fc h.1, ft.good.blt x h.2⟩
theorem stor_of {i : Nat} {x : Str} (fc : FitC c X) (h : storB c i x = true) : X.N[i]? = some x ∧ L2.Loc X.env.scope x ∧ (X.fn x = true ∨ X.env.scope.names.lookup x = some .local) := by
  unfold storB at h
  simp only [Bool.and_eq_true, decide_eq_true_eq, Bool.or_eq_true] at h
  rw [fc.n, fc.sc, fc.fn]
  exact ⟨h.1.1, loc_of h.1.2, h.2⟩
theorem opnd_chk {a : E} {x : PySem.Expr} (fc : FitC c X) (h : chk c false a x = true) (ih : PE X x (rdE Z (evE Γ a))) : PE X x (rdR Z (opnd a (evE Γ a))) :=
  opnd_snd (fun i q => by
    cases a with
    | pk j =>
      cases q
      rw [chk] at h
      simp only [Bool.and_eq_true] at h
      exact nameAt_snd fc h.2
    | _ => cases q) fun _ => ih
theorem sndT_cmp {op : Cop} {a b : E} {x y : PySem.Expr} (ft : Fit X Z lev T Γ) (ha : PE X x (rdR Z (opnd a (evE Γ a)))) (hb : PE X y (rdR Z (opnd b (evE Γ b)))) : PT X (.Compare x [opC op] [y] pos) (rdB Z (evE Γ (.cmp op a b) >>= asBl)) :=
  pt_cmpv (op_cmpD ft.hK ft.units op) ha hb (by cases op <;> exact nomark _) fun σ H Q h => by
    rw [evE] at h
    exact two_opnds σ H Q h
theorem sndT_mem {n : Bool} {a b : E} {x y : PySem.Expr} (ft : Fit X Z lev T Γ) (hn : nset y = true) (ha : PE X x (rdE Z (evE Γ a))) (hb : PE X y (rdR Z (opnd b (evE Γ b)))) : PT X (.Compare x [if n then .NotIn else .In] [y] pos) (rdB Z (evE Γ (.mem n a b) >>= asBl)) :=
  pt_cmpv (op_memD ft.hK ft.units n) ha hb (nmark hn) fun σ H Q h => by
    rw [evE] at h
    exact val_opnd (f := fun x d => M.opt ((memv x d).map fun b => sh (.bl (b != n)))) σ H Q h
theorem sndT_isN {n : Bool} {a : E} {x : PySem.Expr} {k : Nat} {p2 : Pos} (hK : X.K = Z.K) (ha : PE X x (rdR Z (opnd a (evE Γ a)))) : PT X (.Compare x [if n then .IsNot else .Is] [.Constant .none k p2] pos) (rdB Z (evE Γ (.isN n a) >>= asBl)) :=
  pt_cmpv (op_isND hK n) ha pe_non rfl fun σ H Q h => by
    rw [evE] at h
    refine (one_opnd (f := fun d => pure (sh (.bl (match d with
      | .non => !n
      | _ => n)))) σ H Q h).imp fun x H1 q => ?_
    exact ⟨rfl, q⟩
theorem sndT_isB {n : Bool} {a b : E} {x y : PySem.Expr} (hn : nset y = true) (ha : PE X x (rdE Z (evE Γ a))) (hb : PE X y (rdE Z (evE Γ b))) : PT X (.Compare x [if n then .IsNot else .Is] [y] pos) (rdB Z (evE Γ (.isB n a b) >>= asBl)) :=
  pt_cmpv (op_isBD n) ha hb (nmark hn) fun σ H Q h => by
    rw [evE] at h
    exact two_vals (f := fun x y => asBl (sh x) >>= fun p => asBl (sh y) >>= fun q => pure (sh (.bl ((p == q) != n)))) σ H Q h
theorem snd_max3 {a b d : E} {x y z : PySem.Expr} (ft : Fit X Z lev T Γ) (hg : Gl X "max") (hm : X.mg "max" = none) (hn : nst x = true) (hn2 : nst y = true) (hn3 : nst z = true) (ha : PE X x (rdE Z (evE Γ a))) (hb : PE X y (rdE Z (evE Γ b))) (hd : PE X z (rdE Z (evE Γ d))) :
    PE X (.Call (.Name "max" p) [x, y, z] [] pos) (rdE Z (evE Γ (.max3 a b d))) := by
  have pa := pa_cons ha (pa_cons hb (pa_cons hd pa_nil (star_cons (es := []) hn3)) (star_cons hn2)) (star_cons hn)
  have st : (backTo pos (starEach [y, z] X.env)).any (·.1) = false := star_any (es := [y, z]) (by simp [hn2, hn3])
  refine pe_mono (pe_callB (id := "max") (call_max3Nu ft.calm) hg hm (boot_B2 .max) pa (by decide) (by decide) (star_cons hn) st) fun σ H Q ⟨F, ρ, E, c⟩ => ?_
  rw [evE] at c
  refine (Cont.bind E c).imp fun v H1 ⟨r1, F1, ρ1, s1, E1, l1, c1⟩ => ?_
  refine (Cont.bind E1 c1).imp fun u H2 ⟨r2, F2, ρ2, s2, E2, l2, c2⟩ => ?_
  refine (Cont.bind E2 c2).imp fun t H3 ⟨r3, F3, ρ3, s3, E3, l3, c3⟩ => ?_
  obtain ⟨q, e, c4⟩ := cont_opt c3
  have nat : ∀ {r : Vl} {v : V} {F G H : Hp} {ρ : Env} {i : Int}, Res Z.K F G H σ ρ v r → r.d = .int i → v = .int i := fun {r v F G H ρ i} l e => by
    obtain ⟨o, d⟩ := r
    cases e
    cases o with
    | false =>
      have l' : Rp Z.K F v (.int i) := l
      cases l'; rfl
    | true =>
      obtain ⟨a, _, ⟨_, _, z⟩, _⟩ := l
      exact z.elim
  unfold max3 at e
  split at e
  · rename_i i j k h1 h2 h3
    cases e
    cases nat l1 h1
    cases nat l2 h2
    cases nat l3 h3
    refine ⟨.int i, .int j, .int k, .int (max (max i j) k), rfl, ?_, cont_val c4 E3 (.int _)⟩
    show ((some (decide (i < j))).map fun c => if c = true then V.int j else V.int i).bind (fun m => nuMax2 m (.int k)) = _
    have e1 : (if decide (i < j) = true then V.int j else V.int i) = V.int (max i j) := by
      by_cases h : i < j
      · rw [if_pos (decide_eq_true h), show max i j = j by omega]
      · rw [if_neg (by simpa using h), show max i j = i by omega]
    show nuMax2 (if decide (i < j) = true then V.int j else V.int i) (.int k) = _
    rw [e1]
    show some (if decide (max i j < k) = true then V.int k else V.int (max i j)) = _
    by_cases h : max i j < k
    · rw [if_pos (decide_eq_true h), show max (max i j) k = k by omega]
    · rw [if_neg (by simpa using h), show max (max i j) k = max i j by omega]
  · cases e
mutual
theorem chkTg_snd : ∀ (tg : Tg) (c : Ck) (a : PySem.Expr) (X : Cx) (Z : Fx), X.N.Nodup → X.K = Z.K → X.calm = true → FitC c X → chkTg c tg a = true → PG X a (rdG Z tg.slots (asgTg tg))
  | .nm i, c, a, X, Z, nd, hK, hc, fc, h => by
    unfold chkTg at h
    try dsimp only at h
    split at h
    · obtain ⟨h1, h2, h3⟩ := stor_of fc h
      exact sndG_nm nd h1 h2 h3
    · cases h
  | .tup ts, c, a, X, Z, nd, hK, hc, fc, h => by
    unfold chkTg at h
    try dsimp only at h
    split at h
    · simp only [Bool.and_eq_true, decide_eq_true_eq] at h
      obtain ⟨h1, h2⟩ := h
      obtain ⟨q, r⟩ := chkTgs_snd ts c _ X Z nd hK hc fc h2
      exact sndG_tup hK hc h1 r q
    · cases h
theorem chkTgs_snd : ∀ (ts : List Tg) (c : Ck) (as : List PySem.Expr) (X : Cx) (Z : Fx), X.N.Nodup → X.K = Z.K → X.calm = true → FitC c X → chkTgs c ts as = true → PGs X as (rdGs Z (slotsTg ts) (asgTgs ts)) ∧ as.all nst = true
  | [], c, [], X, Z, nd, hK, hc, fc, h => ⟨sndGs_nil, rfl⟩
  | [], c, _ :: _, X, Z, nd, hK, hc, fc, h => by simp [chkTgs] at h
  | _ :: _, c, [], X, Z, nd, hK, hc, fc, h => by simp [chkTgs] at h
  | t :: ts, c, a :: as, X, Z, nd, hK, hc, fc, h => by
    rw [chkTgs] at h
    simp only [Bool.and_eq_true] at h
    obtain ⟨⟨h1, h2⟩, h3⟩ := h
    obtain ⟨q, r⟩ := chkTgs_snd ts c as X Z nd hK hc fc h3
    exact ⟨sndGs_cons h1 (chkTg_snd t c a X Z nd hK hc fc h2) q, by rw [List.all_cons, h1, r]; rfl⟩
end
theorem bindO {a : E} : (evO Γ (some a)) = (evE Γ a >>= fun v => pure (some v.d)) := by rw [evO]
theorem chkSrc_snd {sk : Nat} {s1 : E} {s2 : Option E} {a tgA : PySem.Expr} {f1 f2 : PySem.Expr → Bool} (ft : Fit X Z lev c.T Γ) (fc : FitC c X) (h : chkSrc c f1 f2 s2.isNone sk a (isTup tgA) = true)
    (h1 : ∀ z, f1 z = true → PE X z (rdE Z (evE Γ s1))) (h2 : ∀ z, f2 z = true → ∃ b, s2 = some b ∧ PE X z (rdE Z (evE Γ b))) : PI X tgA a (rdI Z (evSrc Γ sk s1 s2)) := by
  unfold chkSrc at h
  split at h
  · simp only [Bool.and_eq_true, Option.isNone_iff_eq_none] at h
    obtain ⟨rfl, h⟩ := h
    exact sndI_seq ft.hK (h1 _ h)
  · split at h
    · simp only [Bool.and_eq_true, Option.isNone_iff_eq_none, decide_eq_true_eq] at h
      obtain ⟨⟨⟨⟨rfl, rfl⟩, hb⟩, hn⟩, h⟩ := h
      obtain ⟨g, m⟩ := blt_of ft fc hb
      exact sndI_rng1 g m hn (h1 _ h)
    · cases h
  · split at h
    · simp only [Bool.and_eq_true, decide_eq_true_eq] at h
      obtain ⟨⟨⟨⟨⟨rfl, hb⟩, hn⟩, hn2⟩, h⟩, k⟩ := h
      obtain ⟨g, m⟩ := blt_of ft fc hb
      obtain ⟨b, rfl, kb⟩ := h2 _ k
      exact sndI_rng2 g m hn hn2 (h1 _ h) kb
    · cases h
  · split at h
    · simp only [Bool.and_eq_true, Option.isNone_iff_eq_none, decide_eq_true_eq] at h
      obtain ⟨⟨⟨⟨⟨ht, rfl⟩, rfl⟩, hb⟩, hn⟩, h⟩ := h
      obtain ⟨g, m⟩ := blt_of ft fc hb
      cases tgA with
      | Tuple es k tp => exact sndI_enum ft.hK g m hn (h1 _ h)
      | _ => cases ht
    · cases h
  · split at h
    · simp only [Bool.and_eq_true, decide_eq_true_eq] at h
      obtain ⟨⟨⟨⟨⟨⟨ht, rfl⟩, hb⟩, hn⟩, hn2⟩, h⟩, k⟩ := h
      obtain ⟨g, m⟩ := blt_of ft fc hb
      obtain ⟨b, rfl, kb⟩ := h2 _ k
      cases tgA with
      | Tuple es k tp => exact sndI_zip ft.hK g m hn hn2 (h1 _ h) kb
      | _ => cases ht
    · cases h
  · cases h
theorem FitC.blk (fc : FitC c X) {scope : Scope} {s : Shared} {H : Hp} {C : Addr} {cl : List (Str × Addr)} {fp : List Addr} : FitC (c.blk scope) (X.blk s H scope (compEnvC scope cl C X.env) fp) where
  n := fc.n
  sc := by
    show relabel scope X.env = relS scope c.sc
    rw [← fc.sc]
    rfl
  fn := rfl
theorem ownOf_snd (own : List Nat) : (ownOf c own).map (·.2) = own := by
  unfold ownOf
  rw [List.map_map]
  exact List.map_id _
/-- an item list, an argument list -/
theorem isNone_io {e : E} {i : Nat} (h : e.isIo = some i) : e = .io i ∧ e.peek = none := by
  cases e with
  | io j => cases h; exact ⟨rfl, rfl⟩
  | _ => cases h
theorem isPk {e : E} {i : Nat} (h : e.peek = some i) : e = .pk i := by
  cases e with
  | pk j => cases h; rfl
  | _ => cases h
end
section
variable {Γ : Gm} {lev : Nat}
mutual
theorem chk_snd : ∀ (e : E) (c : Ck) (t : Bool) (a : PySem.Expr) (X : Cx) (Z : Fx), Fit X Z lev c.T Γ → FitC c X → chk c t e a = true → Snd X Z Γ t e a
  | .var i, c, t, a, X, Z, ft, fc, h => by
    unfold chk at h
    try dsimp only at h
    rw [Bool.and_eq_true] at h
    exact snd_plain (pe_mono (nameAt_snd fc h.2) fun σ H Q q => rd_var σ H Q (by rw [evE] at q; exact q)) h.1
  | .mov i, c, t, a, X, Z, ft, fc, h => by
    unfold chk at h
    try dsimp only at h
    rw [Bool.and_eq_true] at h
    exact snd_plain (pe_mono (nameAt_snd fc h.2) fun σ H Q q => rd_mov σ H Q (by rw [evE] at q; exact q)) h.1
  | .pk i, c, t, a, X, Z, ft, fc, h => by
    unfold chk at h
    try dsimp only at h
    rw [Bool.and_eq_true] at h
    cases not_t h.1
    exact pe_mono (nameAt_snd fc h.2) fun σ H Q ⟨F, ρ, E, q⟩ => by
      rw [evE] at q
      exact q.elim
  | .io i, c, t, a, X, Z, ft, fc, h => by
    unfold chk at h
    try dsimp only at h
    rw [Bool.and_eq_true] at h
    cases not_t h.1
    exact pe_mono (nameAt_snd fc h.2) fun σ H Q ⟨F, ρ, E, q⟩ => by
      rw [evE] at q
      exact q.elim
  | .int i, c, t, a, X, Z, ft, fc, h => by
    unfold chk at h
    try dsimp only at h
    rw [Bool.and_eq_true] at h
    cases not_t h.1
    replace h := h.2
    split at h
    · cases of_decide_eq_true h
      exact snd_const (by rw [evE]) (fun F => .int _) pe_int
    · cases h
  | .str x, c, t, a, X, Z, ft, fc, h => by
    unfold chk at h
    try dsimp only at h
    rw [Bool.and_eq_true] at h
    cases not_t h.1
    replace h := h.2
    split at h
    · cases of_decide_eq_true h
      exact snd_const (by rw [evE]) (fun F => .str _) pe_str
    · cases h
  | .bl b, c, t, a, X, Z, ft, fc, h => by
    unfold chk at h
    try dsimp only at h
    rw [Bool.and_eq_true] at h
    obtain ⟨hp, h⟩ := h
    split at h
    · cases of_decide_eq_true h
      exact snd_plain (snd_const (by rw [evE]) (fun F => .bl _) pe_bl) hp
    · cases h
  | .non, c, t, a, X, Z, ft, fc, h => by
    unfold chk at h
    try dsimp only at h
    rw [Bool.and_eq_true] at h
    cases not_t h.1
    replace h := h.2
    split at h
    · exact snd_const (by rw [evE]) (fun F => .non) pe_non
    · cases h
  | .con g, c, t, a, X, Z, ft, fc, h => by
    unfold chk at h
    try dsimp only at h
    rw [Bool.and_eq_true] at h
    obtain ⟨hp, h⟩ := h
    split at h
    · simp only [Bool.and_eq_true, decide_eq_true_eq] at h
      obtain ⟨⟨h1, h2⟩, h3⟩ := h
      obtain ⟨u, v, m, r, q⟩ := ft.good.cons _ _ h1
      exact snd_plain (snd_const (by rw [evE]) (fun F => by rw [← ft.hK]; exact q F) (pe_glob (glob_of fc h2) m r (ndb2_of h3).1)) hp
    · cases h
  | .tup es, c, t, a, X, Z, ft, fc, h => by
    unfold chk at h
    try dsimp only at h
    rw [Bool.and_eq_true] at h
    cases not_t h.1
    replace h := h.2
    split at h
    · exact snd_tup (chkL_snd es c _ X Z ft fc h)
    · cases h
  | .lst es, c, t, a, X, Z, ft, fc, h => by
    unfold chk at h
    try dsimp only at h
    rw [Bool.and_eq_true] at h
    cases not_t h.1
    replace h := h.2
    split at h
    · exact snd_lst (chkL_snd es c _ X Z ft fc h)
    · cases h
  | .bin op p q, c, t, a, X, Z, ft, fc, h => by
    unfold chk at h
    try dsimp only at h
    rw [Bool.and_eq_true] at h
    cases not_t h.1
    replace h := h.2
    split at h
    · simp only [Bool.and_eq_true, decide_eq_true_eq] at h
      obtain ⟨⟨rfl, h1⟩, h2⟩ := h
      exact snd_bin ft.hK (opnd_chk fc h1 (chk_snd p c false _ X Z ft fc h1)) (opnd_chk fc h2 (chk_snd q c false _ X Z ft fc h2))
    · cases h
  | .neg p, c, t, a, X, Z, ft, fc, h => by
    unfold chk at h
    try dsimp only at h
    rw [Bool.and_eq_true] at h
    cases not_t h.1
    replace h := h.2
    split at h
    · simp only [Bool.and_eq_true, decide_eq_true_eq] at h
      obtain ⟨rfl, h1⟩ := h
      exact snd_neg (chk_snd p c false _ X Z ft fc h1)
    · cases h
  | .cmp op p q, c, t, a, X, Z, ft, fc, h => by
    unfold chk at h
    try dsimp only at h
    split at h
    · simp only [Bool.and_eq_true, decide_eq_true_eq] at h
      obtain ⟨⟨rfl, h1⟩, h2⟩ := h
      have a1 := opnd_chk fc h1 (chk_snd p c false _ X Z ft fc h1)
      have a2 := opnd_chk fc h2 (chk_snd q c false _ X Z ft fc h2)
      cases t with
      | false => exact snd_cmp ft a1 a2
      | true => exact sndT_cmp ft a1 a2
    · cases h
  | .chain op op' p q r, c, t, a, X, Z, ft, fc, h => by
    unfold chk at h
    try dsimp only at h
    split at h
    · rename_i pos
      simp only [Bool.and_eq_true, decide_eq_true_eq] at h
      obtain ⟨⟨⟨⟨rfl, rfl⟩, h1⟩, h2⟩, h3⟩ := h
      have k := snd_chain (pos := pos) (o := op) (o' := op') ft (chk_snd p c false _ X Z ft fc h1) (chk_snd q c false _ X Z ft fc h2) (chk_snd r c false _ X Z ft fc h3)
      cases t with
      | false => exact k.1
      | true => exact k.2
    · cases h
  | .isN n p, c, t, a, X, Z, ft, fc, h => by
    unfold chk at h
    try dsimp only at h
    split at h
    · simp only [Bool.and_eq_true, decide_eq_true_eq] at h
      obtain ⟨rfl, h1⟩ := h
      have a1 := opnd_chk fc h1 (chk_snd p c false _ X Z ft fc h1)
      cases t with
      | false => exact snd_isN ft.hK a1
      | true => exact sndT_isN ft.hK a1
    · cases h
  | .isB n p q, c, t, a, X, Z, ft, fc, h => by
    unfold chk at h
    try dsimp only at h
    split at h
    · simp only [Bool.and_eq_true, decide_eq_true_eq] at h
      obtain ⟨⟨⟨rfl, hn⟩, h1⟩, h2⟩ := h
      have a1 := chk_snd p c false _ X Z ft fc h1
      have a2 := chk_snd q c false _ X Z ft fc h2
      cases t with
      | false => exact snd_isB hn a1 a2
      | true => exact sndT_isB hn a1 a2
    · cases h
  | .mem n p q, c, t, a, X, Z, ft, fc, h => by
    unfold chk at h
    try dsimp only at h
    split at h
    · simp only [Bool.and_eq_true, decide_eq_true_eq] at h
      obtain ⟨⟨⟨rfl, hn⟩, h1⟩, h2⟩ := h
      have a1 := chk_snd p c false _ X Z ft fc h1
      have a2 := opnd_chk fc h2 (chk_snd q c false _ X Z ft fc h2)
      cases t with
      | false => exact snd_mem ft hn a1 a2
      | true => exact sndT_mem ft hn a1 a2
    · cases h
  | .and p q, c, t, a, X, Z, ft, fc, h => by
    unfold chk at h
    try dsimp only at h
    split at h
    · rename_i x y r pos
      rw [Bool.and_eq_true] at h
      obtain ⟨h1, h2⟩ := h
      have a1 := chk_snd p c t _ X Z ft fc h1
      cases t with
      | false =>
        cases r with
        | nil => exact snd_and a1 (pe_one (chk_snd q c false _ X Z ft fc h2))
        | cons z r => exact snd_and a1 (chk_snd q c false _ X Z ft fc h2)
      | true =>
        cases r with
        | nil => exact sndT_and (PXt.pt a1) (pw_one (PXt.pt (chk_snd q c true _ X Z ft fc h2)))
        | cons z r => exact sndT_and (PXt.pt a1) (chk_snd q c true _ X Z ft fc h2)
    · cases h
  | .or p q, c, t, a, X, Z, ft, fc, h => by
    unfold chk at h
    try dsimp only at h
    split at h
    · rename_i x y r pos
      rw [Bool.and_eq_true] at h
      obtain ⟨h1, h2⟩ := h
      have a1 := chk_snd p c t _ X Z ft fc h1
      cases t with
      | false =>
        cases r with
        | nil => exact snd_or a1 (pe_one (chk_snd q c false _ X Z ft fc h2))
        | cons z r => exact snd_or a1 (chk_snd q c false _ X Z ft fc h2)
      | true =>
        cases r with
        | nil => exact sndT_or (PXt.pt a1) (pw_one (PXt.pt (chk_snd q c true _ X Z ft fc h2)))
        | cons z r => exact sndT_or (PXt.pt a1) (chk_snd q c true _ X Z ft fc h2)
    · cases h
  | .not p, c, t, a, X, Z, ft, fc, h => by
    unfold chk at h
    try dsimp only at h
    split at h
    · have a1 := chk_snd p c t _ X Z ft fc h
      cases t with
      | false => exact snd_not a1
      | true => exact sndT_not (PXt.pt a1)
    · cases h
  | .ite k p q, c, t, a, X, Z, ft, fc, h => by
    unfold chk at h
    try dsimp only at h
    rw [Bool.and_eq_true] at h
    cases not_t h.1
    replace h := h.2
    split at h
    · simp only [Bool.and_eq_true] at h
      obtain ⟨⟨h1, h2⟩, h3⟩ := h
      exact snd_ite (PXt.pt (chk_snd k c true _ X Z ft fc h1)) (chk_snd p c false _ X Z ft fc h2) (chk_snd q c false _ X Z ft fc h3)
    · cases h
  | .ix p i, c, t, a, X, Z, ft, fc, h => by
    unfold chk at h
    try dsimp only at h
    split at h
    · simp only [Bool.and_eq_true] at h
      obtain ⟨⟨hn, h1⟩, h2⟩ := h
      exact snd_plain (snd_ix ft.hK hn (opnd_chk fc h1 (chk_snd p c false _ X Z ft fc h1)) (chk_snd i c false _ X Z ft fc h2)) (by simp [plainB, plainT])
    · cases h
  | .cut p lo hi, c, t, a, X, Z, ft, fc, h => by
    unfold chk at h
    try dsimp only at h
    split at h
    · simp only [Bool.and_eq_true] at h
      obtain ⟨⟨h1, h2⟩, h3⟩ := h
      exact snd_plain (snd_cut ft.hK (opnd_chk fc h1 (chk_snd p c false _ X Z ft fc h1)) (chkO_snd lo c _ X Z ft fc h2) (chkO_snd hi c _ X Z ft fc h3)) (by simp [plainB, plainT])
    · cases h
  | .rev p, c, t, a, X, Z, ft, fc, h => by
    unfold chk at h
    try dsimp only at h
    split at h
    · exact snd_plain (snd_rev ft.hK (opnd_chk fc h (chk_snd p c false _ X Z ft fc h))) (by simp [plainB, plainT])
    · cases h
  | .call f es, c, t, a, X, Z, ft, fc, h => by
    unfold chk at h
    try dsimp only at h
    split at h
    · split at h
      · rename_i x' mask hT
        simp only [Bool.and_eq_true, decide_eq_true_eq, Bool.not_eq_true'] at h
        obtain ⟨⟨⟨⟨⟨rfl, hk⟩, hg⟩, hd⟩, hn⟩, h1⟩ := h
        exact snd_plain (snd_call ft hT hk (glob_of fc hg) hd hn (chkA_snd es c _ X Z ft fc h1)) (by simp [plainB, plainT])
      · cases h
    · cases h
  | .callV i tbl es, c, t, a, X, Z, ft, fc, h => by
    unfold chk at h
    try dsimp only at h
    split at h
    · simp only [Bool.and_eq_true, decide_eq_true_eq] at h
      obtain ⟨⟨⟨⟨⟨hN, hv⟩, hd⟩, ht⟩, hn⟩, h1⟩ := h
      obtain ⟨hd1, hd2⟩ := ndb2_of hd
      refine snd_plain (snd_callV ft (fun p hp => ?_) (by rw [fc.n]; exact hN) (vis_of (by rw [fc.sc]; exact hv)) hd1 hd2 hn (chkA_snd es c _ X Z ft fc h1)) (by simp [plainB, plainT])
      have q := List.all_eq_true.mp ht p hp
      split at q
      · rename_i x' mask e
        rw [Bool.and_eq_true, decide_eq_true_eq, decide_eq_true_eq] at q
        exact ⟨mask, by rw [e, q.1], q.2⟩
      · cases q
    · cases h
  | .b1 b p, c, t, a, X, Z, ft, fc, h => by
    unfold chk at h
    try dsimp only at h
    split at h
    · simp only [Bool.and_eq_true, decide_eq_true_eq] at h
      obtain ⟨⟨⟨rfl, hb⟩, hn⟩, h1⟩ := h
      obtain ⟨g, m⟩ := blt_of ft fc hb
      exact snd_plain (snd_b1 ft g m hn (opnd_chk fc h1 (chk_snd p c false _ X Z ft fc h1))) (by simp [plainB, plainT])
    · cases h
  | .b2 b p q, c, t, a, X, Z, ft, fc, h => by
    unfold chk at h
    try dsimp only at h
    split at h
    · simp only [Bool.and_eq_true, decide_eq_true_eq] at h
      obtain ⟨⟨⟨⟨⟨rfl, hb⟩, hn⟩, hn2⟩, h1⟩, h2⟩ := h
      obtain ⟨g, m⟩ := blt_of ft fc hb
      exact snd_plain (snd_b2 ft g m hn hn2 (chk_snd p c false _ X Z ft fc h1) (chk_snd q c false _ X Z ft fc h2)) (by simp [plainB, plainT])
    · cases h
  | .max3 p q r, c, t, a, X, Z, ft, fc, h => by
    unfold chk at h
    split at h
    · simp only [Bool.and_eq_true, decide_eq_true_eq] at h
      obtain ⟨⟨⟨⟨⟨⟨⟨rfl, hb⟩, hn⟩, hn2⟩, hn3⟩, h1⟩, h2⟩, h3⟩ := h
      obtain ⟨g, m⟩ := blt_of ft fc hb
      exact snd_plain (snd_max3 ft g m hn hn2 hn3 (chk_snd p c false _ X Z ft fc h1) (chk_snd q c false _ X Z ft fc h2) (chk_snd r c false _ X Z ft fc h3)) (by simp [plainB, plainT])
    · cases h
  | .isi ty p, c, t, a, X, Z, ft, fc, h => by
    unfold chk at h
    try dsimp only at h
    split at h
    · simp only [Bool.and_eq_true, decide_eq_true_eq] at h
      obtain ⟨⟨⟨⟨⟨rfl, rfl⟩, hb⟩, hb2⟩, hn⟩, h1⟩ := h
      obtain ⟨g, m⟩ := blt_of ft fc hb
      obtain ⟨g2, m2⟩ := blt_of ft fc hb2
      exact snd_plain (snd_isi ft g m g2 m2 hn (chk_snd p c false _ X Z ft fc h1)) (by simp [plainB, plainT])
    · cases h
  | .rng p, c, t, a, X, Z, ft, fc, h => by
    unfold chk at h
    try dsimp only at h
    rw [Bool.and_eq_true] at h
    cases not_t h.1
    replace h := h.2
    split at h
    · simp only [Bool.and_eq_true, decide_eq_true_eq] at h
      obtain ⟨⟨⟨⟨⟨rfl, rfl⟩, hb⟩, hb2⟩, hn⟩, h1⟩ := h
      obtain ⟨g, m⟩ := blt_of ft fc hb
      obtain ⟨g2, m2⟩ := blt_of ft fc hb2
      exact snd_rng ft.calm g m g2 m2 hn (chk_snd p c false _ X Z ft fc h1)
    · cases h
  | .rngT _, c, t, a, X, Z, ft, fc, h => by
    unfold chk at h
    cases h
  | .comp own tg sk s1 s2 cnd elt, c, t, a, X, Z, ft, fc, h => by
    unfold chk at h
    try dsimp only at h
    rw [Bool.and_eq_true] at h
    cases not_t h.1
    replace h := h.2
    split at h
    · rename_i y tgA iter ifs scope pos
      simp only [Bool.and_eq_true, List.all_eq_true, decide_eq_true_eq] at h
      obtain ⟨⟨⟨⟨⟨⟨hb, hn⟩, hs⟩, hi⟩, hg⟩, hc⟩, he⟩ := h
      have ok := blkOk_by (by rw [← fc.n, ← fc.sc] at hb; exact hb)
      exact (snd_comp ft (ownOf_snd own) ok hn hs
        (chkSrc_snd ft fc hi (fun z q => chk_snd s1 c false z X Z ft fc q) fun z q => by
          cases s2 with
          | none => simp [chkO] at q
          | some b =>
            refine ⟨b, rfl, chk_snd b c false z X Z ft fc ?_⟩
            unfold chkO at q
            exact q)
        (fun G s H C cl fp => chkTg_snd tg _ _ _ _ ft.nd ft.hK ft.calm fc.blk hg)
        (fun G s H C cl fp => chkC_snd cnd (c.blk scope) _ _ _ (ft.blk G s H ok.kind C cl fp) fc.blk hc)
        (fun G s H C cl fp => chk_snd elt (c.blk scope) false _ _ _ (ft.blk G s H ok.kind C cl fp) fc.blk he)).2
    · cases h
  | .comp2 .., c, t, a, X, Z, ft, fc, h => by
    unfold chk at h
    cases h
  | .join p q, c, t, a, X, Z, ft, fc, h => by
    unfold chk at h
    try dsimp only at h
    rw [Bool.and_eq_true] at h
    cases not_t h.1
    replace h := h.2
    split at h
    · simp only [Bool.and_eq_true, decide_eq_true_eq] at h
      obtain ⟨⟨⟨⟨⟨rfl, hl⟩, hn⟩, hb⟩, h1⟩, h2⟩ := h
      exact snd_join hn hb hl (chk_snd p c false _ X Z ft fc h1) (opnd_chk fc h2 (chk_snd q c false _ X Z ft fc h2))
    · cases h
  | .split p q, c, t, a, X, Z, ft, fc, h => by
    unfold chk at h
    try dsimp only at h
    rw [Bool.and_eq_true] at h
    cases not_t h.1
    replace h := h.2
    split at h
    · simp only [Bool.and_eq_true, decide_eq_true_eq] at h
      obtain ⟨⟨⟨⟨⟨rfl, hl⟩, hn⟩, hb⟩, h1⟩, h2⟩ := h
      exact snd_split hn hb hl (chk_snd p c false _ X Z ft fc h1) (chk_snd q c false _ X Z ft fc h2)
    · cases h
  | .index p q, c, t, a, X, Z, ft, fc, h => by
    unfold chk at h
    try dsimp only at h
    rw [Bool.and_eq_true] at h
    cases not_t h.1
    replace h := h.2
    split at h
    · simp only [Bool.and_eq_true, decide_eq_true_eq] at h
      obtain ⟨⟨⟨⟨⟨rfl, hl⟩, hn⟩, hb⟩, h1⟩, h2⟩ := h
      exact snd_index ft hn hb hl (opnd_chk fc h1 (chk_snd p c false _ X Z ft fc h1)) (chk_snd q c false _ X Z ft fc h2)
    · cases h
  | .strGet ks p dflt, c, t, a, X, Z, ft, fc, h => by
    unfold chk at h
    try dsimp only at h
    rw [Bool.and_eq_true] at h
    cases not_t h.1
    replace h := h.2
    split at h
    · simp only [Bool.and_eq_true, decide_eq_true_eq, Bool.not_eq_true', List.isEmpty_eq_false_iff] at h
      obtain ⟨⟨⟨⟨⟨⟨⟨⟨rfl, rfl⟩, hk⟩, hd⟩, h0⟩, h15⟩, hl⟩, hn⟩, h1⟩ := h
      exact snd_strGet ft hk hd h0 h15 hl hn (chk_snd p c false _ X Z ft fc h1)
    · cases h
theorem chkL_snd : ∀ (es : List E) (c : Ck) (as : List PySem.Expr) (X : Cx) (Z : Fx), Fit X Z lev c.T Γ → FitC c X → chkL c es as = true → PA X as (Rd Z (lDs Z) (evL Γ es))
  | [], c, as, X, Z, ft, fc, h => by
    unfold chkL at h
    cases List.isEmpty_iff.mp h
    exact snd_nil
  | e :: es, c, as, X, Z, ft, fc, h => by
    unfold chkL at h
    try dsimp only at h
    split at h
    · simp only [Bool.and_eq_true] at h
      obtain ⟨⟨hn, h1⟩, h2⟩ := h
      exact snd_cons (chk_snd e c false _ X Z ft fc h1) (chkL_snd es c _ X Z ft fc h2) hn
    · cases h
theorem chkO_snd : ∀ (o : Option E) (c : Ck) (a : Option PySem.Expr) (X : Cx) (Z : Fx), Fit X Z lev c.T Γ → FitC c X → chkO c o a = true → PO X a (Rd Z (fun _ _ _ _ v d => d = v) (evO Γ o >>= asPart))
  | none, c, a, X, Z, ft, fc, h => by
    unfold chkO at h
    try dsimp only at h
    rw [Option.isNone_iff_eq_none] at h
    subst h
    exact sndO_none
  | some e, c, a, X, Z, ft, fc, h => by
    unfold chkO at h
    try dsimp only at h
    split at h
    · exact sndO_some (chk_snd e c false _ X Z ft fc h)
    · cases h
theorem chkC_snd : ∀ (o : Option E) (c : Ck) (as : List PySem.Expr) (X : Cx) (Z : Fx), Fit X Z lev c.T Γ → FitC c X → chkC c o as = true → PTs X as (rdB Z (evC Γ o))
  | none, c, as, X, Z, ft, fc, h => by
    unfold chkC at h
    try dsimp only at h
    cases List.isEmpty_iff.mp h
    exact sndC_none
  | some e, c, as, X, Z, ft, fc, h => by
    unfold chkC at h
    try dsimp only at h
    split at h
    · exact sndC_some (PXt.pt (chk_snd e c true _ X Z ft fc h))
    · cases h
theorem chkA_snd : ∀ (es : List E) (c : Ck) (as : List PySem.Expr) (X : Cx) (Z : Fx), Fit X Z lev c.T Γ → FitC c X → chkA c es as = true → PA X as (Rd Z (lAs Z es) (evA Γ es))
  | [], c, as, X, Z, ft, fc, h => by
    unfold chkA at h
    cases List.isEmpty_iff.mp h
    exact sndA_nil
  | e :: es, c, as, X, Z, ft, fc, h => by
    unfold chkA at h
    try dsimp only at h
    split at h
    · simp only [Bool.and_eq_true] at h
      obtain ⟨⟨hn, h1⟩, h2⟩ := h
      have ih := chkA_snd es c _ X Z ft fc h2
      cases q : e.peek with
      | some i =>
        cases isPk q
        unfold chk at h1
        try dsimp only at h1
        rw [Bool.and_eq_true] at h1
        exact sndA_bor rfl (nameAt_snd fc h1.2) ih hn
      | none =>
        cases q2 : e.isIo with
        | some i =>
          cases (isNone_io q2).1
          unfold chk at h1
          try dsimp only at h1
          rw [Bool.and_eq_true] at h1
          exact sndA_io rfl rfl (nameAt_snd fc h1.2) ih hn
        | none => exact sndA_val q q2 (chk_snd e c false _ X Z ft fc h1) ih hn
    · cases h
end
end
end PL
/-! PLChk3: the check of statements, and that it is sound. -/
namespace PL
open PySem L2 PySem.Spec PyProof.Rows
def E.isComp : E → Bool
  | .comp .. => true
  | _ => false
/-- swapsWith, computed -/
def swapV (sc : Scope) (a : PySem.Expr) (x : Str) (p2 : Pos) : Bool := match a with
  | .ListComp _ _ s pos => (sc.names.lookup x == some .local) && (p2.line == pos.line) && !(s.names.any fun q => q.1 == x && (q.2 == .local || q.2 == .cell))
  | _ => false
/-- a comprehension of one clause may stand behind =, and what is no comprehension -/
def asgB (sc : Scope) (e : E) (a : PySem.Expr) : Bool := match a with
  | .ListComp _ [⟨_, _, _, 0⟩] _ _ => e.isComp
  | .SetComp .. => false
  | .DictComp .. => false
  | .ListComp .. => false
  | _ => true
def isStar : PySem.Expr → Bool
  | .Starred .. => true
  | _ => false
def line0 (ts : List PySem.Expr) : Nat := (ts.head?.map (·.pos.line)).getD 0
def namesAt (sc : Scope) (line : Nat) (ts : List PySem.Expr) : List Str := ts.filterMap fun
  | .Name id pos => if sc.names.lookup id == some .local && pos.line == line then some id else none
  | _ => none
/-- swappedStores, computed: none where it refuses -/
def swapT (sc : Scope) (ts : List PySem.Expr) (a : PySem.Expr) : Option (Option (List Str)) := match a with
  | .Tuple vs _ _ =>
    if !(ts.length == 2 || ts.length == 3) || vs.length != ts.length then some none
    else if vs.any isStar then some none
    else if (namesAt sc (line0 ts) ts).length != ts.length || (namesAt sc (line0 ts) ts).eraseDups.length != (namesAt sc (line0 ts) ts).length then some none
    else if vs.all (foldedForSure 8) then some none
    else if vs.all (constantsAlone 8) then none
    else some (some (namesAt sc (line0 ts) ts))
  | _ => some none
def parB (c : Ck) : List Nat → List PySem.Expr → PySem.Expr → Bool
  | [i, j], [.Name x px, .Name y py], a => decide (c.N[i]? = some x) && decide (c.N[j]? = some y) && decide (i ≠ j) && decide (c.sc.names.lookup x = some .local) && decide (c.sc.names.lookup y = some .local) &&
      decide (swapT c.sc [.Name x px, .Name y py] a = some (some [x, y]))
  | [i, j, l], [.Name x px, .Name y py, .Name z pz], a => decide (c.N[i]? = some x) && decide (c.N[j]? = some y) && decide (c.N[l]? = some z) && decide (i ≠ j) && decide (i ≠ l) && decide (j ≠ l) &&
      decide (c.sc.names.lookup x = some .local) && decide (c.sc.names.lookup y = some .local) && decide (c.sc.names.lookup z = some .local) && decide (swapT c.sc [.Name x px, .Name y py, .Name z pz] a = some (some [x, y, z]))
  | _, _, _ => false
/-- a clause's suite: x = "w", xs.append("w"), return x -/
def calmB (c : Ck) : List S → List Stmt → Bool
  | [.asg i (.str s)], [.Assign [.Name x _] (.Constant (.str s') _ _) _] => decide (s = s') && storB c i x
  | [.app i (.str s)], [.Expr (.Call (.Attribute (.Name x p1) f p2) [.Constant (.str s') _ _] [] p) _] => decide (f = ("append" : Str)) && decide (s = s') && nameAt c i (.Name x p1) && (p2.endLine == p.line)
  | [.ret (.var i)], [.Return (some a) _] => nameAt c i a
  | _, _ => false
def hdsB (c : Ck) (known : List Str) : List (Str × List S) → List ExceptHandler → Bool
  | [], [] => true
  | (x, ss) :: l, .ExceptHandler (some (.Name y _)) none (b :: bs) _ :: hds => decide (x = y) && decide (x ∈ known) && globB c x && !(x == ("__debug__" : Str)) && calmB c ss (b :: bs) && hdsB c known l hds
  | _, _ => false
mutual
def chkS (c : Ck) : S → Stmt → Bool
  | .asg i e, s => match s with
    | .Assign [.Name x p2] a pos => storB c i x && asgB c.sc e a && chk c false e a
    | _ => false
  | .asgT tg e, s => match s with
    | .Assign [.Tuple ts k p2] a pos => (match tg with
      | .tup _ => decide (swapT c.sc ts a = some none) && chkTg c tg (.Tuple ts k p2) && chk c false e a
      | _ => false)
    | _ => false
  | .par is es, s => match s with
    | .Assign [.Tuple ts kt pt] (.Tuple vs k2 pt2) pos => parB c is ts (.Tuple vs k2 pt2) && (vs.length == ts.length) && chkL c es vs
    | _ => false
  | .app i e, s => match s with
    | .Expr (.Call (.Attribute (.Name x p1) f p2) [a] [] p) pos => decide (f = ("append" : Str)) && nameAt c i (.Name x p1) && nst a && (p2.endLine == p.line) && chk c false e a
    | _ => false
  | .setix i k e, s => match s with
    | .Assign [.Subscript (.Name x p1) b p2] a pos => nslice b && nameAt c i (.Name x p1) && chk c false e a && chk c false k b
    | _ => false
  | .ife k p q, s => match s with
    | .If x as bs _ => chk c true k x && chkSs c p as && chkSs c q bs
    | _ => false
  | .forIn tg sk s1 s2 body, s => match s with
    | .For tgA iter bs [] _ => nset iter && chkSrc c (fun z => chk c false s1 z) (fun z => chkO c s2 (some z)) s2.isNone sk iter (isTup tgA) && chkTg c tg tgA && chkSs c body bs
    | _ => false
  | .whl _ k body, s => match s with
    | .While x bs [] _ => chk c true k x && chkSs c body bs
    | _ => false
  | .ret e, s => match s with
    | .Return (some a) _ => chk c false e a
    | _ => false
  | .retN, s => match s with
    | .Return none _ => true
    | _ => false
  | .ex e, s => match s with
    | .Expr a _ => ncomp a && chk c false e a
    | _ => false
  | .pass, s => match s with
    | .Pass _ => true
    | _ => false
  | .bad, _ => true
  | .raise x none, s => match s with
    | .Raise (some (.Call (.Name y _) [.Constant (.str _) _ _] [] _)) none _ => decide (x = y) && decide (x ∈ c.T.exc) && globB c x && !(x == ("__debug__" : Str))
    | _ => false
  | .raise _ (some _), _ => false
  | .tryAs .., _ => false
  | .tryN known ss l, s => match s with
    | .Try body (h :: hds) [] [] _ => (known.all fun x => decide (x ∈ c.T.known)) && chkSs c ss body && hdsB c known l (h :: hds)
    | _ => false
def chkSs (c : Ck) : List S → List Stmt → Bool
  | [], as => as.isEmpty
  | s :: ss, as => match as with
    | a :: as => chkS c s a && chkSs c ss as
    | [] => false
end
section
variable {X : Cx} {Z : Fx} {Γ : Gm} {lev : Nat} {T : Tab} {pos p : Pos} {c : Ck} {t : Bool}
theorem blockFn (hk : X.env.scope.kind = .function) : X.env.blockKind = .function := by
  unfold Env.blockKind
  rw [hk]
  rfl
theorem swapV_eq {a : PySem.Expr} {x : Str} {p2 : Pos} {e : E} {l : Nat} (hk : X.env.scope.kind = .function) (h : asgB X.env.scope e a = true) : swapsWith a (some (.Name x p2)) l X.env = pure (swapV X.env.scope a x p2) := by
  cases a with
  | ListComp y g s pos =>
    unfold swapsWith swapV
    simp only [blockFn hk]
    rfl
  | SetComp => cases h
  | DictComp => cases h
  | _ => rfl
theorem sw_unf {ts vs : List PySem.Expr} {k k2 : Nat} {p2 pt2 : Pos} : swappedStores [.Tuple ts k p2] (.Tuple vs k2 pt2) X.env =
    if (!(ts.length == 2 || ts.length == 3) || vs.length != ts.length || X.env.blockKind != .function) = true then pure none
    else if (vs.any isStar) = true then pure none
    else if ((namesAt X.env.scope (line0 ts) ts).length != ts.length || (namesAt X.env.scope (line0 ts) ts).eraseDups.length != (namesAt X.env.scope (line0 ts) ts).length) = true then pure none
    else if (vs.all (foldedForSure 8)) = true then pure none
    else if (vs.all (constantsAlone 8)) = true then (do unsupported "assign.tuple-of-constant-expressions:order-of-the-stores"; pure (some (namesAt X.env.scope (line0 ts) ts)))
    else pure (some (namesAt X.env.scope (line0 ts) ts)) := by
  have star : (vs.any fun | .Starred .. => true | _ => false) = vs.any isStar := by
    congr 1
  rw [← star]
  rfl
theorem swapT_eq {ts : List PySem.Expr} {k : Nat} {p2 : Pos} {a : PySem.Expr} {r : Option (List Str)} (hk : X.env.scope.kind = .function) (h : swapT X.env.scope ts a = some r) : swappedStores [.Tuple ts k p2] a X.env = pure r := by
  cases a with
  | Tuple vs k2 pt2 =>
    unfold swapT at h
    rw [sw_unf, blockFn hk]
    simp only [bne_self_eq_false, Bool.or_false]
    dsimp only at h
    by_cases c0 : (!(ts.length == 2 || ts.length == 3) || vs.length != ts.length) = true
    · rw [if_pos c0] at h ⊢
      cases h; rfl
    rw [if_neg c0] at h ⊢
    by_cases c1 : (vs.any isStar) = true
    · rw [if_pos c1] at h ⊢
      cases h; rfl
    rw [if_neg c1] at h ⊢
    by_cases c2 : ((namesAt X.env.scope (line0 ts) ts).length != ts.length || (namesAt X.env.scope (line0 ts) ts).eraseDups.length != (namesAt X.env.scope (line0 ts) ts).length) = true
    · rw [if_pos c2] at h ⊢
      cases h; rfl
    rw [if_neg c2] at h ⊢
    by_cases c3 : (vs.all (foldedForSure 8)) = true
    · rw [if_pos c3] at h ⊢
      cases h; rfl
    rw [if_neg c3] at h ⊢
    by_cases c9 : (vs.all (constantsAlone 8)) = true
    · rw [if_pos c9] at h; cases h
    rw [if_neg c9] at h ⊢
    cases h; rfl
  | _ =>
    unfold swapT at h
    cases h
    rfl
/-- a comprehension's two readings -/
theorem comp_pair {own : List Nat} {tg : Tg} {sk : Nat} {s1 : E} {s2 cnd : Option E} {elt : E} {y tgA iter : PySem.Expr} {ifs : List PySem.Expr} {scope : Scope} (ft : Fit X Z lev c.T Γ) (fc : FitC c X)
    (h : chk c false (.comp own tg sk s1 s2 cnd elt) (.ListComp y [⟨tgA, iter, ifs, 0⟩] scope pos) = true) {i : Nat} {x : Str} {p2 spos : Pos} (hi : X.N[i]? = some x) (hl : X.env.scope.names.lookup x = some .local)
    (hw : swapsWith (.ListComp y [⟨tgA, iter, ifs, 0⟩] scope pos) (some (.Name x p2)) spos.line X.env = pure true) :
    PS X (.Assign [.Name x p2] (.ListComp y [⟨tgA, iter, ifs, 0⟩] scope pos) spos) (rdS Z (evS Γ (.asg i (.comp own tg sk s1 s2 cnd elt)))) := by
  unfold chk at h
  rw [Bool.and_eq_true] at h
  replace h := h.2
  simp only [Bool.and_eq_true, List.all_eq_true, decide_eq_true_eq] at h
  obtain ⟨⟨⟨⟨⟨⟨hb, hn⟩, hs⟩, hsrc⟩, hg⟩, hc⟩, he⟩ := h
  have ok := blkOk_by (by rw [← fc.n, ← fc.sc] at hb; exact hb)
  have a1 := chkSrc_snd ft fc hsrc (fun z q => chk_snd s1 c false z X Z ft fc q) fun z q => by
    cases s2 with
    | none => simp [chkO] at q
    | some b =>
      refine ⟨b, rfl, chk_snd b c false z X Z ft fc ?_⟩
      unfold chkO at q
      exact q
  have a2 := fun (G : Hp) (s : Shared) (H : Hp) (C : Addr) (cl : List (Str × Addr)) (fp : List Addr) => chkTg_snd tg (c.blk scope) tgA (X.blk s H scope (compEnvC scope cl C X.env) fp) (Z.blk G) ft.nd ft.hK ft.calm fc.blk hg
  have a3 := fun (G : Hp) (s : Shared) (H : Hp) (C : Addr) (cl : List (Str × Addr)) (fp : List Addr) => chkC_snd cnd (c.blk scope) ifs (X.blk s H scope (compEnvC scope cl C X.env) fp) (Z.blk G) (ft.blk G s H ok.kind C cl fp) fc.blk hc
  have a4 := fun (G : Hp) (s : Shared) (H : Hp) (C : Addr) (cl : List (Str × Addr)) (fp : List Addr) => chk_snd elt (c.blk scope) false y (X.blk s H scope (compEnvC scope cl C X.env) fp) (Z.blk G) (ft.blk G s H ok.kind C cl fp) fc.blk he
  have pr := snd_comp (pos := pos) ft (ownOf_snd own) ok hn hs a1 a2 a3 a4
  refine ps_mono (ps_setLc ft.calm ft.nd hi hl hw a1 ok (fun s H C cl fp => pg_any fun G => a2 G s H C cl fp) (fun s H C cl fp => pts_any fun G => a3 G s H C cl fp) (fun s H C cl fp => pe_any fun G => a4 G s H C cl fp) (nfold hn)) fun D σ H q => ?_
  rw [evS] at q
  exact asg_key pr.1 D σ H q
theorem asg_snd {i : Nat} {e : E} {x : Str} {p2 : Pos} {a : PySem.Expr} (ft : Fit X Z lev c.T Γ) (fc : FitC c X) (hs : storB c i x = true) (hb : asgB c.sc e a = true) (h : chk c false e a = true) : PS X (.Assign [.Name x p2] a pos) (rdS Z (evS Γ (.asg i e))) := by
  obtain ⟨h1, h2, h3⟩ := stor_of fc hs
  rw [← fc.sc] at hb
  have w := swapV_eq (x := x) (p2 := p2) (l := pos.line) ft.kind hb
  cases v : swapV X.env.scope a x p2 with
  | false =>
    rw [v] at w
    exact snd_asg ft.nd h1 h2 h3 w (chk_snd e c false a X Z ft fc h)
  | true =>
    rw [v] at w
    cases a with
    | ListComp y gs scope cpos =>
      have hl : X.env.scope.names.lookup x = some .local := by
        unfold swapV at v
        simp only [Bool.and_eq_true, beq_iff_eq] at v
        exact v.1.1
      unfold asgB at hb
      split at hb
      · rename_i heq
        cases heq
        cases e with
        | comp own tg sk s1 s2 cnd elt => exact comp_pair ft fc h h1 hl w
        | _ => cases hb
      · cases hb
      · cases hb
      · cases hb
      · rename_i n1 n2 n3 n4
        exact absurd rfl (n4 _ _ _ _)
    | _ => cases v
end
section
variable {Γ : Gm} {lev : Nat}
theorem Fit.ofG {X : Cx} {Z : Fx} {T : Tab} (ft : Fit X Z lev T Γ) (G : Hp) : Fit X { Z with G := G } lev T Γ := ⟨ft.hK, ft.hmg, ft.calm, ft.nd, ft.room, ft.one, ft.kind, ft.takes, ft.good⟩
theorem chkV_snd : ∀ (es : List E) (c : Ck) (as : List PySem.Expr) (X : Cx) (Z : Fx), Fit X Z lev c.T Γ → FitC c X → chkL c es as = true → PA X as (Rd Z (lVs Z) (evV Γ es))
  | [], c, as, X, Z, ft, fc, h => by
    unfold chkL at h
    cases List.isEmpty_iff.mp h
    exact snd_evV_nil
  | e :: es, c, as, X, Z, ft, fc, h => by
    unfold chkL at h
    try dsimp only at h
    split at h
    · simp only [Bool.and_eq_true] at h
      obtain ⟨⟨hn, h1⟩, h2⟩ := h
      exact snd_evV_cons (chk_snd e c false _ X Z ft fc h1) (fun G => chkV_snd es c _ X { Z with G := G } (ft.ofG G) fc h2) hn
    · cases h
/-- a def's own body: not a part that stands for itself -/
def OwnX (X : Cx) : Prop := PassesOwn (model X.prog X.w) X.A X.env X.xe ∧ X.stack = X.env :: X.outer ∧ X.env.frame = some X.env.locals
section
variable {X : Cx} {Z : Fx}
theorem calmB_snd {c : Ck} {ss : List S} {as : List Stmt} (ft : Fit X Z lev c.T Γ) (fc : FitC c X) (h : calmB c ss as = true) (a : Addr) (pn : List (Addr × Obj)) : PSs (X.suite a pn) as (rdS Z (evSs Γ ss)) := by
  have fc' : FitC c (X.suite a pn) := ⟨fc.n, fc.sc, fc.fn⟩
  unfold calmB at h
  split at h
  · rw [Bool.and_eq_true, decide_eq_true_eq] at h
    obtain ⟨rfl, h2⟩ := h
    obtain ⟨q1, q2, q3⟩ := stor_of fc' h2
    exact calm_asg ft.nd q1 q2 q3
  · simp only [Bool.and_eq_true, decide_eq_true_eq] at h
    obtain ⟨⟨⟨rfl, rfl⟩, h3⟩, h4⟩ := h
    exact calm_app (nameAt_snd fc' h3) h4
  · exact calm_ret (nameAt_snd fc' h)
  · cases h
theorem hdsB_snd {c : Ck} {known : List Str} (ft : Fit X Z lev c.T Γ) (fc : FitC c X) : ∀ {l : List (Str × List S)} {hds : List ExceptHandler}, hdsB c known l hds = true → Hds X Z Γ known l hds
  | [], [], h => .nil
  | [], hd :: tl, h => by simp [hdsB] at h
  | (x, ss) :: l, hds, h => by
    unfold hdsB at h
    split at h
    · rename_i e
      cases e
    · rename_i x' ss' l' y p b bs p2 hds' e
      cases e
      simp only [Bool.and_eq_true, decide_eq_true_eq, Bool.not_eq_true'] at h
      obtain ⟨⟨⟨⟨⟨rfl, h2⟩, h3⟩, h4⟩, h5⟩, h6⟩ := h
      exact .cons h2 (glob_of fc h3) h4 (calmB_snd ft fc h5) (hdsB_snd ft fc h6)
    · cases h
end
mutual
theorem chkS_snd : ∀ (s : S) (c : Ck) (a : Stmt) (X : Cx) (Z : Fx), Fit X Z lev c.T Γ → FitC c X → OwnX X → chkS c s a = true → PS X a (rdS Z (evS Γ s))
  | .asg i e, c, a, X, Z, ft, fc, hp, h => by
    unfold chkS at h
    split at h
    · simp only [Bool.and_eq_true] at h
      exact asg_snd ft fc h.1.1 h.1.2 h.2
    · cases h
  | .asgT tg e, c, a, X, Z, ft, fc, hp, h => by
    unfold chkS at h
    split at h
    · cases tg with
      | nm i => cases h
      | tup ts =>
        simp only [Bool.and_eq_true, decide_eq_true_eq] at h
        obtain ⟨⟨h1, h2⟩, h3⟩ := h
        exact snd_asgT (swapT_eq ft.kind (by rw [fc.sc]; exact h1)) (chk_snd e c false _ X Z ft fc h3) (chkTg_snd _ c _ X Z ft.nd ft.hK ft.calm fc h2)
    · cases h
  | .par is es, c, a, X, Z, ft, fc, hp, h => by
    unfold chkS at h
    split at h
    · rename_i ts kt pt vs k2 pt2 pos
      simp only [Bool.and_eq_true, beq_iff_eq] at h
      obtain ⟨⟨h1, h2⟩, h3⟩ := h
      have pa := chkV_snd es c vs X Z ft fc h3
      unfold parB at h1
      split at h1
      · simp only [Bool.and_eq_true, decide_eq_true_eq] at h1
        obtain ⟨⟨⟨⟨⟨i1, i2⟩, n1⟩, l1⟩, l2⟩, sw⟩ := h1
        match vs, h2 with
        | [u, v], _ => exact snd_par2 ft.calm ft.nd (by rw [fc.n]; exact i1) (by rw [fc.n]; exact i2) n1 (by rw [fc.sc]; exact l1) (by rw [fc.sc]; exact l2) (swapT_eq ft.kind (by rw [fc.sc]; exact sw)) pa
      · simp only [Bool.and_eq_true, decide_eq_true_eq] at h1
        obtain ⟨⟨⟨⟨⟨⟨⟨⟨⟨i1, i2⟩, i3⟩, n1⟩, n2⟩, n3⟩, l1⟩, l2⟩, l3⟩, sw⟩ := h1
        match vs, h2 with
        | [u, v, w], _ => exact snd_par3 ft.calm ft.nd (by rw [fc.n]; exact i1) (by rw [fc.n]; exact i2) (by rw [fc.n]; exact i3) n1 n2 n3 (by rw [fc.sc]; exact l1) (by rw [fc.sc]; exact l2) (by rw [fc.sc]; exact l3) (swapT_eq ft.kind (by rw [fc.sc]; exact sw)) pa
      · cases h1
    · cases h
  | .app i e, c, a, X, Z, ft, fc, hp, h => by
    unfold chkS at h
    split at h
    · simp only [Bool.and_eq_true, decide_eq_true_eq] at h
      obtain ⟨⟨⟨⟨rfl, h1⟩, h2⟩, h3⟩, h4⟩ := h
      exact snd_app (nameAt_snd fc h1) h2 h3 (chk_snd e c false _ X Z ft fc h4)
    · cases h
  | .setix i k e, c, a, X, Z, ft, fc, hp, h => by
    unfold chkS at h
    split at h
    · simp only [Bool.and_eq_true] at h
      obtain ⟨⟨⟨h1, h2⟩, h3⟩, h4⟩ := h
      exact snd_setix h1 (nameAt_snd fc h2) (chk_snd e c false _ X Z ft fc h3) (chk_snd k c false _ X Z ft fc h4)
    · cases h
  | .ife k p q, c, a, X, Z, ft, fc, hp, h => by
    unfold chkS at h
    split at h
    · simp only [Bool.and_eq_true] at h
      obtain ⟨⟨h1, h2⟩, h3⟩ := h
      exact snd_ife (PXt.pt (chk_snd k c true _ X Z ft fc h1)) (chkSs_snd p c _ X Z ft fc hp h2) (chkSs_snd q c _ X Z ft fc hp h3)
    · cases h
  | .forIn tg sk s1 s2 body, c, a, X, Z, ft, fc, hp, h => by
    unfold chkS at h
    split at h
    · simp only [Bool.and_eq_true] at h
      obtain ⟨⟨⟨hn, hsrc⟩, hg⟩, hb⟩ := h
      exact snd_for hp.1 ft.calm hn (chkSrc_snd ft fc hsrc (fun z q => chk_snd s1 c false z X Z ft fc q) fun z q => by
        cases s2 with
        | none => simp [chkO] at q
        | some b =>
          refine ⟨b, rfl, chk_snd b c false z X Z ft fc ?_⟩
          unfold chkO at q
          exact q) (chkTg_snd tg c _ X Z ft.nd ft.hK ft.calm fc hg) (chkSs_snd body c _ X Z ft fc hp hb)
    · cases h
  | .whl f k body, c, a, X, Z, ft, fc, hp, h => by
    unfold chkS at h
    split at h
    · simp only [Bool.and_eq_true] at h
      exact snd_whl hp.1 (PXt.pt (chk_snd k c true _ X Z ft fc h.1)) (chkSs_snd body c _ X Z ft fc hp h.2)
    · cases h
  | .ret e, c, a, X, Z, ft, fc, hp, h => by
    unfold chkS at h
    split at h
    · exact snd_ret (chk_snd e c false _ X Z ft fc h)
    · cases h
  | .retN, c, a, X, Z, ft, fc, hp, h => by
    unfold chkS at h
    split at h
    · exact snd_retN
    · cases h
  | .ex e, c, a, X, Z, ft, fc, hp, h => by
    unfold chkS at h
    split at h
    · rw [Bool.and_eq_true] at h
      exact snd_ex h.1 (chk_snd e c false _ X Z ft fc h.2)
    · cases h
  | .pass, c, a, X, Z, ft, fc, hp, h => by
    unfold chkS at h
    split at h
    · exact snd_pass
    · cases h
  | .bad, c, a, X, Z, ft, fc, hp, h => ⟨fun pins s σ H D I ⟨F, ρ, E, q⟩ => by
    rw [evS] at q
    exact q.elim⟩
  | .raise x none, c, a, X, Z, ft, fc, hp, h => by
    unfold chkS at h
    split at h
    · simp only [Bool.and_eq_true, decide_eq_true_eq, Bool.not_eq_true'] at h
      obtain ⟨⟨⟨rfl, h2⟩, h3⟩, h4⟩ := h
      exact snd_raise ft h2 (glob_of fc h3) h4
    · cases h
  | .raise x (some q), c, a, X, Z, ft, fc, hp, h => by
    unfold chkS at h
    cases h
  | .tryAs .., c, a, X, Z, ft, fc, hp, h => by
    unfold chkS at h
    cases h
  | .tryN known ss l, c, a, X, Z, ft, fc, hp, h => by
    unfold chkS at h
    split at h
    · rename_i body hd hds _
      simp only [Bool.and_eq_true] at h
      obtain ⟨⟨h1, h2⟩, h3⟩ := h
      exact snd_tryN ft (fun x hx => of_decide_eq_true (List.all_eq_true.mp h1 x hx)) hp.2.1 hp.2.2
        (fun W pn xe tk po => chkSs_snd ss c body (X.tr pn xe) { Z with W := W } ⟨ft.hK, ft.hmg, ft.calm, ft.nd, ft.room, ft.one, ft.kind, tk, ft.good⟩ ⟨fc.n, fc.sc, fc.fn⟩ ⟨po, hp.2⟩ h2) (hdsB_snd ft fc h3)
    · cases h
theorem chkSs_snd : ∀ (ss : List S) (c : Ck) (as : List Stmt) (X : Cx) (Z : Fx), Fit X Z lev c.T Γ → FitC c X → OwnX X → chkSs c ss as = true → PSs X as (rdS Z (evSs Γ ss))
  | [], c, as, X, Z, ft, fc, hp, h => by
    unfold chkSs at h
    cases List.isEmpty_iff.mp h
    exact sndSs_nil
  | s :: ss, c, as, X, Z, ft, fc, hp, h => by
    unfold chkSs at h
    split at h
    · rw [Bool.and_eq_true] at h
      exact sndSs_cons (chkS_snd s c _ X Z ft fc hp h.1) (chkSs_snd ss c _ X Z ft fc hp h.2)
    · cases h
end
end
end PL
/-! PLDef: a def's promise. -/
namespace PL
open PySem L2 PySem.Spec PyProof.Rows
/-! ### slots that stand free behind the parameters -/
section
variable {K : PySem.W.Frag} {pa : Nat → Option Addr} {F G H : Hp} {σ : L2.St} {ρ : Env}
theorem pad_get {α : Type} {l : List (Option α)} {n i : Nat} {x : α} (h : (l ++ List.replicate n none)[i]? = some (some x)) : l[i]? = some (some x) := by
  by_cases hi : i < l.length
  · rw [List.getElem?_append_left hi] at h; exact h
  · rw [List.getElem?_append_right (Nat.le_of_not_lt hi)] at h
    rw [List.getElem?_replicate] at h
    split at h <;> cases h
theorem pad_of {α : Type} {l : List (Option α)} {n i : Nat} {x : α} (h : l[i]? = some (some x)) : (l ++ List.replicate n none)[i]? = some (some x) := by
  rw [List.getElem?_append_left (List.getElem?_eq_some_iff.mp h).1]
  exact h
theorem EnvOk.pad (E : EnvOk K pa F G H σ ρ) (n : Nat) : EnvOk K pa F G H (σ ++ List.replicate n none) (ρ ++ List.replicate n none) where
  fh := E.fh
  gh := E.gh
  fg := E.fg
  len := by rw [List.length_append, List.length_append, E.len, List.length_replicate, List.length_replicate]
  shr := fun i d h => by
    obtain ⟨v, e, r⟩ := E.shr i d (pad_get h)
    exact ⟨v, pad_of e, r⟩
  own := fun i g d h ng => by
    obtain ⟨a, e, r⟩ := E.own i g d (pad_get h) ng
    exact ⟨a, pad_of e, r⟩
  pin := fun i d h => by
    obtain ⟨a, e, r⟩ := E.pin i d (pad_get h)
    exact ⟨a, e, pad_of r⟩
  dist := fun i j g g' d d' a ne h1 n1 h2 n2 e1 e2 => E.dist i j g g' d d' a ne (pad_get h1) n1 (pad_get h2) n2 (pad_get e1) (pad_get e2)
end
/-! ### by place -/
theorem init_get : ∀ {mask : List Bool} {ds : List D} {i : Nat}, ds.length = mask.length → mask[i]? = some true → ∃ d, (init mask ds)[i]? = some (some (Fg.pin, d))
  | [], ds, i, hl, h => by simp at h
  | m :: ms, [], i, hl, h => by simp at hl
  | m :: ms, d :: ds, 0, hl, h => by
    simp at h
    subst h
    exact ⟨d, by simp [init]⟩
  | m :: ms, d :: ds, i + 1, hl, h => by
    obtain ⟨d', e⟩ := init_get (mask := ms) (ds := ds) (i := i) (by simpa using hl) (by simpa using h)
    exact ⟨d', by simpa [init] using e⟩
theorem outEnv_get : ∀ {mask : List Bool} {outs : List D} {i : Nat} {g : Fg} {d : D}, (outEnv mask outs)[i]? = some (some (g, d)) → mask[i]? = some true ∧ g = .pin ∧ outs[i]? = some d
  | [], outs, i, g, d, h => by cases outs <;> simp [outEnv] at h
  | m :: ms, [], i, g, d, h => by cases m <;> simp [outEnv] at h
  | true :: ms, x :: outs, 0, g, d, h => by
    simp [outEnv] at h
    obtain ⟨rfl, rfl⟩ := h
    exact ⟨rfl, rfl, rfl⟩
  | false :: ms, x :: outs, 0, g, d, h => by simp [outEnv] at h
  | true :: ms, x :: outs, i + 1, g, d, h => by
    obtain ⟨a, b, c⟩ := outEnv_get (mask := ms) (outs := outs) (i := i) (g := g) (d := d) (by simpa [outEnv] using h)
    exact ⟨by simpa using a, b, by simpa using c⟩
  | false :: ms, x :: outs, i + 1, g, d, h => by
    obtain ⟨a, b, c⟩ := outEnv_get (mask := ms) (outs := outs) (i := i) (g := g) (d := d) (by simpa [outEnv] using h)
    exact ⟨by simpa using a, b, by simpa using c⟩
theorem outEnv_len : ∀ {mask : List Bool} {outs : List D}, outs.length = mask.length → (outEnv mask outs).length = mask.length
  | [], [], _ => rfl
  | [], _ :: _, h => by simp at h
  | _ :: _, [], h => by simp at h
  | true :: ms, _ :: outs, h => by simp [outEnv, outEnv_len (mask := ms) (outs := outs) (by simpa using h)]
  | false :: ms, _ :: outs, h => by simp [outEnv, outEnv_len (mask := ms) (outs := outs) (by simpa using h)]
theorem outsAt_get : ∀ {mask : List Bool} {ρ : Env} {outs : List D}, outsAt mask ρ = some outs → outs.length = mask.length ∧ ∀ (i : Nat) (d : D), mask[i]? = some true → outs[i]? = some d → ρ[i]? = some (some (Fg.pin, d))
  | [], ρ, outs, h => by
    simp [outsAt] at h
    subst h
    exact ⟨rfl, fun i d h => by simp at h⟩
  | true :: ms, some (.pin, d) :: ρ, outs, h => by
    simp only [outsAt, Option.map_eq_some_iff] at h
    obtain ⟨os, e, rfl⟩ := h
    obtain ⟨h1, h2⟩ := outsAt_get e
    refine ⟨by simp [h1], fun i d' hm ho => ?_⟩
    cases i with
    | zero => simp at ho; subst ho; rfl
    | succ i => simpa using h2 i d' (by simpa using hm) (by simpa using ho)
  | true :: ms, [], outs, h => by simp [outsAt] at h
  | true :: ms, none :: ρ, outs, h => by simp [outsAt] at h
  | true :: ms, some (.shr, d) :: ρ, outs, h => by simp [outsAt] at h
  | true :: ms, some (.own, d) :: ρ, outs, h => by simp [outsAt] at h
  | false :: ms, x :: ρ, outs, h => by
    simp only [outsAt, Option.map_eq_some_iff] at h
    obtain ⟨os, e, rfl⟩ := h
    obtain ⟨h1, h2⟩ := outsAt_get e
    refine ⟨by simp [h1], fun i d' hm ho => ?_⟩
    cases i with
    | zero => simp at hm
    | succ i => simpa using h2 i d' (by simpa using hm) (by simpa using ho)
  | false :: ms, [], outs, h => by simp [outsAt] at h
/-- behind the body: what the caller sees in the parameters' slots -/
theorem EnvOk.out {K : PySem.W.Frag} {pa : Nat → Option Addr} {F0 F G H0 H : Hp} {σ : L2.St} {ρ : Env} {vs : List V} {ds outs : List D} {mask : List Bool} (E0 : EnvOk K pa F0 G H0 (vs.map some) (init mask ds)) (hd : ds.length = mask.length) (hv : vs.length = mask.length)
    (E : EnvOk K pa F G H σ ρ) (ho : outsAt mask ρ = some outs) : EnvOk K pa F G H (vs.map some) (outEnv mask outs) ∧ (∀ r x, Res K F G H σ ρ x r → Res K F G H (vs.map some) (outEnv mask outs) x r) ∧ outs.length = mask.length := by
  obtain ⟨h1, h2⟩ := outsAt_get ho
  have key : ∀ (i : Nat) (g : Fg) (d : D), (outEnv mask outs)[i]? = some (some (g, d)) → g = .pin ∧ ρ[i]? = some (some (Fg.pin, d)) ∧ ∃ a, pa i = some a ∧ (vs.map some)[i]? = some (some (V.ref a)) ∧ σ[i]? = some (some (V.ref a)) := fun i g d q => by
    obtain ⟨m, rfl, o⟩ := outEnv_get q
    obtain ⟨d0, e0⟩ := init_get hd m
    obtain ⟨a, p, s⟩ := E0.pin i d0 e0
    have e1 := h2 i d m o
    obtain ⟨b, p2, s2⟩ := E.pin i d e1
    rw [p] at p2
    cases p2
    exact ⟨rfl, e1, a, p, s, s2⟩
  refine ⟨⟨E.fh, E.gh, E.fg, by rw [outEnv_len h1, List.length_map, hv], fun i d q => ?_, fun i g d q ng => ?_, fun i d q => ?_, fun i j g g' d d' a ne q1 n1 q2 n2 s1 s2 => ?_⟩, fun r x hr => ?_, h1⟩
  · exact absurd (key i _ d q).1 (by decide)
  · obtain ⟨rfl, e1, a, p, s, s2⟩ := key i g d q
    obtain ⟨b, e2, o⟩ := E.own i _ d e1 (by decide)
    rw [s2] at e2
    cases e2
    exact ⟨a, s, o⟩
  · obtain ⟨_, e1, a, p, s, s2⟩ := key i _ d q
    exact ⟨a, p, s⟩
  · obtain ⟨rfl, e1, b, p, t, t2⟩ := key i g d q1
    obtain ⟨rfl, e1', b', p', t', t2'⟩ := key j g' d' q2
    rw [t] at s1; cases s1
    rw [t'] at s2; cases s2
    exact E.dist i j _ _ d d' _ ne e1 (by decide) e1' (by decide) t2 t2'
  · obtain ⟨ow, d⟩ := r
    cases ow with
    | false => exact hr
    | true =>
      obtain ⟨a, e, o, no⟩ := hr
      refine ⟨a, e, o, fun i g d q ng z => ?_⟩
      obtain ⟨rfl, e1, b, p, t, t2⟩ := key i g d q
      rw [t] at z; cases z
      exact no i _ d e1 (by decide) t2
section
variable {P : Program} {w : World} {K : PySem.W.Frag} {mg : Str → Option Value} {base : Heap} {k : Nat} {T : Tab} {Γ : Gm}
theorem len_sp {mask : List Bool} {F : Fn} {ps : List Str} (hm : mask.length = ps.length) (vs : List V) (H : Hp) (Q : VK) (E : XK) (h : spOf K mg mask F vs H Q E) : vs.length = ps.length := by
  obtain ⟨_, _, _, _, _, h, _⟩ := h
  rw [h, hm]
/-- THE RULE for a def: the check, and what it means -/
theorem def_ok {x qual : Str} {params : Arguments} {body : List Stmt} {scope : Scope} {f : Addr} {fd : FuncData} (D : FunD K x qual params body scope [] [] f fd) {N ps : List Str} (sc : FnScope N ps scope) {mask : List Bool} (hm : mask.length = ps.length) (G : Good P w K mg base k T Γ) (hk : 1 ≤ k)
    {ss : List S} (hc : chkSs ⟨N, T, scope, none⟩ ss body = true) : FnOk P w K mg base (L2.CX P w) (k + 1) f fd ps (spOf K mg mask (semD mask N.length (evSs Γ ss))) := by
  refine D.ok sc (len_sp hm) fun cdv A outer s H vs Q E hr h => ?_
  obtain ⟨pa, F, Go, ds, E0, hv, hd, h⟩ := h
  have hpl : ps.length ≤ N.length := by
    have := congrArg List.length sc.pre
    rw [List.length_take] at this
    omega
  let X := cxOf (L2.CX P w) P w K mg base N qual scope f cdv A outer s H E
  let Z : Fx := ⟨K, mg, pa, Go, fun c d _ H => E c d H⟩
  have ft : Fit X Z k T Γ := ⟨rfl, rfl, rfl, sc.nd, hr, hk, sc.kind, takes_of rfl rfl rfl rfl, G⟩
  have fc : FitC ⟨N, T, scope, none⟩ X := ⟨rfl, rfl, rfl⟩
  refine ⟨rdS Z (evSs Γ ss), chkSs_snd ss ⟨N, T, scope, none⟩ body X Z ft fc ⟨passes_of rfl, rfl, rfl⟩ hc, F, init mask ds ++ List.replicate (N.length - mask.length) none, ?_, ?_⟩
  · unfold L2.start
    rw [hv]
    exact E0.pad _
  · unfold semD at h
    rw [if_pos hd] at h
    cases q : evSs Γ ss (init mask ds ++ List.replicate (N.length - mask.length) none) with
    | ok fl ρ =>
      rw [q] at h
      dsimp only at h
      cases q2 : outsAt mask ρ with
      | none => rw [q2] at h; exact h.elim
      | some outs =>
        rw [q2] at h
        dsimp only at h
        cases fl with
        | nx =>
          intro σ' F' H' s' E'
          obtain ⟨e1, e2, e3⟩ := EnvOk.out E0 hd hv E' q2
          exact h .non F' H' s' e1 (e2 (sh .non) .non Rp.non)
        | rt v =>
          intro x σ' F' H' s' E' r
          obtain ⟨e1, e2, e3⟩ := EnvOk.out E0 hd hv E' q2
          exact h x F' H' s' e1 (e2 v x r)
    | err e ρ =>
      rw [q] at h
      dsimp only at h
      cases q2 : outsAt mask ρ with
      | none => rw [q2] at h; exact h.elim
      | some outs =>
        rw [q2] at h
        dsimp only at h
        intro σ' F' H' c x s' E' r
        obtain ⟨e1, e2, e3⟩ := EnvOk.out E0 hd hv E' q2
        exact h F' H' c x s' e1 r
    | bad => rw [q] at h; exact h.elim
/-- a promise by a plainer function -/
theorem sp_imp {mask : List Bool} {F F' : Fn} (h : ∀ ds, ds.length = mask.length → F' ds = .bad ∨ F ds = F' ds) : ∀ (vs : List V) (H : Hp) (Q : VK) (E : XK), spOf K mg mask F' vs H Q E → spOf K mg mask F vs H Q E := by
  rintro vs H Q E ⟨pa, Fz, G, ds, E0, hv, hd, q⟩
  refine ⟨pa, Fz, G, ds, E0, hv, hd, ?_⟩
  rcases h ds hd with z | z
  · rw [z] at q; exact q.elim
  · rw [z]; exact q
theorem fn_bad {f : Addr} {fd : FuncData} {ps : List Str} {mask : List Bool} (hm : mask.length = ps.length) : FnOk P w K mg base (L2.CX P w) k f fd ps (spOf K mg mask fun _ => .bad) :=
  ⟨len_sp hm, fun _ _ _ _ _ _ _ _ _ _ _ _ _ h => by
    obtain ⟨_, _, _, _, _, _, _, z⟩ := h
    exact z.elim⟩
/-- a function under its name, its promise -/
def FnFact (P : Program) (w : World) (K : PySem.W.Frag) (mg : Str → Option Value) (base : Heap) (k : Nat) (x : Str) (mask : List Bool) (F : Fn) : Prop :=
  ∃ (f : Addr) (fd : FuncData) (ps : List Str), mg x = some (.ref f) ∧ f = gaK K x ∧ PySem.W.keepIn K (.ref f) = true ∧ Binds K fd ps [] ∧ ps.length = mask.length ∧ FnOk P w K mg base (L2.CX P w) k f fd ps (spOf K mg mask F)
theorem FnFact.mono {j : Nat} {x : Str} {mask : List Bool} {F : Fn} (h : FnFact P w K mg base j x mask F) (le : j ≤ k) : FnFact P w K mg base k x mask F := by
  obtain ⟨f, fd, ps, h1, h0, h2, h3, h4, h5⟩ := h
  exact ⟨f, fd, ps, h1, h0, h2, h3, h4, h5.mono le⟩
theorem FnFact.imp {x : Str} {mask : List Bool} {F F' : Fn} (h : FnFact P w K mg base k x mask F) (i : ∀ ds, ds.length = mask.length → F' ds = .bad ∨ F ds = F' ds) : FnFact P w K mg base k x mask F' := by
  obtain ⟨f, fd, ps, h1, h0, h2, h3, h4, h5⟩ := h
  exact ⟨f, fd, ps, h1, h0, h2, h3, h4, h5.imp (sp_imp i)⟩
inductive FnFacts (P : Program) (w : World) (K : PySem.W.Frag) (mg : Str → Option Value) (base : Heap) (k : Nat) : List (Str × List Bool) → List Fn → Prop
  | nil : FnFacts P w K mg base k [] []
  | cons {x : Str} {mask : List Bool} {F : Fn} {l : List (Str × List Bool)} {fs : List Fn} : FnFact P w K mg base k x mask F → FnFacts P w K mg base k l fs → FnFacts P w K mg base k ((x, mask) :: l) (F :: fs)
theorem FnFacts.mono {j : Nat} {l : List (Str × List Bool)} {fs : List Fn} (h : FnFacts P w K mg base j l fs) (le : j ≤ k) : FnFacts P w K mg base k l fs := by
  induction h with
  | nil => exact .nil
  | cons a _ ih => exact .cons (a.mono le) ih
def ConFact (K : PySem.W.Frag) (mg : Str → Option Value) (x : Str) (d : D) : Prop := ∃ u v, mg x = some u ∧ RelV v u ∧ ∀ F, Rp K F v d
inductive ConFacts (K : PySem.W.Frag) (mg : Str → Option Value) : List Str → List D → Prop
  | nil : ConFacts K mg [] []
  | cons {x : Str} {d : D} {l : List Str} {ds : List D} : ConFact K mg x d → ConFacts K mg l ds → ConFacts K mg (x :: l) (d :: ds)
def mkG (fs : List Fn) (cs : List D) : Gm := ⟨fun j => fs.getD j fun _ => .bad, fun j => cs.getD j .non⟩
theorem FnFacts.at_ {l : List (Str × List Bool)} {fs : List Fn} (h : FnFacts P w K mg base k l fs) : ∀ {j : Nat} {x : Str} {mask : List Bool}, l[j]? = some (x, mask) → FnFact P w K mg base k x mask (fs.getD j fun _ => .bad) := by
  induction h with
  | nil => intro j x mask e; simp at e
  | cons a _ ih =>
    intro j x mask e
    cases j with
    | zero => simp at e; obtain ⟨rfl, rfl⟩ := e; exact a
    | succ j => exact ih (by simpa using e)
theorem ConFacts.at_ {l : List Str} {ds : List D} (h : ConFacts K mg l ds) : ∀ {j : Nat} {x : Str}, l[j]? = some x → ConFact K mg x (ds.getD j .non) := by
  induction h with
  | nil => intro j x e; simp at e
  | cons a _ ih =>
    intro j x e
    cases j with
    | zero => simp at e; subst e; exact a
    | succ j => exact ih (by simpa using e)
theorem good_of {fns : List (Str × List Bool)} {fs : List Fn} {cons : List Str} {cs : List D} {blt : List Str} (h1 : FnFacts P w K mg base k fns fs) (h2 : ConFacts K mg cons cs) (h3 : ∀ x ∈ blt, mg x = none) {exc known : List Str} (h4 : ∀ x ∈ exc, ExcF K mg x) (h5 : ∀ x ∈ known, ∀ y ∈ known, ExmF K mg x y) : Good P w K mg base k ⟨fns, cons, blt, exc, known⟩ (mkG fs cs) where
  fns := fun j x mask e => h1.at_ e
  cons := fun j x e => h2.at_ e
  blt := h3
  exc := h4
  exm := h5
/-- a def, by name -/
structure DefF (K : PySem.W.Frag) (mg : Str → Option Value) (x : Str) (params : Arguments) (body : List Stmt) (scope : Scope) (ps : List Str) : Prop where
  ex : ∃ (f : Addr) (fd : FuncData), FunD K x x params body scope [] [] f fd ∧ mg x = some (.ref f) ∧ f = gaK K x ∧ Binds K fd ps []
theorem DefF.ok {x : Str} {params : Arguments} {body : List Stmt} {scope : Scope} {ps : List Str} (D : DefF K mg x params body scope ps) {N : List Str} (sc : FnScope N ps scope) {mask : List Bool} (hm : mask.length = ps.length) (G : Good P w K mg base k T Γ) (hk : 1 ≤ k)
    {ss : List S} (hc : chkSs ⟨N, T, scope, none⟩ ss body = true) : FnFact P w K mg base (k + 1) x mask (semD mask N.length (evSs Γ ss)) := by
  obtain ⟨f, fd, F, m, g, b⟩ := D.ex
  exact ⟨f, fd, ps, m, g, F.kp, b, hm.symm, def_ok F sc hm G hk hc⟩
/-- what a def that calls itself does, so many calls deep -/
def recF (mask : List Bool) (n : Nat) (Γ : Fn → Gm) (ss : List S) : Nat → Fn
  | 0 => fun _ => .bad
  | d + 1 => semD mask n (evSs (Γ (recF mask n Γ ss d)) ss)
/-- its own promise stands first in the table -/
theorem DefF.recur {x : Str} {params : Arguments} {body : List Stmt} {scope : Scope} {ps : List Str} (D : DefF K mg x params body scope ps) {N : List Str} (sc : FnScope N ps scope) {mask : List Bool} (hm : mask.length = ps.length) {fns : List (Str × List Bool)} {fs : List Fn} {cons : List Str} {cs : List PL.D} {blt : List Str}
    (h1 : FnFacts P w K mg base k fns fs) (h2 : ConFacts K mg cons cs) (h3 : ∀ x ∈ blt, mg x = none) {exc known : List Str} (h4 : ∀ x ∈ exc, ExcF K mg x) (h5 : ∀ x ∈ known, ∀ y ∈ known, ExmF K mg x y) (hk : 1 ≤ k) {ss : List S} (hc : chkSs ⟨N, ⟨(x, mask) :: fns, cons, blt, exc, known⟩, scope, none⟩ ss body = true) :
    ∀ d : Nat, FnFact P w K mg base (k + d) x mask (recF mask N.length (fun F => mkG (F :: fs) cs) ss d)
  | 0 => by
    obtain ⟨f, fd, F, m, g, b⟩ := D.ex
    exact ⟨f, fd, ps, m, g, F.kp, b, hm.symm, fn_bad hm⟩
  | d + 1 => D.ok sc hm (good_of (.cons (DefF.recur D sc hm h1 h2 h3 h4 h5 hk hc d) (h1.mono (Nat.le_add_right k d))) h2 h3 h4 h5) (Nat.le_trans hk (Nat.le_add_right k d)) hc
end
end PL
/-! PLHead: from the top's facts to the promises, from the law's promise to the law. -/
namespace PL
open PySem L2 PySem.Spec PyProof.Rows
/-- a global tuple of texts -/
def tupB (K : PySem.W.Frag) (x : Str) (ss : List Str) : Bool := match PySem.W.nsIn K mainGlobals x with
  | some (some (.ref a)) => (match K.lookup a with
    | some ⟨c, _, .seq its _, _⟩ => decide (c = .type "tuple") && decide (its.size ≤ 100) && He.relAll (ss.map V.str) its.toList
    | _ => false)
  | _ => false
section
variable {P : Program} {w : World} {K : PySem.W.Frag} {mg : Str → Option Value} {base h : Heap}
theorem rps_strsD {K : PySem.W.Frag} {F : Hp} : ∀ ss : List Str, Rps K F (ss.map V.str) (ss.map D.str)
  | [] => .nil
  | s :: ss => .cons (.str s) (rps_strsD ss)
theorem con_strs {x : Str} {ss : List Str} (X : K.In h) (G : h.Ns mainGlobals mg) (c : tupB K x ss = true) : ConFact K mg x (.tup (ss.map D.str)) := by
  unfold tupB at c
  split at c
  · rename_i a e
    split at c
    · rename_i cl dc its n sl lk
      simp only [Bool.and_eq_true, decide_eq_true_eq] at c
      obtain ⟨⟨h1, h2⟩, h3⟩ := c
      refine ⟨.ref a, .ref a, PySem.W.mg_of X G e, rfl, fun F => .tup (.inr ⟨_, its, n, lk, h1, rfl, by rw [sizeLine_eq]; omega, He.relAll_ok h3⟩) (rps_strsD ss)⟩
    · cases c
  · cases c
theorem con_int {x : Str} {i : Int} (X : K.In h) (G : h.Ns mainGlobals mg) (c : (He.Fa.int x i).ok K = true) : ConFact K mg x (.int i) := by
  obtain ⟨t, e⟩ := He.int_ok X G c
  exact ⟨_, .int i, e, ⟨t, rfl⟩, fun F => .int i⟩
theorem def_of {x : Str} {params : Arguments} {body : List Stmt} {scope : Scope} {ps : List Str} {fd : FuncData} (X : K.In h) (G : h.Ns mainGlobals mg) (c : (He.Fa.glo x).ok K = true) (F : FunD K x x params body scope [] [] (He.ga K x) fd)
    (b : ∀ (kV doc pm : Value) (an : Option Addr) (cdv ct : Value) (us : List Value), us.length = ps.length → bindArgs (PySem.W.fnOf x x params body scope .none kV doc pm an cdv ct) ⟨us, []⟩ = pure (ps.zip us)) : DefF K mg x params body scope ps :=
  ⟨He.ga K x, fd, F, He.glo_ok X G c, rfl, F.bindsN b⟩
/-- a class of errors, two told apart -/
def excB (K : PySem.W.Frag) (x : Str) : Bool := decide (PySem.W.nsIn K mainGlobals x = some (some (.ref (gaK K x)))) && (PySem.W.excIn K (gaK K x) veL "ValueError.__new__" && (PySem.W.keepIn K (.ref (gaK K x)) && (decide (PySem.W.subIn K (.ref (gaK K x)) (.type "BaseException") = some true) && decide (PySem.W.typeIn K (.ref (gaK K x)) = some (.type "type")))))
def kmB (K : PySem.W.Frag) (l : List Str) : Bool := l.all fun x => decide (PySem.W.nsIn K mainGlobals x = some (some (.ref (gaK K x)))) && l.all fun y => decide (PySem.W.exmOne K (.ref (gaK K x)) (.ref (gaK K y)) = some (decide (x = y)))
theorem exc_of {x : Str} (X : K.In h) (G : h.Ns mainGlobals mg) (c : excB K x = true) : ExcF K mg x := by
  unfold excB at c
  simp only [Bool.and_eq_true, decide_eq_true_eq] at c
  obtain ⟨c1, c2, c3, c4, c5⟩ := c
  exact ⟨_, PySem.W.mg_of X G c1, c2, c3, c4, c5⟩
theorem km_of {l : List Str} (X : K.In h) (G : h.Ns mainGlobals mg) (c : kmB K l = true) : ∀ x ∈ l, ∀ y ∈ l, ExmF K mg x y := by
  intro x hx y hy
  unfold kmB at c
  have h1 := List.all_eq_true.mp c x hx
  have h2 := List.all_eq_true.mp c y hy
  rw [Bool.and_eq_true, decide_eq_true_eq] at h1 h2
  exact ⟨_, _, PySem.W.mg_of X G h1.1, PySem.W.mg_of X G h2.1, of_decide_eq_true (List.all_eq_true.mp h1.2 y hy)⟩
theorem con_fn {x : Str} (m : mg x = some (.ref (He.ga K x))) : ConFact K mg x (.fn x) := ⟨_, .ref (gaK K x), m, rfl, fun F => .fn x⟩
/-! ### the law -/
/-- the law's def answers true at every script -/
def LawOk (n : Nat) (F : Fn) : Prop := ∀ ns : List Int, ns.length ≤ n → ∃ outs, F [.ro (ns.map D.int)] = .ok (sh (.bl true)) outs
theorem rps_ints {K : PySem.W.Frag} {F : Hp} : ∀ ns : List Int, Rps K F (ns.map V.int) (ns.map D.int)
  | [] => .nil
  | s :: ss => .cons (.int s) (rps_ints ss)
theorem sp_law {n : Nat} {F : Fn} (h : LawOk n F) (H : Hp) (a : Addr) (ns : List Int) (hl : ns.length ≤ n) (hS : SqL K H a (ns.map V.int)) : spOf K mg [false] F [.ref a] H (fun v _ => v = .bl true) fun _ _ _ => False := by
  obtain ⟨outs, e⟩ := h ns hl
  refine ⟨fun _ => none, H, fun _ => none, [.ro (ns.map D.int)], ⟨Same.refl H, fun b u q => (by cases q), fun _ _ _ => rfl, rfl, fun i d q => ?_, fun i g d q ng => ?_, fun i d q => ?_, fun i j g g' d d' b ne q ng q' ng' => ?_⟩, rfl, rfl, ?_⟩
  · match i, q with
    | 0, q =>
      cases q
      exact ⟨.ref a, rfl, .ro hS (rps_ints ns)⟩
    | i + 1, q => simp [init] at q
  · match i, q with
    | 0, q => cases q; exact absurd rfl ng
    | i + 1, q => simp [init] at q
  · match i, q with
    | 0, q => cases q
    | i + 1, q => simp [init] at q
  · match i, q with
    | 0, q => cases q; exact absurd rfl ng
    | i + 1, q => simp [init] at q
  · rw [e]
    intro x F' H' s E r
    have r' : Rp K F' x (.bl true) := r
    cases r'
    rfl
/-- from the law's promise to the row's walk -/
theorem walk_pl {l : PySem.W.OpenLaw} {n k : Nat} {q : Program} {loose : List Str} {XP : (Str → Option Value) → Heap → Prop} {YP : World → Heap → Prop} {d : DefRec} {x : Str} {F : Fn}
    (most : l.most = some n) (le : n ≤ sizeLine) (nodef : d.params.defaults = []) (room : Room k callerA) (law : LawOk n F)
    (got : ∀ (w : World) (mg : Str → Option Value) (fa : Addr) (h : Heap), YP w h → h.Ns mainGlobals mg → mg d.name = some (.ref fa) →
      ∃ (K : PySem.W.Frag) (fd : FuncData), K.In h ∧ (∀ (s : Shared) (u : Value), BindsTo s fd ⟨[u], []⟩ [(x, u)]) ∧ ∀ base : Heap, FnOk l.prog w K mg base (L2.CX l.prog w) k fa fd [x] (spOf K mg [false] F)) :
    PySem.W.WalkO q loose XP YP l.row.toRowW d [] (fun f vs => PySem.call f vs) := by
  refine Att.attach_call most nodef fun w sA sB mg mb fa o pm cd doc a vs ns G Y ho hd hcd hmg hobj hi hl hg => ?_
  obtain ⟨K, fd, inK, bd, ok⟩ := got w mg fa _ Y G.T.g hmg
  refine law_call inK G.T.g G.T.b G.T.builtins G.T.nolimit hg hobj hi (Nat.le_trans hl le) room (fun base _ _ => ok base) bd (fun H _ hS => sp_law law H a ns hl hS) fun H e s' hc => ?_
  obtain ⟨_, _, _, _, _, _, _, _, _, _, _, _, z⟩ := hc
  exact z
end
end PL
/-! terms and checks, printed by gen_law.py -/
namespace KT
open PySem L2 PySem.Spec PyProof.Rows PL
def top (i : Nat) : Stmt := PySem.Challenge.pw_anynesting_k02_whole_walks_through_nesti.main.body.getD i (.Pass ⟨0, 0, 0, 0⟩)
def N_is_from : List Str := ["value", "low", "high"]
def P_is_from : List Str := ["value", "low", "high"]
def fns_is_from : List (Str × List Bool) := []
def T_is_from : Tab := ⟨fns_is_from, [], ["isinstance", "int", "bool"], [], []⟩
def s_is_from : List S := [.ret (.and (.isi .int (.var 0)) (.and (.not (.isi .bool (.var 0))) (.chain .le .le (.var 1) (.var 0) (.var 2))))]
abbrev b_is_from : Stmt := top 11
theorem c_is_from : chkSs ⟨N_is_from, T_is_from, defScope b_is_from, none⟩ s_is_from (defBody b_is_from) = true := by decide +kernel
theorem f_is_from : FnScope N_is_from P_is_from (defScope b_is_from) := C8.fnScope_by (by decide +kernel)
def N_is_tuple : List Str := ["value", "low", "high"]
def P_is_tuple : List Str := ["value", "low", "high"]
def fns_is_tuple : List (Str × List Bool) := []
def T_is_tuple : Tab := ⟨fns_is_tuple, [], ["isinstance", "tuple", "len"], [], []⟩
def s_is_tuple : List S := [.ret (.and (.isi .tuple (.var 0)) (.chain .le .le (.var 1) (.b1 .len (.var 0)) (.var 2)))]
abbrev b_is_tuple : Stmt := top 12
theorem c_is_tuple : chkSs ⟨N_is_tuple, T_is_tuple, defScope b_is_tuple, none⟩ s_is_tuple (defBody b_is_tuple) = true := by decide +kernel
theorem f_is_tuple : FnScope N_is_tuple P_is_tuple (defScope b_is_tuple) := C8.fnScope_by (by decide +kernel)
def N_is_side : List Str := ["value"]
def P_is_side : List Str := ["value"]
def fns_is_side : List (Str × List Bool) := []
def T_is_side : Tab := ⟨fns_is_side, ["SIDES"], ["isinstance", "str"], [], []⟩
def s_is_side : List S := [.ret (.and (.isi .str (.var 0)) (.mem false (.var 0) (.con 0)))]
abbrev b_is_side : Stmt := top 13
theorem c_is_side : chkSs ⟨N_is_side, T_is_side, defScope b_is_side, none⟩ s_is_side (defBody b_is_side) = true := by decide +kernel
theorem f_is_side : FnScope N_is_side P_is_side (defScope b_is_side) := C8.fnScope_by (by decide +kernel)
def N_is_line : List Str := ["many", "notes", "value", "pair", "stand", "note"]
def P_is_line : List Str := ["many", "notes", "value"]
def fns_is_line : List (Str × List Bool) := [("is_tuple", [false, false, false]), ("is_from", [false, false, false])]
def T_is_line : Tab := ⟨fns_is_line, [], ["all"], [], []⟩
def s_is_line : List S := [.ife (.or (.not (.call 0 [.var 2, .var 0, .var 0])) (.not (.b1 .all (.comp [3] (.nm 3) 0 (.var 2) none none (.call 0 [.var 3, .int 2, .int 2]))))) [.ret (.bl false)] [],
  .ret (.b1 .all (.comp [4, 5] (.tup [.nm 4, .nm 5]) 0 (.var 2) none none (.and (.call 1 [.var 4, .int 0, .bin .sub (.var 0) (.int 1)]) (.call 1 [.var 5, .int 0, .bin .sub (.var 1) (.int 1)]))))]
abbrev b_is_line : Stmt := top 14
theorem c_is_line : chkSs ⟨N_is_line, T_is_line, defScope b_is_line, none⟩ s_is_line (defBody b_is_line) = true := by decide +kernel
theorem f_is_line : FnScope N_is_line P_is_line (defScope b_is_line) := C8.fnScope_by (by decide +kernel)
def N_is_flat : List Str := ["many", "value", "line"]
def P_is_flat : List Str := ["many", "value"]
def fns_is_flat : List (Str × List Bool) := [("is_tuple", [false, false, false]), ("is_line", [false, false, false])]
def T_is_flat : Tab := ⟨fns_is_flat, [], ["all", "len"], [], []⟩
def s_is_flat : List S := [.ret (.and (.call 0 [.var 1, .int 1, .int 3]) (.b1 .all (.comp [2] (.nm 2) 0 (.var 1) none none (.call 1 [.var 0, .b1 .len (.var 1), .var 2]))))]
abbrev b_is_flat : Stmt := top 15
theorem c_is_flat : chkSs ⟨N_is_flat, T_is_flat, defScope b_is_flat, none⟩ s_is_flat (defBody b_is_flat) = true := by decide +kernel
theorem f_is_flat : FnScope N_is_flat P_is_flat (defScope b_is_flat) := C8.fnScope_by (by decide +kernel)
def N_is_deep : List Str := ["many", "value", "part", "line"]
def P_is_deep : List Str := ["many", "value"]
def fns_is_deep : List (Str × List Bool) := [("is_tuple", [false, false, false]), ("is_line", [false, false, false])]
def T_is_deep : Tab := ⟨fns_is_deep, [], ["len", "all"], [], []⟩
def s_is_deep : List S := [.ife (.not (.call 0 [.var 1, .int 1, .int 2])) [.ret (.bl false)] [],
  .forIn (.nm 2) 0 (.var 1) none [.ife (.or (.not (.call 0 [.var 2, .b1 .len (.var 1), .b1 .len (.var 1)])) (.not (.b1 .all (.comp [3] (.nm 3) 0 (.var 2) none none (.call 1 [.var 0, .b1 .len (.var 1), .var 3]))))) [.ret (.bl false)] []],
  .ret (.bl true)]
abbrev b_is_deep : Stmt := top 16
theorem c_is_deep : chkSs ⟨N_is_deep, T_is_deep, defScope b_is_deep, none⟩ s_is_deep (defBody b_is_deep) = true := by decide +kernel
theorem f_is_deep : FnScope N_is_deep P_is_deep (defScope b_is_deep) := C8.fnScope_by (by decide +kernel)
def N_are_stands : List Str := ["many", "some", "stand"]
def P_are_stands : List Str := ["many", "some"]
def fns_are_stands : List (Str × List Bool) := [("is_from", [false, false, false])]
def T_are_stands : Tab := ⟨fns_are_stands, [], ["all"], [], []⟩
def s_are_stands : List S := [.ret (.b1 .all (.comp [2] (.nm 2) 0 (.var 1) none none (.call 0 [.var 2, .int 0, .bin .sub (.var 0) (.int 1)])))]
abbrev b_are_stands : Stmt := top 17
theorem c_are_stands : chkSs ⟨N_are_stands, T_are_stands, defScope b_are_stands, none⟩ s_are_stands (defBody b_are_stands) = true := by decide +kernel
theorem f_are_stands : FnScope N_are_stands P_are_stands (defScope b_are_stands) := C8.fnScope_by (by decide +kernel)
def N_is_plain : List Str := ["many", "value", "word", "rest"]
def P_is_plain : List Str := ["many", "value"]
def fns_is_plain : List (Str × List Bool) := [("is_tuple", [false, false, false]), ("is_flat", [false, false]), ("is_side", [false]), ("is_deep", [false, false]), ("are_stands", [false, false])]
def T_is_plain : Tab := ⟨fns_is_plain, [], ["isinstance", "str", "len"], [], []⟩
def s_is_plain : List S := [.ife (.or (.not (.call 0 [.var 1, .int 2, .int 5])) (.not (.isi .str (.ix (.var 1) (.int 0))))) [.ret (.bl false)] [],
  .par [2, 3] [.ix (.var 1) (.int 0), .cut (.var 1) (some (.int 1)) none],
  .ife (.cmp .eq (.var 2) (.str "in")) [.ret (.and (.cmp .eq (.b1 .len (.var 3)) (.int 1)) (.call 1 [.var 0, .ix (.var 3) (.int 0)]))] [],
  .ife (.cmp .eq (.var 2) (.str "out")) [.ret (.and (.cmp .eq (.b1 .len (.var 3)) (.int 2)) (.and (.call 2 [.ix (.var 3) (.int 0)]) (.call 3 [.var 0, .ix (.var 3) (.int 1)])))] [],
  .ife (.mem false (.var 2) (.tup [.str "first", .str "next"])) [.ret (.and (.cmp .eq (.b1 .len (.var 3)) (.ite (.cmp .eq (.var 2) (.str "first")) (.int 3) (.int 4))) (.and (.call 2 [.ix (.var 3) (.int 0)]) (.call 4 [.var 0, .cut (.var 3) (some (.int 1)) none])))] [],
  .ret (.and (.cmp .eq (.b1 .len (.var 3)) (.strGet [("each", 2), ("within", 3), ("holding", 3)] (.var 2) 9)) (.call 4 [.var 0, .var 3]))]
abbrev b_is_plain : Stmt := top 18
theorem c_is_plain : chkSs ⟨N_is_plain, T_is_plain, defScope b_is_plain, none⟩ s_is_plain (defBody b_is_plain) = true := by decide +kernel
theorem f_is_plain : FnScope N_is_plain P_is_plain (defScope b_is_plain) := C8.fnScope_by (by decide +kernel)
def N_has_step : List Str := ["many", "value", "part"]
def P_has_step : List Str := ["many", "value"]
def fns_has_step : List (Str × List Bool) := [("is_tuple", [false, false, false]), ("is_from", [false, false, false]), ("is_plain", [false, false])]
def T_has_step : Tab := ⟨fns_has_step, [], ["isinstance", "str", "all"], [], []⟩
def s_has_step : List S := [.ife (.and (.call 0 [.var 1, .int 3, .int 3]) (.and (.isi .str (.ix (.var 1) (.int 0))) (.cmp .eq (.ix (.var 1) (.int 0)) (.str "again")))) [.ret (.and (.call 1 [.ix (.var 1) (.int 1), .int 2, .int 4]) (.and (.call 0 [.ix (.var 1) (.int 2), .int 1, .int 3]) (.b1 .all (.comp [2] (.nm 2) 0 (.ix (.var 1) (.int 2)) none none (.call 2 [.var 0, .var 2])))))] [],
  .ret (.call 2 [.var 0, .var 1])]
abbrev b_has_step : Stmt := top 19
theorem c_has_step : chkSs ⟨N_has_step, T_has_step, defScope b_has_step, none⟩ s_has_step (defBody b_has_step) = true := by decide +kernel
theorem f_has_step : FnScope N_has_step P_has_step (defScope b_has_step) := C8.fnScope_by (by decide +kernel)
def N_changed : List Str := ["stand", "old", "new"]
def P_changed : List Str := ["stand", "old", "new"]
def fns_changed : List (Str × List Bool) := []
def T_changed : Tab := ⟨fns_changed, [], [], [], []⟩
def s_changed : List S := [.ret (.ite (.cmp .eq (.var 0) (.var 1)) (.var 2) (.var 0))]
abbrev b_changed : Stmt := top 20
theorem c_changed : chkSs ⟨N_changed, T_changed, defScope b_changed, none⟩ s_changed (defBody b_changed) = true := by decide +kernel
theorem f_changed : FnScope N_changed P_changed (defScope b_changed) := C8.fnScope_by (by decide +kernel)
def N_row_table : List Str := ["many", "step", "word", "old", "new", "stands", "going", "stand", "seen", "first"]
def P_row_table : List Str := ["many", "step"]
def fns_row_table : List (Str × List Bool) := [("changed", [false, false, false])]
def T_row_table : Tab := ⟨fns_row_table, [], ["list", "range", "tuple", "int"], [], []⟩
def s_row_table : List S := [.asgT (.tup [.nm 2, .nm 3, .nm 4]) (.tup [.ix (.var 1) (.int 0), .ix (.var 1) (.neg (.int 2)), .ix (.var 1) (.neg (.int 1))]),
  .asg 5 (.rng (.var 0)),
  .ife (.cmp .eq (.var 2) (.str "first")) [.asg 6 (.b1 .tuple (.comp [7] (.nm 7) 0 (.var 5) none none (.tup [.call 0 [.var 7, .var 3, .var 4], .b1 .int (.cmp .eq (.var 7) (.var 3))]))), .ret (.tup [.var 6, .b1 .tuple (.comp [7] (.nm 7) 0 (.var 5) none none (.tup [.var 7, .int 1]))])] [],
  .asg 8 (.ix (.var 1) (.int 2)),
  .asg 9 (.b1 .tuple (.comp [7] (.nm 7) 0 (.var 5) none none (.tup [.var 7, .b1 .int (.cmp .eq (.var 7) (.var 8))]))),
  .ret (.tup [.var 9, .b1 .tuple (.comp [7] (.nm 7) 0 (.var 5) none none (.tup [.call 0 [.var 7, .var 3, .var 4], .b1 .int (.cmp .eq (.var 7) (.var 8))]))])]
abbrev b_row_table : Stmt := top 21
theorem c_row_table : chkSs ⟨N_row_table, T_row_table, defScope b_row_table, none⟩ s_row_table (defBody b_row_table) = true := by decide +kernel
theorem f_row_table : FnScope N_row_table P_row_table (defScope b_row_table) := C8.fnScope_by (by decide +kernel)
def N_holding_line : List Str := ["many", "step", "known", "word", "seen", "old", "new", "line", "stand", "there"]
def P_holding_line : List Str := ["many", "step", "known"]
def fns_holding_line : List (Str × List Bool) := [("changed", [false, false, false])]
def T_holding_line : Tab := ⟨fns_holding_line, [], ["range", "int", "tuple"], [], []⟩
def s_holding_line : List S := [.asgT (.tup [.nm 3, .nm 4, .nm 5, .nm 6]) (.var 1),
  .asg 7 (.lst []),
  .forIn (.nm 8) 1 (.var 0) none [.asg 9 (.ite (.cmp .eq (.ix (.var 2) (.int 1)) (.int 1)) (.call 0 [.var 8, .var 5, .var 6]) (.var 8)), .app 7 (.tup [.var 9, .b1 .int (.or (.cmp .eq (.ix (.var 2) (.int 0)) (.int 1)) (.or (.cmp .eq (.ix (.var 2) (.int 1)) (.int 1)) (.cmp .eq (.var 8) (.var 4))))])],
  .ret (.b1 .tuple (.pk 7))]
abbrev b_holding_line : Stmt := top 22
theorem c_holding_line : chkSs ⟨N_holding_line, T_holding_line, defScope b_holding_line, none⟩ s_holding_line (defBody b_holding_line) = true := by decide +kernel
theorem f_holding_line : FnScope N_holding_line P_holding_line (defScope b_holding_line) := C8.fnScope_by (by decide +kernel)
def N_walk_of : List Str := ["many", "step", "stands", "stand", "first", "lines", "row", "inner", "line"]
def P_walk_of : List Str := ["many", "step"]
def fns_walk_of : List (Str × List Bool) := [("changed", [false, false, false]), ("holding_line", [false, false, false]), ("row_table", [false, false])]
def T_walk_of : Tab := ⟨fns_walk_of, [], ["list", "range", "tuple", "int"], [], []⟩
def s_walk_of : List S := [.asg 2 (.rng (.var 0)),
  .ife (.cmp .eq (.ix (.var 1) (.int 0)) (.str "in")) [.ret (.tup [.str "in", .str "left", .ix (.var 1) (.int 1)])] [],
  .ife (.cmp .eq (.ix (.var 1) (.int 0)) (.str "out")) [.ret (.tup [.str "out", .ix (.var 1) (.int 1), .ix (.var 1) (.int 2)])] [],
  .ife (.cmp .eq (.ix (.var 1) (.int 0)) (.str "each")) [.ret (.tup [.str "in", .str "left", .tup [.b1 .tuple (.comp [3] (.nm 3) 0 (.var 2) none none (.tup [.call 0 [.var 3, .ix (.var 1) (.int 1), .ix (.var 1) (.int 2)], .int 0]))]])] [],
  .ife (.cmp .eq (.ix (.var 1) (.int 0)) (.str "within")) [.asg 4 (.b1 .tuple (.comp [3] (.nm 3) 0 (.var 2) none none (.tup [.var 3, .b1 .int (.cmp .eq (.var 3) (.ix (.var 1) (.int 1)))]))), .ret (.tup [.str "in", .str "left", .tup [.var 4, .b1 .tuple (.comp [3] (.nm 3) 0 (.var 2) none none (.tup [.call 0 [.var 3, .ix (.var 1) (.int 2), .ix (.var 1) (.int 3)], .int 1]))]])] [],
  .ife (.cmp .eq (.ix (.var 1) (.int 0)) (.str "holding")) [.asg 5 (.comp [6] (.nm 6) 0 (.tup [.int 0, .int 1]) none none (.b1 .tuple (.comp [7] (.nm 7) 0 (.tup [.int 0, .int 1]) none none (.call 1 [.var 0, .var 1, .tup [.var 6, .var 7]])))), .ret (.tup [.str "out", .str "left", .b1 .tuple (.var 5)])] [],
  .ret (.tup [.str "out", .ix (.var 1) (.int 1), .b1 .tuple (.comp [8] (.nm 8) 0 (.call 2 [.var 0, .var 1]) none none (.tup [.var 8, .var 8]))])]
abbrev b_walk_of : Stmt := top 23
theorem c_walk_of : chkSs ⟨N_walk_of, T_walk_of, defScope b_walk_of, none⟩ s_walk_of (defBody b_walk_of) = true := by decide +kernel
theorem f_walk_of : FnScope N_walk_of P_walk_of (defScope b_walk_of) := C8.fnScope_by (by decide +kernel)
def N_spread : List Str := ["many", "steps", "found", "step"]
def P_spread : List Str := ["many", "steps"]
def fns_spread : List (Str × List Bool) := [("spread", [false, false]), ("walk_of", [false, false])]
def T_spread : Tab := ⟨fns_spread, [], [], [], []⟩
def s_spread : List S := [.asg 2 (.lst []),
  .forIn (.nm 3) 0 (.var 1) none [.ife (.cmp .eq (.ix (.var 3) (.int 0)) (.str "again")) [.asg 2 (.bin .add (.var 2) (.bin .mul (.call 0 [.var 0, .ix (.var 3) (.int 2)]) (.ix (.var 3) (.int 1))))] [.asg 2 (.bin .add (.var 2) (.lst [.call 1 [.var 0, .var 3]]))]],
  .ret (.var 2)]
abbrev b_spread : Stmt := top 24
theorem c_spread : chkSs ⟨N_spread, T_spread, defScope b_spread, none⟩ s_spread (defBody b_spread) = true := by decide +kernel
theorem f_spread : FnScope N_spread P_spread (defScope b_spread) := C8.fnScope_by (by decide +kernel)
def N_notes_of : List Str := ["found", "product", "word", "side", "table"]
def P_notes_of : List Str := ["found"]
def fns_notes_of : List (Str × List Bool) := []
def T_notes_of : Tab := ⟨fns_notes_of, [], ["len"], [], []⟩
def s_notes_of : List S := [.asg 1 (.int 1),
  .forIn (.tup [.nm 2, .nm 3, .nm 4]) 0 (.var 0) none [.asg 1 (.bin .mul (.var 1) (.b1 .len (.var 4)))],
  .ret (.var 1)]
abbrev b_notes_of : Stmt := top 25
theorem c_notes_of : chkSs ⟨N_notes_of, T_notes_of, defScope b_notes_of, none⟩ s_notes_of (defBody b_notes_of) = true := by decide +kernel
theorem f_notes_of : FnScope N_notes_of P_notes_of (defScope b_notes_of) := C8.fnScope_by (by decide +kernel)
def N_has_script : List Str := ["value", "step", "found"]
def P_has_script : List Str := ["value"]
def fns_has_script : List (Str × List Bool) := [("is_tuple", [false, false, false]), ("is_from", [false, false, false]), ("has_step", [false, false]), ("spread", [false, false]), ("notes_of", [false])]
def T_has_script : Tab := ⟨fns_has_script, ["MOST_STEPS", "MOST_WALKS", "MOST_NOTES"], ["all", "len"], [], []⟩
def s_has_script : List S := [.ife (.or (.not (.call 0 [.var 0, .int 2, .int 2])) (.or (.not (.call 1 [.ix (.var 0) (.int 0), .int 2, .int 3])) (.not (.call 0 [.ix (.var 0) (.int 1), .int 0, .con 0])))) [.ret (.bl false)] [],
  .ife (.not (.b1 .all (.comp [1] (.nm 1) 0 (.ix (.var 0) (.int 1)) none none (.call 2 [.ix (.var 0) (.int 0), .var 1])))) [.ret (.bl false)] [],
  .asg 2 (.call 3 [.ix (.var 0) (.int 0), .ix (.var 0) (.int 1)]),
  .ret (.and (.cmp .le (.b1 .len (.var 2)) (.con 1)) (.cmp .le (.call 4 [.var 2]) (.con 2)))]
abbrev b_has_script : Stmt := top 26
theorem c_has_script : chkSs ⟨N_has_script, T_has_script, defScope b_has_script, none⟩ s_has_script (defBody b_has_script) = true := by decide +kernel
theorem f_has_script : FnScope N_has_script P_has_script (defScope b_has_script) := C8.fnScope_by (by decide +kernel)
def N_need_script : List Str := ["value"]
def P_need_script : List Str := ["value"]
def fns_need_script : List (Str × List Bool) := [("has_script", [false])]
def T_need_script : Tab := ⟨fns_need_script, [], [], ["InvalidScript"], []⟩
def s_need_script : List S := [.ife (.not (.call 0 [.var 0])) [.raise "InvalidScript" none] []]
abbrev b_need_script : Stmt := top 27
theorem c_need_script : chkSs ⟨N_need_script, T_need_script, defScope b_need_script, none⟩ s_need_script (defBody b_need_script) = true := by decide +kernel
theorem f_need_script : FnScope N_need_script P_need_script (defScope b_need_script) := C8.fnScope_by (by decide +kernel)
def N_is_kept : List Str := ["many", "value", "deep", "box"]
def P_is_kept : List Str := ["many", "value", "deep"]
def fns_is_kept : List (Str × List Bool) := [("is_kept", [false, false, false]), ("is_tuple", [false, false, false]), ("is_from", [false, false, false])]
def T_is_kept : Tab := ⟨fns_is_kept, ["MOST_BOXES"], ["isinstance", "tuple", "len"], [], []⟩
def s_is_kept : List S := [.ife (.or (.not (.isi .tuple (.var 1))) (.or (.cmp .gt (.b1 .len (.var 1)) (.con 0)) (.and (.cmp .ne (.var 1) (.tup [])) (.cmp .eq (.var 2) (.int 0))))) [.ret (.bl false)] [],
  .forIn (.nm 3) 0 (.var 1) none [.ife (.or (.not (.call 1 [.var 3, .int 2, .int 2])) (.or (.not (.call 2 [.ix (.var 3) (.int 0), .int 0, .bin .sub (.var 0) (.int 1)])) (.not (.call 0 [.var 0, .ix (.var 3) (.int 1), .bin .sub (.var 2) (.int 1)])))) [.ret (.bl false)] []],
  .ret (.bl true)]
abbrev b_is_kept : Stmt := top 28
theorem c_is_kept : chkSs ⟨N_is_kept, T_is_kept, defScope b_is_kept, none⟩ s_is_kept (defBody b_is_kept) = true := by decide +kernel
theorem f_is_kept : FnScope N_is_kept P_is_kept (defScope b_is_kept) := C8.fnScope_by (by decide +kernel)
def N_boxes_of : List Str := ["row", "stand", "inner"]
def P_boxes_of : List Str := ["row"]
def fns_boxes_of : List (Str × List Bool) := [("boxes_of", [false])]
def T_boxes_of : Tab := ⟨fns_boxes_of, [], ["sum"], [], []⟩
def s_boxes_of : List S := [.ret (.b1 .sum (.comp [1, 2] (.tup [.nm 1, .nm 2]) 0 (.var 0) none none (.bin .add (.int 1) (.call 0 [.var 2]))))]
abbrev b_boxes_of : Stmt := top 29
theorem c_boxes_of : chkSs ⟨N_boxes_of, T_boxes_of, defScope b_boxes_of, none⟩ s_boxes_of (defBody b_boxes_of) = true := by decide +kernel
theorem f_boxes_of : FnScope N_boxes_of P_boxes_of (defScope b_boxes_of) := C8.fnScope_by (by decide +kernel)
def N_has_nesting : List Str := ["many", "value"]
def P_has_nesting : List Str := ["many", "value"]
def fns_has_nesting : List (Str × List Bool) := [("is_kept", [false, false, false]), ("boxes_of", [false])]
def T_has_nesting : Tab := ⟨fns_has_nesting, ["MOST_DEEP", "MOST_BOXES"], [], [], []⟩
def s_has_nesting : List S := [.ret (.and (.call 0 [.var 0, .var 1, .con 0]) (.cmp .le (.call 1 [.var 1]) (.con 1)))]
abbrev b_has_nesting : Stmt := top 30
theorem c_has_nesting : chkSs ⟨N_has_nesting, T_has_nesting, defScope b_has_nesting, none⟩ s_has_nesting (defBody b_has_nesting) = true := by decide +kernel
theorem f_has_nesting : FnScope N_has_nesting P_has_nesting (defScope b_has_nesting) := C8.fnScope_by (by decide +kernel)
def N_need_nesting : List Str := ["many", "value"]
def P_need_nesting : List Str := ["many", "value"]
def fns_need_nesting : List (Str × List Bool) := [("has_nesting", [false, false])]
def T_need_nesting : Tab := ⟨fns_need_nesting, [], [], ["InvalidNesting"], []⟩
def s_need_nesting : List S := [.ife (.not (.call 0 [.var 0, .var 1])) [.raise "InvalidNesting" none] []]
abbrev b_need_nesting : Stmt := top 31
theorem c_need_nesting : chkSs ⟨N_need_nesting, T_need_nesting, defScope b_need_nesting, none⟩ s_need_nesting (defBody b_need_nesting) = true := by decide +kernel
theorem f_need_nesting : FnScope N_need_nesting P_need_nesting (defScope b_need_nesting) := C8.fnScope_by (by decide +kernel)
def N_inward : List Str := ["table", "row", "note", "found", "stand", "inner", "new", "later"]
def P_inward : List Str := ["table", "row", "note"]
def fns_inward : List (Str × List Bool) := [("inward", [false, false, false])]
def T_inward : Tab := ⟨fns_inward, [], [], [], []⟩
def s_inward : List S := [.asg 3 (.tup []),
  .forIn (.tup [.nm 4, .nm 5]) 0 (.var 1) none [.asgT (.tup [.nm 6, .nm 7]) (.ix (.ix (.var 0) (.var 2)) (.var 4)), .asg 3 (.bin .add (.var 3) (.tup [.tup [.var 6, .call 0 [.var 0, .var 5, .var 7]]]))],
  .ret (.var 3)]
abbrev b_inward : Stmt := top 33
theorem c_inward : chkSs ⟨N_inward, T_inward, defScope b_inward, none⟩ s_inward (defBody b_inward) = true := by decide +kernel
theorem f_inward : FnScope N_inward P_inward (defScope b_inward) := C8.fnScope_by (by decide +kernel)
def N_outward : List Str := ["side", "table", "row", "note", "found", "stand", "inner", "there", "brought", "new"]
def P_outward : List Str := ["side", "table", "row"]
def fns_outward : List (Str × List Bool) := [("outward", [false, false, false])]
def T_outward : Tab := ⟨fns_outward, [], [], [], []⟩
def s_outward : List S := [.asgT (.tup [.nm 3, .nm 4]) (.tup [.int 0, .tup []]),
  .forIn (.tup [.nm 5, .nm 6]) 0 (.ite (.cmp .eq (.var 0) (.str "left")) (.var 2) (.rev (.var 2))) none [.asgT (.tup [.nm 7, .nm 8]) (.call 0 [.var 0, .var 1, .var 6]), .asgT (.tup [.nm 9, .nm 3]) (.ix (.ix (.ix (.var 1) (.var 3)) (.var 8)) (.var 5)), .asg 4 (.bin .add (.var 4) (.tup [.tup [.var 9, .var 7]]))],
  .ret (.tup [.ite (.cmp .eq (.var 0) (.str "left")) (.var 4) (.rev (.var 4)), .var 3])]
abbrev b_outward : Stmt := top 34
theorem c_outward : chkSs ⟨N_outward, T_outward, defScope b_outward, none⟩ s_outward (defBody b_outward) = true := by decide +kernel
theorem f_outward : FnScope N_outward P_outward (defScope b_outward) := C8.fnScope_by (by decide +kernel)
def N_walked : List Str := ["walk", "row", "word", "side", "table"]
def P_walked : List Str := ["walk", "row"]
def fns_walked : List (Str × List Bool) := [("inward", [false, false, false]), ("outward", [false, false, false])]
def T_walked : Tab := ⟨fns_walked, [], [], [], []⟩
def s_walked : List S := [.asgT (.tup [.nm 2, .nm 3, .nm 4]) (.var 0),
  .ife (.cmp .eq (.var 2) (.str "in")) [.ret (.call 0 [.var 4, .var 1, .int 0])] [],
  .ret (.ix (.call 1 [.var 3, .var 4, .var 1]) (.int 0))]
abbrev b_walked : Stmt := top 35
theorem c_walked : chkSs ⟨N_walked, T_walked, defScope b_walked, none⟩ s_walked (defBody b_walked) = true := by decide +kernel
theorem f_walked : FnScope N_walked P_walked (defScope b_walked) := C8.fnScope_by (by decide +kernel)
def N_need_both : List Str := ["script", "nesting"]
def P_need_both : List Str := ["script", "nesting"]
def fns_need_both : List (Str × List Bool) := [("need_script", [false]), ("need_nesting", [false, false])]
def T_need_both : Tab := ⟨fns_need_both, [], [], [], []⟩
def s_need_both : List S := [.ex (.call 0 [.var 0]),
  .ex (.call 1 [.ix (.var 0) (.int 0), .var 1])]
abbrev b_need_both : Stmt := top 36
theorem c_need_both : chkSs ⟨N_need_both, T_need_both, defScope b_need_both, none⟩ s_need_both (defBody b_need_both) = true := by decide +kernel
theorem f_need_both : FnScope N_need_both P_need_both (defScope b_need_both) := C8.fnScope_by (by decide +kernel)
def N_led : List Str := ["script", "nesting", "found", "walk"]
def P_led : List Str := ["script", "nesting"]
def fns_led : List (Str × List Bool) := [("spread", [false, false]), ("walked", [false, false])]
def T_led : Tab := ⟨fns_led, [], [], [], []⟩
def s_led : List S := [.asg 2 (.lst []),
  .forIn (.nm 3) 0 (.call 0 [.ix (.var 0) (.int 0), .ix (.var 0) (.int 1)]) none [.asg 1 (.call 1 [.var 3, .var 1]), .app 2 (.var 1)],
  .ret (.mov 2)]
abbrev b_led : Stmt := top 37
theorem c_led : chkSs ⟨N_led, T_led, defScope b_led, none⟩ s_led (defBody b_led) = true := by decide +kernel
theorem f_led : FnScope N_led P_led (defScope b_led) := C8.fnScope_by (by decide +kernel)
def N_ran : List Str := ["script", "nesting", "found"]
def P_ran : List Str := ["script", "nesting"]
def fns_ran : List (Str × List Bool) := [("led", [false, false])]
def T_ran : Tab := ⟨fns_ran, [], [], [], []⟩
def s_ran : List S := [.asg 2 (.call 0 [.var 0, .var 1]),
  .ret (.ite (.cmp .ne (.var 2) (.lst [])) (.ix (.var 2) (.neg (.int 1))) (.var 1))]
abbrev b_ran : Stmt := top 38
theorem c_ran : chkSs ⟨N_ran, T_ran, defScope b_ran, none⟩ s_ran (defBody b_ran) = true := by decide +kernel
theorem f_ran : FnScope N_ran P_ran (defScope b_ran) := C8.fnScope_by (by decide +kernel)
def N_run : List Str := ["script", "nesting"]
def P_run : List Str := ["script", "nesting"]
def fns_run : List (Str × List Bool) := [("need_both", [false, false]), ("ran", [false, false])]
def T_run : Tab := ⟨fns_run, [], [], [], []⟩
def s_run : List S := [.ex (.call 0 [.var 0, .var 1]),
  .ret (.call 1 [.var 0, .var 1])]
abbrev b_run : Stmt := top 39
theorem c_run : chkSs ⟨N_run, T_run, defScope b_run, none⟩ s_run (defBody b_run) = true := by decide +kernel
theorem f_run : FnScope N_run P_run (defScope b_run) := C8.fnScope_by (by decide +kernel)
def N_stages : List Str := ["script", "nesting"]
def P_stages : List Str := ["script", "nesting"]
def fns_stages : List (Str × List Bool) := [("need_both", [false, false]), ("led", [false, false])]
def T_stages : Tab := ⟨fns_stages, [], [], [], []⟩
def s_stages : List S := [.ex (.call 0 [.var 0, .var 1]),
  .ret (.call 1 [.var 0, .var 1])]
abbrev b_stages : Stmt := top 40
theorem c_stages : chkSs ⟨N_stages, T_stages, defScope b_stages, none⟩ s_stages (defBody b_stages) = true := by decide +kernel
theorem f_stages : FnScope N_stages P_stages (defScope b_stages) := C8.fnScope_by (by decide +kernel)
def N_brought : List Str := ["script", "nesting", "found", "walk", "there"]
def P_brought : List Str := ["script", "nesting"]
def fns_brought : List (Str × List Bool) := [("need_both", [false, false]), ("spread", [false, false]), ("led", [false, false]), ("outward", [false, false, false])]
def T_brought : Tab := ⟨fns_brought, [], ["zip"], [], []⟩
def s_brought : List S := [.ex (.call 0 [.var 0, .var 1]),
  .asg 2 (.lst []),
  .forIn (.tup [.nm 3, .nm 4]) 4 (.call 1 [.ix (.var 0) (.int 0), .ix (.var 0) (.int 1)]) (some (.bin .add (.lst [.var 1]) (.call 2 [.var 0, .var 1]))) [.app 2 (.ite (.cmp .eq (.ix (.var 3) (.int 0)) (.str "in")) (.non) (.ix (.call 3 [.ix (.var 3) (.int 1), .ix (.var 3) (.int 2), .var 4]) (.int 1)))],
  .ret (.mov 2)]
abbrev b_brought : Stmt := top 41
theorem c_brought : chkSs ⟨N_brought, T_brought, defScope b_brought, none⟩ s_brought (defBody b_brought) = true := by decide +kernel
theorem f_brought : FnScope N_brought P_brought (defScope b_brought) := C8.fnScope_by (by decide +kernel)
def N__law_source : List Str := ["script", "k", "cell"]
def P__law_source : List Str := ["script", "k"]
def fns__law_source : List (Str × List Bool) := []
def T__law_source : Tab := ⟨fns__law_source, [], ["len", "abs", "int"], [], []⟩
def s__law_source : List S := [.asg 2 (.ite (.cmp .lt (.var 1) (.b1 .len (.var 0))) (.b1 .abs (.b1 .int (.ix (.var 0) (.var 1)))) (.bin .add (.bin .mul (.int 73) (.var 1)) (.int 19))),
  .ret (.lst [.ite (.cmp .gt (.var 2) (.bin .pow (.int 10) (.int 17))) (.var 2) (.int 0), .bin .mod (.b1 .int (.bin .add (.bin .add (.bin .mul (.var 2) (.int 16807)) (.bin .mul (.int 6007) (.var 1))) (.int 41))) (.int 2147483237)])]
abbrev b__law_source : Stmt := top 43
theorem c__law_source : chkSs ⟨N__law_source, T__law_source, defScope b__law_source, none⟩ s__law_source (defBody b__law_source) = true := by decide +kernel
theorem f__law_source : FnScope N__law_source P__law_source (defScope b__law_source) := C8.fnScope_by (by decide +kernel)
def N__law_draw : List Str := ["source", "many", "rest", "wide"]
def P__law_draw : List Str := ["source", "many"]
def fns__law_draw : List (Str × List Bool) := []
def T__law_draw : Tab := ⟨fns__law_draw, [], ["int"], [], []⟩
def s__law_draw : List S := [.ife (.cmp .gt (.ix (.pk 0) (.int 0)) (.int 0)) [.asg 2 (.bin .mod (.b1 .int (.ix (.pk 0) (.int 0))) (.var 1)), .setix 0 (.int 0) (.bin .fdiv (.ix (.pk 0) (.int 0)) (.var 1)), .ret (.var 2)] [],
  .setix 0 (.int 1) (.bin .mod (.b1 .int (.bin .add (.bin .mul (.ix (.pk 0) (.int 1)) (.int 48271)) (.int 83))) (.int 2147483237)),
  .asg 3 (.bin .mod (.b1 .int (.bin .mul (.ix (.pk 0) (.int 1)) (.bin .add (.bin .fdiv (.ix (.pk 0) (.int 1)) (.int 23)) (.int 14)))) (.int 2147483179)),
  .ret (.bin .mod (.b1 .int (.bin .fdiv (.var 3) (.int 32))) (.var 1))]
abbrev b__law_draw : Stmt := top 44
theorem c__law_draw : chkSs ⟨N__law_draw, T__law_draw, defScope b__law_draw, none⟩ s__law_draw (defBody b__law_draw) = true := by decide +kernel
theorem f__law_draw : FnScope N__law_draw P__law_draw (defScope b__law_draw) := C8.fnScope_by (by decide +kernel)
def N__law_choice : List Str := ["source", "some"]
def P__law_choice : List Str := ["source", "some"]
def fns__law_choice : List (Str × List Bool) := [("_law_draw", [true, false])]
def T__law_choice : Tab := ⟨fns__law_choice, [], ["len"], [], []⟩
def s__law_choice : List S := [.ret (.ix (.var 1) (.call 0 [.io 0, .b1 .len (.var 1)]))]
abbrev b__law_choice : Stmt := top 45
theorem c__law_choice : chkSs ⟨N__law_choice, T__law_choice, defScope b__law_choice, none⟩ s__law_choice (defBody b__law_choice) = true := by decide +kernel
theorem f__law_choice : FnScope N__law_choice P__law_choice (defScope b__law_choice) := C8.fnScope_by (by decide +kernel)
def N__law_line : List Str := ["source", "many", "wide", "order", "line", "plain", "stand", "new", "one"]
def P__law_line : List Str := ["source", "many", "wide"]
def fns__law_line : List (Str × List Bool) := [("_law_draw", [true, false]), ("_law_choice", [true, false])]
def T__law_line : Tab := ⟨fns__law_line, [], ["list", "range"], [], []⟩
def s__law_line : List S := [.asgT (.tup [.nm 3, .nm 4, .nm 5]) (.tup [.rng (.var 1), .tup [], .cmp .eq (.call 0 [.io 0, .int 2]) (.int 0)]),
  .forIn (.nm 6) 1 (.var 1) none [.asg 7 (.call 1 [.io 0, .var 3]), .asg 3 (.comp [8] (.nm 8) 0 (.var 3) none (some (.or (.cmp .ne (.var 8) (.var 7)) (.not (.var 5)))) (.var 8)), .asg 4 (.bin .add (.var 4) (.tup [.tup [.var 7, .call 0 [.io 0, .var 2]]]))],
  .ret (.var 4)]
abbrev b__law_line : Stmt := top 46
theorem c__law_line : chkSs ⟨N__law_line, T__law_line, defScope b__law_line, none⟩ s__law_line (defBody b__law_line) = true := by decide +kernel
theorem f__law_line : FnScope N__law_line P__law_line (defScope b__law_line) := C8.fnScope_by (by decide +kernel)
def N__law_lot : List Str := ["source", "many", "wide", "times", "turn"]
def P__law_lot : List Str := ["source", "many", "wide", "times"]
def fns__law_lot : List (Str × List Bool) := [("_law_line", [true, false, false])]
def T__law_lot : Tab := ⟨fns__law_lot, [], ["tuple", "range"], [], []⟩
def s__law_lot : List S := [.ret (.b1 .tuple (.comp [4] (.nm 4) 1 (.var 3) none none (.call 0 [.io 0, .var 1, .var 2])))]
abbrev b__law_lot : Stmt := top 47
theorem c__law_lot : chkSs ⟨N__law_lot, T__law_lot, defScope b__law_lot, none⟩ s__law_lot (defBody b__law_lot) = true := by decide +kernel
theorem f__law_lot : FnScope N__law_lot P__law_lot (defScope b__law_lot) := C8.fnScope_by (by decide +kernel)
def N__law_plain : List Str := ["source", "many", "notes_so", "words", "word", "stands", "turn", "side", "wide", "part"]
def P__law_plain : List Str := ["source", "many", "notes_so"]
def fns__law_plain : List (Str × List Bool) := [("_law_choice", [true, false]), ("_law_draw", [true, false]), ("_law_lot", [true, false, false, false])]
def T__law_plain : Tab := ⟨fns__law_plain, [], ["int", "range", "min", "tuple"], [], []⟩
def s__law_plain : List S := [.asg 3 (.bin .add (.lst [.str "each", .str "in"]) (.bin .mul (.lst [.str "in", .str "out", .str "out", .str "within", .str "holding", .str "first", .str "next"]) (.b1 .int (.cmp .gt (.var 2) (.int 1))))),
  .par [4, 5] [.call 0 [.io 0, .var 3], .comp [6] (.nm 6) 1 (.int 3) none none (.call 1 [.io 0, .var 1])],
  .asg 7 (.call 0 [.io 0, .lst [.str "left", .str "right"]]),
  .ife (.cmp .eq (.var 4) (.str "in")) [.asg 8 (.bin .add (.int 1) (.call 1 [.io 0, .b2 .min (.int 3) (.var 2)])), .ret (.tup [.var 4, .call 2 [.io 0, .var 1, .var 8, .var 8]])] [],
  .ife (.cmp .eq (.var 4) (.str "out")) [.asg 8 (.bin .add (.int 1) (.b1 .int (.cmp .gt (.call 1 [.io 0, .int 4]) (.int 0)))), .ret (.tup [.var 4, .var 7, .b1 .tuple (.comp [9] (.nm 9) 1 (.var 8) none none (.call 2 [.io 0, .var 1, .var 8, .var 8]))])] [],
  .ife (.cmp .eq (.var 4) (.str "each")) [.ret (.tup [.var 4, .ix (.var 5) (.int 0), .ix (.var 5) (.int 1)])] [],
  .ife (.mem false (.var 4) (.lst [.str "within", .str "holding"])) [.ret (.tup [.var 4, .ix (.var 5) (.int 0), .ix (.var 5) (.int 1), .ix (.var 5) (.int 2)])] [],
  .ret (.bin .add (.tup [.var 4, .var 7]) (.b1 .tuple (.ite (.cmp .eq (.var 4) (.str "first")) (.cut (.var 5) none (some (.int 2))) (.var 5))))]
abbrev b__law_plain : Stmt := top 48
theorem c__law_plain : chkSs ⟨N__law_plain, T__law_plain, defScope b__law_plain, none⟩ s__law_plain (defBody b__law_plain) = true := by decide +kernel
theorem f__law_plain : FnScope N__law_plain P__law_plain (defScope b__law_plain) := C8.fnScope_by (by decide +kernel)
def N__law_width : List Str := ["step"]
def P__law_width : List Str := ["step"]
def fns__law_width : List (Str × List Bool) := []
def T__law_width : Tab := ⟨fns__law_width, [], ["len"], [], []⟩
def s__law_width : List S := [.ret (.ite (.mem false (.ix (.var 0) (.int 0)) (.lst [.str "in", .str "out"])) (.b1 .len (.ix (.var 0) (.neg (.int 1)))) (.ite (.cmp .eq (.ix (.var 0) (.int 0)) (.str "each")) (.int 1) (.int 2)))]
abbrev b__law_width : Stmt := top 49
theorem c__law_width : chkSs ⟨N__law_width, T__law_width, defScope b__law_width, none⟩ s__law_width (defBody b__law_width) = true := by decide +kernel
theorem f__law_width : FnScope N__law_width P__law_width (defScope b__law_width) := C8.fnScope_by (by decide +kernel)
def N__law_script : List Str := ["source", "most", "cap", "many", "steps", "product", "again_so", "turn", "step", "wide"]
def P__law_script : List Str := ["source", "most", "cap"]
def fns__law_script : List (Str × List Bool) := [("_law_choice", [true, false]), ("_law_draw", [true, false]), ("_law_plain", [true, false, false]), ("_law_width", [false])]
def T__law_script : Tab := ⟨fns__law_script, [], ["range"], [], []⟩
def s__law_script : List S := [.asgT (.tup [.nm 3, .nm 4, .nm 5, .nm 6]) (.tup [.call 0 [.io 0, .lst [.int 2, .int 2, .int 3]], .tup [], .int 1, .int 0]),
  .forIn (.nm 7) 1 (.call 1 [.io 0, .bin .add (.var 1) (.int 1)]) none [.asg 8 (.call 2 [.io 0, .var 3, .bin .fdiv (.var 2) (.var 5)]), .asg 9 (.call 3 [.var 8]), .ife (.and (.cmp .eq (.call 1 [.io 0, .int 6]) (.int 0)) (.and (.cmp .le (.bin .mul (.bin .mul (.var 5) (.var 9)) (.var 9)) (.var 2)) (.cmp .lt (.var 6) (.int 1)))) [.par [5, 6] [.bin .mul (.bin .mul (.var 5) (.var 9)) (.var 9), .bin .add (.var 6) (.int 1)], .asg 4 (.bin .add (.var 4) (.tup [.tup [.str "again", .int 2, .tup [.var 8]]]))] [.asg 5 (.bin .mul (.var 5) (.var 9)), .asg 4 (.bin .add (.var 4) (.tup [.var 8]))]],
  .ret (.tup [.var 3, .var 4])]
abbrev b__law_script : Stmt := top 50
theorem c__law_script : chkSs ⟨N__law_script, T__law_script, defScope b__law_script, none⟩ s__law_script (defBody b__law_script) = true := by decide +kernel
theorem f__law_script : FnScope N__law_script P__law_script (defScope b__law_script) := C8.fnScope_by (by decide +kernel)
def N__law_other : List Str := ["stand", "old", "new"]
def P__law_other : List Str := ["stand", "old", "new"]
def fns__law_other : List (Str × List Bool) := []
def T__law_other : Tab := ⟨fns__law_other, [], [], [], []⟩
def s__law_other : List S := [.ret (.ite (.cmp .eq (.var 0) (.var 1)) (.var 2) (.var 0))]
abbrev b__law_other : Stmt := top 51
theorem c__law_other : chkSs ⟨N__law_other, T__law_other, defScope b__law_other, none⟩ s__law_other (defBody b__law_other) = true := by decide +kernel
theorem f__law_other : FnScope N__law_other P__law_other (defScope b__law_other) := C8.fnScope_by (by decide +kernel)
def N__law_row_pair : List Str := ["step", "note", "stand", "old", "new"]
def P__law_row_pair : List Str := ["step", "note", "stand"]
def fns__law_row_pair : List (Str × List Bool) := [("_law_other", [false, false, false])]
def T__law_row_pair : Tab := ⟨fns__law_row_pair, [], ["int"], [], []⟩
def s__law_row_pair : List S := [.par [3, 4] [.ix (.var 0) (.neg (.int 2)), .ix (.var 0) (.neg (.int 1))],
  .ife (.cmp .eq (.ix (.var 0) (.int 0)) (.str "first")) [.ret (.ite (.cmp .eq (.var 1) (.int 1)) (.tup [.var 2, .int 1]) (.tup [.call 0 [.var 2, .var 3, .var 4], .b1 .int (.cmp .eq (.var 2) (.var 3))]))] [],
  .ret (.tup [.ite (.cmp .eq (.var 1) (.int 1)) (.call 0 [.var 2, .var 3, .var 4]) (.var 2), .b1 .int (.cmp .eq (.var 2) (.ix (.var 0) (.int 2)))])]
abbrev b__law_row_pair : Stmt := top 52
theorem c__law_row_pair : chkSs ⟨N__law_row_pair, T__law_row_pair, defScope b__law_row_pair, none⟩ s__law_row_pair (defBody b__law_row_pair) = true := by decide +kernel
theorem f__law_row_pair : FnScope N__law_row_pair P__law_row_pair (defScope b__law_row_pair) := C8.fnScope_by (by decide +kernel)
def N__law_lines : List Str := ["many", "step", "stand", "here", "found", "note", "part", "inner"]
def P__law_lines : List Str := ["many", "step"]
def fns__law_lines : List (Str × List Bool) := [("_law_other", [false, false, false]), ("_law_out_pair", [false, false, false, false])]
def T__law_lines : Tab := ⟨fns__law_lines, [], ["tuple", "range", "int"], [], []⟩
def s__law_lines : List S := [.ife (.mem false (.ix (.var 1) (.int 0)) (.lst [.str "in", .str "out"])) [.ret (.tup [.ix (.var 1) (.int 0), .ite (.cmp .eq (.ix (.var 1) (.int 0)) (.str "in")) (.str "left") (.ix (.var 1) (.int 1)), .ix (.var 1) (.neg (.int 1))])] [],
  .ife (.cmp .eq (.ix (.var 1) (.int 0)) (.str "each")) [.ret (.tup [.str "in", .str "left", .tup [.b1 .tuple (.comp [2] (.nm 2) 1 (.var 0) none none (.tup [.call 0 [.var 2, .ix (.var 1) (.int 1), .ix (.var 1) (.int 2)], .int 0]))]])] [],
  .ife (.cmp .eq (.ix (.var 1) (.int 0)) (.str "within")) [.asg 3 (.b1 .tuple (.comp [2] (.nm 2) 1 (.var 0) none none (.tup [.var 2, .b1 .int (.cmp .eq (.var 2) (.ix (.var 1) (.int 1)))]))), .ret (.tup [.str "in", .str "left", .tup [.var 3, .b1 .tuple (.comp [2] (.nm 2) 1 (.var 0) none none (.tup [.call 0 [.var 2, .ix (.var 1) (.int 2), .ix (.var 1) (.int 3)], .int 1]))]])] [],
  .asg 4 (.lst []),
  .forIn (.nm 5) 1 (.int 2) none [.asg 6 (.lst []), .forIn (.nm 7) 1 (.int 2) none [.app 6 (.b1 .tuple (.comp [2] (.nm 2) 1 (.var 0) none none (.call 1 [.var 1, .var 5, .var 7, .var 2])))], .app 4 (.b1 .tuple (.pk 6))],
  .ret (.tup [.str "out", .ite (.cmp .eq (.ix (.var 1) (.int 0)) (.str "holding")) (.str "left") (.ix (.var 1) (.int 1)), .b1 .tuple (.pk 4)])]
abbrev b__law_lines : Stmt := top 53
theorem c__law_lines : chkSs ⟨N__law_lines, T__law_lines, defScope b__law_lines, none⟩ s__law_lines (defBody b__law_lines) = true := by decide +kernel
theorem f__law_lines : FnScope N__law_lines P__law_lines (defScope b__law_lines) := C8.fnScope_by (by decide +kernel)
def N__law_walks : List Str := ["rule", "found", "step", "part"]
def P__law_walks : List Str := ["rule"]
def fns__law_walks : List (Str × List Bool) := [("_law_lines", [false, false])]
def T__law_walks : Tab := ⟨fns__law_walks, [], [], [], []⟩
def s__law_walks : List S := [.asg 1 (.lst []),
  .forIn (.nm 2) 0 (.ix (.var 0) (.int 1)) none [.ife (.cmp .eq (.ix (.var 2) (.int 0)) (.str "again")) [.asg 1 (.bin .add (.pk 1) (.bin .mul (.comp [3] (.nm 3) 0 (.ix (.var 2) (.int 2)) none none (.call 0 [.ix (.var 0) (.int 0), .var 3])) (.ix (.var 2) (.int 1))))] [.app 1 (.call 0 [.ix (.var 0) (.int 0), .var 2])]],
  .ret (.mov 1)]
abbrev b__law_walks : Stmt := top 54
theorem c__law_walks : chkSs ⟨N__law_walks, T__law_walks, defScope b__law_walks, none⟩ s__law_walks (defBody b__law_walks) = true := by decide +kernel
theorem f__law_walks : FnScope N__law_walks P__law_walks (defScope b__law_walks) := C8.fnScope_by (by decide +kernel)
def N__law_inward : List Str := ["table", "row", "note", "found", "stand", "inner", "new", "later"]
def P__law_inward : List Str := ["table", "row", "note"]
def fns__law_inward : List (Str × List Bool) := [("_law_inward", [false, false, false])]
def T__law_inward : Tab := ⟨fns__law_inward, [], ["tuple"], [], []⟩
def s__law_inward : List S := [.asg 3 (.lst []),
  .forIn (.tup [.nm 4, .nm 5]) 0 (.var 1) none [.asgT (.tup [.nm 6, .nm 7]) (.ix (.ix (.var 0) (.var 2)) (.var 4)), .app 3 (.tup [.var 6, .call 0 [.var 0, .var 5, .var 7]])],
  .ret (.b1 .tuple (.pk 3))]
abbrev b__law_inward : Stmt := top 55
theorem c__law_inward : chkSs ⟨N__law_inward, T__law_inward, defScope b__law_inward, none⟩ s__law_inward (defBody b__law_inward) = true := by decide +kernel
theorem f__law_inward : FnScope N__law_inward P__law_inward (defScope b__law_inward) := C8.fnScope_by (by decide +kernel)
def N__law_outward : List Str := ["side", "table", "row", "note", "found", "stand", "inner", "there", "below", "new"]
def P__law_outward : List Str := ["side", "table", "row"]
def fns__law_outward : List (Str × List Bool) := [("_law_outward", [false, false, false])]
def T__law_outward : Tab := ⟨fns__law_outward, [], ["tuple"], [], []⟩
def s__law_outward : List S := [.par [3, 4] [.int 0, .lst []],
  .forIn (.tup [.nm 5, .nm 6]) 0 (.ite (.cmp .eq (.var 0) (.str "left")) (.var 2) (.rev (.var 2))) none [.asgT (.tup [.nm 7, .nm 8]) (.call 0 [.var 0, .var 1, .var 6]), .asgT (.tup [.nm 9, .nm 3]) (.ix (.ix (.ix (.var 1) (.var 3)) (.var 8)) (.var 5)), .app 4 (.tup [.var 9, .var 7])],
  .ret (.tup [.b1 .tuple (.ite (.cmp .eq (.var 0) (.str "left")) (.var 4) (.rev (.pk 4))), .var 3])]
abbrev b__law_outward : Stmt := top 56
theorem c__law_outward : chkSs ⟨N__law_outward, T__law_outward, defScope b__law_outward, none⟩ s__law_outward (defBody b__law_outward) = true := by decide +kernel
theorem f__law_outward : FnScope N__law_outward P__law_outward (defScope b__law_outward) := C8.fnScope_by (by decide +kernel)
def N__law_walked : List Str := ["walk", "row", "word", "side", "table"]
def P__law_walked : List Str := ["walk", "row"]
def fns__law_walked : List (Str × List Bool) := [("_law_inward", [false, false, false]), ("_law_outward", [false, false, false])]
def T__law_walked : Tab := ⟨fns__law_walked, [], [], [], []⟩
def s__law_walked : List S := [.asgT (.tup [.nm 2, .nm 3, .nm 4]) (.var 0),
  .ret (.ite (.cmp .eq (.var 2) (.str "in")) (.call 0 [.var 4, .var 1, .int 0]) (.ix (.call 1 [.var 3, .var 4, .var 1]) (.int 0)))]
abbrev b__law_walked : Stmt := top 57
theorem c__law_walked : chkSs ⟨N__law_walked, T__law_walked, defScope b__law_walked, none⟩ s__law_walked (defBody b__law_walked) = true := by decide +kernel
theorem f__law_walked : FnScope N__law_walked P__law_walked (defScope b__law_walked) := C8.fnScope_by (by decide +kernel)
def N__law_nesting : List Str := ["source", "many", "most", "row", "turn", "deep"]
def P__law_nesting : List Str := ["source", "many", "most"]
def fns__law_nesting : List (Str × List Bool) := [("_law_draw", [true, false]), ("_law_put", [false, false, false])]
def T__law_nesting : Tab := ⟨fns__law_nesting, [], ["range"], [], []⟩
def s__law_nesting : List S := [.asg 3 (.tup []),
  .forIn (.nm 4) 1 (.call 0 [.io 0, .bin .add (.var 2) (.int 1)]) none [.asg 5 (.call 0 [.io 0, .ite (.cmp .gt (.call 0 [.io 0, .int 4]) (.int 0)) (.int 7) (.int 2)]), .asg 3 (.call 1 [.var 3, .var 5, .call 0 [.io 0, .var 1]])],
  .ret (.var 3)]
abbrev b__law_nesting : Stmt := top 58
theorem c__law_nesting : chkSs ⟨N__law_nesting, T__law_nesting, defScope b__law_nesting, none⟩ s__law_nesting (defBody b__law_nesting) = true := by decide +kernel
theorem f__law_nesting : FnScope N__law_nesting P__law_nesting (defScope b__law_nesting) := C8.fnScope_by (by decide +kernel)
def N__law_put : List Str := ["row", "deep", "stand"]
def P__law_put : List Str := ["row", "deep", "stand"]
def fns__law_put : List (Str × List Bool) := [("_law_put", [false, false, false])]
def T__law_put : Tab := ⟨fns__law_put, [], [], [], []⟩
def s__law_put : List S := [.ife (.or (.cmp .eq (.var 1) (.int 0)) (.cmp .eq (.var 0) (.tup []))) [.ret (.bin .add (.var 0) (.tup [.tup [.var 2, .tup []]]))] [],
  .ret (.bin .add (.cut (.var 0) none (some (.neg (.int 1)))) (.tup [.tup [.ix (.ix (.var 0) (.neg (.int 1))) (.int 0), .call 0 [.ix (.ix (.var 0) (.neg (.int 1))) (.int 1), .bin .sub (.var 1) (.int 1), .var 2]]]))]
abbrev b__law_put : Stmt := top 59
theorem c__law_put : chkSs ⟨N__law_put, T__law_put, defScope b__law_put, none⟩ s__law_put (defBody b__law_put) = true := by decide +kernel
theorem f__law_put : FnScope N__law_put P__law_put (defScope b__law_put) := C8.fnScope_by (by decide +kernel)
def N__law_out_pair : List Str := ["step", "note", "inner", "stand", "new"]
def P__law_out_pair : List Str := ["step", "note", "inner", "stand"]
def fns__law_out_pair : List (Str × List Bool) := [("_law_row_pair", [false, false, false]), ("_law_other", [false, false, false])]
def T__law_out_pair : Tab := ⟨fns__law_out_pair, [], ["max", "int"], [], []⟩
def s__law_out_pair : List S := [.ife (.cmp .ne (.ix (.var 0) (.int 0)) (.str "holding")) [.ret (.call 0 [.var 0, .var 1, .var 3])] [],
  .asg 4 (.ite (.cmp .eq (.var 2) (.int 1)) (.call 1 [.var 3, .ix (.var 0) (.int 2), .ix (.var 0) (.int 3)]) (.var 3)),
  .ret (.tup [.var 4, .max3 (.var 1) (.var 2) (.b1 .int (.cmp .eq (.var 3) (.ix (.var 0) (.int 1))))])]
abbrev b__law_out_pair : Stmt := top 60
theorem c__law_out_pair : chkSs ⟨N__law_out_pair, T__law_out_pair, defScope b__law_out_pair, none⟩ s__law_out_pair (defBody b__law_out_pair) = true := by decide +kernel
theorem f__law_out_pair : FnScope N__law_out_pair P__law_out_pair (defScope b__law_out_pair) := C8.fnScope_by (by decide +kernel)
def N__law_refused : List Str := ["rule", "value", "words", "call"]
def P__law_refused : List Str := ["rule", "value"]
def fns__law_refused : List (Str × List Bool) := [("run", [false, false]), ("stages", [false, false]), ("brought", [false, false])]
def T__law_refused : Tab := ⟨fns__law_refused, ["run", "stages", "brought"], [], [], ["InvalidScript", "InvalidNesting"]⟩
def s__law_refused : List S := [.asg 2 (.lst []),
  .forIn (.nm 3) 0 (.tup [.con 0, .con 1, .con 2]) none [.tryN ["InvalidScript", "InvalidNesting"] [.ex (.callV 3 [("run", 0), ("stages", 1), ("brought", 2)] [.var 0, .var 1])] [("InvalidNesting", [.app 2 (.str "nesting")])]],
  .ret (.cmp .eq (.pk 2) (.bin .mul (.lst [.str "nesting"]) (.int 3)))]
abbrev b__law_refused : Stmt := top 61
theorem c__law_refused : chkSs ⟨N__law_refused, T__law_refused, defScope b__law_refused, none⟩ s__law_refused (defBody b__law_refused) = true := by decide +kernel
theorem f__law_refused : FnScope N__law_refused P__law_refused (defScope b__law_refused) := C8.fnScope_by (by decide +kernel)
def N_law : List Str := ["script", "k", "source", "rule", "turn", "odd", "row", "walk", "rows", "notes_so", "there", "inner", "step"]
def P_law : List Str := ["script"]
def fns_law : List (Str × List Bool) := [("_law_source", [false, false]), ("_law_script", [true, false, false]), ("_law_nesting", [true, false, false]), ("_law_choice", [true, false]), ("_law_walks", [false]), ("_law_outward", [false, false, false]), ("_law_walked", [false, false]), ("run", [false, false]), ("stages", [false, false]), ("brought", [false, false]), ("_law_refused", [false, false])]
def T_law : Tab := ⟨fns_law, [], ["range", "min", "len"], [], []⟩
def s_law : List S := [.forIn (.nm 1) 1 (.bin .add (.int 1) (.b2 .min (.b1 .len (.var 0)) (.int 8))) none [.asg 2 (.call 0 [.var 0, .var 1]), .asg 3 (.call 1 [.io 2, .int 5, .int 4]), .forIn (.nm 4) 1 (.int 8) none [.asg 6 (.call 2 [.io 2, .ix (.var 3) (.int 0), .call 3 [.io 2, .lst [.int 3, .int 10, .int 40]]]), .par [8, 9, 10] [.lst [], .lst [], .var 6], .forIn (.nm 7) 0 (.call 4 [.var 3]) none [.app 9 (.ite (.cmp .eq (.ix (.var 7) (.int 0)) (.str "in")) (.non) (.ix (.call 5 [.ix (.var 7) (.int 1), .ix (.var 7) (.int 2), .var 10]) (.int 1))), .asg 10 (.call 6 [.var 7, .var 10]), .app 8 (.var 10)], .ife (.or (.cmp .ne (.call 7 [.var 3, .var 6]) (.var 10)) (.or (.cmp .ne (.call 8 [.var 3, .var 6]) (.pk 8)) (.cmp .ne (.call 9 [.var 3, .var 6]) (.pk 9)))) [.ret (.bl false)] []], .forIn (.nm 5) 0 (.lst [.non, .lst [], .tup [.tup [.ix (.var 3) (.int 0), .tup []]], .tup [.tup [.int 0]], .tup [.int 0, .tup []], .tup [.tup [.int 0, .lst []]], .tup [.tup [.bl true, .tup []]], .bin .mul (.tup [.tup [.int 0, .tup []]]) (.int 41)]) none [.ife (.not (.call 10 [.var 3, .var 5])) [.ret (.bl false)] []]],
  .asg 6 (.tup [.tup [.int 0, .tup [.tup [.int 0, .tup []], .tup [.int 1, .tup [.tup [.int 0, .tup []]]]]], .tup [.int 1, .tup []]]),
  .ife (.cmp .ne (.call 7 [.tup [.int 2, .tup [.tup [.str "within", .int 1, .int 0, .int 1]]], .var 6]) (.tup [.tup [.int 0, .tup [.tup [.int 0, .tup []], .tup [.int 1, .tup [.tup [.int 1, .tup []]]]]], .tup [.int 1, .tup []]])) [.ret (.bl false)] [],
  .ife (.cmp .ne (.call 7 [.tup [.int 2, .tup [.tup [.str "holding", .int 0, .int 1, .int 0]]], .var 6]) (.tup [.tup [.int 0, .tup [.tup [.int 0, .tup []], .tup [.int 0, .tup [.tup [.int 0, .tup []]]]]], .tup [.int 1, .tup []]])) [.ret (.bl false)] [],
  .asg 11 (.tup [.tup [.int 1, .tup [.tup [.int 0, .tup []], .tup [.int 0, .tup []]]], .tup [.int 0, .tup []]]),
  .ife (.cmp .ne (.call 7 [.tup [.int 2, .tup [.tup [.str "first", .str "right", .int 0, .int 1]]], .var 11]) (.tup [.tup [.int 1, .tup [.tup [.int 0, .tup []], .tup [.int 1, .tup []]]], .tup [.int 1, .tup []]])) [.ret (.bl false)] [],
  .ife (.cmp .ne (.call 7 [.tup [.int 3, .tup [.tup [.str "next", .str "left", .int 2, .int 0, .int 1]]], .tup [.tup [.int 2, .tup [.tup [.int 0, .tup []]]], .tup [.int 0, .tup [.tup [.int 2, .tup []]]], .tup [.int 0, .tup []]]]) (.tup [.tup [.int 2, .tup [.tup [.int 0, .tup []]]], .tup [.int 1, .tup [.tup [.int 2, .tup []]]], .tup [.int 0, .tup []]])) [.ret (.bl false)] [],
  .asg 12 (.tup [.str "in", .tup [.tup [.tup [.int 0, .int 0], .tup [.int 1, .int 1]], .tup [.tup [.int 1, .int 0], .tup [.int 0, .int 1]]]]),
  .ret (.cmp .eq (.call 7 [.tup [.int 2, .tup [.var 12]], .tup [.tup [.int 1, .tup [.tup [.int 1, .tup [.tup [.int 1, .tup []]]]]]]]) (.tup [.tup [.int 1, .tup [.tup [.int 0, .tup [.tup [.int 0, .tup []]]]]]]))]
abbrev b_law : Stmt := top 62
theorem c_law : chkSs ⟨N_law, T_law, defScope b_law, none⟩ s_law (defBody b_law) = true := by decide +kernel
theorem f_law : FnScope N_law P_law (defScope b_law) := C8.fnScope_by (by decide +kernel)
end KT
section
namespace KT
open PySem L2 PySem.Spec PyProof.Rows PL
def cs_is_from : List PL.D := []
def fs_is_from : List Fn := []
def F_is_from : Fn := semD [false, false, false] N_is_from.length (evSs (mkG fs_is_from cs_is_from) s_is_from)
def cs_is_tuple : List PL.D := []
def fs_is_tuple : List Fn := []
def F_is_tuple : Fn := semD [false, false, false] N_is_tuple.length (evSs (mkG fs_is_tuple cs_is_tuple) s_is_tuple)
def cs_is_side : List PL.D := [.tup [.str "left", .str "right"]]
def fs_is_side : List Fn := []
def F_is_side : Fn := semD [false] N_is_side.length (evSs (mkG fs_is_side cs_is_side) s_is_side)
def cs_is_line : List PL.D := []
def fs_is_line : List Fn := [F_is_tuple, F_is_from]
def F_is_line : Fn := semD [false, false, false] N_is_line.length (evSs (mkG fs_is_line cs_is_line) s_is_line)
def cs_is_flat : List PL.D := []
def fs_is_flat : List Fn := [F_is_tuple, F_is_line]
def F_is_flat : Fn := semD [false, false] N_is_flat.length (evSs (mkG fs_is_flat cs_is_flat) s_is_flat)
def cs_is_deep : List PL.D := []
def fs_is_deep : List Fn := [F_is_tuple, F_is_line]
def F_is_deep : Fn := semD [false, false] N_is_deep.length (evSs (mkG fs_is_deep cs_is_deep) s_is_deep)
def cs_are_stands : List PL.D := []
def fs_are_stands : List Fn := [F_is_from]
def F_are_stands : Fn := semD [false, false] N_are_stands.length (evSs (mkG fs_are_stands cs_are_stands) s_are_stands)
def cs_is_plain : List PL.D := []
def fs_is_plain : List Fn := [F_is_tuple, F_is_flat, F_is_side, F_is_deep, F_are_stands]
def F_is_plain : Fn := semD [false, false] N_is_plain.length (evSs (mkG fs_is_plain cs_is_plain) s_is_plain)
def cs_has_step : List PL.D := []
def fs_has_step : List Fn := [F_is_tuple, F_is_from, F_is_plain]
def F_has_step : Fn := semD [false, false] N_has_step.length (evSs (mkG fs_has_step cs_has_step) s_has_step)
def cs_changed : List PL.D := []
def fs_changed : List Fn := []
def F_changed : Fn := semD [false, false, false] N_changed.length (evSs (mkG fs_changed cs_changed) s_changed)
def cs_row_table : List PL.D := []
def fs_row_table : List Fn := [F_changed]
def F_row_table : Fn := semD [false, false] N_row_table.length (evSs (mkG fs_row_table cs_row_table) s_row_table)
def cs_holding_line : List PL.D := []
def fs_holding_line : List Fn := [F_changed]
def F_holding_line : Fn := semD [false, false, false] N_holding_line.length (evSs (mkG fs_holding_line cs_holding_line) s_holding_line)
def cs_walk_of : List PL.D := []
def fs_walk_of : List Fn := [F_changed, F_holding_line, F_row_table]
def F_walk_of : Fn := semD [false, false] N_walk_of.length (evSs (mkG fs_walk_of cs_walk_of) s_walk_of)
def cs_spread : List PL.D := []
def fs_spread : List Fn := [F_walk_of]
def R_spread : Nat → Fn := recF [false, false] N_spread.length (fun F => mkG (F :: fs_spread) cs_spread) s_spread
def F_spread : Fn := R_spread 64
def cs_notes_of : List PL.D := []
def fs_notes_of : List Fn := []
def F_notes_of : Fn := semD [false] N_notes_of.length (evSs (mkG fs_notes_of cs_notes_of) s_notes_of)
def cs_has_script : List PL.D := [.int 6, .int 6, .int 4]
def fs_has_script : List Fn := [F_is_tuple, F_is_from, F_has_step, F_spread, F_notes_of]
def F_has_script : Fn := semD [false] N_has_script.length (evSs (mkG fs_has_script cs_has_script) s_has_script)
def cs_need_script : List PL.D := []
def fs_need_script : List Fn := [F_has_script]
def F_need_script : Fn := semD [false] N_need_script.length (evSs (mkG fs_need_script cs_need_script) s_need_script)
def cs_is_kept : List PL.D := [.int 40]
def fs_is_kept : List Fn := [F_is_tuple, F_is_from]
def R_is_kept : Nat → Fn := recF [false, false, false] N_is_kept.length (fun F => mkG (F :: fs_is_kept) cs_is_kept) s_is_kept
def F_is_kept : Fn := R_is_kept 64
def cs_boxes_of : List PL.D := []
def fs_boxes_of : List Fn := []
def R_boxes_of : Nat → Fn := recF [false] N_boxes_of.length (fun F => mkG (F :: fs_boxes_of) cs_boxes_of) s_boxes_of
def F_boxes_of : Fn := R_boxes_of 64
def cs_has_nesting : List PL.D := [.int 8, .int 40]
def fs_has_nesting : List Fn := [F_is_kept, F_boxes_of]
def F_has_nesting : Fn := semD [false, false] N_has_nesting.length (evSs (mkG fs_has_nesting cs_has_nesting) s_has_nesting)
def cs_need_nesting : List PL.D := []
def fs_need_nesting : List Fn := [F_has_nesting]
def F_need_nesting : Fn := semD [false, false] N_need_nesting.length (evSs (mkG fs_need_nesting cs_need_nesting) s_need_nesting)
def cs_inward : List PL.D := []
def fs_inward : List Fn := []
def R_inward : Nat → Fn := recF [false, false, false] N_inward.length (fun F => mkG (F :: fs_inward) cs_inward) s_inward
def F_inward : Fn := R_inward 64
def cs_outward : List PL.D := []
def fs_outward : List Fn := []
def R_outward : Nat → Fn := recF [false, false, false] N_outward.length (fun F => mkG (F :: fs_outward) cs_outward) s_outward
def F_outward : Fn := R_outward 64
def cs_walked : List PL.D := []
def fs_walked : List Fn := [F_inward, F_outward]
def F_walked : Fn := semD [false, false] N_walked.length (evSs (mkG fs_walked cs_walked) s_walked)
def cs_need_both : List PL.D := []
def fs_need_both : List Fn := [F_need_script, F_need_nesting]
def F_need_both : Fn := semD [false, false] N_need_both.length (evSs (mkG fs_need_both cs_need_both) s_need_both)
def cs_led : List PL.D := []
def fs_led : List Fn := [F_spread, F_walked]
def F_led : Fn := semD [false, false] N_led.length (evSs (mkG fs_led cs_led) s_led)
def cs_ran : List PL.D := []
def fs_ran : List Fn := [F_led]
def F_ran : Fn := semD [false, false] N_ran.length (evSs (mkG fs_ran cs_ran) s_ran)
def cs_run : List PL.D := []
def fs_run : List Fn := [F_need_both, F_ran]
def F_run : Fn := semD [false, false] N_run.length (evSs (mkG fs_run cs_run) s_run)
def cs_stages : List PL.D := []
def fs_stages : List Fn := [F_need_both, F_led]
def F_stages : Fn := semD [false, false] N_stages.length (evSs (mkG fs_stages cs_stages) s_stages)
def cs_brought : List PL.D := []
def fs_brought : List Fn := [F_need_both, F_spread, F_led, F_outward]
def F_brought : Fn := semD [false, false] N_brought.length (evSs (mkG fs_brought cs_brought) s_brought)
def cs__law_source : List PL.D := []
def fs__law_source : List Fn := []
def F__law_source : Fn := semD [false, false] N__law_source.length (evSs (mkG fs__law_source cs__law_source) s__law_source)
def cs__law_draw : List PL.D := []
def fs__law_draw : List Fn := []
def F__law_draw : Fn := semD [true, false] N__law_draw.length (evSs (mkG fs__law_draw cs__law_draw) s__law_draw)
def cs__law_choice : List PL.D := []
def fs__law_choice : List Fn := [F__law_draw]
def F__law_choice : Fn := semD [true, false] N__law_choice.length (evSs (mkG fs__law_choice cs__law_choice) s__law_choice)
def cs__law_line : List PL.D := []
def fs__law_line : List Fn := [F__law_draw, F__law_choice]
def F__law_line : Fn := semD [true, false, false] N__law_line.length (evSs (mkG fs__law_line cs__law_line) s__law_line)
def cs__law_lot : List PL.D := []
def fs__law_lot : List Fn := [F__law_line]
def F__law_lot : Fn := semD [true, false, false, false] N__law_lot.length (evSs (mkG fs__law_lot cs__law_lot) s__law_lot)
def cs__law_plain : List PL.D := []
def fs__law_plain : List Fn := [F__law_choice, F__law_draw, F__law_lot]
def F__law_plain : Fn := semD [true, false, false] N__law_plain.length (evSs (mkG fs__law_plain cs__law_plain) s__law_plain)
def cs__law_width : List PL.D := []
def fs__law_width : List Fn := []
def F__law_width : Fn := semD [false] N__law_width.length (evSs (mkG fs__law_width cs__law_width) s__law_width)
def cs__law_script : List PL.D := []
def fs__law_script : List Fn := [F__law_choice, F__law_draw, F__law_plain, F__law_width]
def F__law_script : Fn := semD [true, false, false] N__law_script.length (evSs (mkG fs__law_script cs__law_script) s__law_script)
def cs__law_other : List PL.D := []
def fs__law_other : List Fn := []
def F__law_other : Fn := semD [false, false, false] N__law_other.length (evSs (mkG fs__law_other cs__law_other) s__law_other)
def cs__law_row_pair : List PL.D := []
def fs__law_row_pair : List Fn := [F__law_other]
def F__law_row_pair : Fn := semD [false, false, false] N__law_row_pair.length (evSs (mkG fs__law_row_pair cs__law_row_pair) s__law_row_pair)
def cs__law_out_pair : List PL.D := []
def fs__law_out_pair : List Fn := [F__law_row_pair, F__law_other]
def F__law_out_pair : Fn := semD [false, false, false, false] N__law_out_pair.length (evSs (mkG fs__law_out_pair cs__law_out_pair) s__law_out_pair)
def cs__law_lines : List PL.D := []
def fs__law_lines : List Fn := [F__law_other, F__law_out_pair]
def F__law_lines : Fn := semD [false, false] N__law_lines.length (evSs (mkG fs__law_lines cs__law_lines) s__law_lines)
def cs__law_walks : List PL.D := []
def fs__law_walks : List Fn := [F__law_lines]
def F__law_walks : Fn := semD [false] N__law_walks.length (evSs (mkG fs__law_walks cs__law_walks) s__law_walks)
def cs__law_inward : List PL.D := []
def fs__law_inward : List Fn := []
def R__law_inward : Nat → Fn := recF [false, false, false] N__law_inward.length (fun F => mkG (F :: fs__law_inward) cs__law_inward) s__law_inward
def F__law_inward : Fn := R__law_inward 64
def cs__law_outward : List PL.D := []
def fs__law_outward : List Fn := []
def R__law_outward : Nat → Fn := recF [false, false, false] N__law_outward.length (fun F => mkG (F :: fs__law_outward) cs__law_outward) s__law_outward
def F__law_outward : Fn := R__law_outward 64
def cs__law_walked : List PL.D := []
def fs__law_walked : List Fn := [F__law_inward, F__law_outward]
def F__law_walked : Fn := semD [false, false] N__law_walked.length (evSs (mkG fs__law_walked cs__law_walked) s__law_walked)
def cs__law_put : List PL.D := []
def fs__law_put : List Fn := []
def R__law_put : Nat → Fn := recF [false, false, false] N__law_put.length (fun F => mkG (F :: fs__law_put) cs__law_put) s__law_put
def F__law_put : Fn := R__law_put 64
def cs__law_nesting : List PL.D := []
def fs__law_nesting : List Fn := [F__law_draw, F__law_put]
def F__law_nesting : Fn := semD [true, false, false] N__law_nesting.length (evSs (mkG fs__law_nesting cs__law_nesting) s__law_nesting)
def cs__law_refused : List PL.D := [.fn "run", .fn "stages", .fn "brought"]
def fs__law_refused : List Fn := [F_run, F_stages, F_brought]
def F__law_refused : Fn := semD [false, false] N__law_refused.length (evSs (mkG fs__law_refused cs__law_refused) s__law_refused)
def cs_law : List PL.D := []
def fs_law : List Fn := [F__law_source, F__law_script, F__law_nesting, F__law_choice, F__law_walks, F__law_outward, F__law_walked, F_run, F_stages, F_brought, F__law_refused]
def F_law : Fn := semD [false] N_law.length (evSs (mkG fs_law cs_law) s_law)
end KT
/-! what each def does; the head; printed by gen_head.py -/
namespace KT
open PySem L2 PySem.Spec PyProof.Rows PL
structure TopF (K : PySem.W.Frag) (mg : Str → Option Value) : Prop where
  d_is_from : DefF K mg "is_from" (defArgs b_is_from) (defBody b_is_from) (defScope b_is_from) P_is_from
  d_is_tuple : DefF K mg "is_tuple" (defArgs b_is_tuple) (defBody b_is_tuple) (defScope b_is_tuple) P_is_tuple
  d_is_side : DefF K mg "is_side" (defArgs b_is_side) (defBody b_is_side) (defScope b_is_side) P_is_side
  d_is_line : DefF K mg "is_line" (defArgs b_is_line) (defBody b_is_line) (defScope b_is_line) P_is_line
  d_is_flat : DefF K mg "is_flat" (defArgs b_is_flat) (defBody b_is_flat) (defScope b_is_flat) P_is_flat
  d_is_deep : DefF K mg "is_deep" (defArgs b_is_deep) (defBody b_is_deep) (defScope b_is_deep) P_is_deep
  d_are_stands : DefF K mg "are_stands" (defArgs b_are_stands) (defBody b_are_stands) (defScope b_are_stands) P_are_stands
  d_is_plain : DefF K mg "is_plain" (defArgs b_is_plain) (defBody b_is_plain) (defScope b_is_plain) P_is_plain
  d_has_step : DefF K mg "has_step" (defArgs b_has_step) (defBody b_has_step) (defScope b_has_step) P_has_step
  d_changed : DefF K mg "changed" (defArgs b_changed) (defBody b_changed) (defScope b_changed) P_changed
  d_row_table : DefF K mg "row_table" (defArgs b_row_table) (defBody b_row_table) (defScope b_row_table) P_row_table
  d_holding_line : DefF K mg "holding_line" (defArgs b_holding_line) (defBody b_holding_line) (defScope b_holding_line) P_holding_line
  d_walk_of : DefF K mg "walk_of" (defArgs b_walk_of) (defBody b_walk_of) (defScope b_walk_of) P_walk_of
  d_spread : DefF K mg "spread" (defArgs b_spread) (defBody b_spread) (defScope b_spread) P_spread
  d_notes_of : DefF K mg "notes_of" (defArgs b_notes_of) (defBody b_notes_of) (defScope b_notes_of) P_notes_of
  d_has_script : DefF K mg "has_script" (defArgs b_has_script) (defBody b_has_script) (defScope b_has_script) P_has_script
  d_need_script : DefF K mg "need_script" (defArgs b_need_script) (defBody b_need_script) (defScope b_need_script) P_need_script
  d_is_kept : DefF K mg "is_kept" (defArgs b_is_kept) (defBody b_is_kept) (defScope b_is_kept) P_is_kept
  d_boxes_of : DefF K mg "boxes_of" (defArgs b_boxes_of) (defBody b_boxes_of) (defScope b_boxes_of) P_boxes_of
  d_has_nesting : DefF K mg "has_nesting" (defArgs b_has_nesting) (defBody b_has_nesting) (defScope b_has_nesting) P_has_nesting
  d_need_nesting : DefF K mg "need_nesting" (defArgs b_need_nesting) (defBody b_need_nesting) (defScope b_need_nesting) P_need_nesting
  d_inward : DefF K mg "inward" (defArgs b_inward) (defBody b_inward) (defScope b_inward) P_inward
  d_outward : DefF K mg "outward" (defArgs b_outward) (defBody b_outward) (defScope b_outward) P_outward
  d_walked : DefF K mg "walked" (defArgs b_walked) (defBody b_walked) (defScope b_walked) P_walked
  d_need_both : DefF K mg "need_both" (defArgs b_need_both) (defBody b_need_both) (defScope b_need_both) P_need_both
  d_led : DefF K mg "led" (defArgs b_led) (defBody b_led) (defScope b_led) P_led
  d_ran : DefF K mg "ran" (defArgs b_ran) (defBody b_ran) (defScope b_ran) P_ran
  d_run : DefF K mg "run" (defArgs b_run) (defBody b_run) (defScope b_run) P_run
  d_stages : DefF K mg "stages" (defArgs b_stages) (defBody b_stages) (defScope b_stages) P_stages
  d_brought : DefF K mg "brought" (defArgs b_brought) (defBody b_brought) (defScope b_brought) P_brought
  d__law_source : DefF K mg "_law_source" (defArgs b__law_source) (defBody b__law_source) (defScope b__law_source) P__law_source
  d__law_draw : DefF K mg "_law_draw" (defArgs b__law_draw) (defBody b__law_draw) (defScope b__law_draw) P__law_draw
  d__law_choice : DefF K mg "_law_choice" (defArgs b__law_choice) (defBody b__law_choice) (defScope b__law_choice) P__law_choice
  d__law_line : DefF K mg "_law_line" (defArgs b__law_line) (defBody b__law_line) (defScope b__law_line) P__law_line
  d__law_lot : DefF K mg "_law_lot" (defArgs b__law_lot) (defBody b__law_lot) (defScope b__law_lot) P__law_lot
  d__law_plain : DefF K mg "_law_plain" (defArgs b__law_plain) (defBody b__law_plain) (defScope b__law_plain) P__law_plain
  d__law_width : DefF K mg "_law_width" (defArgs b__law_width) (defBody b__law_width) (defScope b__law_width) P__law_width
  d__law_script : DefF K mg "_law_script" (defArgs b__law_script) (defBody b__law_script) (defScope b__law_script) P__law_script
  d__law_other : DefF K mg "_law_other" (defArgs b__law_other) (defBody b__law_other) (defScope b__law_other) P__law_other
  d__law_row_pair : DefF K mg "_law_row_pair" (defArgs b__law_row_pair) (defBody b__law_row_pair) (defScope b__law_row_pair) P__law_row_pair
  d__law_out_pair : DefF K mg "_law_out_pair" (defArgs b__law_out_pair) (defBody b__law_out_pair) (defScope b__law_out_pair) P__law_out_pair
  d__law_lines : DefF K mg "_law_lines" (defArgs b__law_lines) (defBody b__law_lines) (defScope b__law_lines) P__law_lines
  d__law_walks : DefF K mg "_law_walks" (defArgs b__law_walks) (defBody b__law_walks) (defScope b__law_walks) P__law_walks
  d__law_inward : DefF K mg "_law_inward" (defArgs b__law_inward) (defBody b__law_inward) (defScope b__law_inward) P__law_inward
  d__law_outward : DefF K mg "_law_outward" (defArgs b__law_outward) (defBody b__law_outward) (defScope b__law_outward) P__law_outward
  d__law_walked : DefF K mg "_law_walked" (defArgs b__law_walked) (defBody b__law_walked) (defScope b__law_walked) P__law_walked
  d__law_put : DefF K mg "_law_put" (defArgs b__law_put) (defBody b__law_put) (defScope b__law_put) P__law_put
  d__law_nesting : DefF K mg "_law_nesting" (defArgs b__law_nesting) (defBody b__law_nesting) (defScope b__law_nesting) P__law_nesting
  d__law_refused : DefF K mg "_law_refused" (defArgs b__law_refused) (defBody b__law_refused) (defScope b__law_refused) P__law_refused
  d_law : DefF K mg "law" (defArgs b_law) (defBody b_law) (defScope b_law) P_law
  n_SIDES : ConFact K mg "SIDES" (.tup [.str "left", .str "right"])
  n_MOST_STEPS : ConFact K mg "MOST_STEPS" (.int 6)
  n_MOST_WALKS : ConFact K mg "MOST_WALKS" (.int 6)
  n_MOST_NOTES : ConFact K mg "MOST_NOTES" (.int 4)
  n_MOST_BOXES : ConFact K mg "MOST_BOXES" (.int 40)
  n_MOST_DEEP : ConFact K mg "MOST_DEEP" (.int 8)
  n_run : ConFact K mg "run" (.fn "run")
  n_stages : ConFact K mg "stages" (.fn "stages")
  n_brought : ConFact K mg "brought" (.fn "brought")
  z_isinstance : mg "isinstance" = none
  z_int : mg "int" = none
  z_bool : mg "bool" = none
  z_tuple : mg "tuple" = none
  z_len : mg "len" = none
  z_str : mg "str" = none
  z_all : mg "all" = none
  z_list : mg "list" = none
  z_range : mg "range" = none
  z_sum : mg "sum" = none
  z_zip : mg "zip" = none
  z_abs : mg "abs" = none
  z_min : mg "min" = none
  z_max : mg "max" = none
  e_InvalidScript : ExcF K mg "InvalidScript"
  e_InvalidNesting : ExcF K mg "InvalidNesting"
  km : ∀ x ∈ (["InvalidScript", "InvalidNesting"] : List Str), ∀ y ∈ (["InvalidScript", "InvalidNesting"] : List Str), ExmF K mg x y
section
variable {P : Program} {w : World} {K : PySem.W.Frag} {mg : Str → Option Value} {base : Heap}
theorem ff_is_from (T : TopF K mg) : FnFact P w K mg base 2 "is_from" [false, false, false] F_is_from := by
  have h1 : FnFacts P w K mg base 1 [] fs_is_from := FnFacts.nil
  have h2 : ConFacts K mg [] cs_is_from := ConFacts.nil
  have h3 : ∀ x ∈ (["isinstance", "int", "bool"] : List Str), mg x = none := (by simp [T.z_isinstance, T.z_int, T.z_bool])
  have h4 : ∀ x ∈ ([] : List Str), ExcF K mg x := (by simp)
  have h5 : ∀ x ∈ ([] : List Str), ∀ y ∈ ([] : List Str), ExmF K mg x y := (by simp)
  exact DefF.ok T.d_is_from f_is_from rfl (good_of h1 h2 h3 h4 h5) (by decide) c_is_from
theorem ff_is_tuple (T : TopF K mg) : FnFact P w K mg base 2 "is_tuple" [false, false, false] F_is_tuple := by
  have h1 : FnFacts P w K mg base 1 [] fs_is_tuple := FnFacts.nil
  have h2 : ConFacts K mg [] cs_is_tuple := ConFacts.nil
  have h3 : ∀ x ∈ (["isinstance", "tuple", "len"] : List Str), mg x = none := (by simp [T.z_isinstance, T.z_tuple, T.z_len])
  have h4 : ∀ x ∈ ([] : List Str), ExcF K mg x := (by simp)
  have h5 : ∀ x ∈ ([] : List Str), ∀ y ∈ ([] : List Str), ExmF K mg x y := (by simp)
  exact DefF.ok T.d_is_tuple f_is_tuple rfl (good_of h1 h2 h3 h4 h5) (by decide) c_is_tuple
theorem ff_is_side (T : TopF K mg) : FnFact P w K mg base 2 "is_side" [false] F_is_side := by
  have h1 : FnFacts P w K mg base 1 [] fs_is_side := FnFacts.nil
  have h2 : ConFacts K mg ["SIDES"] cs_is_side := (.cons T.n_SIDES ConFacts.nil)
  have h3 : ∀ x ∈ (["isinstance", "str"] : List Str), mg x = none := (by simp [T.z_isinstance, T.z_str])
  have h4 : ∀ x ∈ ([] : List Str), ExcF K mg x := (by simp)
  have h5 : ∀ x ∈ ([] : List Str), ∀ y ∈ ([] : List Str), ExmF K mg x y := (by simp)
  exact DefF.ok T.d_is_side f_is_side rfl (good_of h1 h2 h3 h4 h5) (by decide) c_is_side
theorem ff_is_line (T : TopF K mg) : FnFact P w K mg base 3 "is_line" [false, false, false] F_is_line := by
  have h1 : FnFacts P w K mg base 2 [("is_tuple", [false, false, false]), ("is_from", [false, false, false])] fs_is_line := (.cons ((ff_is_tuple T).mono (by decide)) (.cons ((ff_is_from T).mono (by decide)) FnFacts.nil))
  have h2 : ConFacts K mg [] cs_is_line := ConFacts.nil
  have h3 : ∀ x ∈ (["all"] : List Str), mg x = none := (by simp [T.z_all])
  have h4 : ∀ x ∈ ([] : List Str), ExcF K mg x := (by simp)
  have h5 : ∀ x ∈ ([] : List Str), ∀ y ∈ ([] : List Str), ExmF K mg x y := (by simp)
  exact DefF.ok T.d_is_line f_is_line rfl (good_of h1 h2 h3 h4 h5) (by decide) c_is_line
theorem ff_is_flat (T : TopF K mg) : FnFact P w K mg base 4 "is_flat" [false, false] F_is_flat := by
  have h1 : FnFacts P w K mg base 3 [("is_tuple", [false, false, false]), ("is_line", [false, false, false])] fs_is_flat := (.cons ((ff_is_tuple T).mono (by decide)) (.cons ((ff_is_line T).mono (by decide)) FnFacts.nil))
  have h2 : ConFacts K mg [] cs_is_flat := ConFacts.nil
  have h3 : ∀ x ∈ (["all", "len"] : List Str), mg x = none := (by simp [T.z_all, T.z_len])
  have h4 : ∀ x ∈ ([] : List Str), ExcF K mg x := (by simp)
  have h5 : ∀ x ∈ ([] : List Str), ∀ y ∈ ([] : List Str), ExmF K mg x y := (by simp)
  exact DefF.ok T.d_is_flat f_is_flat rfl (good_of h1 h2 h3 h4 h5) (by decide) c_is_flat
theorem ff_is_deep (T : TopF K mg) : FnFact P w K mg base 4 "is_deep" [false, false] F_is_deep := by
  have h1 : FnFacts P w K mg base 3 [("is_tuple", [false, false, false]), ("is_line", [false, false, false])] fs_is_deep := (.cons ((ff_is_tuple T).mono (by decide)) (.cons ((ff_is_line T).mono (by decide)) FnFacts.nil))
  have h2 : ConFacts K mg [] cs_is_deep := ConFacts.nil
  have h3 : ∀ x ∈ (["len", "all"] : List Str), mg x = none := (by simp [T.z_len, T.z_all])
  have h4 : ∀ x ∈ ([] : List Str), ExcF K mg x := (by simp)
  have h5 : ∀ x ∈ ([] : List Str), ∀ y ∈ ([] : List Str), ExmF K mg x y := (by simp)
  exact DefF.ok T.d_is_deep f_is_deep rfl (good_of h1 h2 h3 h4 h5) (by decide) c_is_deep
theorem ff_are_stands (T : TopF K mg) : FnFact P w K mg base 3 "are_stands" [false, false] F_are_stands := by
  have h1 : FnFacts P w K mg base 2 [("is_from", [false, false, false])] fs_are_stands := (.cons ((ff_is_from T).mono (by decide)) FnFacts.nil)
  have h2 : ConFacts K mg [] cs_are_stands := ConFacts.nil
  have h3 : ∀ x ∈ (["all"] : List Str), mg x = none := (by simp [T.z_all])
  have h4 : ∀ x ∈ ([] : List Str), ExcF K mg x := (by simp)
  have h5 : ∀ x ∈ ([] : List Str), ∀ y ∈ ([] : List Str), ExmF K mg x y := (by simp)
  exact DefF.ok T.d_are_stands f_are_stands rfl (good_of h1 h2 h3 h4 h5) (by decide) c_are_stands
theorem ff_is_plain (T : TopF K mg) : FnFact P w K mg base 5 "is_plain" [false, false] F_is_plain := by
  have h1 : FnFacts P w K mg base 4 [("is_tuple", [false, false, false]), ("is_flat", [false, false]), ("is_side", [false]), ("is_deep", [false, false]), ("are_stands", [false, false])] fs_is_plain := (.cons ((ff_is_tuple T).mono (by decide)) (.cons ((ff_is_flat T).mono (by decide)) (.cons ((ff_is_side T).mono (by decide)) (.cons ((ff_is_deep T).mono (by decide)) (.cons ((ff_are_stands T).mono (by decide)) FnFacts.nil)))))
  have h2 : ConFacts K mg [] cs_is_plain := ConFacts.nil
  have h3 : ∀ x ∈ (["isinstance", "str", "len"] : List Str), mg x = none := (by simp [T.z_isinstance, T.z_str, T.z_len])
  have h4 : ∀ x ∈ ([] : List Str), ExcF K mg x := (by simp)
  have h5 : ∀ x ∈ ([] : List Str), ∀ y ∈ ([] : List Str), ExmF K mg x y := (by simp)
  exact DefF.ok T.d_is_plain f_is_plain rfl (good_of h1 h2 h3 h4 h5) (by decide) c_is_plain
theorem ff_has_step (T : TopF K mg) : FnFact P w K mg base 6 "has_step" [false, false] F_has_step := by
  have h1 : FnFacts P w K mg base 5 [("is_tuple", [false, false, false]), ("is_from", [false, false, false]), ("is_plain", [false, false])] fs_has_step := (.cons ((ff_is_tuple T).mono (by decide)) (.cons ((ff_is_from T).mono (by decide)) (.cons ((ff_is_plain T).mono (by decide)) FnFacts.nil)))
  have h2 : ConFacts K mg [] cs_has_step := ConFacts.nil
  have h3 : ∀ x ∈ (["isinstance", "str", "all"] : List Str), mg x = none := (by simp [T.z_isinstance, T.z_str, T.z_all])
  have h4 : ∀ x ∈ ([] : List Str), ExcF K mg x := (by simp)
  have h5 : ∀ x ∈ ([] : List Str), ∀ y ∈ ([] : List Str), ExmF K mg x y := (by simp)
  exact DefF.ok T.d_has_step f_has_step rfl (good_of h1 h2 h3 h4 h5) (by decide) c_has_step
theorem ff_changed (T : TopF K mg) : FnFact P w K mg base 2 "changed" [false, false, false] F_changed := by
  have h1 : FnFacts P w K mg base 1 [] fs_changed := FnFacts.nil
  have h2 : ConFacts K mg [] cs_changed := ConFacts.nil
  have h3 : ∀ x ∈ ([] : List Str), mg x = none := (by simp)
  have h4 : ∀ x ∈ ([] : List Str), ExcF K mg x := (by simp)
  have h5 : ∀ x ∈ ([] : List Str), ∀ y ∈ ([] : List Str), ExmF K mg x y := (by simp)
  exact DefF.ok T.d_changed f_changed rfl (good_of h1 h2 h3 h4 h5) (by decide) c_changed
theorem ff_row_table (T : TopF K mg) : FnFact P w K mg base 3 "row_table" [false, false] F_row_table := by
  have h1 : FnFacts P w K mg base 2 [("changed", [false, false, false])] fs_row_table := (.cons ((ff_changed T).mono (by decide)) FnFacts.nil)
  have h2 : ConFacts K mg [] cs_row_table := ConFacts.nil
  have h3 : ∀ x ∈ (["list", "range", "tuple", "int"] : List Str), mg x = none := (by simp [T.z_list, T.z_range, T.z_tuple, T.z_int])
  have h4 : ∀ x ∈ ([] : List Str), ExcF K mg x := (by simp)
  have h5 : ∀ x ∈ ([] : List Str), ∀ y ∈ ([] : List Str), ExmF K mg x y := (by simp)
  exact DefF.ok T.d_row_table f_row_table rfl (good_of h1 h2 h3 h4 h5) (by decide) c_row_table
theorem ff_holding_line (T : TopF K mg) : FnFact P w K mg base 3 "holding_line" [false, false, false] F_holding_line := by
  have h1 : FnFacts P w K mg base 2 [("changed", [false, false, false])] fs_holding_line := (.cons ((ff_changed T).mono (by decide)) FnFacts.nil)
  have h2 : ConFacts K mg [] cs_holding_line := ConFacts.nil
  have h3 : ∀ x ∈ (["range", "int", "tuple"] : List Str), mg x = none := (by simp [T.z_range, T.z_int, T.z_tuple])
  have h4 : ∀ x ∈ ([] : List Str), ExcF K mg x := (by simp)
  have h5 : ∀ x ∈ ([] : List Str), ∀ y ∈ ([] : List Str), ExmF K mg x y := (by simp)
  exact DefF.ok T.d_holding_line f_holding_line rfl (good_of h1 h2 h3 h4 h5) (by decide) c_holding_line
theorem ff_walk_of (T : TopF K mg) : FnFact P w K mg base 4 "walk_of" [false, false] F_walk_of := by
  have h1 : FnFacts P w K mg base 3 [("changed", [false, false, false]), ("holding_line", [false, false, false]), ("row_table", [false, false])] fs_walk_of := (.cons ((ff_changed T).mono (by decide)) (.cons ((ff_holding_line T).mono (by decide)) (.cons ((ff_row_table T).mono (by decide)) FnFacts.nil)))
  have h2 : ConFacts K mg [] cs_walk_of := ConFacts.nil
  have h3 : ∀ x ∈ (["list", "range", "tuple", "int"] : List Str), mg x = none := (by simp [T.z_list, T.z_range, T.z_tuple, T.z_int])
  have h4 : ∀ x ∈ ([] : List Str), ExcF K mg x := (by simp)
  have h5 : ∀ x ∈ ([] : List Str), ∀ y ∈ ([] : List Str), ExmF K mg x y := (by simp)
  exact DefF.ok T.d_walk_of f_walk_of rfl (good_of h1 h2 h3 h4 h5) (by decide) c_walk_of
theorem ff_spread (T : TopF K mg) : FnFact P w K mg base 68 "spread" [false, false] F_spread := by
  have h1 : FnFacts P w K mg base 4 [("walk_of", [false, false])] fs_spread := (.cons ((ff_walk_of T).mono (by decide)) FnFacts.nil)
  have h2 : ConFacts K mg [] cs_spread := ConFacts.nil
  have h3 : ∀ x ∈ ([] : List Str), mg x = none := (by simp)
  have h4 : ∀ x ∈ ([] : List Str), ExcF K mg x := (by simp)
  have h5 : ∀ x ∈ ([] : List Str), ∀ y ∈ ([] : List Str), ExmF K mg x y := (by simp)
  exact DefF.recur T.d_spread f_spread rfl h1 h2 h3 h4 h5 (by decide) c_spread 64
theorem ff_notes_of (T : TopF K mg) : FnFact P w K mg base 2 "notes_of" [false] F_notes_of := by
  have h1 : FnFacts P w K mg base 1 [] fs_notes_of := FnFacts.nil
  have h2 : ConFacts K mg [] cs_notes_of := ConFacts.nil
  have h3 : ∀ x ∈ (["len"] : List Str), mg x = none := (by simp [T.z_len])
  have h4 : ∀ x ∈ ([] : List Str), ExcF K mg x := (by simp)
  have h5 : ∀ x ∈ ([] : List Str), ∀ y ∈ ([] : List Str), ExmF K mg x y := (by simp)
  exact DefF.ok T.d_notes_of f_notes_of rfl (good_of h1 h2 h3 h4 h5) (by decide) c_notes_of
theorem ff_has_script (T : TopF K mg) : FnFact P w K mg base 69 "has_script" [false] F_has_script := by
  have h1 : FnFacts P w K mg base 68 [("is_tuple", [false, false, false]), ("is_from", [false, false, false]), ("has_step", [false, false]), ("spread", [false, false]), ("notes_of", [false])] fs_has_script := (.cons ((ff_is_tuple T).mono (by decide)) (.cons ((ff_is_from T).mono (by decide)) (.cons ((ff_has_step T).mono (by decide)) (.cons ((ff_spread T).mono (by decide)) (.cons ((ff_notes_of T).mono (by decide)) FnFacts.nil)))))
  have h2 : ConFacts K mg ["MOST_STEPS", "MOST_WALKS", "MOST_NOTES"] cs_has_script := (.cons T.n_MOST_STEPS (.cons T.n_MOST_WALKS (.cons T.n_MOST_NOTES ConFacts.nil)))
  have h3 : ∀ x ∈ (["all", "len"] : List Str), mg x = none := (by simp [T.z_all, T.z_len])
  have h4 : ∀ x ∈ ([] : List Str), ExcF K mg x := (by simp)
  have h5 : ∀ x ∈ ([] : List Str), ∀ y ∈ ([] : List Str), ExmF K mg x y := (by simp)
  exact DefF.ok T.d_has_script f_has_script rfl (good_of h1 h2 h3 h4 h5) (by decide) c_has_script
theorem ff_need_script (T : TopF K mg) : FnFact P w K mg base 70 "need_script" [false] F_need_script := by
  have h1 : FnFacts P w K mg base 69 [("has_script", [false])] fs_need_script := (.cons ((ff_has_script T).mono (by decide)) FnFacts.nil)
  have h2 : ConFacts K mg [] cs_need_script := ConFacts.nil
  have h3 : ∀ x ∈ ([] : List Str), mg x = none := (by simp)
  have h4 : ∀ x ∈ (["InvalidScript"] : List Str), ExcF K mg x := (by simp [T.e_InvalidScript])
  have h5 : ∀ x ∈ ([] : List Str), ∀ y ∈ ([] : List Str), ExmF K mg x y := (by simp)
  exact DefF.ok T.d_need_script f_need_script rfl (good_of h1 h2 h3 h4 h5) (by decide) c_need_script
theorem ff_is_kept (T : TopF K mg) : FnFact P w K mg base 66 "is_kept" [false, false, false] F_is_kept := by
  have h1 : FnFacts P w K mg base 2 [("is_tuple", [false, false, false]), ("is_from", [false, false, false])] fs_is_kept := (.cons ((ff_is_tuple T).mono (by decide)) (.cons ((ff_is_from T).mono (by decide)) FnFacts.nil))
  have h2 : ConFacts K mg ["MOST_BOXES"] cs_is_kept := (.cons T.n_MOST_BOXES ConFacts.nil)
  have h3 : ∀ x ∈ (["isinstance", "tuple", "len"] : List Str), mg x = none := (by simp [T.z_isinstance, T.z_tuple, T.z_len])
  have h4 : ∀ x ∈ ([] : List Str), ExcF K mg x := (by simp)
  have h5 : ∀ x ∈ ([] : List Str), ∀ y ∈ ([] : List Str), ExmF K mg x y := (by simp)
  exact DefF.recur T.d_is_kept f_is_kept rfl h1 h2 h3 h4 h5 (by decide) c_is_kept 64
theorem ff_boxes_of (T : TopF K mg) : FnFact P w K mg base 65 "boxes_of" [false] F_boxes_of := by
  have h1 : FnFacts P w K mg base 1 [] fs_boxes_of := FnFacts.nil
  have h2 : ConFacts K mg [] cs_boxes_of := ConFacts.nil
  have h3 : ∀ x ∈ (["sum"] : List Str), mg x = none := (by simp [T.z_sum])
  have h4 : ∀ x ∈ ([] : List Str), ExcF K mg x := (by simp)
  have h5 : ∀ x ∈ ([] : List Str), ∀ y ∈ ([] : List Str), ExmF K mg x y := (by simp)
  exact DefF.recur T.d_boxes_of f_boxes_of rfl h1 h2 h3 h4 h5 (by decide) c_boxes_of 64
theorem ff_has_nesting (T : TopF K mg) : FnFact P w K mg base 67 "has_nesting" [false, false] F_has_nesting := by
  have h1 : FnFacts P w K mg base 66 [("is_kept", [false, false, false]), ("boxes_of", [false])] fs_has_nesting := (.cons ((ff_is_kept T).mono (by decide)) (.cons ((ff_boxes_of T).mono (by decide)) FnFacts.nil))
  have h2 : ConFacts K mg ["MOST_DEEP", "MOST_BOXES"] cs_has_nesting := (.cons T.n_MOST_DEEP (.cons T.n_MOST_BOXES ConFacts.nil))
  have h3 : ∀ x ∈ ([] : List Str), mg x = none := (by simp)
  have h4 : ∀ x ∈ ([] : List Str), ExcF K mg x := (by simp)
  have h5 : ∀ x ∈ ([] : List Str), ∀ y ∈ ([] : List Str), ExmF K mg x y := (by simp)
  exact DefF.ok T.d_has_nesting f_has_nesting rfl (good_of h1 h2 h3 h4 h5) (by decide) c_has_nesting
theorem ff_need_nesting (T : TopF K mg) : FnFact P w K mg base 68 "need_nesting" [false, false] F_need_nesting := by
  have h1 : FnFacts P w K mg base 67 [("has_nesting", [false, false])] fs_need_nesting := (.cons ((ff_has_nesting T).mono (by decide)) FnFacts.nil)
  have h2 : ConFacts K mg [] cs_need_nesting := ConFacts.nil
  have h3 : ∀ x ∈ ([] : List Str), mg x = none := (by simp)
  have h4 : ∀ x ∈ (["InvalidNesting"] : List Str), ExcF K mg x := (by simp [T.e_InvalidNesting])
  have h5 : ∀ x ∈ ([] : List Str), ∀ y ∈ ([] : List Str), ExmF K mg x y := (by simp)
  exact DefF.ok T.d_need_nesting f_need_nesting rfl (good_of h1 h2 h3 h4 h5) (by decide) c_need_nesting
theorem ff_inward (T : TopF K mg) : FnFact P w K mg base 65 "inward" [false, false, false] F_inward := by
  have h1 : FnFacts P w K mg base 1 [] fs_inward := FnFacts.nil
  have h2 : ConFacts K mg [] cs_inward := ConFacts.nil
  have h3 : ∀ x ∈ ([] : List Str), mg x = none := (by simp)
  have h4 : ∀ x ∈ ([] : List Str), ExcF K mg x := (by simp)
  have h5 : ∀ x ∈ ([] : List Str), ∀ y ∈ ([] : List Str), ExmF K mg x y := (by simp)
  exact DefF.recur T.d_inward f_inward rfl h1 h2 h3 h4 h5 (by decide) c_inward 64
theorem ff_outward (T : TopF K mg) : FnFact P w K mg base 65 "outward" [false, false, false] F_outward := by
  have h1 : FnFacts P w K mg base 1 [] fs_outward := FnFacts.nil
  have h2 : ConFacts K mg [] cs_outward := ConFacts.nil
  have h3 : ∀ x ∈ ([] : List Str), mg x = none := (by simp)
  have h4 : ∀ x ∈ ([] : List Str), ExcF K mg x := (by simp)
  have h5 : ∀ x ∈ ([] : List Str), ∀ y ∈ ([] : List Str), ExmF K mg x y := (by simp)
  exact DefF.recur T.d_outward f_outward rfl h1 h2 h3 h4 h5 (by decide) c_outward 64
theorem ff_walked (T : TopF K mg) : FnFact P w K mg base 66 "walked" [false, false] F_walked := by
  have h1 : FnFacts P w K mg base 65 [("inward", [false, false, false]), ("outward", [false, false, false])] fs_walked := (.cons ((ff_inward T).mono (by decide)) (.cons ((ff_outward T).mono (by decide)) FnFacts.nil))
  have h2 : ConFacts K mg [] cs_walked := ConFacts.nil
  have h3 : ∀ x ∈ ([] : List Str), mg x = none := (by simp)
  have h4 : ∀ x ∈ ([] : List Str), ExcF K mg x := (by simp)
  have h5 : ∀ x ∈ ([] : List Str), ∀ y ∈ ([] : List Str), ExmF K mg x y := (by simp)
  exact DefF.ok T.d_walked f_walked rfl (good_of h1 h2 h3 h4 h5) (by decide) c_walked
theorem ff_need_both (T : TopF K mg) : FnFact P w K mg base 71 "need_both" [false, false] F_need_both := by
  have h1 : FnFacts P w K mg base 70 [("need_script", [false]), ("need_nesting", [false, false])] fs_need_both := (.cons ((ff_need_script T).mono (by decide)) (.cons ((ff_need_nesting T).mono (by decide)) FnFacts.nil))
  have h2 : ConFacts K mg [] cs_need_both := ConFacts.nil
  have h3 : ∀ x ∈ ([] : List Str), mg x = none := (by simp)
  have h4 : ∀ x ∈ ([] : List Str), ExcF K mg x := (by simp)
  have h5 : ∀ x ∈ ([] : List Str), ∀ y ∈ ([] : List Str), ExmF K mg x y := (by simp)
  exact DefF.ok T.d_need_both f_need_both rfl (good_of h1 h2 h3 h4 h5) (by decide) c_need_both
theorem ff_led (T : TopF K mg) : FnFact P w K mg base 69 "led" [false, false] F_led := by
  have h1 : FnFacts P w K mg base 68 [("spread", [false, false]), ("walked", [false, false])] fs_led := (.cons ((ff_spread T).mono (by decide)) (.cons ((ff_walked T).mono (by decide)) FnFacts.nil))
  have h2 : ConFacts K mg [] cs_led := ConFacts.nil
  have h3 : ∀ x ∈ ([] : List Str), mg x = none := (by simp)
  have h4 : ∀ x ∈ ([] : List Str), ExcF K mg x := (by simp)
  have h5 : ∀ x ∈ ([] : List Str), ∀ y ∈ ([] : List Str), ExmF K mg x y := (by simp)
  exact DefF.ok T.d_led f_led rfl (good_of h1 h2 h3 h4 h5) (by decide) c_led
theorem ff_ran (T : TopF K mg) : FnFact P w K mg base 70 "ran" [false, false] F_ran := by
  have h1 : FnFacts P w K mg base 69 [("led", [false, false])] fs_ran := (.cons ((ff_led T).mono (by decide)) FnFacts.nil)
  have h2 : ConFacts K mg [] cs_ran := ConFacts.nil
  have h3 : ∀ x ∈ ([] : List Str), mg x = none := (by simp)
  have h4 : ∀ x ∈ ([] : List Str), ExcF K mg x := (by simp)
  have h5 : ∀ x ∈ ([] : List Str), ∀ y ∈ ([] : List Str), ExmF K mg x y := (by simp)
  exact DefF.ok T.d_ran f_ran rfl (good_of h1 h2 h3 h4 h5) (by decide) c_ran
theorem ff_run (T : TopF K mg) : FnFact P w K mg base 72 "run" [false, false] F_run := by
  have h1 : FnFacts P w K mg base 71 [("need_both", [false, false]), ("ran", [false, false])] fs_run := (.cons ((ff_need_both T).mono (by decide)) (.cons ((ff_ran T).mono (by decide)) FnFacts.nil))
  have h2 : ConFacts K mg [] cs_run := ConFacts.nil
  have h3 : ∀ x ∈ ([] : List Str), mg x = none := (by simp)
  have h4 : ∀ x ∈ ([] : List Str), ExcF K mg x := (by simp)
  have h5 : ∀ x ∈ ([] : List Str), ∀ y ∈ ([] : List Str), ExmF K mg x y := (by simp)
  exact DefF.ok T.d_run f_run rfl (good_of h1 h2 h3 h4 h5) (by decide) c_run
theorem ff_stages (T : TopF K mg) : FnFact P w K mg base 72 "stages" [false, false] F_stages := by
  have h1 : FnFacts P w K mg base 71 [("need_both", [false, false]), ("led", [false, false])] fs_stages := (.cons ((ff_need_both T).mono (by decide)) (.cons ((ff_led T).mono (by decide)) FnFacts.nil))
  have h2 : ConFacts K mg [] cs_stages := ConFacts.nil
  have h3 : ∀ x ∈ ([] : List Str), mg x = none := (by simp)
  have h4 : ∀ x ∈ ([] : List Str), ExcF K mg x := (by simp)
  have h5 : ∀ x ∈ ([] : List Str), ∀ y ∈ ([] : List Str), ExmF K mg x y := (by simp)
  exact DefF.ok T.d_stages f_stages rfl (good_of h1 h2 h3 h4 h5) (by decide) c_stages
theorem ff_brought (T : TopF K mg) : FnFact P w K mg base 72 "brought" [false, false] F_brought := by
  have h1 : FnFacts P w K mg base 71 [("need_both", [false, false]), ("spread", [false, false]), ("led", [false, false]), ("outward", [false, false, false])] fs_brought := (.cons ((ff_need_both T).mono (by decide)) (.cons ((ff_spread T).mono (by decide)) (.cons ((ff_led T).mono (by decide)) (.cons ((ff_outward T).mono (by decide)) FnFacts.nil))))
  have h2 : ConFacts K mg [] cs_brought := ConFacts.nil
  have h3 : ∀ x ∈ (["zip"] : List Str), mg x = none := (by simp [T.z_zip])
  have h4 : ∀ x ∈ ([] : List Str), ExcF K mg x := (by simp)
  have h5 : ∀ x ∈ ([] : List Str), ∀ y ∈ ([] : List Str), ExmF K mg x y := (by simp)
  exact DefF.ok T.d_brought f_brought rfl (good_of h1 h2 h3 h4 h5) (by decide) c_brought
theorem ff__law_source (T : TopF K mg) : FnFact P w K mg base 2 "_law_source" [false, false] F__law_source := by
  have h1 : FnFacts P w K mg base 1 [] fs__law_source := FnFacts.nil
  have h2 : ConFacts K mg [] cs__law_source := ConFacts.nil
  have h3 : ∀ x ∈ (["len", "abs", "int"] : List Str), mg x = none := (by simp [T.z_len, T.z_abs, T.z_int])
  have h4 : ∀ x ∈ ([] : List Str), ExcF K mg x := (by simp)
  have h5 : ∀ x ∈ ([] : List Str), ∀ y ∈ ([] : List Str), ExmF K mg x y := (by simp)
  exact DefF.ok T.d__law_source f__law_source rfl (good_of h1 h2 h3 h4 h5) (by decide) c__law_source
theorem ff__law_draw (T : TopF K mg) : FnFact P w K mg base 2 "_law_draw" [true, false] F__law_draw := by
  have h1 : FnFacts P w K mg base 1 [] fs__law_draw := FnFacts.nil
  have h2 : ConFacts K mg [] cs__law_draw := ConFacts.nil
  have h3 : ∀ x ∈ (["int"] : List Str), mg x = none := (by simp [T.z_int])
  have h4 : ∀ x ∈ ([] : List Str), ExcF K mg x := (by simp)
  have h5 : ∀ x ∈ ([] : List Str), ∀ y ∈ ([] : List Str), ExmF K mg x y := (by simp)
  exact DefF.ok T.d__law_draw f__law_draw rfl (good_of h1 h2 h3 h4 h5) (by decide) c__law_draw
theorem ff__law_choice (T : TopF K mg) : FnFact P w K mg base 3 "_law_choice" [true, false] F__law_choice := by
  have h1 : FnFacts P w K mg base 2 [("_law_draw", [true, false])] fs__law_choice := (.cons ((ff__law_draw T).mono (by decide)) FnFacts.nil)
  have h2 : ConFacts K mg [] cs__law_choice := ConFacts.nil
  have h3 : ∀ x ∈ (["len"] : List Str), mg x = none := (by simp [T.z_len])
  have h4 : ∀ x ∈ ([] : List Str), ExcF K mg x := (by simp)
  have h5 : ∀ x ∈ ([] : List Str), ∀ y ∈ ([] : List Str), ExmF K mg x y := (by simp)
  exact DefF.ok T.d__law_choice f__law_choice rfl (good_of h1 h2 h3 h4 h5) (by decide) c__law_choice
theorem ff__law_line (T : TopF K mg) : FnFact P w K mg base 4 "_law_line" [true, false, false] F__law_line := by
  have h1 : FnFacts P w K mg base 3 [("_law_draw", [true, false]), ("_law_choice", [true, false])] fs__law_line := (.cons ((ff__law_draw T).mono (by decide)) (.cons ((ff__law_choice T).mono (by decide)) FnFacts.nil))
  have h2 : ConFacts K mg [] cs__law_line := ConFacts.nil
  have h3 : ∀ x ∈ (["list", "range"] : List Str), mg x = none := (by simp [T.z_list, T.z_range])
  have h4 : ∀ x ∈ ([] : List Str), ExcF K mg x := (by simp)
  have h5 : ∀ x ∈ ([] : List Str), ∀ y ∈ ([] : List Str), ExmF K mg x y := (by simp)
  exact DefF.ok T.d__law_line f__law_line rfl (good_of h1 h2 h3 h4 h5) (by decide) c__law_line
theorem ff__law_lot (T : TopF K mg) : FnFact P w K mg base 5 "_law_lot" [true, false, false, false] F__law_lot := by
  have h1 : FnFacts P w K mg base 4 [("_law_line", [true, false, false])] fs__law_lot := (.cons ((ff__law_line T).mono (by decide)) FnFacts.nil)
  have h2 : ConFacts K mg [] cs__law_lot := ConFacts.nil
  have h3 : ∀ x ∈ (["tuple", "range"] : List Str), mg x = none := (by simp [T.z_tuple, T.z_range])
  have h4 : ∀ x ∈ ([] : List Str), ExcF K mg x := (by simp)
  have h5 : ∀ x ∈ ([] : List Str), ∀ y ∈ ([] : List Str), ExmF K mg x y := (by simp)
  exact DefF.ok T.d__law_lot f__law_lot rfl (good_of h1 h2 h3 h4 h5) (by decide) c__law_lot
theorem ff__law_plain (T : TopF K mg) : FnFact P w K mg base 6 "_law_plain" [true, false, false] F__law_plain := by
  have h1 : FnFacts P w K mg base 5 [("_law_choice", [true, false]), ("_law_draw", [true, false]), ("_law_lot", [true, false, false, false])] fs__law_plain := (.cons ((ff__law_choice T).mono (by decide)) (.cons ((ff__law_draw T).mono (by decide)) (.cons ((ff__law_lot T).mono (by decide)) FnFacts.nil)))
  have h2 : ConFacts K mg [] cs__law_plain := ConFacts.nil
  have h3 : ∀ x ∈ (["int", "range", "min", "tuple"] : List Str), mg x = none := (by simp [T.z_int, T.z_range, T.z_min, T.z_tuple])
  have h4 : ∀ x ∈ ([] : List Str), ExcF K mg x := (by simp)
  have h5 : ∀ x ∈ ([] : List Str), ∀ y ∈ ([] : List Str), ExmF K mg x y := (by simp)
  exact DefF.ok T.d__law_plain f__law_plain rfl (good_of h1 h2 h3 h4 h5) (by decide) c__law_plain
theorem ff__law_width (T : TopF K mg) : FnFact P w K mg base 2 "_law_width" [false] F__law_width := by
  have h1 : FnFacts P w K mg base 1 [] fs__law_width := FnFacts.nil
  have h2 : ConFacts K mg [] cs__law_width := ConFacts.nil
  have h3 : ∀ x ∈ (["len"] : List Str), mg x = none := (by simp [T.z_len])
  have h4 : ∀ x ∈ ([] : List Str), ExcF K mg x := (by simp)
  have h5 : ∀ x ∈ ([] : List Str), ∀ y ∈ ([] : List Str), ExmF K mg x y := (by simp)
  exact DefF.ok T.d__law_width f__law_width rfl (good_of h1 h2 h3 h4 h5) (by decide) c__law_width
theorem ff__law_script (T : TopF K mg) : FnFact P w K mg base 7 "_law_script" [true, false, false] F__law_script := by
  have h1 : FnFacts P w K mg base 6 [("_law_choice", [true, false]), ("_law_draw", [true, false]), ("_law_plain", [true, false, false]), ("_law_width", [false])] fs__law_script := (.cons ((ff__law_choice T).mono (by decide)) (.cons ((ff__law_draw T).mono (by decide)) (.cons ((ff__law_plain T).mono (by decide)) (.cons ((ff__law_width T).mono (by decide)) FnFacts.nil))))
  have h2 : ConFacts K mg [] cs__law_script := ConFacts.nil
  have h3 : ∀ x ∈ (["range"] : List Str), mg x = none := (by simp [T.z_range])
  have h4 : ∀ x ∈ ([] : List Str), ExcF K mg x := (by simp)
  have h5 : ∀ x ∈ ([] : List Str), ∀ y ∈ ([] : List Str), ExmF K mg x y := (by simp)
  exact DefF.ok T.d__law_script f__law_script rfl (good_of h1 h2 h3 h4 h5) (by decide) c__law_script
theorem ff__law_other (T : TopF K mg) : FnFact P w K mg base 2 "_law_other" [false, false, false] F__law_other := by
  have h1 : FnFacts P w K mg base 1 [] fs__law_other := FnFacts.nil
  have h2 : ConFacts K mg [] cs__law_other := ConFacts.nil
  have h3 : ∀ x ∈ ([] : List Str), mg x = none := (by simp)
  have h4 : ∀ x ∈ ([] : List Str), ExcF K mg x := (by simp)
  have h5 : ∀ x ∈ ([] : List Str), ∀ y ∈ ([] : List Str), ExmF K mg x y := (by simp)
  exact DefF.ok T.d__law_other f__law_other rfl (good_of h1 h2 h3 h4 h5) (by decide) c__law_other
theorem ff__law_row_pair (T : TopF K mg) : FnFact P w K mg base 3 "_law_row_pair" [false, false, false] F__law_row_pair := by
  have h1 : FnFacts P w K mg base 2 [("_law_other", [false, false, false])] fs__law_row_pair := (.cons ((ff__law_other T).mono (by decide)) FnFacts.nil)
  have h2 : ConFacts K mg [] cs__law_row_pair := ConFacts.nil
  have h3 : ∀ x ∈ (["int"] : List Str), mg x = none := (by simp [T.z_int])
  have h4 : ∀ x ∈ ([] : List Str), ExcF K mg x := (by simp)
  have h5 : ∀ x ∈ ([] : List Str), ∀ y ∈ ([] : List Str), ExmF K mg x y := (by simp)
  exact DefF.ok T.d__law_row_pair f__law_row_pair rfl (good_of h1 h2 h3 h4 h5) (by decide) c__law_row_pair
theorem ff__law_out_pair (T : TopF K mg) : FnFact P w K mg base 4 "_law_out_pair" [false, false, false, false] F__law_out_pair := by
  have h1 : FnFacts P w K mg base 3 [("_law_row_pair", [false, false, false]), ("_law_other", [false, false, false])] fs__law_out_pair := (.cons ((ff__law_row_pair T).mono (by decide)) (.cons ((ff__law_other T).mono (by decide)) FnFacts.nil))
  have h2 : ConFacts K mg [] cs__law_out_pair := ConFacts.nil
  have h3 : ∀ x ∈ (["max", "int"] : List Str), mg x = none := (by simp [T.z_max, T.z_int])
  have h4 : ∀ x ∈ ([] : List Str), ExcF K mg x := (by simp)
  have h5 : ∀ x ∈ ([] : List Str), ∀ y ∈ ([] : List Str), ExmF K mg x y := (by simp)
  exact DefF.ok T.d__law_out_pair f__law_out_pair rfl (good_of h1 h2 h3 h4 h5) (by decide) c__law_out_pair
theorem ff__law_lines (T : TopF K mg) : FnFact P w K mg base 5 "_law_lines" [false, false] F__law_lines := by
  have h1 : FnFacts P w K mg base 4 [("_law_other", [false, false, false]), ("_law_out_pair", [false, false, false, false])] fs__law_lines := (.cons ((ff__law_other T).mono (by decide)) (.cons ((ff__law_out_pair T).mono (by decide)) FnFacts.nil))
  have h2 : ConFacts K mg [] cs__law_lines := ConFacts.nil
  have h3 : ∀ x ∈ (["tuple", "range", "int"] : List Str), mg x = none := (by simp [T.z_tuple, T.z_range, T.z_int])
  have h4 : ∀ x ∈ ([] : List Str), ExcF K mg x := (by simp)
  have h5 : ∀ x ∈ ([] : List Str), ∀ y ∈ ([] : List Str), ExmF K mg x y := (by simp)
  exact DefF.ok T.d__law_lines f__law_lines rfl (good_of h1 h2 h3 h4 h5) (by decide) c__law_lines
theorem ff__law_walks (T : TopF K mg) : FnFact P w K mg base 6 "_law_walks" [false] F__law_walks := by
  have h1 : FnFacts P w K mg base 5 [("_law_lines", [false, false])] fs__law_walks := (.cons ((ff__law_lines T).mono (by decide)) FnFacts.nil)
  have h2 : ConFacts K mg [] cs__law_walks := ConFacts.nil
  have h3 : ∀ x ∈ ([] : List Str), mg x = none := (by simp)
  have h4 : ∀ x ∈ ([] : List Str), ExcF K mg x := (by simp)
  have h5 : ∀ x ∈ ([] : List Str), ∀ y ∈ ([] : List Str), ExmF K mg x y := (by simp)
  exact DefF.ok T.d__law_walks f__law_walks rfl (good_of h1 h2 h3 h4 h5) (by decide) c__law_walks
theorem ff__law_inward (T : TopF K mg) : FnFact P w K mg base 65 "_law_inward" [false, false, false] F__law_inward := by
  have h1 : FnFacts P w K mg base 1 [] fs__law_inward := FnFacts.nil
  have h2 : ConFacts K mg [] cs__law_inward := ConFacts.nil
  have h3 : ∀ x ∈ (["tuple"] : List Str), mg x = none := (by simp [T.z_tuple])
  have h4 : ∀ x ∈ ([] : List Str), ExcF K mg x := (by simp)
  have h5 : ∀ x ∈ ([] : List Str), ∀ y ∈ ([] : List Str), ExmF K mg x y := (by simp)
  exact DefF.recur T.d__law_inward f__law_inward rfl h1 h2 h3 h4 h5 (by decide) c__law_inward 64
theorem ff__law_outward (T : TopF K mg) : FnFact P w K mg base 65 "_law_outward" [false, false, false] F__law_outward := by
  have h1 : FnFacts P w K mg base 1 [] fs__law_outward := FnFacts.nil
  have h2 : ConFacts K mg [] cs__law_outward := ConFacts.nil
  have h3 : ∀ x ∈ (["tuple"] : List Str), mg x = none := (by simp [T.z_tuple])
  have h4 : ∀ x ∈ ([] : List Str), ExcF K mg x := (by simp)
  have h5 : ∀ x ∈ ([] : List Str), ∀ y ∈ ([] : List Str), ExmF K mg x y := (by simp)
  exact DefF.recur T.d__law_outward f__law_outward rfl h1 h2 h3 h4 h5 (by decide) c__law_outward 64
theorem ff__law_walked (T : TopF K mg) : FnFact P w K mg base 66 "_law_walked" [false, false] F__law_walked := by
  have h1 : FnFacts P w K mg base 65 [("_law_inward", [false, false, false]), ("_law_outward", [false, false, false])] fs__law_walked := (.cons ((ff__law_inward T).mono (by decide)) (.cons ((ff__law_outward T).mono (by decide)) FnFacts.nil))
  have h2 : ConFacts K mg [] cs__law_walked := ConFacts.nil
  have h3 : ∀ x ∈ ([] : List Str), mg x = none := (by simp)
  have h4 : ∀ x ∈ ([] : List Str), ExcF K mg x := (by simp)
  have h5 : ∀ x ∈ ([] : List Str), ∀ y ∈ ([] : List Str), ExmF K mg x y := (by simp)
  exact DefF.ok T.d__law_walked f__law_walked rfl (good_of h1 h2 h3 h4 h5) (by decide) c__law_walked
theorem ff__law_put (T : TopF K mg) : FnFact P w K mg base 65 "_law_put" [false, false, false] F__law_put := by
  have h1 : FnFacts P w K mg base 1 [] fs__law_put := FnFacts.nil
  have h2 : ConFacts K mg [] cs__law_put := ConFacts.nil
  have h3 : ∀ x ∈ ([] : List Str), mg x = none := (by simp)
  have h4 : ∀ x ∈ ([] : List Str), ExcF K mg x := (by simp)
  have h5 : ∀ x ∈ ([] : List Str), ∀ y ∈ ([] : List Str), ExmF K mg x y := (by simp)
  exact DefF.recur T.d__law_put f__law_put rfl h1 h2 h3 h4 h5 (by decide) c__law_put 64
theorem ff__law_nesting (T : TopF K mg) : FnFact P w K mg base 66 "_law_nesting" [true, false, false] F__law_nesting := by
  have h1 : FnFacts P w K mg base 65 [("_law_draw", [true, false]), ("_law_put", [false, false, false])] fs__law_nesting := (.cons ((ff__law_draw T).mono (by decide)) (.cons ((ff__law_put T).mono (by decide)) FnFacts.nil))
  have h2 : ConFacts K mg [] cs__law_nesting := ConFacts.nil
  have h3 : ∀ x ∈ (["range"] : List Str), mg x = none := (by simp [T.z_range])
  have h4 : ∀ x ∈ ([] : List Str), ExcF K mg x := (by simp)
  have h5 : ∀ x ∈ ([] : List Str), ∀ y ∈ ([] : List Str), ExmF K mg x y := (by simp)
  exact DefF.ok T.d__law_nesting f__law_nesting rfl (good_of h1 h2 h3 h4 h5) (by decide) c__law_nesting
theorem ff__law_refused (T : TopF K mg) : FnFact P w K mg base 73 "_law_refused" [false, false] F__law_refused := by
  have h1 : FnFacts P w K mg base 72 [("run", [false, false]), ("stages", [false, false]), ("brought", [false, false])] fs__law_refused := (.cons ((ff_run T).mono (by decide)) (.cons ((ff_stages T).mono (by decide)) (.cons ((ff_brought T).mono (by decide)) FnFacts.nil)))
  have h2 : ConFacts K mg ["run", "stages", "brought"] cs__law_refused := (.cons T.n_run (.cons T.n_stages (.cons T.n_brought ConFacts.nil)))
  have h3 : ∀ x ∈ ([] : List Str), mg x = none := (by simp)
  have h4 : ∀ x ∈ ([] : List Str), ExcF K mg x := (by simp)
  have h5 : ∀ x ∈ (["InvalidScript", "InvalidNesting"] : List Str), ∀ y ∈ (["InvalidScript", "InvalidNesting"] : List Str), ExmF K mg x y := T.km
  exact DefF.ok T.d__law_refused f__law_refused rfl (good_of h1 h2 h3 h4 h5) (by decide) c__law_refused
theorem ff_law (T : TopF K mg) : FnFact P w K mg base 74 "law" [false] F_law := by
  have h1 : FnFacts P w K mg base 73 [("_law_source", [false, false]), ("_law_script", [true, false, false]), ("_law_nesting", [true, false, false]), ("_law_choice", [true, false]), ("_law_walks", [false]), ("_law_outward", [false, false, false]), ("_law_walked", [false, false]), ("run", [false, false]), ("stages", [false, false]), ("brought", [false, false]), ("_law_refused", [false, false])] fs_law := (.cons ((ff__law_source T).mono (by decide)) (.cons ((ff__law_script T).mono (by decide)) (.cons ((ff__law_nesting T).mono (by decide)) (.cons ((ff__law_choice T).mono (by decide)) (.cons ((ff__law_walks T).mono (by decide)) (.cons ((ff__law_outward T).mono (by decide)) (.cons ((ff__law_walked T).mono (by decide)) (.cons ((ff_run T).mono (by decide)) (.cons ((ff_stages T).mono (by decide)) (.cons ((ff_brought T).mono (by decide)) (.cons ((ff__law_refused T).mono (by decide)) FnFacts.nil)))))))))))
  have h2 : ConFacts K mg [] cs_law := ConFacts.nil
  have h3 : ∀ x ∈ (["range", "min", "len"] : List Str), mg x = none := (by simp [T.z_range, T.z_min, T.z_len])
  have h4 : ∀ x ∈ ([] : List Str), ExcF K mg x := (by simp)
  have h5 : ∀ x ∈ ([] : List Str), ∀ y ∈ ([] : List Str), ExmF K mg x y := (by simp)
  exact DefF.ok T.d_law f_law rfl (good_of h1 h2 h3 h4 h5) (by decide) c_law
theorem ok_law (T : TopF K mg) {f : Addr} {fd : FuncData} (F : FunD K "law" "law" (defArgs b_law) (defBody b_law) (defScope b_law) [] [] f fd) : FnOk P w K mg base (L2.CX P w) 74 f fd P_law (spOf K mg [false] F_law) := by
  have h1 : FnFacts P w K mg base 73 [("_law_source", [false, false]), ("_law_script", [true, false, false]), ("_law_nesting", [true, false, false]), ("_law_choice", [true, false]), ("_law_walks", [false]), ("_law_outward", [false, false, false]), ("_law_walked", [false, false]), ("run", [false, false]), ("stages", [false, false]), ("brought", [false, false]), ("_law_refused", [false, false])] fs_law := (.cons ((ff__law_source T).mono (by decide)) (.cons ((ff__law_script T).mono (by decide)) (.cons ((ff__law_nesting T).mono (by decide)) (.cons ((ff__law_choice T).mono (by decide)) (.cons ((ff__law_walks T).mono (by decide)) (.cons ((ff__law_outward T).mono (by decide)) (.cons ((ff__law_walked T).mono (by decide)) (.cons ((ff_run T).mono (by decide)) (.cons ((ff_stages T).mono (by decide)) (.cons ((ff_brought T).mono (by decide)) (.cons ((ff__law_refused T).mono (by decide)) FnFacts.nil)))))))))))
  have h2 : ConFacts K mg [] cs_law := ConFacts.nil
  have h3 : ∀ x ∈ (["range", "min", "len"] : List Str), mg x = none := (by simp [T.z_range, T.z_min, T.z_len])
  have h4 : ∀ x ∈ ([] : List Str), ExcF K mg x := (by simp)
  have h5 : ∀ x ∈ ([] : List Str), ∀ y ∈ ([] : List Str), ExmF K mg x y := (by simp)
  exact def_ok F f_law rfl (good_of h1 h2 h3 h4 h5) (by decide) c_law
end
def dfn (x : Str) (st : Stmt) : He.DefD := ⟨(x, none), x, x, defArgs st, defBody st, defScope st, [], []⟩
def fnL : List He.DefD := [dfn "is_from" b_is_from, dfn "is_tuple" b_is_tuple, dfn "is_side" b_is_side, dfn "is_line" b_is_line, dfn "is_flat" b_is_flat, dfn "is_deep" b_is_deep, dfn "are_stands" b_are_stands, dfn "is_plain" b_is_plain, dfn "has_step" b_has_step, dfn "changed" b_changed, dfn "row_table" b_row_table, dfn "holding_line" b_holding_line, dfn "walk_of" b_walk_of, dfn "spread" b_spread, dfn "notes_of" b_notes_of, dfn "has_script" b_has_script, dfn "need_script" b_need_script, dfn "is_kept" b_is_kept, dfn "boxes_of" b_boxes_of, dfn "has_nesting" b_has_nesting, dfn "need_nesting" b_need_nesting, dfn "inward" b_inward, dfn "outward" b_outward, dfn "walked" b_walked, dfn "need_both" b_need_both, dfn "led" b_led, dfn "ran" b_ran, dfn "run" b_run, dfn "stages" b_stages, dfn "brought" b_brought, dfn "_law_source" b__law_source, dfn "_law_draw" b__law_draw, dfn "_law_choice" b__law_choice, dfn "_law_line" b__law_line, dfn "_law_lot" b__law_lot, dfn "_law_plain" b__law_plain, dfn "_law_width" b__law_width, dfn "_law_script" b__law_script, dfn "_law_other" b__law_other, dfn "_law_row_pair" b__law_row_pair, dfn "_law_out_pair" b__law_out_pair, dfn "_law_lines" b__law_lines, dfn "_law_walks" b__law_walks, dfn "_law_inward" b__law_inward, dfn "_law_outward" b__law_outward, dfn "_law_walked" b__law_walked, dfn "_law_put" b__law_put, dfn "_law_nesting" b__law_nesting, dfn "_law_refused" b__law_refused, dfn "law" b_law]
def faL : List He.Fa := [.glo "is_from", .glo "is_tuple", .glo "is_side", .glo "is_line", .glo "is_flat", .glo "is_deep", .glo "are_stands", .glo "is_plain", .glo "has_step", .glo "changed", .glo "row_table", .glo "holding_line", .glo "walk_of", .glo "spread", .glo "notes_of", .glo "has_script", .glo "need_script", .glo "is_kept", .glo "boxes_of", .glo "has_nesting", .glo "need_nesting", .glo "inward", .glo "outward", .glo "walked", .glo "need_both", .glo "led", .glo "ran", .glo "run", .glo "stages", .glo "brought", .glo "_law_source", .glo "_law_draw", .glo "_law_choice", .glo "_law_line", .glo "_law_lot", .glo "_law_plain", .glo "_law_width", .glo "_law_script", .glo "_law_other", .glo "_law_row_pair", .glo "_law_out_pair", .glo "_law_lines", .glo "_law_walks", .glo "_law_inward", .glo "_law_outward", .glo "_law_walked", .glo "_law_put", .glo "_law_nesting", .glo "_law_refused", .glo "law", .int "MOST_STEPS" 6, .int "MOST_WALKS" 6, .int "MOST_NOTES" 4, .int "MOST_BOXES" 40, .int "MOST_DEEP" 8, .free "isinstance", .free "int", .free "bool", .free "tuple", .free "len", .free "str", .free "all", .free "list", .free "range", .free "sum", .free "zip", .free "abs", .free "min", .free "max"]
def exL (K : PySem.W.Frag) : Bool := true && tupB K "SIDES" ["left", "right"] && excB K "InvalidScript" && excB K "InvalidNesting" && kmB K ["InvalidScript", "InvalidNesting"]
def loose0 : List PySem.Str := ["NestingError", "InvalidScript", "InvalidNesting", "SIDES", "MOST_STEPS", "MOST_WALKS", "MOST_NOTES", "MOST_BOXES", "MOST_DEEP", "is_from", "is_tuple", "is_side", "is_line", "is_flat", "is_deep", "are_stands", "is_plain", "has_step", "changed", "row_table", "holding_line", "walk_of", "spread", "notes_of", "has_script"]
def loose1 : List PySem.Str := ["need_script", "is_kept", "boxes_of", "has_nesting", "need_nesting", "inward", "outward", "walked", "need_both", "led", "ran", "run", "stages", "brought", "_law_source", "_law_draw", "_law_choice", "_law_line", "_law_lot", "_law_plain", "_law_width", "_law_script", "_law_other", "_law_row_pair", "_law_lines"]
def loose2 : List PySem.Str := ["_law_walks", "_law_inward", "_law_outward", "_law_walked", "_law_nesting", "_law_put", "_law_out_pair", "_law_refused"]
def looseL : List PySem.Str := loose0 ++ loose1 ++ loose2
abbrev R : PySem.W.OpenRow := PySem.W.OpenLaw.row PySem.Challenge.rw_anynesting_k02_whole_walks_through_nesti
abbrev hkL : PySem.W.Hook := He.hookX 4 faL fnL [] [] exL
def obL (s : PySem.W.SharedT) : He.AlX := He.obsX 4 faL fnL [] [] exL (HandSHeadRun.getT s)
theorem ob_eq (s : PySem.W.SharedT) : obL s = hkL.obs s.abs := He.obsX_eq (HandSHeadRun.getT_eq s)
theorem runL (w : World) : HandSHeadRun.RunEq R (PySem.W.view R.prog [62]) hkL obL 4000 looseL w := by
  intro os
  kernel_rfl
theorem topF {w : World} {K : PySem.W.Frag} {h : Heap} {mg : Str → Option Value} (X : K.In h) (G : h.Ns mainGlobals mg) (c : He.SaysX faL fnL [] [] exL w h K) : TopF K mg := by
  have c1 : He.SaysD faL fnL K := He.SaysT.d c.t
  have c2 : exL K = true := c.more
  unfold exL at c2
  simp only [Bool.and_eq_true, Bool.true_and] at c2
  obtain ⟨⟨⟨c_SIDES, ce_InvalidScript⟩, ce_InvalidNesting⟩, ckm⟩ := c2
  have d_is_from : DefF K mg "is_from" (defArgs b_is_from) (defBody b_is_from) (defScope b_is_from) P_is_from := by
    obtain ⟨fd, F⟩ := c1.def_ 0 (d := dfn "is_from" b_is_from) rfl
    exact def_of X G (c1.fact 0 (f := .glo "is_from") rfl) F fun _ _ _ _ _ _ us hl => match us, hl with
      | [_, _, _], _ => rfl
  have d_is_tuple : DefF K mg "is_tuple" (defArgs b_is_tuple) (defBody b_is_tuple) (defScope b_is_tuple) P_is_tuple := by
    obtain ⟨fd, F⟩ := c1.def_ 1 (d := dfn "is_tuple" b_is_tuple) rfl
    exact def_of X G (c1.fact 1 (f := .glo "is_tuple") rfl) F fun _ _ _ _ _ _ us hl => match us, hl with
      | [_, _, _], _ => rfl
  have d_is_side : DefF K mg "is_side" (defArgs b_is_side) (defBody b_is_side) (defScope b_is_side) P_is_side := by
    obtain ⟨fd, F⟩ := c1.def_ 2 (d := dfn "is_side" b_is_side) rfl
    exact def_of X G (c1.fact 2 (f := .glo "is_side") rfl) F fun _ _ _ _ _ _ us hl => match us, hl with
      | [_], _ => rfl
  have d_is_line : DefF K mg "is_line" (defArgs b_is_line) (defBody b_is_line) (defScope b_is_line) P_is_line := by
    obtain ⟨fd, F⟩ := c1.def_ 3 (d := dfn "is_line" b_is_line) rfl
    exact def_of X G (c1.fact 3 (f := .glo "is_line") rfl) F fun _ _ _ _ _ _ us hl => match us, hl with
      | [_, _, _], _ => rfl
  have d_is_flat : DefF K mg "is_flat" (defArgs b_is_flat) (defBody b_is_flat) (defScope b_is_flat) P_is_flat := by
    obtain ⟨fd, F⟩ := c1.def_ 4 (d := dfn "is_flat" b_is_flat) rfl
    exact def_of X G (c1.fact 4 (f := .glo "is_flat") rfl) F fun _ _ _ _ _ _ us hl => match us, hl with
      | [_, _], _ => rfl
  have d_is_deep : DefF K mg "is_deep" (defArgs b_is_deep) (defBody b_is_deep) (defScope b_is_deep) P_is_deep := by
    obtain ⟨fd, F⟩ := c1.def_ 5 (d := dfn "is_deep" b_is_deep) rfl
    exact def_of X G (c1.fact 5 (f := .glo "is_deep") rfl) F fun _ _ _ _ _ _ us hl => match us, hl with
      | [_, _], _ => rfl
  have d_are_stands : DefF K mg "are_stands" (defArgs b_are_stands) (defBody b_are_stands) (defScope b_are_stands) P_are_stands := by
    obtain ⟨fd, F⟩ := c1.def_ 6 (d := dfn "are_stands" b_are_stands) rfl
    exact def_of X G (c1.fact 6 (f := .glo "are_stands") rfl) F fun _ _ _ _ _ _ us hl => match us, hl with
      | [_, _], _ => rfl
  have d_is_plain : DefF K mg "is_plain" (defArgs b_is_plain) (defBody b_is_plain) (defScope b_is_plain) P_is_plain := by
    obtain ⟨fd, F⟩ := c1.def_ 7 (d := dfn "is_plain" b_is_plain) rfl
    exact def_of X G (c1.fact 7 (f := .glo "is_plain") rfl) F fun _ _ _ _ _ _ us hl => match us, hl with
      | [_, _], _ => rfl
  have d_has_step : DefF K mg "has_step" (defArgs b_has_step) (defBody b_has_step) (defScope b_has_step) P_has_step := by
    obtain ⟨fd, F⟩ := c1.def_ 8 (d := dfn "has_step" b_has_step) rfl
    exact def_of X G (c1.fact 8 (f := .glo "has_step") rfl) F fun _ _ _ _ _ _ us hl => match us, hl with
      | [_, _], _ => rfl
  have d_changed : DefF K mg "changed" (defArgs b_changed) (defBody b_changed) (defScope b_changed) P_changed := by
    obtain ⟨fd, F⟩ := c1.def_ 9 (d := dfn "changed" b_changed) rfl
    exact def_of X G (c1.fact 9 (f := .glo "changed") rfl) F fun _ _ _ _ _ _ us hl => match us, hl with
      | [_, _, _], _ => rfl
  have d_row_table : DefF K mg "row_table" (defArgs b_row_table) (defBody b_row_table) (defScope b_row_table) P_row_table := by
    obtain ⟨fd, F⟩ := c1.def_ 10 (d := dfn "row_table" b_row_table) rfl
    exact def_of X G (c1.fact 10 (f := .glo "row_table") rfl) F fun _ _ _ _ _ _ us hl => match us, hl with
      | [_, _], _ => rfl
  have d_holding_line : DefF K mg "holding_line" (defArgs b_holding_line) (defBody b_holding_line) (defScope b_holding_line) P_holding_line := by
    obtain ⟨fd, F⟩ := c1.def_ 11 (d := dfn "holding_line" b_holding_line) rfl
    exact def_of X G (c1.fact 11 (f := .glo "holding_line") rfl) F fun _ _ _ _ _ _ us hl => match us, hl with
      | [_, _, _], _ => rfl
  have d_walk_of : DefF K mg "walk_of" (defArgs b_walk_of) (defBody b_walk_of) (defScope b_walk_of) P_walk_of := by
    obtain ⟨fd, F⟩ := c1.def_ 12 (d := dfn "walk_of" b_walk_of) rfl
    exact def_of X G (c1.fact 12 (f := .glo "walk_of") rfl) F fun _ _ _ _ _ _ us hl => match us, hl with
      | [_, _], _ => rfl
  have d_spread : DefF K mg "spread" (defArgs b_spread) (defBody b_spread) (defScope b_spread) P_spread := by
    obtain ⟨fd, F⟩ := c1.def_ 13 (d := dfn "spread" b_spread) rfl
    exact def_of X G (c1.fact 13 (f := .glo "spread") rfl) F fun _ _ _ _ _ _ us hl => match us, hl with
      | [_, _], _ => rfl
  have d_notes_of : DefF K mg "notes_of" (defArgs b_notes_of) (defBody b_notes_of) (defScope b_notes_of) P_notes_of := by
    obtain ⟨fd, F⟩ := c1.def_ 14 (d := dfn "notes_of" b_notes_of) rfl
    exact def_of X G (c1.fact 14 (f := .glo "notes_of") rfl) F fun _ _ _ _ _ _ us hl => match us, hl with
      | [_], _ => rfl
  have d_has_script : DefF K mg "has_script" (defArgs b_has_script) (defBody b_has_script) (defScope b_has_script) P_has_script := by
    obtain ⟨fd, F⟩ := c1.def_ 15 (d := dfn "has_script" b_has_script) rfl
    exact def_of X G (c1.fact 15 (f := .glo "has_script") rfl) F fun _ _ _ _ _ _ us hl => match us, hl with
      | [_], _ => rfl
  have d_need_script : DefF K mg "need_script" (defArgs b_need_script) (defBody b_need_script) (defScope b_need_script) P_need_script := by
    obtain ⟨fd, F⟩ := c1.def_ 16 (d := dfn "need_script" b_need_script) rfl
    exact def_of X G (c1.fact 16 (f := .glo "need_script") rfl) F fun _ _ _ _ _ _ us hl => match us, hl with
      | [_], _ => rfl
  have d_is_kept : DefF K mg "is_kept" (defArgs b_is_kept) (defBody b_is_kept) (defScope b_is_kept) P_is_kept := by
    obtain ⟨fd, F⟩ := c1.def_ 17 (d := dfn "is_kept" b_is_kept) rfl
    exact def_of X G (c1.fact 17 (f := .glo "is_kept") rfl) F fun _ _ _ _ _ _ us hl => match us, hl with
      | [_, _, _], _ => rfl
  have d_boxes_of : DefF K mg "boxes_of" (defArgs b_boxes_of) (defBody b_boxes_of) (defScope b_boxes_of) P_boxes_of := by
    obtain ⟨fd, F⟩ := c1.def_ 18 (d := dfn "boxes_of" b_boxes_of) rfl
    exact def_of X G (c1.fact 18 (f := .glo "boxes_of") rfl) F fun _ _ _ _ _ _ us hl => match us, hl with
      | [_], _ => rfl
  have d_has_nesting : DefF K mg "has_nesting" (defArgs b_has_nesting) (defBody b_has_nesting) (defScope b_has_nesting) P_has_nesting := by
    obtain ⟨fd, F⟩ := c1.def_ 19 (d := dfn "has_nesting" b_has_nesting) rfl
    exact def_of X G (c1.fact 19 (f := .glo "has_nesting") rfl) F fun _ _ _ _ _ _ us hl => match us, hl with
      | [_, _], _ => rfl
  have d_need_nesting : DefF K mg "need_nesting" (defArgs b_need_nesting) (defBody b_need_nesting) (defScope b_need_nesting) P_need_nesting := by
    obtain ⟨fd, F⟩ := c1.def_ 20 (d := dfn "need_nesting" b_need_nesting) rfl
    exact def_of X G (c1.fact 20 (f := .glo "need_nesting") rfl) F fun _ _ _ _ _ _ us hl => match us, hl with
      | [_, _], _ => rfl
  have d_inward : DefF K mg "inward" (defArgs b_inward) (defBody b_inward) (defScope b_inward) P_inward := by
    obtain ⟨fd, F⟩ := c1.def_ 21 (d := dfn "inward" b_inward) rfl
    exact def_of X G (c1.fact 21 (f := .glo "inward") rfl) F fun _ _ _ _ _ _ us hl => match us, hl with
      | [_, _, _], _ => rfl
  have d_outward : DefF K mg "outward" (defArgs b_outward) (defBody b_outward) (defScope b_outward) P_outward := by
    obtain ⟨fd, F⟩ := c1.def_ 22 (d := dfn "outward" b_outward) rfl
    exact def_of X G (c1.fact 22 (f := .glo "outward") rfl) F fun _ _ _ _ _ _ us hl => match us, hl with
      | [_, _, _], _ => rfl
  have d_walked : DefF K mg "walked" (defArgs b_walked) (defBody b_walked) (defScope b_walked) P_walked := by
    obtain ⟨fd, F⟩ := c1.def_ 23 (d := dfn "walked" b_walked) rfl
    exact def_of X G (c1.fact 23 (f := .glo "walked") rfl) F fun _ _ _ _ _ _ us hl => match us, hl with
      | [_, _], _ => rfl
  have d_need_both : DefF K mg "need_both" (defArgs b_need_both) (defBody b_need_both) (defScope b_need_both) P_need_both := by
    obtain ⟨fd, F⟩ := c1.def_ 24 (d := dfn "need_both" b_need_both) rfl
    exact def_of X G (c1.fact 24 (f := .glo "need_both") rfl) F fun _ _ _ _ _ _ us hl => match us, hl with
      | [_, _], _ => rfl
  have d_led : DefF K mg "led" (defArgs b_led) (defBody b_led) (defScope b_led) P_led := by
    obtain ⟨fd, F⟩ := c1.def_ 25 (d := dfn "led" b_led) rfl
    exact def_of X G (c1.fact 25 (f := .glo "led") rfl) F fun _ _ _ _ _ _ us hl => match us, hl with
      | [_, _], _ => rfl
  have d_ran : DefF K mg "ran" (defArgs b_ran) (defBody b_ran) (defScope b_ran) P_ran := by
    obtain ⟨fd, F⟩ := c1.def_ 26 (d := dfn "ran" b_ran) rfl
    exact def_of X G (c1.fact 26 (f := .glo "ran") rfl) F fun _ _ _ _ _ _ us hl => match us, hl with
      | [_, _], _ => rfl
  have d_run : DefF K mg "run" (defArgs b_run) (defBody b_run) (defScope b_run) P_run := by
    obtain ⟨fd, F⟩ := c1.def_ 27 (d := dfn "run" b_run) rfl
    exact def_of X G (c1.fact 27 (f := .glo "run") rfl) F fun _ _ _ _ _ _ us hl => match us, hl with
      | [_, _], _ => rfl
  have d_stages : DefF K mg "stages" (defArgs b_stages) (defBody b_stages) (defScope b_stages) P_stages := by
    obtain ⟨fd, F⟩ := c1.def_ 28 (d := dfn "stages" b_stages) rfl
    exact def_of X G (c1.fact 28 (f := .glo "stages") rfl) F fun _ _ _ _ _ _ us hl => match us, hl with
      | [_, _], _ => rfl
  have d_brought : DefF K mg "brought" (defArgs b_brought) (defBody b_brought) (defScope b_brought) P_brought := by
    obtain ⟨fd, F⟩ := c1.def_ 29 (d := dfn "brought" b_brought) rfl
    exact def_of X G (c1.fact 29 (f := .glo "brought") rfl) F fun _ _ _ _ _ _ us hl => match us, hl with
      | [_, _], _ => rfl
  have d__law_source : DefF K mg "_law_source" (defArgs b__law_source) (defBody b__law_source) (defScope b__law_source) P__law_source := by
    obtain ⟨fd, F⟩ := c1.def_ 30 (d := dfn "_law_source" b__law_source) rfl
    exact def_of X G (c1.fact 30 (f := .glo "_law_source") rfl) F fun _ _ _ _ _ _ us hl => match us, hl with
      | [_, _], _ => rfl
  have d__law_draw : DefF K mg "_law_draw" (defArgs b__law_draw) (defBody b__law_draw) (defScope b__law_draw) P__law_draw := by
    obtain ⟨fd, F⟩ := c1.def_ 31 (d := dfn "_law_draw" b__law_draw) rfl
    exact def_of X G (c1.fact 31 (f := .glo "_law_draw") rfl) F fun _ _ _ _ _ _ us hl => match us, hl with
      | [_, _], _ => rfl
  have d__law_choice : DefF K mg "_law_choice" (defArgs b__law_choice) (defBody b__law_choice) (defScope b__law_choice) P__law_choice := by
    obtain ⟨fd, F⟩ := c1.def_ 32 (d := dfn "_law_choice" b__law_choice) rfl
    exact def_of X G (c1.fact 32 (f := .glo "_law_choice") rfl) F fun _ _ _ _ _ _ us hl => match us, hl with
      | [_, _], _ => rfl
  have d__law_line : DefF K mg "_law_line" (defArgs b__law_line) (defBody b__law_line) (defScope b__law_line) P__law_line := by
    obtain ⟨fd, F⟩ := c1.def_ 33 (d := dfn "_law_line" b__law_line) rfl
    exact def_of X G (c1.fact 33 (f := .glo "_law_line") rfl) F fun _ _ _ _ _ _ us hl => match us, hl with
      | [_, _, _], _ => rfl
  have d__law_lot : DefF K mg "_law_lot" (defArgs b__law_lot) (defBody b__law_lot) (defScope b__law_lot) P__law_lot := by
    obtain ⟨fd, F⟩ := c1.def_ 34 (d := dfn "_law_lot" b__law_lot) rfl
    exact def_of X G (c1.fact 34 (f := .glo "_law_lot") rfl) F fun _ _ _ _ _ _ us hl => match us, hl with
      | [_, _, _, _], _ => rfl
  have d__law_plain : DefF K mg "_law_plain" (defArgs b__law_plain) (defBody b__law_plain) (defScope b__law_plain) P__law_plain := by
    obtain ⟨fd, F⟩ := c1.def_ 35 (d := dfn "_law_plain" b__law_plain) rfl
    exact def_of X G (c1.fact 35 (f := .glo "_law_plain") rfl) F fun _ _ _ _ _ _ us hl => match us, hl with
      | [_, _, _], _ => rfl
  have d__law_width : DefF K mg "_law_width" (defArgs b__law_width) (defBody b__law_width) (defScope b__law_width) P__law_width := by
    obtain ⟨fd, F⟩ := c1.def_ 36 (d := dfn "_law_width" b__law_width) rfl
    exact def_of X G (c1.fact 36 (f := .glo "_law_width") rfl) F fun _ _ _ _ _ _ us hl => match us, hl with
      | [_], _ => rfl
  have d__law_script : DefF K mg "_law_script" (defArgs b__law_script) (defBody b__law_script) (defScope b__law_script) P__law_script := by
    obtain ⟨fd, F⟩ := c1.def_ 37 (d := dfn "_law_script" b__law_script) rfl
    exact def_of X G (c1.fact 37 (f := .glo "_law_script") rfl) F fun _ _ _ _ _ _ us hl => match us, hl with
      | [_, _, _], _ => rfl
  have d__law_other : DefF K mg "_law_other" (defArgs b__law_other) (defBody b__law_other) (defScope b__law_other) P__law_other := by
    obtain ⟨fd, F⟩ := c1.def_ 38 (d := dfn "_law_other" b__law_other) rfl
    exact def_of X G (c1.fact 38 (f := .glo "_law_other") rfl) F fun _ _ _ _ _ _ us hl => match us, hl with
      | [_, _, _], _ => rfl
  have d__law_row_pair : DefF K mg "_law_row_pair" (defArgs b__law_row_pair) (defBody b__law_row_pair) (defScope b__law_row_pair) P__law_row_pair := by
    obtain ⟨fd, F⟩ := c1.def_ 39 (d := dfn "_law_row_pair" b__law_row_pair) rfl
    exact def_of X G (c1.fact 39 (f := .glo "_law_row_pair") rfl) F fun _ _ _ _ _ _ us hl => match us, hl with
      | [_, _, _], _ => rfl
  have d__law_out_pair : DefF K mg "_law_out_pair" (defArgs b__law_out_pair) (defBody b__law_out_pair) (defScope b__law_out_pair) P__law_out_pair := by
    obtain ⟨fd, F⟩ := c1.def_ 40 (d := dfn "_law_out_pair" b__law_out_pair) rfl
    exact def_of X G (c1.fact 40 (f := .glo "_law_out_pair") rfl) F fun _ _ _ _ _ _ us hl => match us, hl with
      | [_, _, _, _], _ => rfl
  have d__law_lines : DefF K mg "_law_lines" (defArgs b__law_lines) (defBody b__law_lines) (defScope b__law_lines) P__law_lines := by
    obtain ⟨fd, F⟩ := c1.def_ 41 (d := dfn "_law_lines" b__law_lines) rfl
    exact def_of X G (c1.fact 41 (f := .glo "_law_lines") rfl) F fun _ _ _ _ _ _ us hl => match us, hl with
      | [_, _], _ => rfl
  have d__law_walks : DefF K mg "_law_walks" (defArgs b__law_walks) (defBody b__law_walks) (defScope b__law_walks) P__law_walks := by
    obtain ⟨fd, F⟩ := c1.def_ 42 (d := dfn "_law_walks" b__law_walks) rfl
    exact def_of X G (c1.fact 42 (f := .glo "_law_walks") rfl) F fun _ _ _ _ _ _ us hl => match us, hl with
      | [_], _ => rfl
  have d__law_inward : DefF K mg "_law_inward" (defArgs b__law_inward) (defBody b__law_inward) (defScope b__law_inward) P__law_inward := by
    obtain ⟨fd, F⟩ := c1.def_ 43 (d := dfn "_law_inward" b__law_inward) rfl
    exact def_of X G (c1.fact 43 (f := .glo "_law_inward") rfl) F fun _ _ _ _ _ _ us hl => match us, hl with
      | [_, _, _], _ => rfl
  have d__law_outward : DefF K mg "_law_outward" (defArgs b__law_outward) (defBody b__law_outward) (defScope b__law_outward) P__law_outward := by
    obtain ⟨fd, F⟩ := c1.def_ 44 (d := dfn "_law_outward" b__law_outward) rfl
    exact def_of X G (c1.fact 44 (f := .glo "_law_outward") rfl) F fun _ _ _ _ _ _ us hl => match us, hl with
      | [_, _, _], _ => rfl
  have d__law_walked : DefF K mg "_law_walked" (defArgs b__law_walked) (defBody b__law_walked) (defScope b__law_walked) P__law_walked := by
    obtain ⟨fd, F⟩ := c1.def_ 45 (d := dfn "_law_walked" b__law_walked) rfl
    exact def_of X G (c1.fact 45 (f := .glo "_law_walked") rfl) F fun _ _ _ _ _ _ us hl => match us, hl with
      | [_, _], _ => rfl
  have d__law_put : DefF K mg "_law_put" (defArgs b__law_put) (defBody b__law_put) (defScope b__law_put) P__law_put := by
    obtain ⟨fd, F⟩ := c1.def_ 46 (d := dfn "_law_put" b__law_put) rfl
    exact def_of X G (c1.fact 46 (f := .glo "_law_put") rfl) F fun _ _ _ _ _ _ us hl => match us, hl with
      | [_, _, _], _ => rfl
  have d__law_nesting : DefF K mg "_law_nesting" (defArgs b__law_nesting) (defBody b__law_nesting) (defScope b__law_nesting) P__law_nesting := by
    obtain ⟨fd, F⟩ := c1.def_ 47 (d := dfn "_law_nesting" b__law_nesting) rfl
    exact def_of X G (c1.fact 47 (f := .glo "_law_nesting") rfl) F fun _ _ _ _ _ _ us hl => match us, hl with
      | [_, _, _], _ => rfl
  have d__law_refused : DefF K mg "_law_refused" (defArgs b__law_refused) (defBody b__law_refused) (defScope b__law_refused) P__law_refused := by
    obtain ⟨fd, F⟩ := c1.def_ 48 (d := dfn "_law_refused" b__law_refused) rfl
    exact def_of X G (c1.fact 48 (f := .glo "_law_refused") rfl) F fun _ _ _ _ _ _ us hl => match us, hl with
      | [_, _], _ => rfl
  have d_law : DefF K mg "law" (defArgs b_law) (defBody b_law) (defScope b_law) P_law := by
    obtain ⟨fd, F⟩ := c1.def_ 49 (d := dfn "law" b_law) rfl
    exact def_of X G (c1.fact 49 (f := .glo "law") rfl) F fun _ _ _ _ _ _ us hl => match us, hl with
      | [_], _ => rfl
  exact ⟨d_is_from, d_is_tuple, d_is_side, d_is_line, d_is_flat, d_is_deep, d_are_stands, d_is_plain, d_has_step, d_changed, d_row_table, d_holding_line, d_walk_of, d_spread, d_notes_of, d_has_script, d_need_script, d_is_kept, d_boxes_of, d_has_nesting, d_need_nesting, d_inward, d_outward, d_walked, d_need_both, d_led, d_ran, d_run, d_stages, d_brought, d__law_source, d__law_draw, d__law_choice, d__law_line, d__law_lot, d__law_plain, d__law_width, d__law_script, d__law_other, d__law_row_pair, d__law_out_pair, d__law_lines, d__law_walks, d__law_inward, d__law_outward, d__law_walked, d__law_put, d__law_nesting, d__law_refused, d_law, con_strs X G c_SIDES, con_int X G (c1.fact 50 (f := .int "MOST_STEPS" 6) rfl), con_int X G (c1.fact 51 (f := .int "MOST_WALKS" 6) rfl), con_int X G (c1.fact 52 (f := .int "MOST_NOTES" 4) rfl), con_int X G (c1.fact 53 (f := .int "MOST_BOXES" 40) rfl), con_int X G (c1.fact 54 (f := .int "MOST_DEEP" 8) rfl), con_fn (He.glo_ok X G (c1.fact 27 (f := .glo "run") rfl)), con_fn (He.glo_ok X G (c1.fact 28 (f := .glo "stages") rfl)), con_fn (He.glo_ok X G (c1.fact 29 (f := .glo "brought") rfl)), He.free_ok X G (c1.fact 55 (f := .free "isinstance") rfl), He.free_ok X G (c1.fact 56 (f := .free "int") rfl), He.free_ok X G (c1.fact 57 (f := .free "bool") rfl), He.free_ok X G (c1.fact 58 (f := .free "tuple") rfl), He.free_ok X G (c1.fact 59 (f := .free "len") rfl), He.free_ok X G (c1.fact 60 (f := .free "str") rfl), He.free_ok X G (c1.fact 61 (f := .free "all") rfl), He.free_ok X G (c1.fact 62 (f := .free "list") rfl), He.free_ok X G (c1.fact 63 (f := .free "range") rfl), He.free_ok X G (c1.fact 64 (f := .free "sum") rfl), He.free_ok X G (c1.fact 65 (f := .free "zip") rfl), He.free_ok X G (c1.fact 66 (f := .free "abs") rfl), He.free_ok X G (c1.fact 67 (f := .free "min") rfl), He.free_ok X G (c1.fact 68 (f := .free "max") rfl), exc_of X G ce_InvalidScript, exc_of X G ce_InvalidNesting, km_of X G ckm⟩
end KT
open PySem PySem.W PySem.Calls PyProof.Rows
theorem KT.holds_of (hlaw : PL.LawOk 63 KT.F_law) : PySem.Challenge.rw_anynesting_k02_whole_walks_through_nesti.Holds := by
  w_on; o_law
  refine HandSHeadRun.head_any (r := OpenLaw.row PySem.Challenge.rw_anynesting_k02_whole_walks_through_nesti) (q := view (OpenLaw.row PySem.Challenge.rw_anynesting_k02_whole_walks_through_nesti).prog [62]) (H := KT.hkL) (ob := KT.obL) (M := 4000) (loose := KT.looseL) (d := HandSHeadRun.topDef (OpenLaw.row PySem.Challenge.rw_anynesting_k02_whole_walks_through_nesti).prog 62) (kwd := []) KT.ob_eq
    (by kernel_rfl) (fun s => by kernel_rfl) KT.runL (by kernel_rfl) (by kernel_rfl) (by kernel_rfl) (by rfl) (by first | assumption | decide +kernel) (by decide +kernel) ⟨rfl, rfl, rfl, rfl, rfl, by decide +kernel⟩ ?hw ?hc
  case hw => w_witness2
  case hc =>
    refine PL.walk_pl (l := PySem.Challenge.rw_anynesting_k02_whole_walks_through_nesti) (n := 63) (k := 74) (x := "script") (F := KT.F_law) rfl (by decide) (by kernel_rfl) ⟨rfl, by decide, by decide⟩ hlaw ?_
    intro w mg fa h Y G hmg0
    obtain ⟨K, KX, c⟩ := Y
    have hmg : mg ("law" : PySem.Str) = some (.ref fa) := by
      have e : (HandSHeadRun.topDef (OpenLaw.row PySem.Challenge.rw_anynesting_k02_whole_walks_through_nesti).prog 62).name = ("law" : PySem.Str) := by kernel_rfl
      rw [← e]
      exact hmg0
    obtain ⟨fd, F⟩ := (He.SaysT.d c.t).def_ 49 (d := KT.dfn "law" KT.b_law) rfl
    have e := hmg.symm.trans (He.glo_ok KX G ((He.SaysT.d c.t).fact 49 (f := .glo "law") rfl))
    cases e
    have b := L2.FunD.bindsA (ps := ["script"]) F fun _ _ _ _ _ _ us hl => match us, hl with | [_], _ => rfl
    exact ⟨K, fd, KX, fun s u => b s [u] rfl, fun base => KT.ok_law (KT.topF KX G c) F⟩
end
/-! PLWp: what a computation ends in; plain Lean. -/
namespace PL
open PySem (Str)
/-- it ends well, in P -/
def wp {α : Type} (m : M α) (ρ : Env) (P : α → Env → Prop) : Prop := match m ρ with
  | .ok a ρ' => P a ρ'
  | _ => False
def okF (F : Fn) (ds : List D) (P : Vl → List D → Prop) : Prop := match F ds with
  | .ok v o => P v o
  | _ => False
section
variable {α β : Type} {ρ : Env} {P Q : α → Env → Prop}
theorem wp.mono {m : M α} (h : wp m ρ P) (i : ∀ a ρ', P a ρ' → Q a ρ') : wp m ρ Q := by
  unfold wp at h ⊢
  cases q : m ρ with
  | ok a ρ' => rw [q] at h; exact i _ _ h
  | err e ρ' => rw [q] at h; exact h
  | bad => rw [q] at h; exact h
@[simp] theorem wp_bind {m : M α} {f : α → M β} {P : β → Env → Prop} : wp (m >>= f) ρ P = wp m ρ fun a ρ' => wp (f a) ρ' P := by
  unfold wp
  cases q : m ρ with
  | ok a ρ' => rw [bind_ok q]
  | err e ρ' => rw [bind_err q]
  | bad => rw [bind_bad q]
@[simp] theorem wp_pure {a : α} : wp (pure a) ρ P = P a ρ := rfl
@[simp] theorem wp_bad : wp (M.bad : M α) ρ P = False := rfl
@[simp] theorem wp_err {e : Ex} : wp (M.err e : M α) ρ P = False := rfl
theorem wp_opt {o : Option α} : wp (M.opt o) ρ P = match o with
  | some a => P a ρ
  | none => False := by cases o <;> rfl
@[simp] theorem wp_optS {a : α} : wp (M.opt (some a)) ρ P = P a ρ := rfl
@[simp] theorem wp_optN : wp (M.opt (none : Option α)) ρ P = False := rfl
@[simp] theorem wp_sel {k : Bool} {a b : M α} : wp (sel k a b) ρ P = if k = true then wp a ρ P else wp b ρ P := by cases k <;> rfl
@[simp] theorem wp_ite {c : Prop} [Decidable c] {a b : M α} : wp (if c then a else b) ρ P = if c then wp a ρ P else wp b ρ P := by split <;> rfl
theorem wp_eta {m : M α} : wp (fun ρ => m ρ) ρ P = wp m ρ P := rfl
@[simp] theorem wp_asBl {o : Bool} {b : Bool} {P : Bool → Env → Prop} : wp (asBl ⟨o, .bl b⟩) ρ P = P b ρ := rfl
@[simp] theorem wp_asInt {i : Int} {P : Int → Env → Prop} : wp (asInt (.int i)) ρ P = P i ρ := rfl
@[simp] theorem wp_asStr {x : Str} {P : Str → Env → Prop} : wp (asStr (.str x)) ρ P = P x ρ := rfl
@[simp] theorem wp_asLst {l : List D} {P : Unit → Env → Prop} : wp (asLst (.lst l)) ρ P = P () ρ := rfl
@[simp] theorem wp_rd {i : Nat} {P : Vl → Env → Prop} {d : D} (h : ρ[i]? = some (some (.shr, d))) : wp (rdVar i) ρ P = P (sh d) ρ := by
  unfold wp rdVar
  rw [h]
@[simp] theorem wp_rdO {i : Nat} {P : Vl → Env → Prop} {d : D} (h : ρ[i]? = some (some (.own, d))) : wp (rdVar i) ρ P = P (sh d) (ρ.set i (some (.shr, d))) := by
  unfold wp rdVar
  rw [h]
@[simp] theorem wp_mv {i : Nat} {P : Vl → Env → Prop} {d : D} (h : ρ[i]? = some (some (.own, d))) : wp (mvVar i) ρ P = P (ow d) (ρ.set i none) := by
  unfold wp mvVar
  rw [h]
theorem wp_see {i : Nat} {P : Ref → Env → Prop} {d : D} {f : Fg} (h : ρ[i]? = some (some (f, d))) (hf : f ≠ .shr) : wp (see i) ρ P = P (.slot i) ρ := by
  unfold wp see
  rw [h]
  simp only [if_neg hf]
theorem wp_slotd {i : Nat} {P : D → Env → Prop} {d : D} {f : Fg} (h : ρ[i]? = some (some (f, d))) (hf : f ≠ .shr) : wp (slotd i) ρ P = P d ρ := by
  unfold wp slotd
  rw [h]
  simp only [if_neg hf]
@[simp] theorem wp_derefV {d : D} {P : D → Env → Prop} : wp (deref (.val d)) ρ P = P d ρ := rfl
@[simp] theorem wp_derefS {i : Nat} {P : D → Env → Prop} : wp (deref (.slot i)) ρ P = wp (slotd i) ρ P := rfl
@[simp] theorem wp_put {i : Nat} {v : Vl} {P : Unit → Env → Prop} {s : Slot} (h : ρ[i]? = some s) (hp : ∀ d, s ≠ some (.pin, d)) : wp (put i v) ρ P = P () (ρ.set i (some (if v.own then .own else .shr, v.d))) := by
  unfold wp put
  rw [h]
  cases s with
  | none => rfl
  | some q =>
    obtain ⟨f, d⟩ := q
    cases f with
    | pin => exact absurd rfl (hp d)
    | _ => rfl
theorem okF.mono {F : Fn} {ds : List D} {P Q : Vl → List D → Prop} (h : okF F ds P) (i : ∀ v o, P v o → Q v o) : okF F ds Q := by
  unfold okF at h ⊢
  cases q : F ds with
  | ok a ρ' => rw [q] at h; exact i _ _ h
  | err e ρ' => rw [q] at h; exact h
  | bad => rw [q] at h; exact h
theorem okF_of {F : Fn} {ds outs : List D} {v : Vl} {P : Vl → List D → Prop} (e : F ds = .ok v outs) (h : P v outs) : okF F ds P := by
  unfold okF
  rw [e]
  exact h
theorem okF_eq {F : Fn} {ds : List D} {P : Vl → List D → Prop} (h : okF F ds P) : ∃ v o, F ds = .ok v o ∧ P v o := by
  unfold okF at h
  cases q : F ds with
  | ok a ρ' => rw [q] at h; exact ⟨_, _, rfl, h⟩
  | err e ρ' => rw [q] at h; exact h.elim
  | bad => rw [q] at h; exact h.elim
theorem wp_of {m : M α} {a : α} {ρ' : Env} (e : m ρ = .ok a ρ') : wp m ρ P = P a ρ' := by
  unfold wp
  rw [e]
end
/-- a def by its body -/
theorem okF_sem {mask : List Bool} {n : Nat} {m : M Fl} {ds : List D} {P : Vl → List D → Prop} (hl : ds.length = mask.length)
    (h : wp m (init mask ds ++ List.replicate (n - mask.length) none) fun f ρ => match outsAt mask ρ with
      | some outs => P (match f with
        | .rt v => v
        | .nx => sh .non) outs
      | none => False) : okF (semD mask n m) ds P := by
  unfold okF semD
  rw [if_pos hl]
  unfold wp at h
  cases q : m (init mask ds ++ List.replicate (n - mask.length) none) with
  | ok f ρ =>
    rw [q] at h
    dsimp only at h ⊢
    cases q2 : outsAt mask ρ with
    | none => rw [q2] at h; exact h.elim
    | some outs => rw [q2] at h; exact h
  | err e ρ => rw [q] at h; exact h.elim
  | bad => rw [q] at h; exact h.elim
/-- a call -/
theorem wp_call {F : Fn} {as : List Arg} {ρ : Env} {ds : List D} {P : Vl → Env → Prop} (ha : argsOf as ρ = some ds) (hn : nodupB (slotsOf as) = true)
    (h : okF F ds fun v outs => (anyBor as = true → v.flat = true ∧ outsFlat as outs = true) ∧ outs.length = as.length ∧ P v (putOuts as outs ρ)) : wp (callF F as) ρ P := by
  obtain ⟨v, o, e, h1, h2, h3⟩ := okF_eq h
  unfold wp callF
  rw [ha]
  dsimp only
  rw [if_neg (by rw [hn]; decide), e]
  dsimp only
  have : (anyBor as && !(v.flat && outsFlat as o)) = false := by
    cases q : anyBor as with
    | false => rfl
    | true => obtain ⟨a, b⟩ := h1 q; rw [a, b]; rfl
  rw [if_neg (by rw [this]; decide), if_pos h2]
  exact h3
/-! ### loops -/
theorem wp_loop {turn : D → M Fl} {P : Fl → Env → Prop} (I : List D → Env → Prop) (step : ∀ x xs ρ, I (x :: xs) ρ → wp (turn x) ρ fun f ρ' => match f with
      | .nx => I xs ρ'
      | .rt v => P (.rt v) ρ') (fin : ∀ ρ, I [] ρ → P .nx ρ) : ∀ (xs : List D) (ρ : Env), I xs ρ → wp (loopL turn xs) ρ P
  | [], ρ, h => fin ρ h
  | x :: xs, ρ, h => by
    rw [loopL, wp_bind]
    refine (step x xs ρ h).mono fun f ρ' q => ?_
    cases f with
    | nx => exact wp_loop I step fin xs ρ' q
    | rt v => exact q
@[simp] theorem wp_loopN {turn : D → M Fl} {ρ : Env} {P : Fl → Env → Prop} : wp (loopL turn []) ρ P = P .nx ρ := rfl
theorem wp_loopC {turn : D → M Fl} {ρ : Env} {x : D} {xs : List D} {P : Fl → Env → Prop} : wp (loopL turn (x :: xs)) ρ P = wp (turn x) ρ fun f ρ' => match f with
    | .nx => wp (loopL turn xs) ρ' P
    | .rt v => P (.rt v) ρ' := by
  rw [loopL, wp_bind]
  congr 1
  funext f ρ'
  cases f <;> rfl
theorem wp_block {α : Type} {own : List Nat} {m : M α} {ρ : Env} {P : α → Env → Prop} (h : noOwned ρ own = true) : wp (block own m) ρ P = wp m (wipe ρ own) fun a ρ' => P a (restore ρ ρ' own) := by
  unfold wp block
  rw [if_pos h]
  cases m (wipe ρ own) <;> rfl
/-- a comprehension, with an invariant over what is done -/
theorem wp_comp {own : List Nat} {asg : D → M Unit} {cnd : M Bool} {elt : M D} {P : List D → Env → Prop} (I : List D → List D → Env → Prop)
    (step : ∀ x xs ys ρ, I (x :: xs) ys ρ → wp (asg x) ρ fun _ ρ1 => wp cnd ρ1 fun c ρ2 => match c with
      | true => wp elt ρ2 fun y ρ3 => I xs (ys ++ [y]) (wipe ρ3 own)
      | false => I xs ys (wipe ρ2 own)) : ∀ (xs ys : List D) (ρ : Env), I xs ys ρ → (∀ zs ρ', I [] (ys ++ zs) ρ' → P zs ρ') → wp (compL own asg cnd elt xs) ρ P
  | [], ys, ρ, h, fin => fin [] ρ (by rw [List.append_nil]; exact h)
  | x :: xs, ys, ρ, h, fin => by
    have s := step x xs ys ρ h
    show wp (asg x >>= fun _ => cnd >>= fun c => match c with
      | true => elt >>= fun y => (fun ρ => compL own asg cnd elt xs (wipe ρ own)) >>= fun ys => pure (y :: ys)
      | false => fun ρ => compL own asg cnd elt xs (wipe ρ own)) ρ P
    rw [wp_bind]
    refine s.mono fun _ ρ1 s => ?_
    rw [wp_bind]
    refine s.mono fun c ρ2 s => ?_
    cases c with
    | true =>
      dsimp only at s ⊢
      rw [wp_bind]
      refine s.mono fun y ρ3 s => ?_
      refine Eq.mpr (wp_bind (α := List D) (m := fun ρ => compL own asg cnd elt xs (wipe ρ own)) (f := fun ys => pure (y :: ys))) ?_
      show wp (compL own asg cnd elt xs) (wipe ρ3 own) _
      exact wp_comp I step xs (ys ++ [y]) _ s fun zs ρ' q => fin (y :: zs) ρ' (by rw [List.append_assoc] at q; exact q)
    | false =>
      dsimp only at s ⊢
      show wp (compL own asg cnd elt xs) (wipe ρ2 own) _
      exact wp_comp I step xs ys _ s fin
/-- a comprehension whose element is a function of the item and which leaves the slots as they are -/
theorem wp_map {own : List Nat} {asg : D → M Unit} {cnd : M Bool} {elt : M D} {ρ : Env} {P : List D → Env → Prop} (f : D → D) (xs : List D)
    (step : ∀ x ∈ xs, wp (asg x) ρ fun _ ρ1 => wp cnd ρ1 fun c ρ2 => c = true ∧ wp elt ρ2 fun y ρ3 => y = f x ∧ wipe ρ3 own = ρ) (h : P (xs.map f) ρ) : wp (compL own asg cnd elt xs) ρ P := by
  refine wp_comp (fun r ys ρ' => ρ' = ρ ∧ ∃ l, xs = l ++ r ∧ ys = l.map f) (fun x r ys ρ' ⟨e, l, e1, e2⟩ => ?_) xs [] ρ ⟨rfl, [], rfl, rfl⟩ (fun zs ρ' ⟨e, l, e1, e2⟩ => ?_)
  · subst e
    refine (step x (by rw [e1]; simp)).mono fun _ ρ1 s => s.mono fun c ρ2 s => ?_
    obtain ⟨rfl, s⟩ := s
    exact s.mono fun y ρ3 ⟨e3, e4⟩ => ⟨e4, l ++ [x], by rw [e1]; simp, by rw [e2, e3]; simp⟩
  · subst e
    rw [List.nil_append] at e2
    rw [List.append_nil] at e1
    rw [e2, ← e1]
    exact h
end PL
/-! PLWp2: simp rules for what is computed; calls; searches. -/
namespace PL
open PySem (Str)
section
variable {ρ : Env} {F : Fn}
theorem wp_call1 {a : D} {P : Vl → Env → Prop} : okF F [a] (fun v o => o.length = 1 ∧ P v ρ) → wp (callF F [.val a]) ρ P := fun h =>
  wp_call rfl rfl (h.mono fun v o ⟨h1, h2⟩ => ⟨nofun, h1, by
    match o, h1 with
    | [x], _ => exact h2⟩)
theorem putOuts_val : ∀ {as : List Arg} {o : List D} {ρ : Env}, slotsOf as = [] → putOuts as o ρ = ρ
  | [], o, ρ, _ => by cases o <;> rfl
  | .val d :: r, [], ρ, h => rfl
  | .val d :: r, x :: o, ρ, h => putOuts_val (as := r) (o := o) h
  | .bor i :: r, o, ρ, h => by simp [slotsOf] at h
  | .io i :: r, o, ρ, h => by simp [slotsOf] at h
def valsD : List Arg → List D
  | .val d :: r => d :: valsD r
  | _ => []
theorem args_val : ∀ {as : List Arg} {ρ : Env}, slotsOf as = [] → argsOf as ρ = some (valsD as) ∧ anyBor as = false
  | [], ρ, _ => ⟨rfl, rfl⟩
  | .val d :: r, ρ, h => by
    obtain ⟨a, b⟩ := args_val (as := r) (ρ := ρ) h
    exact ⟨by rw [argsOf, a]; rfl, b⟩
  | .bor i :: r, ρ, h => by simp [slotsOf] at h
  | .io i :: r, ρ, h => by simp [slotsOf] at h
/-- a call with values alone -/
theorem wp_callV {as : List Arg} {P : Vl → Env → Prop} (hs : slotsOf as = []) (h : okF F (valsD as) fun v o => o.length = as.length ∧ P v ρ) : wp (callF F as) ρ P := by
  obtain ⟨a, b⟩ := args_val (ρ := ρ) hs
  refine wp_call a (by rw [hs]; rfl) (h.mono fun v o ⟨h1, h2⟩ => ⟨fun z => (by rw [b] at z; cases z), h1, ?_⟩)
  rw [putOuts_val hs]
  exact h2
/-- .. whose answer is known -/
theorem wp_callE {as : List Arg} {v : Vl} {o : List D} {P : Vl → Env → Prop} (hs : slotsOf as = []) (e : F (valsD as) = .ok v o) (hl : o.length = as.length) : wp (callF F as) ρ P = P v ρ := by
  obtain ⟨a, b⟩ := args_val (ρ := ρ) hs
  unfold wp callF
  rw [a]
  dsimp only
  rw [hs, if_neg (by decide), e]
  dsimp only
  rw [b, if_neg (by simp), if_pos hl, putOuts_val hs]
/-- a call whose first argument is by reference -/
theorem wp_callIo {i : Nat} {f : Fg} {d : D} {as : List Arg} {P : Vl → Env → Prop} (hr : ρ[i]? = some (some (f, d))) (hf : f ≠ .shr) (hs : slotsOf as = [])
    (h : okF F (d :: valsD as) fun v o => o.length = as.length + 1 ∧ ∀ x r, o = x :: r → P v (ρ.set i (some (f, x)))) : wp (callF F (.io i :: as)) ρ P := by
  obtain ⟨a, b⟩ := args_val (ρ := ρ) hs
  have e : argsOf (.io i :: as) ρ = some (d :: valsD as) := by
    cases f with
    | shr => exact absurd rfl hf
    | own =>
      unfold argsOf
      rw [hr, a]; rfl
    | pin =>
      unfold argsOf
      rw [hr, a]; rfl
  refine wp_call e (by simp only [slotsOf, hs]; rfl) (h.mono fun v o ⟨h1, h2⟩ => ⟨fun z => (by
    have z2 : anyBor as = true := z
    rw [b] at z2; cases z2), h1, ?_⟩)
  match o, h1 with
  | x :: r, _ =>
    rw [putOuts, hr]
    dsimp only
    rw [putOuts_val hs]
    exact h2 x r rfl
end
/-! ### lists of bools, of ints -/
theorem isBls_map {α : Type} (g : α → Bool) : ∀ xs : List α, isBls (xs.map fun x => D.bl (g x)) = some (xs.map g)
  | [] => rfl
  | x :: xs => by simp [isBls, isBls_map g xs]
theorem isInts_map {α : Type} (g : α → Int) : ∀ xs : List α, isInts (xs.map fun x => D.int (g x)) = some (xs.map g)
  | [] => rfl
  | x :: xs => by simp [isInts, isInts_map g xs]
theorem b1_all {α : Type} (g : α → Bool) (xs : List α) : b1 .all (.lst (xs.map fun x => D.bl (g x))) = some (sh (.bl (xs.all g))) := by
  simp [b1, isBls_map, List.all_map, Function.comp_def]
theorem b1_sum {α : Type} (g : α → Int) (xs : List α) : b1 .sum (.lst (xs.map fun x => D.int (g x))) = some (sh (.int (xs.map g).sum)) := by
  simp [b1, isInts_map]
/-! ### a search: the first item that fails ends the def -/
theorem wp_find {turn : D → M Fl} {P : Fl → Env → Prop} (I : Env → Prop) (g : D → Bool) (v : Vl) : ∀ (xs : List D) (ρ : Env), I ρ →
    (∀ x ∈ xs, ∀ ρ, I ρ → wp (turn x) ρ fun f ρ' => I ρ' ∧ f = if g x = true then .nx else .rt v) → (∀ ρ', I ρ' → P (if xs.all g = true then .nx else .rt v) ρ') → wp (loopL turn xs) ρ P
  | [], ρ, hI, step, fin => fin ρ hI
  | x :: xs, ρ, hI, step, fin => by
    rw [wp_loopC]
    refine (step x (by simp) ρ hI).mono fun f ρ' ⟨h1, h2⟩ => ?_
    cases q : g x with
    | true =>
      rw [q] at h2
      subst h2
      refine wp_find I g v xs ρ' h1 (fun y hy => step y (by simp [hy])) fun ρ2 h => ?_
      have := fin ρ2 h
      rw [List.all_cons, q, Bool.true_and] at this
      exact this
    | false =>
      rw [q] at h2
      subst h2
      have := fin ρ' h1
      rw [List.all_cons, q, Bool.false_and] at this
      exact this
/-! ### the rules for simp -/
@[simp] theorem evE_q0 (Γ : Gm) i : evE Γ (.var i) = rdVar i := by first | (rw [evE]; done) | (rw [evE]; rfl)
@[simp] theorem evE_q1 (Γ : Gm) i : evE Γ (.mov i) = mvVar i := by first | (rw [evE]; done) | (rw [evE]; rfl)
@[simp] theorem evE_q2 (Γ : Gm) i0 : evE Γ (.pk i0) = M.bad := by first | (rw [evE]; done) | (rw [evE]; rfl)
@[simp] theorem evE_q3 (Γ : Gm) i0 : evE Γ (.io i0) = M.bad := by first | (rw [evE]; done) | (rw [evE]; rfl)
@[simp] theorem evE_q4 (Γ : Gm) i : evE Γ (.int i) = pure (sh (.int i)) := by first | (rw [evE]; done) | (rw [evE]; rfl)
@[simp] theorem evE_q5 (Γ : Gm) s : evE Γ (.str s) = pure (sh (.str s)) := by first | (rw [evE]; done) | (rw [evE]; rfl)
@[simp] theorem evE_q6 (Γ : Gm) b : evE Γ (.bl b) = pure (sh (.bl b)) := by first | (rw [evE]; done) | (rw [evE]; rfl)
@[simp] theorem evE_q7 (Γ : Gm)  : evE Γ .non = pure (sh .non) := by first | (rw [evE]; done) | (rw [evE]; rfl)
@[simp] theorem evE_q8 (Γ : Gm) g : evE Γ (.con g) = pure (sh (Γ.con g)) := by first | (rw [evE]; done) | (rw [evE]; rfl)
@[simp] theorem evE_q9 (Γ : Gm) es : evE Γ (.tup es) = evL Γ es >>= fun ds => if ds.length ≤ szL then pure (sh (.tup ds)) else M.bad := by first | (rw [evE]; done) | (rw [evE]; rfl)
@[simp] theorem evE_q10 (Γ : Gm) es : evE Γ (.lst es) = evL Γ es >>= fun ds => if ds.length ≤ szL then pure (ow (.lst ds)) else M.bad := by first | (rw [evE]; done) | (rw [evE]; rfl)
@[simp] theorem evE_q11 (Γ : Gm) op a b : evE Γ (.bin op a b) = opnd a (evE Γ a) >>= fun x => opnd b (evE Γ b) >>= fun y => deref x >>= fun x => deref y >>= fun y => M.opt (bin op x y) := by first | (rw [evE]; done) | (rw [evE]; rfl)
@[simp] theorem evE_q12 (Γ : Gm) a : evE Γ (.neg a) = evE Γ a >>= fun v => asInt v.d >>= fun i => pure (sh (.int (-i))) := by first | (rw [evE]; done) | (rw [evE]; rfl)
@[simp] theorem evE_q13 (Γ : Gm) op a b : evE Γ (.cmp op a b) = opnd a (evE Γ a) >>= fun x => opnd b (evE Γ b) >>= fun y => deref x >>= fun x => deref y >>= fun y => cmpM op x y := by first | (rw [evE]; done) | (rw [evE]; rfl)
@[simp] theorem evE_q14 (Γ : Gm) op op' a b c : evE Γ (.chain op op' a b c) = evE Γ a >>= fun x => evE Γ b >>= fun y => cmpM op x.d y.d >>= fun z => asBl z >>= fun k => sel k (evE Γ c >>= fun w => cmpM op' y.d w.d) (pure (sh (.bl false))) := by first | (rw [evE]; done) | (rw [evE]; rfl)
@[simp] theorem evE_q15 (Γ : Gm) n a : evE Γ (.isN n a) = opnd a (evE Γ a) >>= fun r => deref r >>= fun d => pure (sh (.bl (match d with
    | .non => !n
    | _ => n))) := by first | (rw [evE]; done) | (rw [evE]; rfl)
@[simp] theorem evE_q16 (Γ : Gm) n a b : evE Γ (.isB n a b) = evE Γ a >>= fun x => evE Γ b >>= fun y => asBl x >>= fun p => asBl y >>= fun q => pure (sh (.bl ((p == q) != n))) := by first | (rw [evE]; done) | (rw [evE]; rfl)
@[simp] theorem evE_q17 (Γ : Gm) n a p : evE Γ (.mem n a p) = evE Γ a >>= fun x => opnd p (evE Γ p) >>= fun r => deref r >>= fun d => M.opt ((memv x.d d).map fun b => sh (.bl (b != n))) := by first | (rw [evE]; done) | (rw [evE]; rfl)
@[simp] theorem evE_q18 (Γ : Gm) a b : evE Γ (.and a b) = evE Γ a >>= fun v => asBl v >>= fun k => sel k (evE Γ b) (pure (sh (.bl false))) := by first | (rw [evE]; done) | (rw [evE]; rfl)
@[simp] theorem evE_q19 (Γ : Gm) a b : evE Γ (.or a b) = evE Γ a >>= fun v => asBl v >>= fun k => sel k (pure (sh (.bl true))) (evE Γ b) := by first | (rw [evE]; done) | (rw [evE]; rfl)
@[simp] theorem evE_q20 (Γ : Gm) a : evE Γ (.not a) = evE Γ a >>= evNot := by first | (rw [evE]; done) | (rw [evE]; rfl)
@[simp] theorem evE_q21 (Γ : Gm) c a b : evE Γ (.ite c a b) = evE Γ c >>= fun v => asBl v >>= fun k => sel k (evE Γ a) (evE Γ b) := by first | (rw [evE]; done) | (rw [evE]; rfl)
@[simp] theorem evE_q22 (Γ : Gm) p i : evE Γ (.ix p i) = opnd p (evE Γ p) >>= fun r => evE Γ i >>= fun k => deref r >>= fun d => M.opt ((itemv d k.d).map sh) := by first | (rw [evE]; done) | (rw [evE]; rfl)
@[simp] theorem evE_q23 (Γ : Gm) p lo hi : evE Γ (.cut p lo hi) = opnd p (evE Γ p) >>= fun r => (evO Γ lo >>= asPart) >>= fun l => (evO Γ hi >>= asPart) >>= fun h => deref r >>= fun d => M.opt (cutv d l h) := by first | (rw [evE]; done) | (rw [evE]; rfl)
@[simp] theorem evE_q24 (Γ : Gm) p : evE Γ (.rev p) = opnd p (evE Γ p) >>= fun r => deref r >>= fun d => match d with
    | .lst l => pure (ow (.lst l.reverse))
    | .tup l => pure (sh (.tup l.reverse))
    | _ => M.bad := by first | (rw [evE]; done) | (rw [evE]; rfl)
@[simp] theorem evE_q25 (Γ : Gm) f es : evE Γ (.call f es) = evA Γ es >>= fun as => callF (Γ.fn f) as := by first | (rw [evE]; done) | (rw [evE]; rfl)
@[simp] theorem evE_q26 (Γ : Gm) b p : evE Γ (.b1 b p) = opnd p (evE Γ p) >>= fun r => deref r >>= fun d => M.opt (b1 b d) := by first | (rw [evE]; done) | (rw [evE]; rfl)
@[simp] theorem evE_q27 (Γ : Gm) b p q : evE Γ (.b2 b p q) = evE Γ p >>= fun x => evE Γ q >>= fun y => M.opt (b2 b x.d y.d) := by first | (rw [evE]; done) | (rw [evE]; rfl)
@[simp] theorem evE_q28 (Γ : Gm) p q r : evE Γ (.max3 p q r) = evE Γ p >>= fun x => evE Γ q >>= fun y => evE Γ r >>= fun z => M.opt (max3 x.d y.d z.d) := by first | (rw [evE]; done) | (rw [evE]; rfl)
@[simp] theorem evE_q29 (Γ : Gm) t a : evE Γ (.isi t a) = evE Γ a >>= fun v => M.opt ((isTy t v.d).map fun b => sh (.bl b)) := by first | (rw [evE]; done) | (rw [evE]; rfl)
@[simp] theorem evE_q30 (Γ : Gm) a : evE Γ (.rng a) = evE Γ a >>= fun v => asInt v.d >>= fun n => if rangeOk 0 n && decide (n ≤ szL) then pure (ow (.lst (rangeD 0 n))) else M.bad := by first | (rw [evE]; done) | (rw [evE]; rfl)
@[simp] theorem evE_q31 (Γ : Gm) a : evE Γ (.rngT a) = evE Γ a >>= fun v => asInt v.d >>= fun n => if rangeOk 0 n && decide (n ≤ szL) then pure (sh (.tup (rangeD 0 n))) else M.bad := by first | (rw [evE]; done) | (rw [evE]; rfl)
@[simp] theorem evE_q32 (Γ : Gm) own tg sk s1 s2 cnd elt : evE Γ (.comp own tg sk s1 s2 cnd elt) = evE Γ s1 >>= fun v => evO Γ s2 >>= fun d2 => M.opt (itemsOf sk v.d d2) >>= fun xs =>
    if xs.length ≤ szL then block own (compL own (asgTg tg) (evC Γ cnd) (evE Γ elt >>= fun v => pure v.d) xs) >>= fun ys => pure (ow (.lst ys)) else M.bad := by first | (rw [evE]; done) | (rw [evE]; rfl)
@[simp] theorem evE_q33 (Γ : Gm) own own2 tg sk s1 s2 tg' sk' s1' s2' elt : evE Γ (.comp2 own own2 tg sk s1 s2 tg' sk' s1' s2' elt) = evE Γ s1 >>= fun v => evO Γ s2 >>= fun d2 => M.opt (itemsOf sk v.d d2) >>= fun xs =>
    block own (compL own (asgTg tg) (pure true)
      (evE Γ s1' >>= fun v => evO Γ s2' >>= fun d2 => M.opt (itemsOf sk' v.d d2) >>= fun xs =>
        (fun ρ => compL own2 (asgTg tg') (pure true) (evE Γ elt >>= fun v => pure v.d) xs (wipe ρ own2)) >>= fun ys => pure (.lst ys)) xs) >>= fun yss =>
    match flatD yss with
    | some ys => if ys.length ≤ szL then pure (ow (.lst ys)) else M.bad
    | none => M.bad := by first | (rw [evE]; done) | (rw [evE]; rfl)
@[simp] theorem evE_q34 (Γ : Gm) a p : evE Γ (.join a p) = evE Γ a >>= fun v => asStr v.d >>= fun x => opnd p (evE Γ p) >>= fun r => deref r >>= fun d => M.opt (joinD x d) := by first | (rw [evE]; done) | (rw [evE]; rfl)
@[simp] theorem evE_q35 (Γ : Gm) a b : evE Γ (.split a b) = evE Γ a >>= fun v => asStr v.d >>= fun x => evE Γ b >>= fun u => M.opt (splitD x u.d) := by first | (rw [evE]; done) | (rw [evE]; rfl)
@[simp] theorem evE_q36 (Γ : Gm) p a : evE Γ (.index p a) = opnd p (evE Γ p) >>= fun r => deref r >>= fun d => asLst d >>= fun _ => evE Γ a >>= fun v => deref r >>= fun d => M.opt ((indexD d v.d).map fun n => sh (.int n)) := by first | (rw [evE]; done) | (rw [evE]; rfl)
@[simp] theorem evE_q37 (Γ : Gm) ks a dflt : evE Γ (.strGet ks a dflt) = evE Γ a >>= fun v => asStr v.d >>= fun x => pure (sh (.int (strKeyGet ks x dflt))) := by first | (rw [evE]; done) | (rw [evE]; rfl)
@[simp] theorem evE_q38 (Γ : Gm) i tbl es : evE Γ (.callV i tbl es) = rdVar i >>= fun v => M.opt (fnAt tbl v.d) >>= fun j => evA Γ es >>= fun as => callF (Γ.fn j) as := by first | (rw [evE]; done) | (rw [evE]; rfl)
@[simp] theorem evL_q0 (Γ : Gm)  : evL Γ [] = pure [] := by first | (rw [evL]; done) | (rw [evL]; rfl)
@[simp] theorem evL_q1 (Γ : Gm) e es : evL Γ (e :: es) = evE Γ e >>= fun v => evL Γ es >>= fun ds => pure (v.d :: ds) := by first | (rw [evL]; done) | (rw [evL]; rfl)
@[simp] theorem evO_q0 (Γ : Gm)  : evO Γ (none) = pure none := by first | (rw [evO]; done) | (rw [evO]; rfl)
@[simp] theorem evO_q1 (Γ : Gm) e : evO Γ (some e) = evE Γ e >>= fun v => pure (some v.d) := by first | (rw [evO]; done) | (rw [evO]; rfl)
@[simp] theorem evC_q0 (Γ : Gm)  : evC Γ (none) = pure true := by first | (rw [evC]; done) | (rw [evC]; rfl)
@[simp] theorem evC_q1 (Γ : Gm) e : evC Γ (some e) = evE Γ e >>= asBl := by first | (rw [evC]; done) | (rw [evC]; rfl)
@[simp] theorem evA_q0 (Γ : Gm)  : evA Γ [] = pure [] := by first | (rw [evA]; done) | (rw [evA]; rfl)
@[simp] theorem evA_q1 (Γ : Gm) e es : evA Γ (e :: es) = match e.peek with
    | some i => see i >>= fun _ => evA Γ es >>= fun as => pure (.bor i :: as)
    | none => (match e.isIo with
      | some i => see i >>= fun _ => evA Γ es >>= fun as => pure (.io i :: as)
      | none => evE Γ e >>= fun v => evA Γ es >>= fun as => pure (.val v.d :: as)) := by first | (rw [evA]; done) | (rw [evA]; rfl)
@[simp] theorem evS_q0 (Γ : Gm) i e : evS Γ (.asg i e) = evE Γ e >>= fun v => put i v >>= fun _ => pure .nx := by first | (rw [evS]; done) | (rw [evS]; rfl)
@[simp] theorem evS_q1 (Γ : Gm) tg e : evS Γ (.asgT tg e) = evE Γ e >>= fun v => asgTg tg v.d >>= fun _ => pure .nx := by first | (rw [evS]; done) | (rw [evS]; rfl)
@[simp] theorem evV_q0 (Γ : Gm) : evV Γ [] = pure [] := rfl
@[simp] theorem evV_q1 (Γ : Gm) e es : evV Γ (e :: es) = evE Γ e >>= fun v => evV Γ es >>= fun vs => pure (v :: vs) := rfl
@[simp] theorem putAll_q0 : putAll [] [] = pure () := rfl
@[simp] theorem putAll_q1 (i : Nat) (is : List Nat) (v : Vl) (vs : List Vl) : putAll (i :: is) (v :: vs) = put i v >>= fun _ => putAll is vs := rfl
@[simp] theorem evS_q2 (Γ : Gm) is es : evS Γ (.par is es) = evV Γ es >>= fun vs => putAll is vs >>= fun _ => pure .nx := by first | (rw [evS]; done) | (rw [evS]; rfl)
@[simp] theorem evS_q3 (Γ : Gm) i e : evS Γ (.app i e) = slotd i >>= fun d => asLst d >>= fun _ => evE Γ e >>= fun v => change i (appd v.d) >>= fun _ => pure .nx := by first | (rw [evS]; done) | (rw [evS]; rfl)
@[simp] theorem evS_q4 (Γ : Gm) i k e : evS Γ (.setix i k e) = evE Γ e >>= fun v => see i >>= fun _ => evE Γ k >>= fun k => change i (setd k.d v.d) >>= fun _ => pure .nx := by first | (rw [evS]; done) | (rw [evS]; rfl)
@[simp] theorem evS_q5 (Γ : Gm) c a b : evS Γ (.ife c a b) = evE Γ c >>= fun v => asBl v >>= fun k => sel k (evSs Γ a) (evSs Γ b) := by first | (rw [evS]; done) | (rw [evS]; rfl)
@[simp] theorem evS_q6 (Γ : Gm) tg sk s1 s2 body : evS Γ (.forIn tg sk s1 s2 body) = evSrc Γ sk s1 s2 >>= fun xs => loopL (fun x => asgTg tg x >>= fun _ => evSs Γ body) xs := by first | (rw [evS]; done) | (rw [evS]; rfl)
@[simp] theorem evS_q7 (Γ : Gm) fuel c body : evS Γ (.whl fuel c body) = whileL (evE Γ c >>= asBl) (evSs Γ body) fuel := by first | (rw [evS]; done) | (rw [evS]; rfl)
@[simp] theorem evS_q8 (Γ : Gm) e : evS Γ (.ret e) = evE Γ e >>= fun v => pure (.rt v) := by first | (rw [evS]; done) | (rw [evS]; rfl)
@[simp] theorem evS_q9 (Γ : Gm)  : evS Γ .retN = pure (.rt (sh .non)) := by first | (rw [evS]; done) | (rw [evS]; rfl)
@[simp] theorem evS_q10 (Γ : Gm) e : evS Γ (.ex e) = evE Γ e >>= fun _ => pure .nx := by first | (rw [evS]; done) | (rw [evS]; rfl)
@[simp] theorem evS_q11 (Γ : Gm)  : evS Γ .pass = pure .nx := by first | (rw [evS]; done) | (rw [evS]; rfl)
@[simp] theorem evS_q12 (Γ : Gm)  : evS Γ .bad = M.bad := by first | (rw [evS]; done) | (rw [evS]; rfl)
@[simp] theorem evS_q13 (Γ : Gm) cls : evS Γ (.raise cls none) = M.err ⟨cls, none⟩ := by first | (rw [evS]; done) | (rw [evS]; rfl)
@[simp] theorem evS_q14 (Γ : Gm) cls f e : evS Γ (.raise cls (some (f, e))) = evE Γ e >>= fun v => M.err ⟨cls, some (f, v.d)⟩ := by first | (rw [evS]; done) | (rw [evS]; rfl)
@[simp] theorem evS_q15 (Γ : Gm) known body cls i x kind w : evS Γ (.tryAs known body cls i x kind w) = tryL (evSs Γ body) fun e => if e.cls ∈ known then (if e.cls = cls then some (asSuite i x kind w e.fld) else none) else some M.bad := by first | (rw [evS]; done) | (rw [evS]; rfl)
@[simp] theorem evS_q16 (Γ : Gm) known body hs : evS Γ (.tryN known body hs) = tryL (evSs Γ body) fun e => if e.cls ∈ known then evH Γ hs e else some M.bad := by first | (rw [evS]; done) | (rw [evS]; rfl)
@[simp] theorem evSs_q0 (Γ : Gm)  : evSs Γ [] = pure .nx := by first | (rw [evSs]; done) | (rw [evSs]; rfl)
@[simp] theorem evSs_q1 (Γ : Gm) s ss : evSs Γ (s :: ss) = evS Γ s >>= fun f => match f with
    | .nx => evSs Γ ss
    | .rt v => pure (.rt v) := by first | (rw [evSs]; done) | (rw [evSs]; rfl)
theorem callF_V {F : Fn} {ρ : Env} {as : List Arg} {P : Vl → Env → Prop} (hs : slotsOf as = []) : wp (callF F as) ρ P = okF F (valsD as) fun v o => o.length = as.length ∧ P v ρ := by
  refine propext ⟨fun h => ?_, wp_callV hs⟩
  obtain ⟨a, b⟩ := args_val (ρ := ρ) hs
  unfold wp callF at h
  rw [a] at h
  dsimp only at h
  rw [hs, if_neg (by decide)] at h
  unfold okF
  cases q : F (valsD as) with
  | ok v o =>
    rw [q] at h
    dsimp only at h ⊢
    rw [b, if_neg (by simp)] at h
    by_cases hl : o.length = as.length
    · rw [if_pos hl, putOuts_val hs] at h
      exact ⟨hl, h⟩
    · rw [if_neg hl] at h
      exact False.elim h
  | err e o =>
    rw [q] at h
    dsimp only at h ⊢
    rw [b, if_neg (by simp)] at h
    by_cases hl : o.length = as.length
    · rw [if_pos hl] at h; exact h
    · rw [if_neg hl] at h; exact h
  | bad => rw [q] at h; exact False.elim h
theorem okF_iff {F : Fn} {ds : List D} {v : Vl} {o : List D} (h : ∀ P, P v o → okF F ds P) : F ds = .ok v o := by
  obtain ⟨v', o', e, h1, h2⟩ := okF_eq (h (fun v' o' => v' = v ∧ o' = o) ⟨rfl, rfl⟩)
  rw [e, h1, h2]
theorem okF_ok {F : Fn} {ds : List D} {v : Vl} {o : List D} {P : Vl → List D → Prop} (e : F ds = .ok v o) : okF F ds P = P v o := by
  unfold okF
  rw [e]
/-! ### by constructor -/
@[simp] theorem xpk_var a0 : E.peek (E.var a0) = none := rfl
@[simp] theorem xio_var a0 : E.isIo (E.var a0) = none := rfl
@[simp] theorem xop_var a0 (m : M Vl) : opnd (E.var a0) m = m >>= fun v => pure (.val v.d) := rfl
@[simp] theorem xpk_mov a0 : E.peek (E.mov a0) = none := rfl
@[simp] theorem xio_mov a0 : E.isIo (E.mov a0) = none := rfl
@[simp] theorem xop_mov a0 (m : M Vl) : opnd (E.mov a0) m = m >>= fun v => pure (.val v.d) := rfl
@[simp] theorem xpk_pk a0 : E.peek (E.pk a0) = some a0 := rfl
@[simp] theorem xio_pk a0 : E.isIo (E.pk a0) = none := rfl
@[simp] theorem xop_pk a0 (m : M Vl) : opnd (E.pk a0) m = see a0 := rfl
@[simp] theorem xpk_io a0 : E.peek (E.io a0) = none := rfl
@[simp] theorem xio_io a0 : E.isIo (E.io a0) = some a0 := rfl
@[simp] theorem xop_io a0 (m : M Vl) : opnd (E.io a0) m = m >>= fun v => pure (.val v.d) := rfl
@[simp] theorem xpk_int a0 : E.peek (E.int a0) = none := rfl
@[simp] theorem xio_int a0 : E.isIo (E.int a0) = none := rfl
@[simp] theorem xop_int a0 (m : M Vl) : opnd (E.int a0) m = m >>= fun v => pure (.val v.d) := rfl
@[simp] theorem xpk_str a0 : E.peek (E.str a0) = none := rfl
@[simp] theorem xio_str a0 : E.isIo (E.str a0) = none := rfl
@[simp] theorem xop_str a0 (m : M Vl) : opnd (E.str a0) m = m >>= fun v => pure (.val v.d) := rfl
@[simp] theorem xpk_bl a0 : E.peek (E.bl a0) = none := rfl
@[simp] theorem xio_bl a0 : E.isIo (E.bl a0) = none := rfl
@[simp] theorem xop_bl a0 (m : M Vl) : opnd (E.bl a0) m = m >>= fun v => pure (.val v.d) := rfl
@[simp] theorem xpk_non  : E.peek E.non = none := rfl
@[simp] theorem xio_non  : E.isIo E.non = none := rfl
@[simp] theorem xop_non  (m : M Vl) : opnd E.non m = m >>= fun v => pure (.val v.d) := rfl
@[simp] theorem xpk_con a0 : E.peek (E.con a0) = none := rfl
@[simp] theorem xio_con a0 : E.isIo (E.con a0) = none := rfl
@[simp] theorem xop_con a0 (m : M Vl) : opnd (E.con a0) m = m >>= fun v => pure (.val v.d) := rfl
@[simp] theorem xpk_tup a0 : E.peek (E.tup a0) = none := rfl
@[simp] theorem xio_tup a0 : E.isIo (E.tup a0) = none := rfl
@[simp] theorem xop_tup a0 (m : M Vl) : opnd (E.tup a0) m = m >>= fun v => pure (.val v.d) := rfl
@[simp] theorem xpk_lst a0 : E.peek (E.lst a0) = none := rfl
@[simp] theorem xio_lst a0 : E.isIo (E.lst a0) = none := rfl
@[simp] theorem xop_lst a0 (m : M Vl) : opnd (E.lst a0) m = m >>= fun v => pure (.val v.d) := rfl
@[simp] theorem xpk_bin a0 a1 a2 : E.peek (E.bin a0 a1 a2) = none := rfl
@[simp] theorem xio_bin a0 a1 a2 : E.isIo (E.bin a0 a1 a2) = none := rfl
@[simp] theorem xop_bin a0 a1 a2 (m : M Vl) : opnd (E.bin a0 a1 a2) m = m >>= fun v => pure (.val v.d) := rfl
@[simp] theorem xpk_neg a0 : E.peek (E.neg a0) = none := rfl
@[simp] theorem xio_neg a0 : E.isIo (E.neg a0) = none := rfl
@[simp] theorem xop_neg a0 (m : M Vl) : opnd (E.neg a0) m = m >>= fun v => pure (.val v.d) := rfl
@[simp] theorem xpk_cmp a0 a1 a2 : E.peek (E.cmp a0 a1 a2) = none := rfl
@[simp] theorem xio_cmp a0 a1 a2 : E.isIo (E.cmp a0 a1 a2) = none := rfl
@[simp] theorem xop_cmp a0 a1 a2 (m : M Vl) : opnd (E.cmp a0 a1 a2) m = m >>= fun v => pure (.val v.d) := rfl
@[simp] theorem xpk_chain a0 a1 a2 a3 a4 : E.peek (E.chain a0 a1 a2 a3 a4) = none := rfl
@[simp] theorem xio_chain a0 a1 a2 a3 a4 : E.isIo (E.chain a0 a1 a2 a3 a4) = none := rfl
@[simp] theorem xop_chain a0 a1 a2 a3 a4 (m : M Vl) : opnd (E.chain a0 a1 a2 a3 a4) m = m >>= fun v => pure (.val v.d) := rfl
@[simp] theorem xpk_isN a0 a1 : E.peek (E.isN a0 a1) = none := rfl
@[simp] theorem xio_isN a0 a1 : E.isIo (E.isN a0 a1) = none := rfl
@[simp] theorem xop_isN a0 a1 (m : M Vl) : opnd (E.isN a0 a1) m = m >>= fun v => pure (.val v.d) := rfl
@[simp] theorem xpk_isB a0 a1 a2 : E.peek (E.isB a0 a1 a2) = none := rfl
@[simp] theorem xio_isB a0 a1 a2 : E.isIo (E.isB a0 a1 a2) = none := rfl
@[simp] theorem xop_isB a0 a1 a2 (m : M Vl) : opnd (E.isB a0 a1 a2) m = m >>= fun v => pure (.val v.d) := rfl
@[simp] theorem xpk_mem a0 a1 a2 : E.peek (E.mem a0 a1 a2) = none := rfl
@[simp] theorem xio_mem a0 a1 a2 : E.isIo (E.mem a0 a1 a2) = none := rfl
@[simp] theorem xop_mem a0 a1 a2 (m : M Vl) : opnd (E.mem a0 a1 a2) m = m >>= fun v => pure (.val v.d) := rfl
@[simp] theorem xpk_and a0 a1 : E.peek (E.and a0 a1) = none := rfl
@[simp] theorem xio_and a0 a1 : E.isIo (E.and a0 a1) = none := rfl
@[simp] theorem xop_and a0 a1 (m : M Vl) : opnd (E.and a0 a1) m = m >>= fun v => pure (.val v.d) := rfl
@[simp] theorem xpk_or a0 a1 : E.peek (E.or a0 a1) = none := rfl
@[simp] theorem xio_or a0 a1 : E.isIo (E.or a0 a1) = none := rfl
@[simp] theorem xop_or a0 a1 (m : M Vl) : opnd (E.or a0 a1) m = m >>= fun v => pure (.val v.d) := rfl
@[simp] theorem xpk_not a0 : E.peek (E.not a0) = none := rfl
@[simp] theorem xio_not a0 : E.isIo (E.not a0) = none := rfl
@[simp] theorem xop_not a0 (m : M Vl) : opnd (E.not a0) m = m >>= fun v => pure (.val v.d) := rfl
@[simp] theorem xpk_ite a0 a1 a2 : E.peek (E.ite a0 a1 a2) = none := rfl
@[simp] theorem xio_ite a0 a1 a2 : E.isIo (E.ite a0 a1 a2) = none := rfl
@[simp] theorem xop_ite a0 a1 a2 (m : M Vl) : opnd (E.ite a0 a1 a2) m = m >>= fun v => pure (.val v.d) := rfl
@[simp] theorem xpk_ix a0 a1 : E.peek (E.ix a0 a1) = none := rfl
@[simp] theorem xio_ix a0 a1 : E.isIo (E.ix a0 a1) = none := rfl
@[simp] theorem xop_ix a0 a1 (m : M Vl) : opnd (E.ix a0 a1) m = m >>= fun v => pure (.val v.d) := rfl
@[simp] theorem xpk_cut a0 a1 a2 : E.peek (E.cut a0 a1 a2) = none := rfl
@[simp] theorem xio_cut a0 a1 a2 : E.isIo (E.cut a0 a1 a2) = none := rfl
@[simp] theorem xop_cut a0 a1 a2 (m : M Vl) : opnd (E.cut a0 a1 a2) m = m >>= fun v => pure (.val v.d) := rfl
@[simp] theorem xpk_rev a0 : E.peek (E.rev a0) = none := rfl
@[simp] theorem xio_rev a0 : E.isIo (E.rev a0) = none := rfl
@[simp] theorem xop_rev a0 (m : M Vl) : opnd (E.rev a0) m = m >>= fun v => pure (.val v.d) := rfl
@[simp] theorem xpk_call a0 a1 : E.peek (E.call a0 a1) = none := rfl
@[simp] theorem xio_call a0 a1 : E.isIo (E.call a0 a1) = none := rfl
@[simp] theorem xop_call a0 a1 (m : M Vl) : opnd (E.call a0 a1) m = m >>= fun v => pure (.val v.d) := rfl
@[simp] theorem xpk_b1 a0 a1 : E.peek (E.b1 a0 a1) = none := rfl
@[simp] theorem xio_b1 a0 a1 : E.isIo (E.b1 a0 a1) = none := rfl
@[simp] theorem xop_b1 a0 a1 (m : M Vl) : opnd (E.b1 a0 a1) m = m >>= fun v => pure (.val v.d) := rfl
@[simp] theorem xpk_b2 a0 a1 a2 : E.peek (E.b2 a0 a1 a2) = none := rfl
@[simp] theorem xio_b2 a0 a1 a2 : E.isIo (E.b2 a0 a1 a2) = none := rfl
@[simp] theorem xop_b2 a0 a1 a2 (m : M Vl) : opnd (E.b2 a0 a1 a2) m = m >>= fun v => pure (.val v.d) := rfl
@[simp] theorem xpk_max3 a0 a1 a2 : E.peek (E.max3 a0 a1 a2) = none := rfl
@[simp] theorem xio_max3 a0 a1 a2 : E.isIo (E.max3 a0 a1 a2) = none := rfl
@[simp] theorem xop_max3 a0 a1 a2 (m : M Vl) : opnd (E.max3 a0 a1 a2) m = m >>= fun v => pure (.val v.d) := rfl
@[simp] theorem xpk_isi a0 a1 : E.peek (E.isi a0 a1) = none := rfl
@[simp] theorem xio_isi a0 a1 : E.isIo (E.isi a0 a1) = none := rfl
@[simp] theorem xop_isi a0 a1 (m : M Vl) : opnd (E.isi a0 a1) m = m >>= fun v => pure (.val v.d) := rfl
@[simp] theorem xpk_rng a0 : E.peek (E.rng a0) = none := rfl
@[simp] theorem xio_rng a0 : E.isIo (E.rng a0) = none := rfl
@[simp] theorem xop_rng a0 (m : M Vl) : opnd (E.rng a0) m = m >>= fun v => pure (.val v.d) := rfl
@[simp] theorem xpk_rngT a0 : E.peek (E.rngT a0) = none := rfl
@[simp] theorem xio_rngT a0 : E.isIo (E.rngT a0) = none := rfl
@[simp] theorem xop_rngT a0 (m : M Vl) : opnd (E.rngT a0) m = m >>= fun v => pure (.val v.d) := rfl
@[simp] theorem xpk_comp a0 a1 a2 a3 a4 a5 a6 : E.peek (E.comp a0 a1 a2 a3 a4 a5 a6) = none := rfl
@[simp] theorem xio_comp a0 a1 a2 a3 a4 a5 a6 : E.isIo (E.comp a0 a1 a2 a3 a4 a5 a6) = none := rfl
@[simp] theorem xop_comp a0 a1 a2 a3 a4 a5 a6 (m : M Vl) : opnd (E.comp a0 a1 a2 a3 a4 a5 a6) m = m >>= fun v => pure (.val v.d) := rfl
@[simp] theorem xpk_comp2 a0 a1 a2 a3 a4 a5 a6 a7 a8 a9 a10 : E.peek (E.comp2 a0 a1 a2 a3 a4 a5 a6 a7 a8 a9 a10) = none := rfl
@[simp] theorem xio_comp2 a0 a1 a2 a3 a4 a5 a6 a7 a8 a9 a10 : E.isIo (E.comp2 a0 a1 a2 a3 a4 a5 a6 a7 a8 a9 a10) = none := rfl
@[simp] theorem xop_comp2 a0 a1 a2 a3 a4 a5 a6 a7 a8 a9 a10 (m : M Vl) : opnd (E.comp2 a0 a1 a2 a3 a4 a5 a6 a7 a8 a9 a10) m = m >>= fun v => pure (.val v.d) := rfl
@[simp] theorem xpk_join a0 a1 : E.peek (E.join a0 a1) = none := rfl
@[simp] theorem xio_join a0 a1 : E.isIo (E.join a0 a1) = none := rfl
@[simp] theorem xop_join a0 a1 (m : M Vl) : opnd (E.join a0 a1) m = m >>= fun v => pure (.val v.d) := rfl
@[simp] theorem xpk_split a0 a1 : E.peek (E.split a0 a1) = none := rfl
@[simp] theorem xio_split a0 a1 : E.isIo (E.split a0 a1) = none := rfl
@[simp] theorem xop_split a0 a1 (m : M Vl) : opnd (E.split a0 a1) m = m >>= fun v => pure (.val v.d) := rfl
@[simp] theorem xpk_index a0 a1 : E.peek (E.index a0 a1) = none := rfl
@[simp] theorem xio_index a0 a1 : E.isIo (E.index a0 a1) = none := rfl
@[simp] theorem xop_index a0 a1 (m : M Vl) : opnd (E.index a0 a1) m = m >>= fun v => pure (.val v.d) := rfl
@[simp] theorem xpk_callV a0 a1 a2 : E.peek (E.callV a0 a1 a2) = none := rfl
@[simp] theorem xio_callV a0 a1 a2 : E.isIo (E.callV a0 a1 a2) = none := rfl
@[simp] theorem xop_callV a0 a1 a2 (m : M Vl) : opnd (E.callV a0 a1 a2) m = m >>= fun v => pure (.val v.d) := rfl
@[simp] theorem xpk_strGet a0 a1 a2 : E.peek (E.strGet a0 a1 a2) = none := rfl
@[simp] theorem xio_strGet a0 a1 a2 : E.isIo (E.strGet a0 a1 a2) = none := rfl
@[simp] theorem xop_strGet a0 a1 a2 (m : M Vl) : opnd (E.strGet a0 a1 a2) m = m >>= fun v => pure (.val v.d) := rfl
@[simp] theorem ty_int_non  : isTy .int PL.D.non = some false := rfl
@[simp] theorem ty_int_bl b : isTy .int (PL.D.bl b) = some true := rfl
@[simp] theorem ty_int_int i : isTy .int (PL.D.int i) = some true := rfl
@[simp] theorem ty_int_str s : isTy .int (PL.D.str s) = some false := rfl
@[simp] theorem ty_int_tup l : isTy .int (PL.D.tup l) = some false := rfl
@[simp] theorem ty_int_lst l : isTy .int (PL.D.lst l) = some false := rfl
@[simp] theorem ty_bool_non  : isTy .bool PL.D.non = some false := rfl
@[simp] theorem ty_bool_bl b : isTy .bool (PL.D.bl b) = some true := rfl
@[simp] theorem ty_bool_int i : isTy .bool (PL.D.int i) = some false := rfl
@[simp] theorem ty_bool_str s : isTy .bool (PL.D.str s) = some false := rfl
@[simp] theorem ty_bool_tup l : isTy .bool (PL.D.tup l) = some false := rfl
@[simp] theorem ty_bool_lst l : isTy .bool (PL.D.lst l) = some false := rfl
@[simp] theorem ty_str_non  : isTy .str PL.D.non = some false := rfl
@[simp] theorem ty_str_bl b : isTy .str (PL.D.bl b) = some false := rfl
@[simp] theorem ty_str_int i : isTy .str (PL.D.int i) = some false := rfl
@[simp] theorem ty_str_str s : isTy .str (PL.D.str s) = some true := rfl
@[simp] theorem ty_str_tup l : isTy .str (PL.D.tup l) = some false := rfl
@[simp] theorem ty_str_lst l : isTy .str (PL.D.lst l) = some false := rfl
@[simp] theorem ty_tuple_non  : isTy .tuple PL.D.non = some false := rfl
@[simp] theorem ty_tuple_bl b : isTy .tuple (PL.D.bl b) = some false := rfl
@[simp] theorem ty_tuple_int i : isTy .tuple (PL.D.int i) = some false := rfl
@[simp] theorem ty_tuple_str s : isTy .tuple (PL.D.str s) = some false := rfl
@[simp] theorem ty_tuple_tup l : isTy .tuple (PL.D.tup l) = some true := rfl
@[simp] theorem ty_tuple_lst l : isTy .tuple (PL.D.lst l) = some false := rfl
@[simp] theorem ty_list_non  : isTy .list PL.D.non = some false := rfl
@[simp] theorem ty_list_bl b : isTy .list (PL.D.bl b) = some false := rfl
@[simp] theorem ty_list_int i : isTy .list (PL.D.int i) = some false := rfl
@[simp] theorem ty_list_str s : isTy .list (PL.D.str s) = some false := rfl
@[simp] theorem ty_list_tup l : isTy .list (PL.D.tup l) = some false := rfl
@[simp] theorem ty_list_lst l : isTy .list (PL.D.lst l) = some true := rfl
@[simp] theorem x_init_t (ms : List Bool) (d : D) (ds : List D) : init (true :: ms) (d :: ds) = some (.pin, d) :: init ms ds := rfl
@[simp] theorem x_init_f (ms : List Bool) (d : D) (ds : List D) : init (false :: ms) (d :: ds) = some (.shr, d) :: init ms ds := rfl
@[simp] theorem x_init_n : init [] [] = [] := rfl
@[simp] theorem x_out_n (ρ : Env) : outsAt [] ρ = some [] := rfl
@[simp] theorem x_out_t (ms : List Bool) (d : D) (ρ : Env) : outsAt (true :: ms) (some (.pin, d) :: ρ) = (outsAt ms ρ).map (d :: ·) := rfl
@[simp] theorem x_out_f (ms : List Bool) (s : Slot) (ρ : Env) : outsAt (false :: ms) (s :: ρ) = (outsAt ms ρ).map (.non :: ·) := rfl
@[simp] theorem x_cmpM (op : Cop) (x y : D) : cmpM op x y = M.opt ((cmpv op x y).map fun b => sh (.bl b)) := rfl
@[simp] theorem x_evNot (v : Vl) : evNot v = asBl v >>= fun b => pure (sh (.bl !b)) := rfl
@[simp] theorem x_asPart (o : Option D) : asPart o = M.opt (optInt o) := rfl
@[simp] theorem x_optN : optInt none = some none := rfl
@[simp] theorem x_optS (i : Int) : optInt (some (.int i)) = some (some i) := rfl
@[simp] theorem x_slots_n : slotsOf [] = [] := rfl
@[simp] theorem x_slots_v (d : D) (r : List Arg) : slotsOf (.val d :: r) = slotsOf r := rfl
@[simp] theorem x_slots_b (i : Nat) (r : List Arg) : slotsOf (.bor i :: r) = i :: slotsOf r := rfl
@[simp] theorem x_slots_i (i : Nat) (r : List Arg) : slotsOf (.io i :: r) = i :: slotsOf r := rfl
@[simp] theorem x_vals_n : valsD [] = [] := rfl
@[simp] theorem x_vals_v (d : D) (r : List Arg) : valsD (.val d :: r) = d :: valsD r := rfl
@[simp] theorem x_mkG_fn (fs : List Fn) (cs : List D) (j : Nat) : (mkG fs cs).fn j = fs.getD j fun _ => .bad := rfl
@[simp] theorem x_mkG_con (fs : List Fn) (cs : List D) (j : Nat) : (mkG fs cs).con j = cs.getD j .non := rfl
@[simp] theorem x_asg_nm (i : Nat) (d : D) : asgTg (.nm i) d = put i (sh d) := by rw [asgTg]
@[simp] theorem x_asg_tup (ts : List Tg) (ds : List D) : asgTg (.tup ts) (.tup ds) = if ts.length = ds.length then asgTgs ts ds else M.bad := by rw [asgTg]
@[simp] theorem x_asgs_n : asgTgs [] [] = pure () := by rw [asgTgs]
@[simp] theorem x_asgs_c (t : Tg) (ts : List Tg) (d : D) (ds : List D) : asgTgs (t :: ts) (d :: ds) = asgTg t d >>= fun _ => asgTgs ts ds := by rw [asgTgs]
@[simp] theorem x_src (Γ : Gm) (sk : Nat) (s1 : E) (s2 : Option E) : evSrc Γ sk s1 s2 = evE Γ s1 >>= fun v => evO Γ s2 >>= fun d2 => M.opt (itemsOf sk v.d d2) := rfl
@[simp] theorem x_it_l (l : List D) : itemsOf 0 (.lst l) none = some l := rfl
@[simp] theorem x_it_t (l : List D) : itemsOf 0 (.tup l) none = some l := rfl
@[simp] theorem x_it_r (n : Int) : itemsOf 1 (.int n) none = if rangeOk 0 n then some (rangeD 0 n) else none := rfl
@[simp] theorem x_it_r2 (a b : Int) : itemsOf 2 (.int a) (some (.int b)) = if rangeOk a b then some (rangeD a b) else none := rfl
@[simp] theorem x_it_e (l : List D) : itemsOf 3 (.lst l) none = some (enumD 0 l) := rfl
@[simp] theorem x_it_z (x y : List D) : itemsOf 4 (.lst x) (some (.lst y)) = some (zipD x y) := rfl
@[simp] theorem x_it_z2 (x y : List D) : itemsOf 4 (.tup x) (some (.tup y)) = some (zipD x y) := rfl
@[simp] theorem x_len_t (l : List D) : lenv (.tup l) = some (l.length : Int) := rfl
@[simp] theorem x_len_l (l : List D) : lenv (.lst l) = some (l.length : Int) := rfl
@[simp] theorem x_len_r (l : List D) : lenv (.ro l) = some (l.length : Int) := rfl
@[simp] theorem x_len_s (s : Str) : lenv (.str s) = if s.length ≤ szL then some (s.length : Int) else none := rfl
@[simp] theorem x_b1_len (d : D) : b1 .len d = (lenv d).map fun n => sh (.int n) := by unfold b1; cases d <;> rfl
@[simp] theorem x_b1_listl (l : List D) : b1 .list (.lst l) = some (ow (.lst l)) := rfl
@[simp] theorem x_b1_listt (l : List D) : b1 .list (.tup l) = some (ow (.lst l)) := rfl
@[simp] theorem x_b1_tupl (l : List D) : b1 .tuple (.lst l) = some (sh (.tup l)) := rfl
@[simp] theorem x_b1_tupt (l : List D) : b1 .tuple (.tup l) = some (sh (.tup l)) := rfl
@[simp] theorem x_b1_inti (i : Int) : b1 .int (.int i) = some (sh (.int i)) := rfl
@[simp] theorem x_b1_intb (b : Bool) : b1 .int (.bl b) = some (sh (.int (if b then 1 else 0))) := rfl
@[simp] theorem x_b1_abs (i : Int) : b1 .abs (.int i) = some (sh (.int (if i < 0 then -i else i))) := rfl
@[simp] theorem x_b1_str (i : Int) : b1 .str (.int i) = if i.natAbs.log2 < 1920 then some (sh (.str (toString i))) else none := rfl
@[simp] theorem x_b1_sum (l : List D) : b1 .sum (.lst l) = (isInts l).map fun ns => sh (.int ns.sum) := rfl
@[simp] theorem x_b1_all (l : List D) : b1 .all (.lst l) = (isBls l).map fun bs => sh (.bl (bs.all id)) := rfl
@[simp] theorem x_b1_any (l : List D) : b1 .any (.lst l) = (isBls l).map fun bs => sh (.bl (bs.any id)) := rfl
@[simp] theorem x_b2_min (i j : Int) : b2 .min (.int i) (.int j) = some (sh (.int (if j < i then j else i))) := rfl
@[simp] theorem x_b2_max (i j : Int) : b2 .max (.int i) (.int j) = some (sh (.int (if j > i then j else i))) := rfl
@[simp] theorem x_max3 (i j k : Int) : max3 (.int i) (.int j) (.int k) = some (sh (.int (max (max i j) k))) := rfl
@[simp] theorem x_lt (i j : Int) : cmpv .lt (.int i) (.int j) = some (decide (i < j)) := rfl
@[simp] theorem x_le (i j : Int) : cmpv .le (.int i) (.int j) = some (decide (i ≤ j)) := rfl
@[simp] theorem x_gt (i j : Int) : cmpv .gt (.int i) (.int j) = some (decide (j < i)) := rfl
@[simp] theorem x_ge (i j : Int) : cmpv .ge (.int i) (.int j) = some (decide (j ≤ i)) := rfl
@[simp] theorem x_eqi (i j : Int) : cmpv .eq (.int i) (.int j) = some (i == j) := by unfold cmpv; simp [D.cmpb, D.eqv]
@[simp] theorem x_nei (i j : Int) : cmpv .ne (.int i) (.int j) = some (!(i == j)) := by unfold cmpv; simp [D.cmpb, D.eqv]
@[simp] theorem x_eqs (x y : Str) : cmpv .eq (.str x) (.str y) = some (x == y) := rfl
@[simp] theorem x_nes (x y : Str) : cmpv .ne (.str x) (.str y) = some (!(x == y)) := rfl
@[simp] theorem x_addi (i j : Int) : bin .add (.int i) (.int j) = some (sh (.int (i + j))) := rfl
@[simp] theorem x_subi (i j : Int) : bin .sub (.int i) (.int j) = some (sh (.int (i - j))) := rfl
@[simp] theorem x_addt (x y : List D) : bin .add (.tup x) (.tup y) = if x.length + y.length ≤ szL then some (sh (.tup (x ++ y))) else none := rfl
@[simp] theorem x_addl (x y : List D) : bin .add (.lst x) (.lst y) = if x.length + y.length ≤ szL then some (ow (.lst (x ++ y))) else none := rfl
@[simp] theorem x_mod (i j : Int) : bin .mod (.int i) (.int j) = if 0 < j then some (sh (.int (i % j))) else none := rfl
@[simp] theorem x_fdiv (i j : Int) : bin .fdiv (.int i) (.int j) = if 0 < j ∧ j.natAbs.log2 < 9000 then some (sh (.int (i / j))) else none := rfl
/-- a product that is served -/
@[irreducible] def mulOk (i j : Int) : Bool := small64 i || small64 j || decide (i.natAbs.log2 + j.natAbs.log2 < 1000000)
@[simp] theorem x_muli (i j : Int) : bin .mul (.int i) (.int j) = if mulOk i j = true then some (sh (.int (i * j))) else none := by
  unfold mulOk
  rfl
@[simp] theorem mulOk_l {i j : Int} (h : small64 i = true) : mulOk i j = true := by
  unfold mulOk
  rw [h]
  rfl
@[simp] theorem mulOk_r {i j : Int} (h : small64 j = true) : mulOk i j = true := by
  unfold mulOk
  rw [h, Bool.or_true]
  rfl
@[simp] theorem x_ixt (l : List D) (i : Int) : itemv (.tup l) (.int i) = at? l i := rfl
@[simp] theorem x_ixl (l : List D) (i : Int) : itemv (.lst l) (.int i) = at? l i := rfl
@[simp] theorem x_ixr (l : List D) (i : Int) : itemv (.ro l) (.int i) = at? l i := rfl
@[simp] theorem x_cutt (l : List D) (lo hi : Option Int) : cutv (.tup l) lo hi = some (sh (.tup (cut l lo hi))) := rfl
@[simp] theorem x_cutl (l : List D) (lo hi : Option Int) : cutv (.lst l) lo hi = some (ow (.lst (cut l lo hi))) := rfl
@[simp] theorem x_wipe_n (ρ : Env) : wipe ρ [] = ρ := rfl
@[simp] theorem x_wipe_c (ρ : Env) (v : Nat) (vs : List Nat) : wipe ρ (v :: vs) = (wipe ρ vs).set v none := rfl
@[simp] theorem x_rest_n (ρ0 ρ : Env) : restore ρ0 ρ [] = ρ := rfl
@[simp] theorem x_rest_c (ρ0 ρ : Env) (v : Nat) (vs : List Nat) : restore ρ0 ρ (v :: vs) = (restore ρ0 ρ vs).set v (ρ0.getD v none) := rfl
/-- a comprehension whose element is a function of the item -/
theorem wp_bmap {own : List Nat} {asg : D → M Unit} {cnd : M Bool} {elt : M D} {ρ : Env} {P : List D → Env → Prop} {xs : List D} (f : D → D) (no : noOwned ρ own = true)
    (step : ∀ x ∈ xs, wp (asg x) (wipe ρ own) fun _ ρ1 => wp cnd ρ1 fun c ρ2 => c = true ∧ wp elt ρ2 fun y ρ3 => y = f x ∧ wipe ρ3 own = wipe ρ own) (h : P (xs.map f) (restore ρ (wipe ρ own) own)) : wp (block own (compL own asg cnd elt xs)) ρ P := by
  rw [wp_block no]
  exact wp_map f xs step h
theorem cmpbs_mem : ∀ {l : List D} {n : Nat}, D.cmpbs n l = true → ∀ x ∈ l, x.cmpb n = true
  | [], n, h, x, hx => by cases hx
  | y :: l, n, h, x, hx => by
    rw [D.cmpbs, Bool.and_eq_true] at h
    rcases List.mem_cons.mp hx with rfl | hx
    · exact h.1
    · exact cmpbs_mem h.2 x hx
theorem cmpbs_of : ∀ {l : List D} {n : Nat}, (∀ x ∈ l, x.cmpb n = true) → D.cmpbs n l = true
  | [], n, h => by rw [D.cmpbs]
  | y :: l, n, h => by
    rw [D.cmpbs, Bool.and_eq_true]
    exact ⟨h y (by simp), cmpbs_of fun x hx => h x (by simp [hx])⟩
theorem cmpb_tup {l : List D} {n : Nat} (h : (D.tup l).cmpb n = true) : ∃ m, n = m + 1 ∧ ∀ x ∈ l, x.cmpb m = true := by
  cases n with
  | zero => simp [D.cmpb] at h
  | succ m => exact ⟨m, rfl, cmpbs_mem (by rw [D.cmpb] at h; exact h)⟩
theorem cmpb_lst {l : List D} {n : Nat} (h : (D.lst l).cmpb n = true) : ∃ m, n = m + 1 ∧ ∀ x ∈ l, x.cmpb m = true := by
  cases n with
  | zero => simp [D.cmpb] at h
  | succ m => exact ⟨m, rfl, cmpbs_mem (by rw [D.cmpb] at h; exact h)⟩
/-- no dict, no read-only list -/
def pln (v : D) : Bool := match v with
  | .ro _ => false
  | .dct _ => false
  | .fn _ => false
  | _ => true
theorem pln_of {v : D} {n : Nat} (h : v.cmpb n = true) : pln v = true := by
  cases v with
  | ro l => cases n <;> simp [D.cmpb] at h
  | dct l => cases n <;> simp [D.cmpb] at h
  | fn l => cases n <;> simp [D.cmpb] at h
  | _ => rfl
mutual
theorem cmpb_mono : ∀ {v : D} {n m : Nat}, n ≤ m → v.cmpb n = true → v.cmpb m = true
  | .non, n, m, _, _ => by simp [D.cmpb]
  | .bl b, n, m, _, _ => by simp [D.cmpb]
  | .int i, n, m, _, _ => by simp [D.cmpb]
  | .str s, n, m, _, h => by cases n <;> cases m <;> simpa [D.cmpb] using h
  | .tup l, n, m, le, h => by
    cases n with
    | zero => simp [D.cmpb] at h
    | succ n =>
      cases m with
      | zero => omega
      | succ m =>
        rw [D.cmpb] at h ⊢
        exact cmpbs_mono (Nat.le_of_succ_le_succ le) h
  | .lst l, n, m, le, h => by
    cases n with
    | zero => simp [D.cmpb] at h
    | succ n =>
      cases m with
      | zero => omega
      | succ m =>
        rw [D.cmpb] at h ⊢
        exact cmpbs_mono (Nat.le_of_succ_le_succ le) h
  | .ro l, n, m, _, h => by cases n <;> simp [D.cmpb] at h
  | .dct l, n, m, _, h => by cases n <;> simp [D.cmpb] at h
  | .fn l, n, m, _, h => by cases n <;> simp [D.cmpb] at h
theorem cmpbs_mono : ∀ {l : List D} {n m : Nat}, n ≤ m → D.cmpbs n l = true → D.cmpbs m l = true
  | [], n, m, _, _ => by rw [D.cmpbs]
  | x :: l, n, m, le, h => by
    rw [D.cmpbs, Bool.and_eq_true] at h ⊢
    exact ⟨cmpb_mono le h.1, cmpbs_mono le h.2⟩
end
@[simp] theorem q_non_non   : D.eqv PL.D.non PL.D.non = true := by simp [D.eqv]
@[simp] theorem q_non_bl  b : D.eqv PL.D.non (PL.D.bl b) = false := by simp [D.eqv]
@[simp] theorem q_non_int  j : D.eqv PL.D.non (PL.D.int j) = false := by simp [D.eqv]
@[simp] theorem q_non_str  y : D.eqv PL.D.non (PL.D.str y) = false := by simp [D.eqv]
@[simp] theorem q_non_tup  m : D.eqv PL.D.non (PL.D.tup m) = false := by simp [D.eqv]
@[simp] theorem q_non_lst  m : D.eqv PL.D.non (PL.D.lst m) = false := by simp [D.eqv]
@[simp] theorem q_bl_non a  : D.eqv (PL.D.bl a) PL.D.non = false := by simp [D.eqv]
@[simp] theorem q_bl_bl a b : D.eqv (PL.D.bl a) (PL.D.bl b) = (a == b) := by simp [D.eqv]
@[simp] theorem q_bl_int a j : D.eqv (PL.D.bl a) (PL.D.int j) = ((if a then 1 else 0) == j) := by simp [D.eqv]
@[simp] theorem q_bl_str a y : D.eqv (PL.D.bl a) (PL.D.str y) = false := by simp [D.eqv]
@[simp] theorem q_bl_tup a m : D.eqv (PL.D.bl a) (PL.D.tup m) = false := by simp [D.eqv]
@[simp] theorem q_bl_lst a m : D.eqv (PL.D.bl a) (PL.D.lst m) = false := by simp [D.eqv]
@[simp] theorem q_int_non i  : D.eqv (PL.D.int i) PL.D.non = false := by simp [D.eqv]
@[simp] theorem q_int_bl i b : D.eqv (PL.D.int i) (PL.D.bl b) = (i == (if b then 1 else 0)) := by simp [D.eqv]
@[simp] theorem q_int_int i j : D.eqv (PL.D.int i) (PL.D.int j) = (i == j) := by simp [D.eqv]
@[simp] theorem q_int_str i y : D.eqv (PL.D.int i) (PL.D.str y) = false := by simp [D.eqv]
@[simp] theorem q_int_tup i m : D.eqv (PL.D.int i) (PL.D.tup m) = false := by simp [D.eqv]
@[simp] theorem q_int_lst i m : D.eqv (PL.D.int i) (PL.D.lst m) = false := by simp [D.eqv]
@[simp] theorem q_str_non x  : D.eqv (PL.D.str x) PL.D.non = false := by simp [D.eqv]
@[simp] theorem q_str_bl x b : D.eqv (PL.D.str x) (PL.D.bl b) = false := by simp [D.eqv]
@[simp] theorem q_str_int x j : D.eqv (PL.D.str x) (PL.D.int j) = false := by simp [D.eqv]
@[simp] theorem q_str_str x y : D.eqv (PL.D.str x) (PL.D.str y) = (x == y) := by simp [D.eqv]
@[simp] theorem q_str_tup x m : D.eqv (PL.D.str x) (PL.D.tup m) = false := by simp [D.eqv]
@[simp] theorem q_str_lst x m : D.eqv (PL.D.str x) (PL.D.lst m) = false := by simp [D.eqv]
@[simp] theorem q_tup_non l  : D.eqv (PL.D.tup l) PL.D.non = false := by simp [D.eqv]
@[simp] theorem q_tup_bl l b : D.eqv (PL.D.tup l) (PL.D.bl b) = false := by simp [D.eqv]
@[simp] theorem q_tup_int l j : D.eqv (PL.D.tup l) (PL.D.int j) = false := by simp [D.eqv]
@[simp] theorem q_tup_str l y : D.eqv (PL.D.tup l) (PL.D.str y) = false := by simp [D.eqv]
@[simp] theorem q_tup_tup l m : D.eqv (PL.D.tup l) (PL.D.tup m) = D.eqvs l m := by simp [D.eqv]
@[simp] theorem q_tup_lst l m : D.eqv (PL.D.tup l) (PL.D.lst m) = false := by simp [D.eqv]
@[simp] theorem q_lst_non l  : D.eqv (PL.D.lst l) PL.D.non = false := by simp [D.eqv]
@[simp] theorem q_lst_bl l b : D.eqv (PL.D.lst l) (PL.D.bl b) = false := by simp [D.eqv]
@[simp] theorem q_lst_int l j : D.eqv (PL.D.lst l) (PL.D.int j) = false := by simp [D.eqv]
@[simp] theorem q_lst_str l y : D.eqv (PL.D.lst l) (PL.D.str y) = false := by simp [D.eqv]
@[simp] theorem q_lst_tup l m : D.eqv (PL.D.lst l) (PL.D.tup m) = false := by simp [D.eqv]
@[simp] theorem q_lst_lst l m : D.eqv (PL.D.lst l) (PL.D.lst m) = D.eqvs l m := by simp [D.eqv]
@[simp] theorem qs_nn : D.eqvs [] [] = true := by rw [D.eqvs]
@[simp] theorem qs_nc (y : D) (l : List D) : D.eqvs [] (y :: l) = false := by simp [D.eqvs]
@[simp] theorem qs_cn (x : D) (l : List D) : D.eqvs (x :: l) [] = false := by simp [D.eqvs]
@[simp] theorem qs_cc (x y : D) (l m : List D) : D.eqvs (x :: l) (y :: m) = (x.eqv y && D.eqvs l m) := by rw [D.eqvs]
@[simp] theorem sc_non  : isScal PL.D.non = true := rfl
@[simp] theorem sc_bl a : isScal (PL.D.bl a) = true := rfl
@[simp] theorem sc_int i : isScal (PL.D.int i) = true := rfl
@[simp] theorem sc_str x : isScal (PL.D.str x) = true := rfl
@[simp] theorem callV0 {F : Fn} {ρ : Env} {P : Vl → Env → Prop} : wp (callF F []) ρ P = okF F [] fun v o => o.length = 0 ∧ P v ρ := callF_V rfl
@[simp] theorem callV1 {F : Fn} {ρ : Env} {d0 : D} {P : Vl → Env → Prop} : wp (callF F [.val d0]) ρ P = okF F [d0] fun v o => o.length = 1 ∧ P v ρ := callF_V rfl
@[simp] theorem callV2 {F : Fn} {ρ : Env} {d0 d1 : D} {P : Vl → Env → Prop} : wp (callF F [.val d0, .val d1]) ρ P = okF F [d0, d1] fun v o => o.length = 2 ∧ P v ρ := callF_V rfl
@[simp] theorem callV3 {F : Fn} {ρ : Env} {d0 d1 d2 : D} {P : Vl → Env → Prop} : wp (callF F [.val d0, .val d1, .val d2]) ρ P = okF F [d0, d1, d2] fun v o => o.length = 3 ∧ P v ρ := callF_V rfl
@[simp] theorem callV4 {F : Fn} {ρ : Env} {d0 d1 d2 d3 : D} {P : Vl → Env → Prop} : wp (callF F [.val d0, .val d1, .val d2, .val d3]) ρ P = okF F [d0, d1, d2, d3] fun v o => o.length = 4 ∧ P v ρ := callF_V rfl
@[simp] theorem callV5 {F : Fn} {ρ : Env} {d0 d1 d2 d3 d4 : D} {P : Vl → Env → Prop} : wp (callF F [.val d0, .val d1, .val d2, .val d3, .val d4]) ρ P = okF F [d0, d1, d2, d3, d4] fun v o => o.length = 5 ∧ P v ρ := callF_V rfl
@[simp] theorem callV6 {F : Fn} {ρ : Env} {d0 d1 d2 d3 d4 d5 : D} {P : Vl → Env → Prop} : wp (callF F [.val d0, .val d1, .val d2, .val d3, .val d4, .val d5]) ρ P = okF F [d0, d1, d2, d3, d4, d5] fun v o => o.length = 6 ∧ P v ρ := callF_V rfl
theorem callF_Io {F : Fn} {ρ : Env} {i : Nat} {f : Fg} {d : D} {as : List Arg} {P : Vl → Env → Prop} (hr : ρ[i]? = some (some (f, d))) (hf : f ≠ .shr) (hs : slotsOf as = []) :
    wp (callF F (.io i :: as)) ρ P = okF F (d :: valsD as) fun v o => o.length = as.length + 1 ∧ P v (ρ.set i (some (f, o.getD 0 .non))) := by
  refine propext ⟨fun h => ?_, fun h => wp_callIo hr hf hs (h.mono fun v o ⟨h1, h2⟩ => ⟨h1, fun x r e => by rw [e] at h2; exact h2⟩)⟩
  obtain ⟨a, b⟩ := args_val (ρ := ρ) hs
  have e : argsOf (.io i :: as) ρ = some (d :: valsD as) := by
    cases f with
    | shr => exact absurd rfl hf
    | own =>
      unfold argsOf
      rw [hr, a]; rfl
    | pin =>
      unfold argsOf
      rw [hr, a]; rfl
  unfold wp callF at h
  rw [e] at h
  dsimp only at h
  have n1 : nodupB (slotsOf (.io i :: as)) = true := by simp only [slotsOf, hs]; rfl
  have b1 : anyBor (.io i :: as) = false := b
  rw [n1, if_neg (by decide)] at h
  unfold okF
  cases q : F (d :: valsD as) with
  | ok v o =>
    rw [q] at h
    dsimp only at h ⊢
    rw [b1, if_neg (by simp)] at h
    by_cases hl : o.length = (Arg.io i :: as).length
    · rw [if_pos hl] at h
      refine ⟨hl, ?_⟩
      match o, hl with
      | x :: r, _ =>
        rw [putOuts, hr] at h
        dsimp only at h
        rw [putOuts_val hs] at h
        exact h
    · rw [if_neg hl] at h
      exact False.elim h
  | err e o =>
    rw [q] at h
    dsimp only at h ⊢
    rw [b1, if_neg (by simp)] at h
    by_cases hl : o.length = (Arg.io i :: as).length
    · rw [if_pos hl] at h; exact h
    · rw [if_neg hl] at h; exact h
  | bad => rw [q] at h; exact False.elim h
theorem callI0 {F : Fn} {ρ : Env} {i : Nat} {f : Fg} {d : D} {P : Vl → Env → Prop} (hr : ρ[i]? = some (some (f, d))) (hf : f ≠ .shr) : wp (callF F [.io i]) ρ P = okF F [d] fun v o => o.length = 1 ∧ P v (ρ.set i (some (f, o.getD 0 .non))) := callF_Io hr hf rfl
theorem callI1 {F : Fn} {ρ : Env} {i : Nat} {f : Fg} {d : D} {e0 : D} {P : Vl → Env → Prop} (hr : ρ[i]? = some (some (f, d))) (hf : f ≠ .shr) : wp (callF F [.io i, .val e0]) ρ P = okF F [d, e0] fun v o => o.length = 2 ∧ P v (ρ.set i (some (f, o.getD 0 .non))) := callF_Io hr hf rfl
theorem callI2 {F : Fn} {ρ : Env} {i : Nat} {f : Fg} {d : D} {e0 e1 : D} {P : Vl → Env → Prop} (hr : ρ[i]? = some (some (f, d))) (hf : f ≠ .shr) : wp (callF F [.io i, .val e0, .val e1]) ρ P = okF F [d, e0, e1] fun v o => o.length = 3 ∧ P v (ρ.set i (some (f, o.getD 0 .non))) := callF_Io hr hf rfl
theorem callI3 {F : Fn} {ρ : Env} {i : Nat} {f : Fg} {d : D} {e0 e1 e2 : D} {P : Vl → Env → Prop} (hr : ρ[i]? = some (some (f, d))) (hf : f ≠ .shr) : wp (callF F [.io i, .val e0, .val e1, .val e2]) ρ P = okF F [d, e0, e1, e2] fun v o => o.length = 4 ∧ P v (ρ.set i (some (f, o.getD 0 .non))) := callF_Io hr hf rfl
theorem callI4 {F : Fn} {ρ : Env} {i : Nat} {f : Fg} {d : D} {e0 e1 e2 e3 : D} {P : Vl → Env → Prop} (hr : ρ[i]? = some (some (f, d))) (hf : f ≠ .shr) : wp (callF F [.io i, .val e0, .val e1, .val e2, .val e3]) ρ P = okF F [d, e0, e1, e2, e3] fun v o => o.length = 5 ∧ P v (ρ.set i (some (f, o.getD 0 .non))) := callF_Io hr hf rfl
@[simp] theorem x_mem_t (a : D) (l : List D) : memv a (.tup l) = if isScal a && l.all isScal then some (l.any fun z => z.eqv a) else none := by
  cases a <;> rfl
@[simp] theorem x_mem_l (a : D) (l : List D) : memv a (.lst l) = if isScal a && l.all isScal || a.cmpb 60 && D.cmpbs 60 l then some (l.any fun z => z.eqv a) else none := by
  cases a <;> rfl
@[simp] theorem szL_val : szL = 16777216 := rfl
@[simp] theorem x_adds (x y : Str) : bin .add (.str x) (.str y) = if x.length + y.length ≤ szL then some (sh (.str (x ++ y))) else none := rfl
@[simp] theorem x_mull (x : List D) (k : Int) : bin .mul (.lst x) (.int k) = if -(2 ^ 63) ≤ k ∧ k < 2 ^ 63 ∧ x.length * k.toNat ≤ szL then some (ow (.lst (List.replicate k.toNat x).flatten)) else none := rfl
@[simp] theorem x_mult (x : List D) (k : Int) : bin .mul (.tup x) (.int k) = if x ≠ [] ∧ 2 ≤ k ∧ k ≤ 1000 ∧ x.length ≤ 1000 then some (sh (.tup (List.replicate k.toNat x).flatten)) else none := rfl
@[simp] theorem x_muls (x : Str) (k : Int) : bin .mul (.str x) (.int k) = if -(2 ^ 63) ≤ k ∧ k ≤ 1000 ∧ x.length ≤ 1000 then some (sh (.str ⟨(List.replicate k.toNat x.cps.toList).flatten.toArray⟩)) else none := rfl
@[simp] theorem x_pow (i j : Int) : bin .pow (.int i) (.int j) = if 0 ≤ j ∧ j ≤ 1000000 ∧ i.natAbs < 2 ^ 64 then some (sh (.int (i ^ j.toNat))) else none := rfl
theorem see_eq (i : Nat) (ρ : Env) : see i ρ = match ρ[i]? with
    | some (some (.own, _)) => .ok (.slot i) ρ
    | some (some (.pin, _)) => .ok (.slot i) ρ
    | _ => .bad := by
  unfold see
  cases ρ[i]? with
  | none => rfl
  | some s =>
    cases s with
    | none => rfl
    | some q =>
      obtain ⟨f, d⟩ := q
      cases f <;> rfl
theorem y_see {i : Nat} {ρ : Env} {P : Ref → Env → Prop} : wp (see i) ρ P = match ρ[i]? with
    | some (some (.own, _)) => P (.slot i) ρ
    | some (some (.pin, _)) => P (.slot i) ρ
    | _ => False := by
  unfold wp
  rw [see_eq]
  cases ρ[i]? with
  | none => rfl
  | some s =>
    cases s with
    | none => rfl
    | some q =>
      obtain ⟨f, d⟩ := q
      cases f <;> rfl
theorem y_slotd {i : Nat} {ρ : Env} {P : D → Env → Prop} : wp (slotd i) ρ P = match ρ[i]? with
    | some (some (.own, d)) => P d ρ
    | some (some (.pin, d)) => P d ρ
    | _ => False := by
  unfold wp slotd
  cases ρ[i]? with
  | none => rfl
  | some s =>
    cases s with
    | none => rfl
    | some q =>
      obtain ⟨f, d⟩ := q
      cases f <;> rfl
theorem y_change {i : Nat} {ρ : Env} {g : D → Option D} {P : Unit → Env → Prop} : wp (change i g) ρ P = match ρ[i]? with
    | some (some (.own, d)) => (match g d with
      | some d' => P () (ρ.set i (some (.own, d')))
      | none => False)
    | some (some (.pin, d)) => (match g d with
      | some d' => P () (ρ.set i (some (.pin, d')))
      | none => False)
    | _ => False := by
  unfold wp change
  cases ρ[i]? with
  | none => rfl
  | some s =>
    cases s with
    | none => rfl
    | some q =>
      obtain ⟨f, d⟩ := q
      cases f with
      | shr => rfl
      | own => dsimp only; cases g d <;> rfl
      | pin => dsimp only; cases g d <;> rfl
@[simp] theorem x_setd (i : Int) (x : D) (l : List D) : setd (.int i) x (.lst l) = (ixOf l.length i).map fun j => .lst (l.set j x) := rfl
@[simp] theorem x_appd (x : D) (l : List D) : appd x (.lst l) = if l.length < szL then some (.lst (l ++ [x])) else none := rfl
theorem y_callI0 {F : Fn} {ρ : Env} {i : Nat} {P : Vl → Env → Prop} : wp (callF F [.io i]) ρ P = match ρ[i]? with
    | some (some (.own, d)) => okF F [d] fun v o => o.length = 1 ∧ P v (ρ.set i (some (.own, o.getD 0 .non)))
    | some (some (.pin, d)) => okF F [d] fun v o => o.length = 1 ∧ P v (ρ.set i (some (.pin, o.getD 0 .non)))
    | _ => False := by
  cases q : ρ[i]? with
  | none => unfold wp callF argsOf; rw [q]
  | some s =>
    cases s with
    | none => unfold wp callF argsOf; rw [q]
    | some z =>
      obtain ⟨f, d⟩ := z
      cases f with
      | shr => unfold wp callF argsOf; rw [q]
      | own => exact callF_Io q (by decide) rfl
      | pin => exact callF_Io q (by decide) rfl
theorem y_callI1 {F : Fn} {ρ : Env} {i : Nat} {e0 : D} {P : Vl → Env → Prop} : wp (callF F [.io i, .val e0]) ρ P = match ρ[i]? with
    | some (some (.own, d)) => okF F [d, e0] fun v o => o.length = 2 ∧ P v (ρ.set i (some (.own, o.getD 0 .non)))
    | some (some (.pin, d)) => okF F [d, e0] fun v o => o.length = 2 ∧ P v (ρ.set i (some (.pin, o.getD 0 .non)))
    | _ => False := by
  cases q : ρ[i]? with
  | none => unfold wp callF argsOf; rw [q]
  | some s =>
    cases s with
    | none => unfold wp callF argsOf; rw [q]
    | some z =>
      obtain ⟨f, d⟩ := z
      cases f with
      | shr => unfold wp callF argsOf; rw [q]
      | own => exact callF_Io q (by decide) rfl
      | pin => exact callF_Io q (by decide) rfl
theorem y_callI2 {F : Fn} {ρ : Env} {i : Nat} {e0 e1 : D} {P : Vl → Env → Prop} : wp (callF F [.io i, .val e0, .val e1]) ρ P = match ρ[i]? with
    | some (some (.own, d)) => okF F [d, e0, e1] fun v o => o.length = 3 ∧ P v (ρ.set i (some (.own, o.getD 0 .non)))
    | some (some (.pin, d)) => okF F [d, e0, e1] fun v o => o.length = 3 ∧ P v (ρ.set i (some (.pin, o.getD 0 .non)))
    | _ => False := by
  cases q : ρ[i]? with
  | none => unfold wp callF argsOf; rw [q]
  | some s =>
    cases s with
    | none => unfold wp callF argsOf; rw [q]
    | some z =>
      obtain ⟨f, d⟩ := z
      cases f with
      | shr => unfold wp callF argsOf; rw [q]
      | own => exact callF_Io q (by decide) rfl
      | pin => exact callF_Io q (by decide) rfl
theorem y_callI3 {F : Fn} {ρ : Env} {i : Nat} {e0 e1 e2 : D} {P : Vl → Env → Prop} : wp (callF F [.io i, .val e0, .val e1, .val e2]) ρ P = match ρ[i]? with
    | some (some (.own, d)) => okF F [d, e0, e1, e2] fun v o => o.length = 4 ∧ P v (ρ.set i (some (.own, o.getD 0 .non)))
    | some (some (.pin, d)) => okF F [d, e0, e1, e2] fun v o => o.length = 4 ∧ P v (ρ.set i (some (.pin, o.getD 0 .non)))
    | _ => False := by
  cases q : ρ[i]? with
  | none => unfold wp callF argsOf; rw [q]
  | some s =>
    cases s with
    | none => unfold wp callF argsOf; rw [q]
    | some z =>
      obtain ⟨f, d⟩ := z
      cases f with
      | shr => unfold wp callF argsOf; rw [q]
      | own => exact callF_Io q (by decide) rfl
      | pin => exact callF_Io q (by decide) rfl
theorem y_callI4 {F : Fn} {ρ : Env} {i : Nat} {e0 e1 e2 e3 : D} {P : Vl → Env → Prop} : wp (callF F [.io i, .val e0, .val e1, .val e2, .val e3]) ρ P = match ρ[i]? with
    | some (some (.own, d)) => okF F [d, e0, e1, e2, e3] fun v o => o.length = 5 ∧ P v (ρ.set i (some (.own, o.getD 0 .non)))
    | some (some (.pin, d)) => okF F [d, e0, e1, e2, e3] fun v o => o.length = 5 ∧ P v (ρ.set i (some (.pin, o.getD 0 .non)))
    | _ => False := by
  cases q : ρ[i]? with
  | none => unfold wp callF argsOf; rw [q]
  | some s =>
    cases s with
    | none => unfold wp callF argsOf; rw [q]
    | some z =>
      obtain ⟨f, d⟩ := z
      cases f with
      | shr => unfold wp callF argsOf; rw [q]
      | own => exact callF_Io q (by decide) rfl
      | pin => exact callF_Io q (by decide) rfl
@[simp] theorem zy_see {i : Nat} {s0 : Slot} {r0 : Env} {P : Ref → Env → Prop} : wp (see i) (s0 :: r0) P = (match (s0 :: r0)[i]? with
    | some (some (.own, _)) => P (.slot i) (s0 :: r0)
    | some (some (.pin, _)) => P (.slot i) (s0 :: r0)
    | _ => False) := y_see
@[simp] theorem zy_slotd {i : Nat} {s0 : Slot} {r0 : Env} {P : D → Env → Prop} : wp (slotd i) (s0 :: r0) P = (match (s0 :: r0)[i]? with
    | some (some (.own, d)) => P d (s0 :: r0)
    | some (some (.pin, d)) => P d (s0 :: r0)
    | _ => False) := y_slotd
@[simp] theorem zy_change {i : Nat} {s0 : Slot} {r0 : Env} {g : D → Option D} {P : Unit → Env → Prop} : wp (change i g) (s0 :: r0) P = (match (s0 :: r0)[i]? with
    | some (some (.own, d)) => (match g d with
      | some d' => P () ((s0 :: r0).set i (some (.own, d')))
      | none => False)
    | some (some (.pin, d)) => (match g d with
      | some d' => P () ((s0 :: r0).set i (some (.pin, d')))
      | none => False)
    | _ => False) := y_change
@[simp] theorem zy_callI0 {F : Fn} {s0 : Slot} {r0 : Env} {i : Nat} {P : Vl → Env → Prop} : wp (callF F [.io i]) (s0 :: r0) P = (match (s0 :: r0)[i]? with
    | some (some (.own, d)) => okF F [d] fun v o => o.length = 1 ∧ P v ((s0 :: r0).set i (some (.own, o.getD 0 .non)))
    | some (some (.pin, d)) => okF F [d] fun v o => o.length = 1 ∧ P v ((s0 :: r0).set i (some (.pin, o.getD 0 .non)))
    | _ => False) := y_callI0
@[simp] theorem zy_callI1 {F : Fn} {s0 : Slot} {r0 : Env} {i : Nat} {e0 : D} {P : Vl → Env → Prop} : wp (callF F [.io i, .val e0]) (s0 :: r0) P = (match (s0 :: r0)[i]? with
    | some (some (.own, d)) => okF F [d, e0] fun v o => o.length = 2 ∧ P v ((s0 :: r0).set i (some (.own, o.getD 0 .non)))
    | some (some (.pin, d)) => okF F [d, e0] fun v o => o.length = 2 ∧ P v ((s0 :: r0).set i (some (.pin, o.getD 0 .non)))
    | _ => False) := y_callI1
@[simp] theorem zy_callI2 {F : Fn} {s0 : Slot} {r0 : Env} {i : Nat} {e0 e1 : D} {P : Vl → Env → Prop} : wp (callF F [.io i, .val e0, .val e1]) (s0 :: r0) P = (match (s0 :: r0)[i]? with
    | some (some (.own, d)) => okF F [d, e0, e1] fun v o => o.length = 3 ∧ P v ((s0 :: r0).set i (some (.own, o.getD 0 .non)))
    | some (some (.pin, d)) => okF F [d, e0, e1] fun v o => o.length = 3 ∧ P v ((s0 :: r0).set i (some (.pin, o.getD 0 .non)))
    | _ => False) := y_callI2
@[simp] theorem zy_callI3 {F : Fn} {s0 : Slot} {r0 : Env} {i : Nat} {e0 e1 e2 : D} {P : Vl → Env → Prop} : wp (callF F [.io i, .val e0, .val e1, .val e2]) (s0 :: r0) P = (match (s0 :: r0)[i]? with
    | some (some (.own, d)) => okF F [d, e0, e1, e2] fun v o => o.length = 4 ∧ P v ((s0 :: r0).set i (some (.own, o.getD 0 .non)))
    | some (some (.pin, d)) => okF F [d, e0, e1, e2] fun v o => o.length = 4 ∧ P v ((s0 :: r0).set i (some (.pin, o.getD 0 .non)))
    | _ => False) := y_callI3
@[simp] theorem zy_callI4 {F : Fn} {s0 : Slot} {r0 : Env} {i : Nat} {e0 e1 e2 e3 : D} {P : Vl → Env → Prop} : wp (callF F [.io i, .val e0, .val e1, .val e2, .val e3]) (s0 :: r0) P = (match (s0 :: r0)[i]? with
    | some (some (.own, d)) => okF F [d, e0, e1, e2, e3] fun v o => o.length = 5 ∧ P v ((s0 :: r0).set i (some (.own, o.getD 0 .non)))
    | some (some (.pin, d)) => okF F [d, e0, e1, e2, e3] fun v o => o.length = 5 ∧ P v ((s0 :: r0).set i (some (.pin, o.getD 0 .non)))
    | _ => False) := y_callI4
end PL
/-! PLData: items, slices, sizes; plain Lean. -/
namespace PL
open PySem (Str)
section
variable {α : Type}
theorem at_nat (l : List α) (i : Nat) : at? l (i : Int) = l[i]? := by
  unfold at? ixOf
  rw [if_pos (by omega)]
  by_cases h : i < l.length
  · rw [if_pos (by omega)]
    simp
  · rw [if_neg (by omega)]
    simp
    omega
@[simp] theorem at_0 (l : List α) : at? l 0 = l[0]? := at_nat l 0
@[simp] theorem at_1 (l : List α) : at? l 1 = l[1]? := at_nat l 1
@[simp] theorem at_2 (l : List α) : at? l 2 = l[2]? := at_nat l 2
@[simp] theorem at_3 (l : List α) : at? l 3 = l[3]? := at_nat l 3
theorem at_int (l : List α) {i : Int} (h : 0 ≤ i) : at? l i = l[i.toNat]? := by
  have := at_nat l i.toNat
  rwa [Int.toNat_of_nonneg h] at this
theorem at_neg (l : List α) (k : Nat) (h : 0 < k) : at? l (-(k : Int)) = if k ≤ l.length then l[l.length - k]? else none := by
  unfold at? ixOf
  rw [if_neg (by omega)]
  by_cases q : k ≤ l.length
  · rw [if_pos (by omega), if_pos q]
    simp
    congr 1
    omega
  · rw [if_neg (by omega), if_neg q]
    rfl
@[simp] theorem at_m1 (l : List α) : at? l (-1) = l.getLast? := by
  have := at_neg l 1 (by omega)
  rw [show ((-1 : Int)) = -((1 : Nat) : Int) by rfl, this]
  cases l with
  | nil => rfl
  | cons x l =>
    rw [if_pos (by simp), List.getLast?_eq_getElem?]
theorem at_m2 (l : List α) : at? l (-2) = if 2 ≤ l.length then l[l.length - 2]? else none := at_neg l 2 (by omega)
theorem cut_drop (l : List α) (k : Nat) : cut l (some (k : Int)) none = l.drop k := by
  unfold cut cl
  simp only
  rw [if_neg (by omega)]
  by_cases h : k ≤ l.length
  · rw [show ((min (k : Int) (l.length : Int)).toNat) = k by omega, List.take_of_length_le (by simp)]
  · rw [show ((min (k : Int) (l.length : Int)).toNat) = l.length by omega]
    simp
    omega
@[simp] theorem cut_drop1 (l : List α) : cut l (some 1) none = l.drop 1 := cut_drop l 1
@[simp] theorem cut_drop2 (l : List α) : cut l (some 2) none = l.drop 2 := cut_drop l 2
theorem cut_take (l : List α) (k : Nat) : cut l none (some (k : Int)) = l.take k := by
  unfold cut cl
  simp only
  rw [if_neg (by omega)]
  by_cases h : k ≤ l.length
  · rw [show ((min (k : Int) (l.length : Int)).toNat) = k by omega]; simp
  · rw [show ((min (k : Int) (l.length : Int)).toNat) = l.length by omega]
    rw [List.take_of_length_le (show l.length ≤ k by omega)]
    simp
theorem cut_takeI (l : List α) {i : Int} (h : 0 ≤ i) : cut l none (some i) = l.take i.toNat := by
  have := cut_take l i.toNat
  rwa [Int.toNat_of_nonneg h] at this
theorem cut_dropI (l : List α) {i : Int} (h : 0 ≤ i) : cut l (some i) none = l.drop i.toNat := by
  have := cut_drop l i.toNat
  rwa [Int.toNat_of_nonneg h] at this
@[simp] theorem cut_m1 (l : List α) : cut l none (some (-1)) = l.dropLast := by
  unfold cut cl
  simp only
  rw [if_pos (by omega), List.dropLast_eq_take]
  simp
  congr 1
  omega
@[simp] theorem cut_last (l : List α) : cut l (some (-1)) none = l.drop (l.length - 1) := by
  unfold cut cl
  simp only
  rw [if_pos (by omega), show ((max (-1 + (l.length : Int)) 0).toNat) = l.length - 1 by omega, List.take_of_length_le (by simp)]
end
/-! ### sizes -/
mutual
def D.szd : D → Bool
  | .tup l => decide (l.length ≤ 1000000) && D.szds l
  | .lst l => decide (l.length ≤ 1000000) && D.szds l
  | .str s => decide (s.length ≤ 1000000)
  | _ => true
def D.szds : List D → Bool
  | [] => true
  | d :: ds => d.szd && D.szds ds
end
theorem szds_mem : ∀ {l : List D}, D.szds l = true → ∀ x ∈ l, x.szd = true
  | [], h, x, hx => by cases hx
  | y :: l, h, x, hx => by
    rw [D.szds, Bool.and_eq_true] at h
    rcases List.mem_cons.mp hx with rfl | hx
    · exact h.1
    · exact szds_mem h.2 x hx
theorem szds_of : ∀ {l : List D}, (∀ x ∈ l, x.szd = true) → D.szds l = true
  | [], h => by rw [D.szds]
  | y :: l, h => by
    rw [D.szds, Bool.and_eq_true]
    exact ⟨h y (by simp), szds_of fun x hx => h x (by simp [hx])⟩
/-- plain data, so deep at most, of bounded lengths -/
def Fine (n : Nat) (v : D) : Prop := v.cmpb n = true ∧ v.szd = true
theorem Fine.pl {n : Nat} {v : D} (h : Fine n v) : pln v = true := pln_of h.1
theorem Fine.mono {n m : Nat} {v : D} (h : Fine n v) (le : n ≤ m) : Fine m v := ⟨cmpb_mono le h.1, h.2⟩
theorem Fine.tup {n : Nat} {l : List D} (h : Fine n (.tup l)) : l.length ≤ 1000000 ∧ ∃ m, n = m + 1 ∧ ∀ x ∈ l, Fine m x := by
  obtain ⟨m, e, hm⟩ := cmpb_tup h.1
  have h2 := h.2
  rw [D.szd, Bool.and_eq_true, decide_eq_true_eq] at h2
  exact ⟨h2.1, m, e, fun x hx => ⟨hm x hx, szds_mem h2.2 x hx⟩⟩
theorem Fine.lst {n : Nat} {l : List D} (h : Fine n (.lst l)) : l.length ≤ 1000000 ∧ ∃ m, n = m + 1 ∧ ∀ x ∈ l, Fine m x := by
  obtain ⟨m, e, hm⟩ := cmpb_lst h.1
  have h2 := h.2
  rw [D.szd, Bool.and_eq_true, decide_eq_true_eq] at h2
  exact ⟨h2.1, m, e, fun x hx => ⟨hm x hx, szds_mem h2.2 x hx⟩⟩
theorem Fine.mkT {n : Nat} {l : List D} (h : l.length ≤ 1000000) (hx : ∀ x ∈ l, Fine n x) : Fine (n + 1) (.tup l) := by
  refine ⟨?_, ?_⟩
  · rw [D.cmpb]; exact cmpbs_of fun x q => (hx x q).1
  · rw [D.szd, Bool.and_eq_true, decide_eq_true_eq]; exact ⟨h, szds_of fun x q => (hx x q).2⟩
theorem Fine.mkL {n : Nat} {l : List D} (h : l.length ≤ 1000000) (hx : ∀ x ∈ l, Fine n x) : Fine (n + 1) (.lst l) := by
  refine ⟨?_, ?_⟩
  · rw [D.cmpb]; exact cmpbs_of fun x q => (hx x q).1
  · rw [D.szd, Bool.and_eq_true, decide_eq_true_eq]; exact ⟨h, szds_of fun x q => (hx x q).2⟩
theorem Fine.int {n : Nat} (i : Int) : Fine n (.int i) := ⟨by simp [D.cmpb], by simp [D.szd]⟩
theorem Fine.bl {n : Nat} (b : Bool) : Fine n (.bl b) := ⟨by simp [D.cmpb], by simp [D.szd]⟩
theorem Fine.non {n : Nat} : Fine n .non := ⟨by simp [D.cmpb], by simp [D.szd]⟩
/-- == of plain data -/
theorem eq_fine {a b : D} (ha : Fine 60 a) (hb : Fine 60 b) : cmpv .eq a b = some (a.eqv b) := by
  unfold cmpv
  split <;> simp_all [ha.1, hb.1]
theorem ne_fine {a b : D} (ha : Fine 60 a) (hb : Fine 60 b) : cmpv .ne a b = some (!a.eqv b) := by
  unfold cmpv
  split <;> simp_all [ha.1, hb.1]
end PL
/-! PLTest: a test of equality, for what the kernel runs. -/
namespace PL
open PySem (Str)
mutual
def D.same : D → D → Bool
  | .non, .non => true
  | .bl a, .bl b => a == b
  | .int i, .int j => decide (i = j)
  | .str x, .str y => decide (x = y)
  | .tup l, .tup m => D.sames l m
  | .lst l, .lst m => D.sames l m
  | .ro l, .ro m => D.sames l m
  | .fn x, .fn y => decide (x = y)
  | _, _ => false
def D.sames : List D → List D → Bool
  | [], [] => true
  | x :: l, y :: m => x.same y && D.sames l m
  | _, _ => false
end
mutual
theorem same_eq : ∀ {a b : D}, a.same b = true → a = b
  | .non, b, h => by cases b <;> simp [D.same] at h ⊢
  | .bl x, b, h => by cases b <;> simp [D.same] at h ⊢ <;> exact h
  | .int x, b, h => by cases b <;> simp [D.same] at h ⊢ <;> exact h
  | .str x, b, h => by cases b <;> simp [D.same] at h ⊢ <;> exact h
  | .tup l, b, h => by cases b <;> simp [D.same] at h ⊢ <;> exact sames_eq h
  | .lst l, b, h => by cases b <;> simp [D.same] at h ⊢ <;> exact sames_eq h
  | .ro l, b, h => by cases b <;> simp [D.same] at h ⊢ <;> exact sames_eq h
  | .dct l, b, h => by cases b <;> simp [D.same] at h
  | .fn x, b, h => by
    cases b <;> simp [D.same] at h ⊢
    exact h
theorem sames_eq : ∀ {l m : List D}, D.sames l m = true → l = m
  | [], m, h => by cases m <;> simp [D.sames] at h ⊢
  | x :: l, m, h => by
    cases m with
    | nil => simp [D.sames] at h
    | cons y m =>
      rw [D.sames, Bool.and_eq_true] at h
      rw [same_eq h.1, sames_eq h.2]
end
/-- it answers v, and nothing behind the slots changed -/
def RF.sameB (r : RF) (o : Bool) (d : D) (outs : List D) : Bool := match r with
  | .ok v os => (v.own == o) && v.d.same d && D.sames os outs
  | _ => false
theorem sameB_eq {r : RF} {o : Bool} {d : D} {outs : List D} (h : r.sameB o d outs = true) : r = .ok ⟨o, d⟩ outs := by
  unfold RF.sameB at h
  split at h
  · rename_i v os
    simp only [Bool.and_eq_true, beq_iff_eq] at h
    obtain ⟨⟨h1, h2⟩, h3⟩ := h
    obtain ⟨vo, vd⟩ := v
    cases h1
    rw [show vd = d from same_eq h2, sames_eq h3]
  · cases h
/-- the ints below n -/
def upTo (n : Nat) : List Int := (List.range n).map Int.ofNat
theorem upTo_mem {n : Nat} {i : Int} (h0 : 0 ≤ i) (h : i < n) : i ∈ upTo n := by
  unfold upTo
  rw [List.mem_map]
  exact ⟨i.toNat, List.mem_range.mpr (by omega), by simp; omega⟩
@[simp] theorem ofStr_inj (a b : String) : (Str.ofString a = Str.ofString b) = (a = b) := by
  refine propext ⟨fun h => ?_, fun h => by rw [h]⟩
  rw [PySem.Str.ofString_eq_toList, PySem.Str.ofString_eq_toList] at h
  have h2 : a.toList.map Char.toNat = b.toList.map Char.toNat := by
    have := congrArg PySem.Str.cps h
    simpa using this
  have h3 : a.toList = b.toList := by
    have inj : Function.Injective Char.toNat := fun x y e => Char.ext (UInt32.toNat_inj.mp e)
    exact (List.map_inj_right inj).mp h2
  exact String.toList_inj.mp h3
/-- a comprehension over what is encoded -/
theorem wp_bmapE {α : Type} {own : List Nat} {asg : D → M Unit} {cnd : M Bool} {elt : M D} {ρ : Env} {P : List D → Env → Prop} (enc g : α → D) (r : List α) (no : noOwned ρ own = true)
    (step : ∀ b ∈ r, wp (asg (enc b)) (wipe ρ own) fun _ ρ1 => wp cnd ρ1 fun c ρ2 => c = true ∧ wp elt ρ2 fun y ρ3 => y = g b ∧ wipe ρ3 own = wipe ρ own) (h : P (r.map g) (restore ρ (wipe ρ own) own)) : wp (block own (compL own asg cnd elt (r.map enc))) ρ P := by
  rw [wp_block no]
  refine wp_comp (fun q ys ρ' => ρ' = wipe ρ own ∧ ∃ l l2, r = l ++ l2 ∧ q = l2.map enc ∧ ys = l.map g) ?_ _ [] _ ⟨rfl, [], r, rfl, rfl, rfl⟩ ?_
  · rintro x xs ys ρ' ⟨rfl, l, l2, e1, e2, rfl⟩
    cases l2 with
    | nil => cases e2
    | cons b l2 =>
      cases e2
      refine (step b (by rw [e1]; simp)).mono fun _ ρ1 s => s.mono fun c ρ2 s => ?_
      obtain ⟨rfl, s⟩ := s
      exact s.mono fun y ρ3 ⟨e3, e4⟩ => ⟨e4, l ++ [b], l2, by rw [e1]; simp, rfl, by rw [e3]; simp⟩
  · rintro zs ρ' ⟨rfl, l, l2, e1, e2, e3⟩
    have : l2 = [] := by cases l2 with
      | nil => rfl
      | cons _ _ => cases e2
    subst this
    rw [List.append_nil] at e1
    rw [List.nil_append] at e3
    subst e1
    rw [e3]
    exact h
end PL
/-! PLErr: what ends in an error; plain Lean. -/
namespace PL
open PySem (Str)
/-- it ends in an error, in Q -/
def er {α : Type} (m : M α) (ρ : Env) (Q : Ex → Env → Prop) : Prop := match m ρ with
  | .err e ρ' => Q e ρ'
  | _ => False
section
variable {α β : Type} {ρ : Env} {Q : Ex → Env → Prop}
theorem er_bind {m : M α} {f : α → M β} (h : wp m ρ fun a ρ' => er (f a) ρ' Q) : er (m >>= f) ρ Q := by
  unfold wp at h
  unfold er
  cases q : m ρ with
  | ok a ρ' => rw [q] at h; rw [bind_ok q]; exact h
  | err e ρ' => rw [q] at h; exact h.elim
  | bad => rw [q] at h; exact h.elim
theorem er_bind1 {m : M α} {f : α → M β} (h : er m ρ Q) : er (m >>= f) ρ Q := by
  unfold er at h ⊢
  cases q : m ρ with
  | ok a ρ' => rw [q] at h; exact h.elim
  | err e ρ' => rw [q] at h; rw [bind_err q]; exact h
  | bad => rw [q] at h; exact h.elim
theorem er_err {e : Ex} : er (M.err e : M α) ρ Q = Q e ρ := rfl
theorem er_call {F : Fn} {as : List Arg} {e : Ex} {o : List D} (hs : slotsOf as = []) (h : F (valsD as) = .err e o) (hl : o.length = as.length) (q : Q e ρ) : er (callF F as) ρ Q := by
  obtain ⟨a, b⟩ := args_val (ρ := ρ) hs
  unfold er callF
  rw [a]
  dsimp only
  rw [hs, if_neg (by decide), h]
  dsimp only
  rw [b, if_neg (by simp), if_pos hl, putOuts_val hs]
  exact q
theorem er_eq {m : M α} (h : er m ρ Q) : ∃ e ρ', m ρ = .err e ρ' ∧ Q e ρ' := by
  unfold er at h
  cases q : m ρ with
  | ok a ρ' => rw [q] at h; exact h.elim
  | err e ρ' => rw [q] at h; exact ⟨e, ρ', rfl, h⟩
  | bad => rw [q] at h; exact h.elim
end
/-- a def that ends in an error -/
theorem err_sem {mask : List Bool} {n : Nat} {m : M Fl} {ds : List D} {e : Ex} {outs : List D} (hl : ds.length = mask.length)
    (h : er m (init mask ds ++ List.replicate (n - mask.length) none) fun e' ρ => e' = e ∧ outsAt mask ρ = some outs) : semD mask n m ds = .err e outs := by
  obtain ⟨e', ρ', h1, rfl, h3⟩ := er_eq h
  unfold semD
  rw [if_pos hl, h1]
  dsimp only
  rw [h3]
theorem wp_try {m : M Fl} {h : Ex → Option (M Fl)} {ρ : Env} {P : Fl → Env → Prop} (q : er m ρ fun e ρ' => ∃ m', h e = some m' ∧ wp m' ρ' P) : wp (tryL m h) ρ P := by
  obtain ⟨e, ρ', h1, m', h2, h3⟩ := er_eq q
  unfold wp tryL
  rw [h1]
  dsimp only
  rw [h2]
  exact h3
theorem wp_try_ok {m : M Fl} {h : Ex → Option (M Fl)} {ρ : Env} {P : Fl → Env → Prop} (q : wp m ρ P) : wp (tryL m h) ρ P := by
  unfold wp at q
  unfold wp tryL
  cases z : m ρ with
  | ok a ρ' => rw [z] at q; exact q
  | err e ρ' => rw [z] at q; exact q.elim
  | bad => rw [z] at q; exact q.elim
end PL
/-! what the program's checks of scripts and nestings answer -/
namespace KT
open PL
open PySem (Str)
def isFrom (v : D) (lo hi : Int) : Bool := match v with
  | .int i => decide (lo ≤ i) && decide (i ≤ hi)
  | _ => false
def isTup (v : D) (lo hi : Int) : Bool := match v with
  | .tup l => decide (lo ≤ l.length) && decide (l.length ≤ hi)
  | _ => false
theorem E_is_tuple (v : D) (lo hi : Int) (h : pln v = true) : F_is_tuple [v, .int lo, .int hi] = .ok (sh (.bl (isTup v lo hi))) [.non, .non, .non] := by
  refine okF_iff fun P hP => okF_sem rfl ?_
  cases v with
  | tup l =>
    simp [s_is_tuple, N_is_tuple]
    simp [isTup] at hP
    by_cases h1 : lo ≤ (l.length : Int) <;> simpa [h1] using hP
  | _ => first | (cases h; done) | simpa [s_is_tuple, N_is_tuple, isTup] using hP
@[simp] theorem o_is_tuple (v : D) (lo hi : Int) (h : pln v = true) (P) : okF F_is_tuple [v, .int lo, .int hi] P = P (sh (.bl (isTup v lo hi))) [.non, .non, .non] := okF_ok (E_is_tuple v lo hi h)
theorem E_is_from (v : D) (lo hi : Int) (h : pln v = true) : F_is_from [v, .int lo, .int hi] = .ok (sh (.bl (isFrom v lo hi))) [.non, .non, .non] := by
  refine okF_iff fun P hP => okF_sem rfl ?_
  cases v with
  | int l =>
    simp [s_is_from, N_is_from]
    simp [isFrom] at hP
    by_cases h1 : lo ≤ l <;> simpa [h1] using hP
  | _ => first | (cases h; done) | simpa [s_is_from, N_is_from, isFrom] using hP
@[simp] theorem o_is_from (v : D) (lo hi : Int) (h : pln v = true) (P) : okF F_is_from [v, .int lo, .int hi] P = P (sh (.bl (isFrom v lo hi))) [.non, .non, .non] := okF_ok (E_is_from v lo hi h)
def isSide (v : D) : Bool := match v with
  | .str s => Str.ofString "left" == s || Str.ofString "right" == s
  | _ => false
theorem E_is_side (v : D) (h : pln v = true) : F_is_side [v] = .ok (sh (.bl (isSide v))) [.non] := by
  refine okF_iff fun P hP => okF_sem rfl ?_
  cases v with
  | str l => simpa [s_is_side, N_is_side, cs_is_side, memv, isSide] using hP
  | _ => first | (cases h; done) | simpa [s_is_side, N_is_side, isSide] using hP
@[simp] theorem o_is_side (v : D) (h : pln v = true) (P) : okF F_is_side [v] P = P (sh (.bl (isSide v))) [.non] := okF_ok (E_is_side v h)
/-- a pair of a stand and a note -/
def isPair (many notes : Int) (p : D) : Bool := match p with
  | .tup [s, n] => isFrom s 0 (many - 1) && isFrom n 0 (notes - 1)
  | _ => false
def isLine (many notes : Int) (v : D) : Bool := match v with
  | .tup l => decide ((l.length : Int) = many) && l.all (isPair many notes)
  | _ => false
theorem isTup_two {p : D} (h : isTup p 2 2 = true) : ∃ a b, p = .tup [a, b] := by
  unfold isTup at h
  split at h
  · rename_i l
    simp at h
    match l, h with
    | [a, b], _ => exact ⟨a, b, rfl⟩
    | [], h => simp at h
    | [_], h => simp at h
    | _ :: _ :: _ :: r, h => simp at h; omega
  · cases h
theorem isPair_tup {many notes : Int} {p : D} (h : isPair many notes p = true) : isTup p 2 2 = true := by
  unfold isPair at h
  split at h
  · rfl
  · cases h
theorem E_is_line (many notes : Int) (v : D) {n : Nat} (h : Fine n v) : F_is_line [.int many, .int notes, v] = .ok (sh (.bl (isLine many notes v))) [.non, .non, .non] := by
  refine okF_iff fun P hP => okF_sem rfl ?_
  have hp := h.pl
  cases v with
  | tup l =>
    obtain ⟨hl0, m, rfl, hm⟩ := h.tup
    have hl : l.length ≤ szL := Nat.le_trans hl0 (by decide)
    simp [s_is_line, N_is_line, fs_is_line, hp]
    by_cases ht : isTup (.tup l) many many = true
    · rw [if_pos ht]
      refine ⟨hl, wp_bmap (fun p => .bl (isTup p 2 2)) rfl (fun x hx => by simp [(hm x hx).pl]) ?_⟩
      simp [isBls_map]
      by_cases ha : ∀ x ∈ l, isTup x 2 2 = true
      · rw [if_pos ha]
        refine ⟨hl, wp_bmap (fun p => .bl (isPair many notes p)) rfl (fun x hx => ?_) ?_⟩
        · obtain ⟨a, b, rfl⟩ := isTup_two (ha x hx)
          obtain ⟨_, k, rfl, hk⟩ := (hm _ hx).tup
          have p1 := (hk a (by simp)).pl
          have p2 := (hk b (by simp)).pl
          simp [p1, p2, isPair]
          by_cases hf : isFrom a 0 (many - 1) = true <;> simp [hf, p2]
        · simp [isBls_map]
          have e : isLine many notes (.tup l) = l.all (isPair many notes) := by
            simp [isTup] at ht
            have : (l.length : Int) = many := by omega
            simp [isLine, this]
          rw [e] at hP
          simpa using hP
      · rw [if_neg ha]
        have e : isLine many notes (.tup l) = false := by
          simp only [isLine, Bool.and_eq_false_iff]
          right
          rw [List.all_eq_false]
          simp only [Classical.not_forall] at ha
          obtain ⟨x, hx, hn⟩ := ha
          exact ⟨x, hx, fun z => hn (isPair_tup z)⟩
        rw [e] at hP
        simpa using hP
    · rw [if_neg ht]
      have e : isLine many notes (.tup l) = false := by
        simp [isTup] at ht
        simp only [isLine, Bool.and_eq_false_iff]
        left
        simp
        omega
      rw [e] at hP
      simpa using hP
  | _ => first | (cases hp; done) | simpa [s_is_line, N_is_line, fs_is_line, isTup, isLine, hp] using hP
theorem o_is_line (many notes : Int) (v : D) {n : Nat} (h : Fine n v) (P) : okF F_is_line [.int many, .int notes, v] P = P (sh (.bl (isLine many notes v))) [.non, .non, .non] := okF_ok (E_is_line many notes v h)
theorem szL_of {n : Nat} (h : n ≤ 1000000) : n ≤ szL := Nat.le_trans h (by decide)
def isFlat (many : Int) (v : D) : Bool := match v with
  | .tup l => isTup (.tup l) 1 3 && l.all (isLine many l.length)
  | _ => false
theorem E_is_flat (many : Int) (v : D) {n : Nat} (h : Fine n v) : F_is_flat [.int many, v] = .ok (sh (.bl (isFlat many v))) [.non, .non] := by
  refine okF_iff fun P hP => okF_sem rfl ?_
  have hp := h.pl
  cases v with
  | tup l =>
    obtain ⟨hl, m, rfl, hm⟩ := h.tup
    simp [s_is_flat, N_is_flat, fs_is_flat, hp]
    by_cases ht : isTup (.tup l) 1 3 = true
    · rw [if_pos ht]
      refine ⟨szL_of hl, wp_bmap (fun p => .bl (isLine many l.length p)) rfl (fun x hx => by simp [o_is_line _ _ _ (hm x hx)]) ?_⟩
      simpa [isBls_map, isFlat, ht] using hP
    · rw [if_neg ht]
      simpa [isFlat, ht] using hP
  | _ => first | (cases hp; done) | simpa [s_is_flat, N_is_flat, fs_is_flat, isTup, isFlat, hp] using hP
theorem o_is_flat (many : Int) (v : D) {n : Nat} (h : Fine n v) (P) : okF F_is_flat [.int many, v] P = P (sh (.bl (isFlat many v))) [.non, .non] := okF_ok (E_is_flat many v h)
def isPart (many w : Int) (p : D) : Bool := match p with
  | .tup q => isTup (.tup q) w w && q.all (isLine many w)
  | _ => false
def isDeep (many : Int) (v : D) : Bool := match v with
  | .tup l => isTup (.tup l) 1 2 && l.all (isPart many l.length)
  | _ => false
theorem E_is_deep (many : Int) (v : D) {n : Nat} (h : Fine n v) : F_is_deep [.int many, v] = .ok (sh (.bl (isDeep many v))) [.non, .non] := by
  refine okF_iff fun P hP => okF_sem rfl ?_
  have hp := h.pl
  cases v with
  | tup l =>
    obtain ⟨hl, m, rfl, hm⟩ := h.tup
    simp [s_is_deep, N_is_deep, fs_is_deep, hp]
    by_cases ht : isTup (.tup l) 1 2 = true
    · simp [ht]
      refine wp_find (fun ρ => ∃ s, ρ = [some (.shr, .int many), some (.shr, .tup l), s, none] ∧ ∀ d, s ≠ some (.pin, d)) (isPart many l.length) (sh (.bl false)) l _ ⟨none, rfl, by simp⟩ ?_ ?_
      · rintro x hx ρ ⟨s, rfl, hs⟩
        have hxp := (hm x hx).pl
        simp [hs, hxp]
        cases x with
        | tup q =>
          obtain ⟨hq, k, rfl, hk⟩ := (hm _ hx).tup
          by_cases hw : isTup (.tup q) l.length l.length = true
          · simp [hw]
            refine ⟨szL_of hq, wp_bmap (fun p => .bl (isLine many l.length p)) rfl (fun x hx => by simp [o_is_line _ _ _ (hk x hx)]) ?_⟩
            simp [isBls_map, isPart, hw]
          · simp [hw, isPart]
        | _ => first | (cases hxp; done) | simp [isTup, isPart]
      · rintro ρ ⟨s, rfl, hs⟩
        by_cases ha : l.all (isPart many l.length) = true
        · rw [if_pos ha]
          simpa [isDeep, ht, ha] using hP
        · rw [if_neg ha]
          simpa [isDeep, ht, ha] using hP
    · simpa [isDeep, ht] using hP
  | _ => first | (cases hp; done) | simpa [s_is_deep, N_is_deep, fs_is_deep, isTup, isDeep, hp] using hP
theorem o_is_deep (many : Int) (v : D) {n : Nat} (h : Fine n v) (P) : okF F_is_deep [.int many, v] P = P (sh (.bl (isDeep many v))) [.non, .non] := okF_ok (E_is_deep many v h)
def areStands (many : Int) (l : List D) : Bool := l.all fun x => isFrom x 0 (many - 1)
theorem E_are_stands (many : Int) (l : List D) {n : Nat} (h : Fine n (.tup l)) : F_are_stands [.int many, .tup l] = .ok (sh (.bl (areStands many l))) [.non, .non] := by
  refine okF_iff fun P hP => okF_sem rfl ?_
  obtain ⟨hl, m, rfl, hm⟩ := h.tup
  simp [s_are_stands, N_are_stands, fs_are_stands]
  refine ⟨szL_of hl, wp_bmap (fun p => .bl (isFrom p 0 (many - 1))) rfl (fun x hx => by simp [(hm x hx).pl]) ?_⟩
  simpa [isBls_map, areStands] using hP
theorem o_are_stands (many : Int) (l : List D) {n : Nat} (h : Fine n (.tup l)) (P) : okF F_are_stands [.int many, .tup l] P = P (sh (.bl (areStands many l))) [.non, .non] := okF_ok (E_are_stands many l h)
def kPlain : List (Str × Int) := [("each", 2), ("within", 3), ("holding", 3)]
def plainW (many : Int) (w : Str) (r : List D) : Bool :=
  if w = "in" then decide ((r.length : Int) = 1) && isFlat many (r.headD .non)
  else if w = "out" then decide ((r.length : Int) = 2) && (isSide (r.headD .non) && isDeep many ((r.drop 1).headD .non))
  else if Str.ofString "first" = w ∨ Str.ofString "next" = w then decide ((r.length : Int) = if w = "first" then 3 else 4) && (isSide (r.headD .non) && areStands many (r.drop 1))
  else decide ((r.length : Int) = strKeyGet kPlain w 9) && areStands many r
def isPlain (many : Int) (v : D) : Bool := match v with
  | .tup (.str w :: r) => isTup (.tup (.str w :: r)) 2 5 && plainW many w r
  | _ => false
theorem E_is_plain (many : Int) (v : D) {n : Nat} (h : Fine n v) : F_is_plain [.int many, v] = .ok (sh (.bl (isPlain many v))) [.non, .non] := by
  refine okF_iff fun P hP => okF_sem rfl ?_
  have hp := h.pl
  cases v with
  | tup l =>
    obtain ⟨hl, m, rfl, hm⟩ := h.tup
    simp [s_is_plain, N_is_plain, fs_is_plain, hp]
    by_cases ht : isTup (.tup l) 2 5 = true
    · simp [ht]
      cases l with
      | nil => simp [isTup] at ht
      | cons x r =>
        have hxp := (hm x (by simp)).pl
        have hr : Fine (m + 1) (.tup r) := Fine.mkT (by simp at hl; omega) fun y hy => hm y (by simp [hy])
        cases x with
        | str w =>
          simp
          have e : isPlain many (.tup (.str w :: r)) = plainW many w r := by simp [isPlain, ht]
          rw [e] at hP
          unfold plainW at hP
          by_cases h1 : w = "in"
          · rw [if_pos h1] at hP ⊢
            by_cases h2 : (r.length : Int) = 1
            · match r, h2 with
              | [a], _ =>
                simp [o_is_flat _ _ (hm a (by simp))]
                simpa using hP
            · rw [if_neg h2]
              simpa [h2] using hP
          · rw [if_neg h1] at hP ⊢
            by_cases h2 : w = "out"
            · rw [if_pos h2] at hP ⊢
              by_cases h3 : (r.length : Int) = 2
              · match r, h3 with
                | [a, b], _ =>
                  simp [(hm a (by simp)).pl]
                  by_cases h4 : isSide a = true
                  · simp [h4, o_is_deep _ _ (hm b (by simp))]
                    simpa [h4] using hP
                  · simp [h4]
                    simpa [h4] using hP
              · rw [if_neg h3]
                simpa [h3] using hP
            · rw [if_neg h2] at hP ⊢
              by_cases h3 : Str.ofString "first" = w ∨ Str.ofString "next" = w
              · rw [if_pos h3] at hP ⊢
                by_cases h4 : w = "first"
                · rw [if_pos h4]
                  by_cases h5 : (r.length : Int) = 3
                  · rw [if_pos h5]
                    cases r with
                    | nil => simp at h5
                    | cons s q =>
                      have hq : Fine (m + 1) (.tup q) := Fine.mkT (by simp at hl; omega) fun y hy => hm y (by simp [hy])
                      simp [(hm s (by simp)).pl]
                      by_cases h6 : isSide s = true
                      · simp [h6, o_are_stands _ _ hq]
                        simp at h5
                        simpa [h4, h5, h6] using hP
                      · simp [h6]
                        simpa [h4, h5, h6] using hP
                  · rw [if_neg h5]
                    simpa [h4, h5] using hP
                · rw [if_neg h4]
                  by_cases h5 : (r.length : Int) = 4
                  · rw [if_pos h5]
                    cases r with
                    | nil => simp at h5
                    | cons s q =>
                      have hq : Fine (m + 1) (.tup q) := Fine.mkT (by simp at hl; omega) fun y hy => hm y (by simp [hy])
                      simp [(hm s (by simp)).pl]
                      by_cases h6 : isSide s = true
                      · simp [h6, o_are_stands _ _ hq]
                        simp at h5
                        simpa [h4, h5, h6] using hP
                      · simp [h6]
                        simpa [h4, h5, h6] using hP
                  · rw [if_neg h5]
                    simpa [h4, h5] using hP
              · rw [if_neg h3] at hP ⊢
                by_cases h4 : (r.length : Int) = strKeyGet kPlain w 9
                · have h5 := h4
                  unfold kPlain at h5
                  rw [if_pos h5, o_are_stands _ _ hr]
                  simpa [h4] using hP
                · have h5 := h4
                  unfold kPlain at h5
                  rw [if_neg h5]
                  simpa [h4] using hP
        | _ => first | (cases hxp; done) | simpa [isPlain] using hP
    · simp [ht]
      have e : isPlain many (.tup l) = false := by
        unfold isPlain
        split
        · rename_i w r e
          cases e
          simp [ht]
        · rfl
      simpa [e] using hP
  | _ => first | (cases hp; done) | simpa [s_is_plain, N_is_plain, fs_is_plain, isTup, isPlain, hp] using hP
theorem o_is_plain (many : Int) (v : D) {n : Nat} (h : Fine n v) (P) : okF F_is_plain [.int many, v] P = P (sh (.bl (isPlain many v))) [.non, .non] := okF_ok (E_is_plain many v h)
def isAgain (many : Int) (v : D) : Bool := match v with
  | .tup [.str w, t, p] => decide (w = "again") && (isFrom t 2 4 && (match p with
    | .tup l => isTup (.tup l) 1 3 && l.all (isPlain many)
    | _ => false))
  | _ => false
def isStep (many : Int) (v : D) : Bool := match v with
  | .tup [.str w, t, p] => if w = "again" then isAgain many v else isPlain many v
  | _ => isPlain many v
theorem E_has_step (many : Int) (v : D) {n : Nat} (h : Fine n v) : F_has_step [.int many, v] = .ok (sh (.bl (isStep many v))) [.non, .non] := by
  refine okF_iff fun P hP => okF_sem rfl ?_
  have hp := h.pl
  simp [s_has_step, N_has_step, fs_has_step, hp]
  by_cases ht : isTup v 3 3 = true
  · have three : ∃ a b c, v = .tup [a, b, c] := by
      unfold isTup at ht
      split at ht
      · rename_i l
        simp at ht
        match l, ht with
        | [a, b, c], _ => exact ⟨a, b, c, rfl⟩
        | [], z => simp at z
        | [_], z => simp at z
        | [_, _], z => simp at z
        | _ :: _ :: _ :: _ :: r, z => simp at z; omega
      · cases ht
    obtain ⟨a, b, c, rfl⟩ := three
    obtain ⟨hl, m, rfl, hm⟩ := h.tup
    have ha := hm a (by simp)
    have hb := hm b (by simp)
    have hc := hm c (by simp)
    have hap := ha.pl
    simp [ht]
    cases a with
    | str w =>
      by_cases hw : w = "again"
      · simp [hw, hb.pl]
        by_cases h1 : isFrom b 2 4 = true
        · simp [h1, hc.pl]
          cases c with
          | tup l =>
            obtain ⟨hq, k, rfl, hk⟩ := hc.tup
            by_cases h2 : isTup (.tup l) 1 3 = true
            · simp [h2]
              refine ⟨by omega, wp_bmap (fun p => .bl (isPlain many p)) rfl (fun x hx => by simp [o_is_plain _ _ (hk x hx)]) ?_⟩
              simpa [isBls_map, isStep, isAgain, hw, h1, h2] using hP
            · simp [h2]
              simpa [isStep, isAgain, hw, h1, h2] using hP
          | _ => simpa [isTup, isStep, isAgain, hw, h1] using hP
        · simp [h1]
          simpa [isStep, isAgain, hw, h1] using hP
      · simp [hw, o_is_plain _ _ h]
        simpa [isStep, hw] using hP
    | _ => first | (cases hap; done) | (simp [o_is_plain _ _ h]; simpa [isStep] using hP)
  · have e : isStep many v = isPlain many v := by
      unfold isStep
      split
      · simp [isTup] at ht
      · rfl
    simp [ht, o_is_plain _ _ h]
    simpa [e] using hP
theorem o_has_step (many : Int) (v : D) {n : Nat} (h : Fine n v) (P) : okF F_has_step [.int many, v] P = P (sh (.bl (isStep many v))) [.non, .non] := okF_ok (E_has_step many v h)
theorem E_changed (a b d : D) (ha : Fine 60 a) (hb : Fine 60 b) : F_changed [a, b, d] = .ok (sh (if a.eqv b = true then d else a)) [.non, .non, .non] := by
  refine okF_iff fun P hP => okF_sem rfl ?_
  simp [s_changed, N_changed, eq_fine ha hb]
  by_cases h : a.eqv b = true
  · simpa [h] using hP
  · simpa [h] using hP
end KT
/-! steps and walks, typed -/
namespace KT
open PL
open PySem (Str)
abbrev Pr := Int × Int
def encP (p : Pr) : D := .tup [.int p.1, .int p.2]
def encL (l : List Pr) : D := .tup (l.map encP)
def encT (t : List (List Pr)) : D := .tup (t.map encL)
def encTT (t : List (List (List Pr))) : D := .tup (t.map encT)
def encS (r : Bool) : D := .str (if r then "right" else "left")
inductive Stp where
  | inn (t : List (List Pr)) | out (r : Bool) (t : List (List (List Pr))) | each (a b : Int) | within (a b c : Int) | holding (a b c : Int) | first (r : Bool) (a b : Int) | next (r : Bool) (a b c : Int)
def Stp.enc : Stp → D
  | .inn t => .tup [.str "in", encT t]
  | .out r t => .tup [.str "out", encS r, encTT t]
  | .each a b => .tup [.str "each", .int a, .int b]
  | .within a b c => .tup [.str "within", .int a, .int b, .int c]
  | .holding a b c => .tup [.str "holding", .int a, .int b, .int c]
  | .first r a b => .tup [.str "first", encS r, .int a, .int b]
  | .next r a b c => .tup [.str "next", encS r, .int a, .int b, .int c]
inductive Wk where
  | inn (t : List (List Pr)) | out (r : Bool) (t : List (List (List Pr)))
def Wk.enc : Wk → D
  | .inn t => .tup [.str "in", .str "left", encT t]
  | .out r t => .tup [.str "out", encS r, encTT t]
def Wk.wide : Wk → Nat
  | .inn t => t.length
  | .out _ t => t.length
def oth (s a b : Int) : Int := if s = a then b else s
def b01 (b : Bool) : Int := if b then 1 else 0
def stands (many : Int) : List Int := upTo many.toNat
def walkOf (many : Int) : Stp → Wk
  | .inn t => .inn t
  | .out r t => .out r t
  | .each a b => .inn [(stands many).map fun s => (oth s a b, 0)]
  | .within a b c => .inn [(stands many).map fun s => (s, b01 (s == a)), (stands many).map fun s => (oth s b c, 1)]
  | .holding a b c => .out false ([0, 1].map fun row => [0, 1].map fun inner => (stands many).map fun s => (if inner = 1 then oth s b c else s, b01 (row == (1 : Int) || inner == (1 : Int) || s == a)))
  | .first r a b => .out r [List.replicate 2 ((stands many).map fun s => (oth s a b, b01 (s == a))), List.replicate 2 ((stands many).map fun s => (s, 1))]
  | .next r a b c => .out r [List.replicate 2 ((stands many).map fun s => (s, b01 (s == a))), List.replicate 2 ((stands many).map fun s => (oth s b c, b01 (s == a)))]
/-- a valid line, table -/
def okL (many w : Int) (l : List Pr) : Prop := (l.length : Int) = many ∧ ∀ p ∈ l, 0 ≤ p.1 ∧ p.1 < many ∧ 0 ≤ p.2 ∧ p.2 < w
def okT (many w : Int) (t : List (List Pr)) : Prop := (t.length : Int) = w ∧ ∀ l ∈ t, okL many w l
def Stp.ok (many : Int) : Stp → Prop
  | .inn t => 1 ≤ t.length ∧ t.length ≤ 3 ∧ okT many t.length t
  | .out _ t => 1 ≤ t.length ∧ t.length ≤ 2 ∧ ∀ p ∈ t, okT many t.length p
  | .each a b => (0 ≤ a ∧ a < many) ∧ (0 ≤ b ∧ b < many)
  | .within a b c => (0 ≤ a ∧ a < many) ∧ (0 ≤ b ∧ b < many) ∧ (0 ≤ c ∧ c < many)
  | .holding a b c => (0 ≤ a ∧ a < many) ∧ (0 ≤ b ∧ b < many) ∧ (0 ≤ c ∧ c < many)
  | .first _ a b => (0 ≤ a ∧ a < many) ∧ (0 ≤ b ∧ b < many)
  | .next _ a b c => (0 ≤ a ∧ a < many) ∧ (0 ≤ b ∧ b < many) ∧ (0 ≤ c ∧ c < many)
def all3 (p : Int → Int → Int → Int → Bool → Bool) : Bool := [2, 3].all fun m => (upTo 3).all fun a => (upTo 3).all fun b => (upTo 3).all fun c => p m a b c true && p m a b c false
theorem all3_of {p : Int → Int → Int → Int → Bool → Bool} (h : all3 p = true) {m a b c : Int} (r : Bool) (hm : m = 2 ∨ m = 3) (ha : 0 ≤ a ∧ a < m) (hb : 0 ≤ b ∧ b < m) (hc : 0 ≤ c ∧ c < m) : p m a b c r = true := by
  unfold all3 at h
  have h1 := List.all_eq_true.mp h m (by rcases hm with rfl | rfl <;> simp)
  have h2 := List.all_eq_true.mp (List.all_eq_true.mp (List.all_eq_true.mp h1 a (upTo_mem ha.1 (by omega))) b (upTo_mem hb.1 (by omega))) c (upTo_mem hc.1 (by omega))
  rw [Bool.and_eq_true] at h2
  cases r
  · exact h2.2
  · exact h2.1
def wT (m : Int) (s : Stp) : Bool := (F_walk_of [.int m, s.enc]).sameB false (walkOf m s).enc [.non, .non]
theorem w_each : all3 (fun m a b c r => wT m (.each a b)) = true := by decide +kernel
theorem w_within : all3 (fun m a b c r => wT m (.within a b c)) = true := by decide +kernel
theorem w_holding : all3 (fun m a b c r => wT m (.holding a b c)) = true := by decide +kernel
theorem w_first : all3 (fun m a b c r => wT m (.first r a b)) = true := by decide +kernel
theorem w_next : all3 (fun m a b c r => wT m (.next r a b c)) = true := by decide +kernel
theorem rangeOk_m {m : Int} (hm : m = 2 ∨ m = 3) : rangeOk 0 m = true ∧ m ≤ szL := by
  rcases hm with rfl | rfl <;> exact ⟨by decide, by decide⟩
theorem E_walk_of {m : Int} (hm : m = 2 ∨ m = 3) (s : Stp) (h : s.ok m) : F_walk_of [.int m, s.enc] = .ok (sh (walkOf m s).enc) [.non, .non] := by
  have hz : (0 : Int) ≤ 0 ∧ 0 < m := by rcases hm with rfl | rfl <;> decide
  cases s with
  | inn t =>
    refine okF_iff fun P hP => okF_sem rfl ?_
    have h2 := (rangeOk_m hm).2
    simp at h2
    simp [s_walk_of, N_walk_of, Stp.enc, (rangeOk_m hm).1, h2]
    simpa [walkOf, Wk.enc] using hP
  | out r t =>
    refine okF_iff fun P hP => okF_sem rfl ?_
    have h2 := (rangeOk_m hm).2
    simp at h2
    simp [s_walk_of, N_walk_of, Stp.enc, (rangeOk_m hm).1, h2]
    simpa [walkOf, Wk.enc] using hP
  | each a b => exact sameB_eq (all3_of w_each true hm h.1 h.2 hz)
  | within a b c => exact sameB_eq (all3_of w_within true hm h.1 h.2.1 h.2.2)
  | holding a b c => exact sameB_eq (all3_of w_holding true hm h.1 h.2.1 h.2.2)
  | first r a b => exact sameB_eq (all3_of w_first r hm h.1 h.2 hz)
  | next r a b c => exact sameB_eq (all3_of w_next r hm h.1 h.2.1 h.2.2)
end KT
/-! what is checked is what is typed -/
namespace KT
open PL
open PySem (Str)
theorem isFrom_int {v : D} {lo hi : Int} (h : isFrom v lo hi = true) : ∃ i, v = .int i ∧ lo ≤ i ∧ i ≤ hi := by
  unfold isFrom at h
  split at h
  · rename_i i
    simp at h
    exact ⟨i, rfl, h⟩
  · cases h
theorem isPair_enc {m w : Int} {p : D} (h : isPair m w p = true) : ∃ q : Pr, p = encP q ∧ 0 ≤ q.1 ∧ q.1 < m ∧ 0 ≤ q.2 ∧ q.2 < w := by
  unfold isPair at h
  split at h
  · rename_i a b
    rw [Bool.and_eq_true] at h
    obtain ⟨i, rfl, h1, h2⟩ := isFrom_int h.1
    obtain ⟨j, rfl, h3, h4⟩ := isFrom_int h.2
    exact ⟨(i, j), rfl, h1, by omega, h3, by omega⟩
  · cases h
theorem all_enc {α : Type} {enc : α → D} {p : D → Bool} {Q : α → Prop} : ∀ {l : List D}, (∀ x ∈ l, p x = true → ∃ q, x = enc q ∧ Q q) → l.all p = true → ∃ t : List α, l = t.map enc ∧ ∀ q ∈ t, Q q
  | [], _, _ => ⟨[], rfl, by simp⟩
  | x :: l, hq, h => by
    rw [List.all_cons, Bool.and_eq_true] at h
    obtain ⟨q, rfl, h1⟩ := hq x (by simp) h.1
    obtain ⟨t, rfl, h2⟩ := all_enc (fun y hy => hq y (by simp [hy])) h.2
    exact ⟨q :: t, rfl, by simpa using ⟨h1, h2⟩⟩
theorem isLine_enc {m w : Int} {v : D} (h : isLine m w v = true) : ∃ l, v = encL l ∧ okL m w l := by
  unfold isLine at h
  split at h
  · rename_i l
    rw [Bool.and_eq_true, decide_eq_true_eq] at h
    obtain ⟨t, rfl, h2⟩ := all_enc (enc := encP) (Q := fun q => 0 ≤ q.1 ∧ q.1 < m ∧ 0 ≤ q.2 ∧ q.2 < w) (fun x _ q => isPair_enc q) h.2
    exact ⟨t, rfl, by simpa using h.1, h2⟩
  · cases h
theorem isFlat_enc {m : Int} {v : D} (h : isFlat m v = true) : ∃ t, v = encT t ∧ 1 ≤ t.length ∧ t.length ≤ 3 ∧ okT m t.length t := by
  unfold isFlat at h
  split at h
  · rename_i l
    rw [Bool.and_eq_true] at h
    obtain ⟨t, rfl, h2⟩ := all_enc (enc := encL) (fun x _ q => isLine_enc q) h.2
    have h1 := h.1
    simp [isTup] at h1
    exact ⟨t, rfl, by omega, by omega, rfl, by simpa using h2⟩
  · cases h
theorem isDeep_enc {m : Int} {v : D} (h : isDeep m v = true) : ∃ t, v = encTT t ∧ 1 ≤ t.length ∧ t.length ≤ 2 ∧ ∀ p ∈ t, okT m t.length p := by
  unfold isDeep at h
  split at h
  · rename_i l
    rw [Bool.and_eq_true] at h
    obtain ⟨t, rfl, h2⟩ := all_enc (enc := encT) (Q := fun p => okT m l.length p) (fun x _ q => by
      unfold isPart at q
      split at q
      · rename_i z
        rw [Bool.and_eq_true] at q
        obtain ⟨t, rfl, h3⟩ := all_enc (enc := encL) (fun x _ q => isLine_enc q) q.2
        have h4 := q.1
        simp [isTup] at h4
        exact ⟨t, rfl, by omega, h3⟩
      · cases q) h.2
    have h1 := h.1
    simp [isTup] at h1
    exact ⟨t, rfl, by omega, by omega, by simpa using h2⟩
  · cases h
theorem isSide_enc {v : D} (h : isSide v = true) : ∃ r, v = encS r := by
  unfold isSide at h
  split at h
  · rename_i s
    simp at h
    rcases h with rfl | rfl
    · exact ⟨false, rfl⟩
    · exact ⟨true, rfl⟩
  · cases h
theorem areStands_cons {m : Int} {x : D} {l : List D} (h : areStands m (x :: l) = true) : (∃ i, x = .int i ∧ 0 ≤ i ∧ i < m) ∧ areStands m l = true := by
  unfold areStands at h
  rw [List.all_cons, Bool.and_eq_true] at h
  obtain ⟨i, rfl, h1, h2⟩ := isFrom_int h.1
  exact ⟨⟨i, rfl, h1, by omega⟩, h.2⟩
theorem areStands2 {m : Int} {l : List D} (h : areStands m l = true) (hl : l.length = 2) : ∃ a b, l = [.int a, .int b] ∧ (0 ≤ a ∧ a < m) ∧ (0 ≤ b ∧ b < m) := by
  match l, hl with
  | [x, y], _ =>
    obtain ⟨⟨a, ea, ha⟩, h1⟩ := areStands_cons h
    obtain ⟨⟨b, eb, hb⟩, h2⟩ := areStands_cons h1
    exact ⟨a, b, by rw [ea, eb], ha, hb⟩
theorem areStands3 {m : Int} {l : List D} (h : areStands m l = true) (hl : l.length = 3) : ∃ a b c, l = [.int a, .int b, .int c] ∧ (0 ≤ a ∧ a < m) ∧ (0 ≤ b ∧ b < m) ∧ (0 ≤ c ∧ c < m) := by
  match l, hl with
  | [x, y, z], _ =>
    obtain ⟨⟨a, ea, ha⟩, h1⟩ := areStands_cons h
    obtain ⟨⟨b, eb, hb⟩, h2⟩ := areStands_cons h1
    obtain ⟨⟨c, ec, hc⟩, h3⟩ := areStands_cons h2
    exact ⟨a, b, c, by rw [ea, eb, ec], ha, hb, hc⟩
theorem keyGet {w : Str} {n : Nat} (h : (n : Int) = strKeyGet kPlain w 9) (hn : n ≤ 4) : (w = "each" ∧ n = 2) ∨ (w = "within" ∧ n = 3) ∨ (w = "holding" ∧ n = 3) := by
  unfold strKeyGet kPlain at h
  simp only [List.lookup] at h
  by_cases h1 : w = "each"
  · subst h1
    simp at h
    exact .inl ⟨rfl, by omega⟩
  · have e1 : (w == (Str.ofString "each")) = false := by simpa using h1
    rw [e1] at h
    by_cases h2 : w = "within"
    · subst h2
      simp at h
      exact .inr (.inl ⟨rfl, by omega⟩)
    · have e2 : (w == (Str.ofString "within")) = false := by simpa using h2
      simp only [e2] at h
      by_cases h3 : w = "holding"
      · subst h3
        simp at h
        exact .inr (.inr ⟨rfl, by omega⟩)
      · have e3 : (w == (Str.ofString "holding")) = false := by simpa using h3
        simp only [e3] at h
        omega
theorem isPlain_enc {m : Int} {v : D} (h : isPlain m v = true) : ∃ s : Stp, v = s.enc ∧ s.ok m := by
  unfold isPlain at h
  split at h
  · rename_i w r
    rw [Bool.and_eq_true] at h
    obtain ⟨ht, h⟩ := h
    simp [isTup] at ht
    unfold plainW at h
    by_cases h1 : w = "in"
    · rw [if_pos h1, Bool.and_eq_true, decide_eq_true_eq] at h
      obtain ⟨hl, h⟩ := h
      match r, hl with
      | [a], _ =>
        obtain ⟨t, e, h2, h3, h4⟩ := isFlat_enc h
        simp at e
        exact ⟨.inn t, by rw [h1, e]; rfl, h2, h3, h4⟩
    · rw [if_neg h1] at h
      by_cases h2 : w = "out"
      · rw [if_pos h2, Bool.and_eq_true, decide_eq_true_eq, Bool.and_eq_true] at h
        obtain ⟨hl, hs, h⟩ := h
        match r, hl with
        | [a, b], _ =>
          obtain ⟨s, e⟩ := isSide_enc hs
          obtain ⟨t, e2, h3, h4, h5⟩ := isDeep_enc h
          simp at e e2
          exact ⟨.out s t, by rw [h2, e, e2]; rfl, h3, h4, h5⟩
      · rw [if_neg h2] at h
        by_cases h3 : Str.ofString "first" = w ∨ Str.ofString "next" = w
        · rw [if_pos h3, Bool.and_eq_true, decide_eq_true_eq, Bool.and_eq_true] at h
          obtain ⟨hl, hs, h⟩ := h
          obtain ⟨s, e⟩ := isSide_enc hs
          cases r with
          | nil => simp at hl; split at hl <;> omega
          | cons x q =>
            simp at e h hl
            subst e
            by_cases h4 : w = "first"
            · rw [if_pos h4] at hl
              obtain ⟨a, b, e, ha, hb⟩ := areStands2 h (by omega)
              exact ⟨.first s a b, by rw [h4, e]; rfl, ha, hb⟩
            · rw [if_neg h4] at hl
              have h5 : w = "next" := by
                rcases h3 with h3 | h3
                · exact absurd h3.symm h4
                · exact h3.symm
              obtain ⟨a, b, c, e, ha, hb, hc⟩ := areStands3 h (by omega)
              exact ⟨.next s a b c, by rw [h5, e]; rfl, ha, hb, hc⟩
        · rw [if_neg h3, Bool.and_eq_true, decide_eq_true_eq] at h
          obtain ⟨hl, h⟩ := h
          rcases keyGet hl (by omega) with ⟨rfl, e⟩ | ⟨rfl, e⟩ | ⟨rfl, e⟩
          · obtain ⟨a, b, e, ha, hb⟩ := areStands2 h e
            exact ⟨.each a b, by rw [e]; rfl, ha, hb⟩
          · obtain ⟨a, b, c, e, ha, hb, hc⟩ := areStands3 h e
            exact ⟨.within a b c, by rw [e]; rfl, ha, hb, hc⟩
          · obtain ⟨a, b, c, e, ha, hb, hc⟩ := areStands3 h e
            exact ⟨.holding a b c, by rw [e]; rfl, ha, hb, hc⟩
  · cases h
end KT
/-! whole scripts: the walks they stand for -/
namespace KT
open PL
open PySem (Str)
inductive Stq where
  | one (s : Stp) | again (k : Int) (ps : List Stp)
def Stq.enc : Stq → D
  | .one s => s.enc
  | .again k ps => .tup [.str "again", .int k, .tup (ps.map Stp.enc)]
def Stq.ok (m : Int) : Stq → Prop
  | .one s => s.ok m
  | .again k ps => (2 ≤ k ∧ k ≤ 4) ∧ (1 ≤ ps.length ∧ ps.length ≤ 3) ∧ ∀ p ∈ ps, p.ok m
def Stq.walks (m : Int) : Stq → List Wk
  | .one s => [walkOf m s]
  | .again k ps => (List.replicate k.toNat (ps.map (walkOf m))).flatten
def spreadOf (m : Int) (qs : List Stq) : List Wk := qs.flatMap (Stq.walks m)
theorem isStep_enc {m : Int} {v : D} (h : isStep m v = true) : ∃ q : Stq, v = q.enc ∧ q.ok m := by
  have plain : isPlain m v = true → ∃ q : Stq, v = q.enc ∧ q.ok m := fun h => by
    obtain ⟨s, e, o⟩ := isPlain_enc h
    exact ⟨.one s, e, o⟩
  unfold isStep at h
  split at h
  · rename_i w t p
    by_cases hw : w = "again"
    · rw [if_pos hw] at h
      unfold isAgain at h
      simp only [Bool.and_eq_true, decide_eq_true_eq] at h
      obtain ⟨rfl, h1, h2⟩ := h
      obtain ⟨k, rfl, h3, h4⟩ := isFrom_int h1
      split at h2
      · rename_i l
        rw [Bool.and_eq_true] at h2
        obtain ⟨ps, rfl, h5⟩ := all_enc (enc := Stp.enc) (fun x _ q => isPlain_enc q) h2.2
        have h6 := h2.1
        simp [isTup] at h6
        exact ⟨.again k ps, rfl, ⟨h3, h4⟩, ⟨by omega, by omega⟩, h5⟩
      · cases h2
    · rw [if_neg hw] at h
      exact plain h
  · exact plain h
theorem plain_head (s : Stp) : ∃ w r, s.enc = .tup (.str w :: r) ∧ (w = "again") = False := by
  cases s <;> exact ⟨_, _, rfl, by simp⟩
def encW (ws : List Wk) : D := .lst (ws.map Wk.enc)
def inv1 (m : Int) (ps : List Stp) (r : List D) (ρ : Env) : Prop := ∃ l l2 s, ps = l ++ l2 ∧ r = l2.map Stp.enc ∧ ρ = [some (.shr, .int m), some (.shr, .tup (ps.map Stp.enc)), some (.own, encW (l.map (walkOf m))), s] ∧ ∀ d, s ≠ some (.pin, d)
def inv2 (m : Int) (qs : List Stq) (r : List D) (ρ : Env) : Prop := ∃ l l2 s, qs = l ++ l2 ∧ r = l2.map Stq.enc ∧ ρ = [some (.shr, .int m), some (.shr, .tup (qs.map Stq.enc)), some (.own, encW (spreadOf m l)), s] ∧ ∀ d, s ≠ some (.pin, d)
theorem E_spread1 {m : Int} (hm : m = 2 ∨ m = 3) (d : Nat) (ps : List Stp) (hl : ps.length ≤ 100) (ho : ∀ p ∈ ps, p.ok m) : R_spread (d + 1) [.int m, .tup (ps.map Stp.enc)] = .ok (sh (encW (ps.map (walkOf m)))) [.non, .non] := by
  refine okF_iff fun P hP => okF_sem rfl ?_
  generalize recF [false, false] N_spread.length (fun F => mkG (F :: fs_spread) cs_spread) s_spread d = F
  simp [s_spread, N_spread]
  refine wp_loop (inv1 m ps) ?_ ?_ _ _ ⟨[], ps, none, rfl, rfl, rfl, by simp⟩
  · rintro x xs ρ ⟨l, l2, s, e1, e2, rfl, hs⟩
    cases l2 with
    | nil => cases e2
    | cons p l2 =>
      cases e2
      have hp : p.ok m := ho p (by rw [e1]; simp)
      obtain ⟨w, r, e, hw⟩ := plain_head p
      simp [hs, e, hw]
      rw [← e]
      rw [show (fs_spread[0]?.getD fun x => RF.bad) = F_walk_of from rfl, okF_ok (E_walk_of hm p hp)]
      simp [encW]
      have hlen : l.length + 1 ≤ 16777216 := by
        have := congrArg List.length e1
        simp at this
        omega
      rw [if_pos (by omega)]
      simp
      exact ⟨l ++ [p], l2, _, by rw [e1]; simp, rfl, by simp [encW]; rfl, by simp⟩
  · rintro ρ ⟨l, l2, s, e1, e2, rfl, hs⟩
    have : l2 = [] := by cases l2 with
      | nil => rfl
      | cons _ _ => cases e2
    subst this
    simp at e1
    subst e1
    simpa using hP
theorem E_spread {m : Int} (hm : m = 2 ∨ m = 3) (d : Nat) (qs : List Stq) (hl : qs.length ≤ 100) (ho : ∀ q ∈ qs, q.ok m) : R_spread (d + 2) [.int m, .tup (qs.map Stq.enc)] = .ok (sh (encW (spreadOf m qs))) [.non, .non] := by
  refine okF_iff fun P hP => okF_sem rfl ?_
  have hF := fun ps h1 h2 => E_spread1 hm d ps h1 h2
  unfold R_spread at hF
  generalize recF [false, false] N_spread.length (fun F => mkG (F :: fs_spread) cs_spread) s_spread (d + 1) = F at hF ⊢
  simp [s_spread, N_spread]
  have wl : ∀ q : Stq, q.ok m → (q.walks m).length ≤ 12 := fun q hq => by
    cases q with
    | one s => simp [Stq.walks]
    | again k ps =>
      obtain ⟨⟨h1, h2⟩, ⟨h3, h4⟩, _⟩ := hq
      simp [Stq.walks]
      have : k.toNat ≤ 4 := by omega
      calc k.toNat * ps.length ≤ 4 * 3 := Nat.mul_le_mul this h4
        _ = 12 := rfl
  have sl : ∀ l : List Stq, (∀ q ∈ l, q.ok m) → (spreadOf m l).length ≤ 12 * l.length := fun l => by
    induction l with
    | nil => intro _; simp [spreadOf]
    | cons q l ih =>
      intro h
      have h1 := wl q (h q (by simp))
      have h2 := ih fun x hx => h x (by simp [hx])
      simp [spreadOf] at h2 ⊢
      omega
  refine wp_loop (inv2 m qs) ?_ ?_ _ _ ⟨[], qs, none, rfl, rfl, rfl, by simp⟩
  · rintro x xs ρ ⟨l, l2, s, e1, e2, rfl, hs⟩
    cases l2 with
    | nil => cases e2
    | cons q l2 =>
      cases e2
      have hq : q.ok m := ho q (by rw [e1]; simp)
      have hll : l.length ≤ 100 := by
        have := congrArg List.length e1
        simp at this
        omega
      have h1 := sl l fun x hx => ho x (by rw [e1]; simp [hx])
      have h2 := wl q hq
      have fin : spreadOf m (l ++ [q]) = spreadOf m l ++ q.walks m := by simp [spreadOf]
      cases q with
      | one p =>
        obtain ⟨w, r, e, hw⟩ := plain_head p
        simp [hs, Stq.enc, e, hw]
        rw [← e]
        rw [show (fs_spread[0]?.getD fun x => RF.bad) = F_walk_of from rfl, okF_ok (E_walk_of hm p hq)]
        simp [encW]
        have hlen : (spreadOf m l).length + 1 ≤ 16777216 := by omega
        rw [if_pos (by omega)]
        simp
        exact ⟨l ++ [.one p], l2, _, by rw [e1]; simp, rfl, by simp [encW, fin, Stq.walks]; rfl, by simp⟩
      | again k ps =>
        obtain ⟨⟨h3, h4⟩, ⟨h5, h6⟩, h7⟩ := hq
        simp [hs, Stq.enc]
        rw [okF_ok (hF ps (by omega) h7)]
        have e3 : bin .mul (encW (ps.map (walkOf m))) (.int k) = some (ow (encW (Stq.walks m (.again k ps)))) := by
          unfold encW
          have : k.toNat ≤ 4 := by omega
          have h8 : ps.length * k.toNat ≤ 3 * 4 := Nat.mul_le_mul h6 this
          rw [x_mull, if_pos ⟨by omega, by omega, by simp; omega⟩]
          simp [Stq.walks, List.map_flatten]
        have hlen : (spreadOf m l).length + (Stq.walks m (.again k ps)).length ≤ 16777216 := by omega
        simp [e3, encW]
        have h9 : k.toNat * ps.length ≤ 4 * 3 := Nat.mul_le_mul (by omega) h6
        have h10 : ps.length * k.toNat ≤ 16777216 := by rw [Nat.mul_comm]; omega
        have h11 : (spreadOf m l).length + k.toNat * ps.length ≤ 16777216 := by omega
        have h12 : -9223372036854775808 ≤ k ∧ k < 9223372036854775808 := by omega
        simp [h10, h11, h12]
        exact ⟨l ++ [.again k ps], l2, _, by rw [e1]; simp, rfl, by simp [encW, fin, Stq.walks, List.map_flatten]; rfl, by simp⟩
  · rintro ρ ⟨l, l2, s, e1, e2, rfl, hs⟩
    have : l2 = [] := by cases l2 with
      | nil => rfl
      | cons _ _ => cases e2
    subst this
    simp at e1
    subst e1
    simpa using hP
end KT
/-! whole scripts recognized -/
namespace KT
open PL
open PySem (Str)
def prodW : List Wk → Int
  | [] => 1
  | w :: ws => w.wide * prodW ws
def inv3 (ws : List Wk) (r : List D) (ρ : Env) : Prop := ∃ l p s2 s3 s4, r = l.map Wk.enc ∧ (∀ w ∈ l, w ∈ ws) ∧ p * prodW l = prodW ws ∧ ρ = [some (.shr, encW ws), some (.shr, .int p), s2, s3, s4] ∧ (∀ d, s2 ≠ some (.pin, d)) ∧ (∀ d, s3 ≠ some (.pin, d)) ∧ (∀ d, s4 ≠ some (.pin, d))
theorem wk_enc (w : Wk) : ∃ a b t, w.enc = .tup [a, b, .tup t] ∧ t.length = w.wide := by
  cases w <;> exact ⟨_, _, _, rfl, by simp [Wk.wide]⟩
theorem E_notes_of (ws : List Wk) (hw : ∀ w ∈ ws, w.wide ≤ 1000000) : F_notes_of [encW ws] = .ok (sh (.int (prodW ws))) [.non] := by
  refine okF_iff fun P hP => okF_sem rfl ?_
  simp [s_notes_of, N_notes_of, encW]
  refine wp_loop (inv3 ws) ?_ ?_ _ _ ⟨ws, 1, none, none, none, rfl, fun _ h => h, by simp, rfl, by simp, by simp, by simp⟩
  · rintro x xs ρ ⟨l, p, s2, s3, s4, e1, e2, e3, rfl, h2, h3, h4⟩
    cases l with
    | nil => cases e1
    | cons w l =>
      cases e1
      obtain ⟨a, b, t, e, ht⟩ := wk_enc w
      have hww := hw w (e2 w (by simp))
      have sm : small64 (t.length : Int) = true := by
        unfold small64
        simp
        omega
      simp [e, h2, h3, h4, sm]
      exact ⟨l, p * t.length, _, _, _, rfl, fun v hv => e2 v (by simp [hv]), by rw [ht, ← e3, prodW, Int.mul_assoc], rfl, by simp, by simp, by simp⟩
  · rintro ρ ⟨l, p, s2, s3, s4, e1, e2, e3, rfl, h2, h3, h4⟩
    cases l with
    | cons _ _ => cases e1
    | nil =>
      simp [prodW] at e3
      subst e3
      simpa using hP
def IsScr (v : D) (m : Int) (qs : List Stq) : Prop := v = .tup [.int m, .tup (qs.map Stq.enc)] ∧ (m = 2 ∨ m = 3) ∧ qs.length ≤ 6 ∧ (∀ q ∈ qs, q.ok m) ∧ (spreadOf m qs).length ≤ 6 ∧ prodW (spreadOf m qs) ≤ 4
open Classical in
noncomputable def isScript (v : D) : Bool := decide (∃ m qs, IsScr v m qs)
open Classical in
theorem isScript_of {v : D} {m : Int} {qs : List Stq} (h : IsScr v m qs) : isScript v = true := by
  unfold isScript
  exact decide_eq_true ⟨m, qs, h⟩
open Classical in
theorem isScript_not {v : D} (h : ∀ m qs, ¬ IsScr v m qs) : isScript v = false := by
  unfold isScript
  exact decide_eq_false fun ⟨m, qs, q⟩ => h m qs q
theorem stp_ne {s : Stp} {m : Int} (h : s.ok m) : True := trivial
theorem isPair_of {m w : Int} {q : Pr} (h : 0 ≤ q.1 ∧ q.1 < m ∧ 0 ≤ q.2 ∧ q.2 < w) : isPair m w (encP q) = true := by
  simp [encP, isPair, isFrom]
  omega
theorem isLine_of {m w : Int} {l : List Pr} (h : okL m w l) : isLine m w (encL l) = true := by
  simp [encL, isLine, h.1]
  intro a b q
  exact isPair_of (h.2 (a, b) q)
theorem isFlat_of {m : Int} {t : List (List Pr)} (h1 : 1 ≤ t.length) (h2 : t.length ≤ 3) (h : okT m t.length t) : isFlat m (encT t) = true := by
  simp [encT, isFlat, isTup]
  exact ⟨⟨by omega, by omega⟩, fun l hl => isLine_of (h.2 l hl)⟩
theorem isDeep_of {m : Int} {t : List (List (List Pr))} (h1 : 1 ≤ t.length) (h2 : t.length ≤ 2) (h : ∀ p ∈ t, okT m t.length p) : isDeep m (encTT t) = true := by
  simp [encTT, isDeep, isTup]
  refine ⟨⟨by omega, by omega⟩, fun p hp => ?_⟩
  have q := h p hp
  have e := q.1
  simp [encT, isPart, isTup]
  exact ⟨by omega, fun l hl => isLine_of (q.2 l hl)⟩
theorem isSide_of (r : Bool) : isSide (encS r) = true := by
  cases r <;> simp [encS, isSide]
theorem isFrom_of {m i : Int} (h : 0 ≤ i ∧ i < m) : isFrom (.int i) 0 (m - 1) = true := by
  simp [isFrom]; omega
theorem k_each : strKeyGet kPlain "each" 9 = 2 := by decide +kernel
theorem k_within : strKeyGet kPlain "within" 9 = 3 := by decide +kernel
theorem k_holding : strKeyGet kPlain "holding" 9 = 3 := by decide +kernel
theorem isPlain_of {m : Int} {s : Stp} (h : s.ok m) : isPlain m s.enc = true := by
  cases s with
  | inn t => simp [Stp.enc, isPlain, isTup, plainW]; exact isFlat_of h.1 h.2.1 h.2.2
  | out r t => simp [Stp.enc, isPlain, isTup, plainW]; exact ⟨isSide_of r, isDeep_of h.1 h.2.1 h.2.2⟩
  | each a b => simp [Stp.enc, isPlain, isTup, plainW, areStands, k_each, isFrom_of h.1, isFrom_of h.2]
  | within a b c => simp [Stp.enc, isPlain, isTup, plainW, areStands, k_within, isFrom_of h.1, isFrom_of h.2.1, isFrom_of h.2.2]
  | holding a b c => simp [Stp.enc, isPlain, isTup, plainW, areStands, k_holding, isFrom_of h.1, isFrom_of h.2.1, isFrom_of h.2.2]
  | first r a b => simp [Stp.enc, isPlain, isTup, plainW, areStands, isFrom_of h.1, isFrom_of h.2, isSide_of]
  | next r a b c => simp [Stp.enc, isPlain, isTup, plainW, areStands, isFrom_of h.1, isFrom_of h.2.1, isFrom_of h.2.2, isSide_of]
theorem isStep_of {m : Int} {q : Stq} (h : q.ok m) : isStep m q.enc = true := by
  cases q with
  | one s =>
    have hp := isPlain_of (s := s) h
    unfold isStep
    split
    · rename_i w t p e
      obtain ⟨w2, r, e2, hw⟩ := plain_head s
      have e3 : s.enc = .tup [.str w, t, p] := e
      rw [e2] at e3
      cases e3
      rw [if_neg (by rw [hw]; exact id)]
      exact hp
    · exact hp
  | again k ps =>
    obtain ⟨⟨h1, h2⟩, ⟨h3, h4⟩, h5⟩ := h
    simp [Stq.enc, isStep, isAgain, isFrom, isTup]
    exact ⟨by omega, ⟨by omega, by omega⟩, fun p hp => isPlain_of (h5 p hp)⟩
theorem enc_inj_all {m : Int} {l : List D} (h : l.all (isStep m) = true) : ∃ qs : List Stq, l = qs.map Stq.enc ∧ ∀ q ∈ qs, q.ok m := all_enc (fun x _ q => isStep_enc q) h
theorem walkOf_wide {m : Int} {s : Stp} (h : s.ok m) : (walkOf m s).wide ≤ 3 := by
  cases s with
  | inn t => exact h.2.1
  | out r t => exact Nat.le_trans h.2.1 (by decide)
  | _ => simp [walkOf, Wk.wide]
theorem walks_wide {m : Int} {q : Stq} (h : q.ok m) : ∀ w ∈ q.walks m, w.wide ≤ 3 := by
  cases q with
  | one s => simp [Stq.walks]; exact walkOf_wide h
  | again k ps =>
    intro w hw
    unfold Stq.walks at hw
    dsimp only at hw
    rw [List.mem_flatten] at hw
    obtain ⟨l, hl, hw⟩ := hw
    rw [List.mem_replicate] at hl
    rw [hl.2, List.mem_map] at hw
    obtain ⟨p, hp, rfl⟩ := hw
    exact walkOf_wide (h.2.2 p hp)
theorem spread_wide {m : Int} {qs : List Stq} (h : ∀ q ∈ qs, q.ok m) : ∀ w ∈ spreadOf m qs, w.wide ≤ 3 := by
  intro w hw
  unfold spreadOf at hw
  rw [List.mem_flatMap] at hw
  obtain ⟨q, hq, hw⟩ := hw
  exact walks_wide (h q hq) w hw
theorem isScr_inv {m : Int} {steps : List D} {qs : List Stq} {m' : Int} (h : IsScr (.tup [.int m, .tup steps]) m' qs) : m' = m ∧ steps = qs.map Stq.enc := by
  have e := h.1
  simp at e
  exact ⟨e.1.symm, e.2⟩
theorem F_spread_eq {m : Int} (hm : m = 2 ∨ m = 3) (qs : List Stq) (h1 : qs.length ≤ 100) (h2 : ∀ q ∈ qs, q.ok m) : F_spread [.int m, .tup (qs.map Stq.enc)] = .ok (sh (encW (spreadOf m qs))) [.non, .non] := E_spread hm 62 qs h1 h2
theorem scr_det {m : Int} (hm : m = 2 ∨ m = 3) {qs qs' : List Stq} (h : ∀ q ∈ qs, q.ok m) (h' : ∀ q ∈ qs', q.ok m) (hl : qs.length ≤ 100) (e : qs.map Stq.enc = qs'.map Stq.enc) : (spreadOf m qs).length = (spreadOf m qs').length ∧ prodW (spreadOf m qs) = prodW (spreadOf m qs') := by
  have hl' : qs'.length ≤ 100 := by
    have := congrArg List.length e
    simp at this
    omega
  have e1 := F_spread_eq hm qs hl h
  have e2 := F_spread_eq hm qs' hl' h'
  rw [← e, e1] at e2
  have e3 : encW (spreadOf m qs) = encW (spreadOf m qs') := by
    injection e2 with e4 _
    injection e4
  constructor
  · have e4 : (spreadOf m qs).map Wk.enc = (spreadOf m qs').map Wk.enc := by
      injection e3
    have := congrArg List.length e4
    simpa using this
  · have n1 := E_notes_of _ fun w hw => Nat.le_trans (spread_wide h w hw) (by decide)
    have n2 := E_notes_of _ fun w hw => Nat.le_trans (spread_wide h' w hw) (by decide)
    rw [← e3, n1] at n2
    injection n2 with e4 _
    injection e4 with _ e5
    injection e5
theorem isScript_iff {m : Int} (hm : m = 2 ∨ m = 3) {qs : List Stq} (hq : ∀ q ∈ qs, q.ok m) (hl : qs.length ≤ 6) : isScript (.tup [.int m, .tup (qs.map Stq.enc)]) = (decide ((spreadOf m qs).length ≤ 6) && decide (prodW (spreadOf m qs) ≤ 4)) := by
  by_cases h : (spreadOf m qs).length ≤ 6 ∧ prodW (spreadOf m qs) ≤ 4
  · rw [isScript_of (m := m) (qs := qs) ⟨rfl, hm, hl, hq, h.1, h.2⟩]
    simp [h.1, h.2]
  · rw [isScript_not]
    · symm
      rw [Bool.and_eq_false_iff]
      simp
      omega
    · intro m' qs' h9
      obtain ⟨rfl, e⟩ := isScr_inv h9
      obtain ⟨d1, d2⟩ := scr_det hm hq h9.2.2.2.1 (by omega) e
      exact h ⟨by rw [d1]; exact h9.2.2.2.2.1, by rw [d2]; exact h9.2.2.2.2.2⟩
theorem E_has_script (v : D) (h : Fine 50 v) : F_has_script [v] = .ok (sh (.bl (isScript v))) [.non] := by
  refine okF_iff fun P hP => okF_sem rfl ?_
  have hp := h.pl
  have neg : (∀ m qs, ¬ IsScr v m qs) → P (sh (.bl false)) [.non] := fun q => by
    rw [isScript_not q] at hP
    exact hP
  simp [s_has_script, N_has_script, fs_has_script, cs_has_script, hp]
  by_cases h1 : isTup v 2 2 = true
  · obtain ⟨a, b, rfl⟩ := isTup_two h1
    obtain ⟨_, k, hk, hm⟩ := h.tup
    have ha := hm a (by simp)
    have hb := hm b (by simp)
    simp [h1, ha.pl]
    by_cases h2 : isFrom a 2 3 = true
    · simp [h2, hb.pl]
      obtain ⟨m, rfl, h4, h5⟩ := isFrom_int h2
      have hm2 : m = 2 ∨ m = 3 := by omega
      by_cases h3 : isTup b 0 6 = true
      · cases b with
        | tup steps =>
          obtain ⟨hl, k2, rfl, hs⟩ := hb.tup
          have h3' : steps.length ≤ 6 := by simp [isTup] at h3; omega
          simp [h3]
          refine ⟨by omega, wp_bmap (fun x => .bl (isStep m x)) rfl (fun x hx => by simp [o_has_step _ _ (hs x hx)]) ?_⟩
          simp [isBls_map]
          by_cases h6 : ∀ x ∈ steps, isStep m x = true
          · rw [if_pos h6]
            obtain ⟨qs, rfl, hq⟩ := enc_inj_all (m := m) (List.all_eq_true.mpr h6)
            simp at h3'
            rw [okF_ok (F_spread_eq hm2 qs (by omega) hq)]
            rw [isScript_iff hm2 hq h3'] at hP
            have en := E_notes_of _ fun w hw => Nat.le_trans (spread_wide hq w hw) (by decide)
            have hlen : lenv (encW (spreadOf m qs)) = some ((spreadOf m qs).length : Int) := by simp [encW]
            simp [hlen]
            by_cases h7 : ((spreadOf m qs).length : Int) ≤ 6
            · have h7' : (spreadOf m qs).length ≤ 6 := by omega
              simp [h7, okF_ok en]
              simpa [h7'] using hP
            · have h7' : ¬ (spreadOf m qs).length ≤ 6 := by omega
              simp [h7]
              simpa [h7'] using hP
          · rw [if_neg h6]
            refine neg fun m' qs' h9 => h6 ?_
            obtain ⟨rfl, rfl⟩ := isScr_inv h9
            intro x hx
            rw [List.mem_map] at hx
            obtain ⟨q, hq, rfl⟩ := hx
            exact isStep_of (h9.2.2.2.1 q hq)
        | _ => cases h3
      · rw [if_neg h3]
        refine neg fun m' qs' h9 => h3 ?_
        have e := h9.1
        simp at e
        rw [e.2]
        have := h9.2.2.1
        simp [isTup]
        omega
    · simp [h2]
      refine neg fun m' qs' h9 => h2 ?_
      have e := h9.1
      simp at e
      rw [e.1]
      have := h9.2.1
      simp [isFrom]
      omega
  · simp [h1]
    refine neg fun m' qs' h9 => h1 ?_
    rw [h9.1]
    simp [isTup]
theorem o_has_script (v : D) (h : Fine 50 v) (P) : okF F_has_script [v] P = P (sh (.bl (isScript v))) [.non] := okF_ok (E_has_script v h)
theorem E_need_script (v : D) (h : Fine 50 v) (hs : isScript v = true) : F_need_script [v] = .ok (sh .non) [.non] := by
  refine okF_iff fun P hP => okF_sem rfl ?_
  simpa [s_need_script, N_need_script, fs_need_script, o_has_script v h, hs] using hP
end KT
/-! nestings recognized -/
namespace KT
open PL
open PySem (Str)
inductive Box where
  | mk (s : Int) (r : List Box)
def Box.s : Box → Int
  | .mk s _ => s
def Box.inner : Box → List Box
  | .mk _ r => r
mutual
def Box.enc : Box → D
  | .mk s r => .tup [.int s, .tup (Box.encs r)]
def Box.encs : List Box → List D
  | [] => []
  | b :: r => b.enc :: Box.encs r
end
mutual
def Box.cnt : Box → Nat
  | .mk _ r => 1 + Box.cnts r
def Box.cnts : List Box → Nat
  | [] => 0
  | b :: r => b.cnt + Box.cnts r
end
mutual
def Box.dep : Box → Nat
  | .mk _ r => 1 + Box.deps r
def Box.deps : List Box → Nat
  | [] => 0
  | b :: r => max b.dep (Box.deps r)
end
abbrev Row := List Box
def encR (r : Row) : D := .tup (Box.encs r)
theorem encs_map : ∀ r : Row, Box.encs r = r.map Box.enc
  | [] => rfl
  | b :: r => by rw [Box.encs, encs_map r]; rfl
theorem enc_box (b : Box) : b.enc = .tup [.int b.s, encR b.inner] := by
  cases b with
  | mk s r => rw [Box.enc]; rfl
theorem cnt_box (b : Box) : b.cnt = 1 + Box.cnts b.inner := by
  cases b with
  | mk s r => rw [Box.cnt]; rfl
theorem dep_box (b : Box) : b.dep = 1 + Box.deps b.inner := by
  cases b with
  | mk s r => rw [Box.dep]; rfl
mutual
theorem enc_inj : ∀ {a b : Box}, a.enc = b.enc → a = b
  | .mk s r, .mk s' r', h => by
    rw [Box.enc, Box.enc] at h
    simp at h
    rw [h.1, encs_inj h.2]
theorem encs_inj : ∀ {a b : Row}, Box.encs a = Box.encs b → a = b
  | [], [], _ => rfl
  | [], _ :: _, h => by simp [Box.encs] at h
  | _ :: _, [], h => by simp [Box.encs] at h
  | x :: a, y :: b, h => by
    rw [Box.encs, Box.encs] at h
    simp at h
    rw [enc_inj h.1, encs_inj h.2]
end
theorem encR_inj {a b : Row} (h : encR a = encR b) : a = b := by
  unfold encR at h
  simp at h
  exact encs_inj h
def okR (m : Int) : Nat → Row → Prop
  | 0, r => r = []
  | d + 1, r => r.length ≤ 40 ∧ ∀ b ∈ r, (0 ≤ b.s ∧ b.s < m) ∧ okR m d b.inner
theorem okR_deps {m : Int} : ∀ {d : Nat} {r : Row}, okR m d r → Box.deps r ≤ d
  | 0, r, h => by
    cases (show r = [] from h)
    simp [Box.deps]
  | d + 1, r, h => by
    obtain ⟨hh, h⟩ := h
    clear hh
    induction r with
    | nil => simp [Box.deps]
    | cons b r ih =>
      rw [Box.deps, dep_box]
      have h1 := okR_deps (h b (by simp)).2
      have h2 := ih fun x hx => h x (by simp [hx])
      omega
def isBox (f : D → Bool) (m : Int) (b : D) : Bool := match b with
  | .tup [s, r] => isFrom s 0 (m - 1) && f r
  | _ => false
def isKept (m : Int) : Nat → D → Bool
  | 0, v => match v with
    | .tup [] => true
    | _ => false
  | d + 1, v => match v with
    | .tup l => decide (l.length ≤ 40) && l.all (isBox (isKept m d) m)
    | _ => false
theorem isKept_enc {m : Int} : ∀ {d : Nat} {v : D}, isKept m d v = true → ∃ r, v = encR r ∧ okR m d r
  | 0, v, h => by
    unfold isKept at h
    split at h
    · exact ⟨[], rfl, rfl⟩
    · cases h
  | d + 1, v, h => by
    unfold isKept at h
    split at h
    · rename_i l
      rw [Bool.and_eq_true, decide_eq_true_eq] at h
      obtain ⟨t, e, h2⟩ := all_enc (enc := Box.enc) (Q := fun b => (0 ≤ b.s ∧ b.s < m) ∧ okR m d b.inner) (fun x _ q => by
        unfold isBox at q
        split at q
        · rename_i s r
          rw [Bool.and_eq_true] at q
          obtain ⟨i, rfl, h3, h4⟩ := isFrom_int q.1
          obtain ⟨r', rfl, h5⟩ := isKept_enc q.2
          exact ⟨.mk i r', by rw [Box.enc]; rfl, ⟨h3, by show i < m; omega⟩, h5⟩
        · cases q) h.2
      refine ⟨t, by rw [e, encR, encs_map], ?_, h2⟩
      have := h.1
      rw [e] at this
      simpa using this
    · cases h
theorem isKept_of {m : Int} : ∀ {d : Nat} {r : Row}, okR m d r → isKept m d (encR r) = true
  | 0, r, h => by
    cases (show r = [] from h)
    rfl
  | d + 1, r, h => by
    obtain ⟨h1, h2⟩ := h
    simp only [encR, encs_map, isKept, Bool.and_eq_true, decide_eq_true_eq, List.length_map, List.all_map, List.all_eq_true, Function.comp]
    refine ⟨h1, fun b hb => ?_⟩
    rw [enc_box]
    simp only [isBox, Bool.and_eq_true]
    exact ⟨isFrom_of (h2 b hb).1, isKept_of (h2 b hb).2⟩
def invK (m : Int) (v : D) (d : Int) (ρ : Env) : Prop := ∃ s, ρ = [some (.shr, .int m), some (.shr, v), some (.shr, .int d), s] ∧ ∀ d, s ≠ some (.pin, d)
theorem E_is_kept (m : Int) : ∀ (d e : Nat) (v : D), Fine 50 v → R_is_kept (d + 1 + e) [.int m, v, .int d] = .ok (sh (.bl (isKept m d v))) [.non, .non, .non] := by
  intro d
  induction d with
  | zero =>
    intro e v h
    rw [show 0 + 1 + e = e + 1 by omega]
    refine okF_iff fun P hP => okF_sem rfl ?_
    generalize recF [false, false, false] N_is_kept.length (fun F => mkG (F :: fs_is_kept) cs_is_kept) s_is_kept e = F
    have hp := h.pl
    cases v with
    | tup l =>
      have hne := ne_fine (h.mono (by decide : 50 ≤ 60)) (show Fine 60 (.tup []) from ⟨by decide, by decide⟩)
      obtain ⟨hl, _⟩ := h.tup
      simp [s_is_kept, N_is_kept, cs_is_kept, hne]
      cases l with
      | nil => simpa [isKept] using hP
      | cons x l =>
        have hP' : P (sh (.bl false)) [.non, .non, .non] := by simpa [isKept] using hP
        simp
        first | exact hP' | exact fun _ => hP' | (split <;> exact hP') | exact ⟨fun _ => hP', fun _ => hP'⟩
    | _ => first | (cases hp; done) | simpa [s_is_kept, N_is_kept, isKept] using hP
  | succ d ih =>
    intro e v h
    rw [show d + 1 + 1 + e = (d + 1 + e) + 1 by omega]
    refine okF_iff fun P hP => okF_sem rfl ?_
    have hF := fun v hv => ih e v hv
    unfold R_is_kept at hF
    generalize recF [false, false, false] N_is_kept.length (fun F => mkG (F :: fs_is_kept) cs_is_kept) s_is_kept (d + 1 + e) = F at hF ⊢
    have hp := h.pl
    cases v with
    | tup l =>
      have hne := ne_fine (h.mono (by decide : 50 ≤ 60)) (show Fine 60 (.tup []) from ⟨by decide, by decide⟩)
      obtain ⟨hl, k, hk, hm⟩ := h.tup
      have hd : ((d + 1 : Nat) : Int) ≠ 0 := by omega
      have hd2 : (((d : Int) + 1 : Int) = 0) = False := eq_false (by omega)
      simp [s_is_kept, N_is_kept, cs_is_kept, hne, hd2]
      by_cases h1 : 40 < (l.length : Int)
      · have h1' : ¬ l.length ≤ 40 := by omega
        simp [h1]
        simpa [isKept, h1'] using hP
      · have h1' : l.length ≤ 40 := by omega
        simp [h1]
        have hfin : ∀ b : Bool, l.all (isBox (isKept m d) m) = b → P (sh (.bl b)) [.non, .non, .non] := fun b q => by
          have e : isKept m (d + 1) (.tup l) = b := by simp only [isKept, decide_eq_true h1', Bool.true_and, q]
          rw [e] at hP
          exact hP
        have loop : wp (loopL (fun x => asgTg (Tg.nm 3) x >>= fun _ => evSs (mkG (F :: fs_is_kept) cs_is_kept) [.ife (.or (.not (.call 1 [.var 3, .int 2, .int 2])) (.or (.not (.call 2 [.ix (.var 3) (.int 0), .int 0, .bin .sub (.var 0) (.int 1)])) (.not (.call 0 [.var 0, .ix (.var 3) (.int 1), .bin .sub (.var 2) (.int 1)])))) [.ret (.bl false)] []]) l)
            [some (.shr, .int m), some (.shr, .tup l), some (.shr, .int ((d : Int) + 1)), none] fun f ρ => f = (if l.all (isBox (isKept m d) m) = true then .nx else .rt (sh (.bl false))) ∧ invK m (.tup l) ((d : Int) + 1) ρ := by
          refine wp_find (invK m (.tup l) ((d : Int) + 1)) (isBox (isKept m d) m) (sh (.bl false)) l _ ⟨none, rfl, by simp⟩ ?_ fun ρ h => ⟨rfl, h⟩
          rintro x hx ρ ⟨s, rfl, hs⟩
          have hxf := hm x hx
          have hxp := hxf.pl
          have done : ∀ b : Bool, isBox (isKept m d) m x = b → invK m (.tup l) ((d : Int) + 1) [some (.shr, .int m), some (.shr, .tup l), some (.shr, .int ((d : Int) + 1)), some (.shr, x)] ∧ isBox (isKept m d) m x = b := fun b q => ⟨⟨_, rfl, by simp⟩, q⟩
          simp [hs, hxp]
          rw [show (fs_is_kept[0]?.getD fun x => RF.bad) = F_is_tuple from rfl, o_is_tuple _ _ _ hxp]
          simp
          by_cases h2 : isTup x 2 2 = true
          · obtain ⟨a, b, rfl⟩ := isTup_two h2
            obtain ⟨_, k2, hk2, hm2⟩ := hxf.tup
            have ha := (hm2 a (by simp)).pl
            have hb := hm2 b (by simp)
            simp [h2]
            rw [show (fs_is_kept[1]?.getD fun x => RF.bad) = F_is_from from rfl, o_is_from _ _ _ ha]
            simp
            by_cases h3 : isFrom a 0 (m - 1) = true
            · simp [h3]
              have hb50 : Fine 50 b := hb.mono (by omega)
              rw [okF_ok (hF b hb50)]
              simp
              by_cases h4 : isKept m d b = true
              · simp [h4]
                exact done true (by simp [isBox, h3, h4])
              · simp [h4]
                exact done false (by simp [isBox, h3, h4])
            · simp [h3]
              exact done false (by simp [isBox, h3])
          · simp [h2]
            refine done false ?_
            unfold isBox
            split
            · simp [isTup] at h2
            · rfl
        simp at loop
        refine loop.mono fun f ρ ⟨e, s, hρ, hs⟩ => ?_
        subst hρ
        by_cases h2 : l.all (isBox (isKept m d) m) = true
        · have e' : f = .nx := by
            simp only [List.all_eq_true] at h2
            rw [e, if_pos h2]
          subst e'
          simpa using hfin true h2
        · have e' : f = .rt (sh (.bl false)) := by
            have h3 := h2
            simp only [List.all_eq_true] at h3
            rw [e, if_neg h3]
          subst e'
          simpa using hfin false (by simpa using h2)
    | _ => first | (cases hp; done) | simpa [s_is_kept, N_is_kept, isKept] using hP
/-- every row within is short -/
def short : Nat → Row → Prop
  | 0, r => r.length ≤ 1000000
  | d + 1, r => r.length ≤ 1000000 ∧ ∀ b ∈ r, short d b.inner
theorem okR_short {m : Int} : ∀ {d : Nat} {r : Row}, okR m d r → short d r
  | 0, r, h => by
    cases (show r = [] from h)
    show ([] : Row).length ≤ 1000000
    decide
  | d + 1, r, h => ⟨Nat.le_trans h.1 (by decide), fun b hb => okR_short (h.2 b hb).2⟩
theorem cnts_sum : ∀ r : Row, ((Box.cnts r : Nat) : Int) = (r.map fun b => (1 : Int) + (Box.cnts b.inner : Nat)).sum
  | [] => rfl
  | b :: r => by
    rw [Box.cnts, cnt_box, List.map_cons, List.sum_cons, ← cnts_sum r]
    omega
theorem R_boxes_eq : ∀ (d e : Nat) (r : Row), short d r → Box.deps r ≤ d → R_boxes_of (d + 1 + e) [encR r] = .ok (sh (.int (Box.cnts r : Nat))) [.non] := by
  intro d
  induction d with
  | zero =>
    intro e r hs hd
    have hr : r = [] := by
      cases r with
      | nil => rfl
      | cons b r => rw [Box.deps, dep_box] at hd; omega
    subst hr
    rw [show 0 + 1 + e = e + 1 by omega]
    refine okF_iff fun P hP => okF_sem rfl ?_
    generalize recF [false] N_boxes_of.length (fun F => mkG (F :: fs_boxes_of) cs_boxes_of) s_boxes_of e = F
    simp [s_boxes_of, N_boxes_of, encR, Box.encs]
    refine wp_bmap (fun x => x) rfl (fun x hx => by cases hx) ?_
    simpa [isInts, Box.cnts] using hP
  | succ d ih =>
    intro e r hs hd
    rw [show d + 1 + 1 + e = (d + 1 + e) + 1 by omega]
    refine okF_iff fun P hP => okF_sem rfl ?_
    have hF := fun r h1 h2 => ih e r h1 h2
    unfold R_boxes_of at hF
    generalize recF [false] N_boxes_of.length (fun F => mkG (F :: fs_boxes_of) cs_boxes_of) s_boxes_of (d + 1 + e) = F at hF ⊢
    have hl := hs.1
    have dd : ∀ b ∈ r, Box.deps b.inner ≤ d := by
      have : ∀ r : Row, Box.deps r ≤ d + 1 → ∀ b ∈ r, Box.deps b.inner ≤ d := fun r => by
        induction r with
        | nil => intro _ b hb; cases hb
        | cons x r ih =>
          intro h b hb
          rw [Box.deps, dep_box] at h
          rcases List.mem_cons.mp hb with rfl | hb
          · omega
          · exact ih (by omega) b hb
      exact this r hd
    simp [s_boxes_of, N_boxes_of, encR, encs_map]
    refine ⟨by omega, wp_bmapE Box.enc (fun b => D.int ((1 : Int) + (Box.cnts b.inner : Nat))) r rfl (fun b hb => ?_) ?_⟩
    · rw [enc_box]
      simp
      rw [okF_ok (hF b.inner (hs.2 b hb) (dd b hb))]
      simp
    · simp [isInts_map]
      rw [cnts_sum] at hP
      simpa using hP
/-- a nesting -/
def IsNst (m : Int) (v : D) (r : Row) : Prop := v = encR r ∧ okR m 8 r ∧ Box.cnts r ≤ 40
open Classical in
noncomputable def isNst (m : Int) (v : D) : Bool := decide (∃ r, IsNst m v r)
open Classical in
theorem isNst_enc (m : Int) (r : Row) : isNst m (encR r) = decide (okR m 8 r ∧ Box.cnts r ≤ 40) := by
  unfold isNst
  congr 1
  refine propext ⟨fun ⟨r', e, h⟩ => ?_, fun h => ⟨r, rfl, h⟩⟩
  cases encR_inj e
  exact h
theorem isNst_of {m : Int} {v : D} {r : Row} (h : IsNst m v r) : isNst m v = true := by
  unfold isNst
  exact @decide_eq_true _ (Classical.propDecidable _) ⟨r, h⟩
theorem E_has_nesting (m : Int) (v : D) (h : Fine 50 v) : F_has_nesting [.int m, v] = .ok (sh (.bl (isNst m v))) [.non, .non] := by
  refine okF_iff fun P hP => okF_sem rfl ?_
  have hK : F_is_kept [.int m, v, .int 8] = _ := E_is_kept m 8 55 v h
  simp [s_has_nesting, N_has_nesting, fs_has_nesting, cs_has_nesting, okF_ok hK]
  by_cases h1 : isKept m 8 v = true
  · obtain ⟨r, rfl, ho⟩ := isKept_enc h1
    have hB : F_boxes_of [encR r] = _ := R_boxes_eq 8 55 r (okR_short ho) (okR_deps ho)
    simp [h1, okF_ok hB]
    rw [isNst_enc] at hP
    by_cases h2 : Box.cnts r ≤ 40
    · have h2' : ((Box.cnts r : Nat) : Int) ≤ 40 := by omega
      simpa [h2, h2', ho] using hP
    · have h2' : ¬ ((Box.cnts r : Nat) : Int) ≤ 40 := by omega
      simpa [h2, h2'] using hP
  · simp [h1]
    have e : isNst m v = false := by
      unfold isNst
      refine @decide_eq_false _ (Classical.propDecidable _) ?_
      rintro ⟨r, rfl, h2, _⟩
      exact h1 (isKept_of h2)
    rw [e] at hP
    exact hP
theorem o_has_nesting (m : Int) (v : D) (h : Fine 50 v) (P) : okF F_has_nesting [.int m, v] P = P (sh (.bl (isNst m v))) [.non, .non] := okF_ok (E_has_nesting m v h)
end KT
/-! draws -/
namespace KT
open PL
open PySem (Str)
/-- a source of draws -/
def Src (d : D) : Prop := ∃ a b : Int, d = .lst [.int a, .int b] ∧ 0 ≤ a
theorem S_source (ns : List Int) (k : Int) (h0 : 0 ≤ k) {P : Vl → List D → Prop} (hP : ∀ s, Src s → P (ow s) [.non, .non]) : okF F__law_source [.ro (ns.map D.int), .int k] P := by
  refine okF_sem rfl ?_
  have s1 : small64 73 = true := by decide
  have s2 : small64 16807 = true := by decide
  have s3 : small64 6007 = true := by decide
  have fin : ∀ c : Int, 0 ≤ c → wp (evSs (mkG fs__law_source cs__law_source) (s__law_source.drop 1)) [some (.shr, .ro (ns.map D.int)), some (.shr, .int k), some (.shr, .int c)] fun f ρ => match outsAt [false, false] ρ with
      | some outs => P (match f with | .rt v => v | .nx => sh .non) outs
      | none => False := by
    intro c hc
    simp [s__law_source, s2, s3]
    by_cases h : 100000000000000000 < c
    · simp [h]
      exact hP _ ⟨_, _, rfl, hc⟩
    · simp [h]
      exact hP _ ⟨_, _, rfl, by decide⟩
  simp [s__law_source] at fin
  simp [s__law_source, N__law_source, s1]
  by_cases h : k < (ns.length : Int)
  · simp [h]
    rw [at_int _ h0]
    have hi : k.toNat < ns.length := by omega
    simp [List.getElem?_eq_getElem hi]
    exact fin _ (by split <;> omega)
  · simp [h]
    exact fin _ (by omega)
theorem S_draw {s : D} (hs : Src s) (many : Int) (h1 : 0 < many) (h2 : many ≤ 1000000) {P : Vl → List D → Prop} (hP : ∀ r s', 0 ≤ r → r < many → Src s' → P (sh (.int r)) [s', .non]) : okF F__law_draw [s, .int many] P := by
  obtain ⟨a, b, rfl, ha⟩ := hs
  refine okF_sem rfl ?_
  have hlog : many.natAbs.log2 < 9000 := by
    have : many.natAbs.log2 ≤ many.natAbs := Nat.log2_le_self _
    have h3 : many.natAbs < 2 ^ 20 := by omega
    have := (Nat.log2_lt (by omega)).mpr h3
    omega
  have l23 : Nat.log2 23 < 9000 := by decide
  have l32 : Nat.log2 32 < 9000 := by decide
  have s1 : small64 48271 = true := by decide
  simp [s__law_draw, N__law_draw]
  have i0 : ixOf 2 0 = some 0 := by decide
  have i1 : ixOf 2 1 = some 1 := by decide
  by_cases h : 0 < a
  · simp [h, h1, hlog, i0]
    exact hP _ _ (Int.emod_nonneg _ (by omega)) (Int.emod_lt_of_pos _ h1) ⟨_, _, rfl, Int.ediv_nonneg ha (by omega)⟩
  · have s2 : small64 ((b * 48271 + 83) % 2147483237) = true := by
      have e1 := Int.emod_nonneg (b * 48271 + 83) (show (2147483237 : Int) ≠ 0 by decide)
      have e2 := Int.emod_lt_of_pos (b * 48271 + 83) (show (0 : Int) < 2147483237 by decide)
      unfold small64
      simp
      omega
    simp [h, s1, i1, l23, l32, s2, h1]
    exact hP _ _ (Int.emod_nonneg _ (by omega)) (Int.emod_lt_of_pos _ h1) ⟨_, _, rfl, ha⟩
theorem S_choice {s : D} (hs : Src s) (l : List D) (h0 : l ≠ []) (hl : l.length ≤ 1000000) {P : Vl → List D → Prop} (hP : ∀ x s', x ∈ l → Src s' → P (sh x) [s', .non]) : okF F__law_choice [s, .lst l] P := by
  refine okF_sem rfl ?_
  have hl0 : 0 < l.length := List.length_pos_iff.mpr h0
  simp [s__law_choice, N__law_choice, fs__law_choice]
  refine S_draw hs _ (by omega) (by omega) fun r s' h1 h2 hs' => ?_
  simp
  rw [at_int _ h1]
  have hi : r.toNat < l.length := by omega
  simp [List.getElem?_eq_getElem hi]
  exact hP _ _ (List.getElem_mem hi) hs'
end KT
/-! drawn lines and tables -/
namespace KT
open PL
open PySem (Str)
theorem rangeD_m {m : Int} (hm : m = 2 ∨ m = 3) : rangeD 0 m = (stands m).map D.int := by
  rcases hm with rfl | rfl <;> rfl
/-- a comprehension with a test -/
theorem wp_bfilter {α : Type} {own : List Nat} {asg : D → M Unit} {cnd : M Bool} {elt : M D} {ρ : Env} {P : List D → Env → Prop} (enc h : α → D) (g : α → Bool) (r : List α) (no : noOwned ρ own = true)
    (step : ∀ b ∈ r, wp (asg (enc b)) (wipe ρ own) fun _ ρ1 => wp cnd ρ1 fun c ρ2 => c = g b ∧ (g b = true → wp elt ρ2 fun y ρ3 => y = h b ∧ wipe ρ3 own = wipe ρ own) ∧ (g b = false → wipe ρ2 own = wipe ρ own)) (hP : P ((r.filter g).map h) (restore ρ (wipe ρ own) own)) : wp (block own (compL own asg cnd elt (r.map enc))) ρ P := by
  rw [wp_block no]
  refine wp_comp (fun q ys ρ' => ρ' = wipe ρ own ∧ ∃ l l2, r = l ++ l2 ∧ q = l2.map enc ∧ ys = (l.filter g).map h) ?_ _ [] _ ⟨rfl, [], r, rfl, rfl, rfl⟩ ?_
  · rintro x xs ys ρ' ⟨rfl, l, l2, e1, e2, rfl⟩
    cases l2 with
    | nil => cases e2
    | cons b l2 =>
      cases e2
      refine (step b (by rw [e1]; simp)).mono fun _ ρ1 s => s.mono fun c ρ2 s => ?_
      obtain ⟨rfl, s1, s2⟩ := s
      cases q : g b with
      | true => exact (s1 q).mono fun y ρ3 ⟨e3, e4⟩ => ⟨e4, l ++ [b], l2, by rw [e1]; simp, rfl, by rw [e3]; simp [q]⟩
      | false => exact ⟨s2 q, l ++ [b], l2, by rw [e1]; simp, rfl, by simp [q]⟩
  · rintro zs ρ' ⟨rfl, l, l2, e1, e2, e3⟩
    have : l2 = [] := by cases l2 with
      | nil => rfl
      | cons _ _ => cases e2
    subst this
    rw [List.append_nil] at e1
    rw [List.nil_append] at e3
    subst e1
    rw [e3]
    exact hP
theorem nodup_le {α : Type} [BEq α] [LawfulBEq α] : ∀ (l m : List α), l.Nodup → (∀ x ∈ l, x ∈ m) → l.length ≤ m.length
  | [], m, _, _ => Nat.zero_le _
  | x :: l, m, hn, h => by
    rw [List.nodup_cons] at hn
    have h1 : x ∈ m := h x (by simp)
    have h2 := nodup_le l (m.erase x) hn.2 fun y hy => by
      have hne : y ≠ x := fun e => hn.1 (e ▸ hy)
      exact (List.mem_erase_of_ne hne).mpr (h y (by simp [hy]))
    have h3 := List.length_erase_of_mem h1
    have h4 : 0 < m.length := List.length_pos_of_mem h1
    simp
    omega
theorem filt_len (os : List Int) (c : Int) (p : Bool) (h : os.Nodup) : os.length ≤ (os.filter fun o => !(o == c) || !p).length + 1 := by
  cases p with
  | false =>
    rw [List.filter_eq_self.mpr (by simp)]
    omega
  | true =>
    induction os with
    | nil => simp
    | cons x os ih =>
      rw [List.nodup_cons] at h
      have ih := ih h.2
      by_cases e : x = c
      · subst e
        have : (os.filter fun o => !(o == x) || !true) = os := by
          rw [List.filter_eq_self]
          intro a ha
          have : a ≠ x := fun z => h.1 (z ▸ ha)
          simp [this]
        rw [List.filter_cons, this]
        simp
      · rw [List.filter_cons, if_pos (by simp [e])]
        simp at ih ⊢
        omega
def invLn (m w : Int) (r : List D) (ρ : Env) : Prop := ∃ s l os p g s6 s7, Src s ∧ (r.length : Int) + (l : List Pr).length = m ∧ (∀ q ∈ l, 0 ≤ q.1 ∧ q.1 < m ∧ 0 ≤ q.2 ∧ q.2 < w) ∧ (∀ x ∈ os, 0 ≤ x ∧ x < m) ∧ os.Nodup ∧ r.length ≤ (os : List Int).length ∧ (g = Fg.shr ∨ g = Fg.own) ∧
  ρ = [some (.pin, s), some (.shr, .int m), some (.shr, .int w), some (g, .lst (os.map D.int)), some (.shr, encL l), some (.shr, .bl p), s6, s7, none] ∧ (∀ d, s6 ≠ some (.pin, d)) ∧ (∀ d, s7 ≠ some (.pin, d))
theorem S_line {s : D} (hs : Src s) {m w : Int} (hm : m = 2 ∨ m = 3) (hw : 0 < w ∧ w ≤ 1000) {P : Vl → List D → Prop} (hP : ∀ l s', okL m w l → Src s' → P (sh (encL l)) [s', .non, .non]) : okF F__law_line [s, .int m, .int w] P := by
  refine okF_sem rfl ?_
  have hr := rangeOk_m hm
  have h2 := hr.2
  simp at h2
  simp [s__law_line, N__law_line, fs__law_line, hr.1, h2]
  refine S_draw hs 2 (by decide) (by decide) fun r s1 _ _ hs1 => ?_
  have hst : ((stands m).length : Int) = m := by rcases hm with rfl | rfl <;> rfl
  have hmem : ∀ x ∈ stands m, 0 ≤ x ∧ x < m := by rcases hm with rfl | rfl <;> decide
  have hnd : (stands m).Nodup := by rcases hm with rfl | rfl <;> decide
  simp [hr.1]
  refine wp_loop (invLn m w) ?_ ?_ _ _ ⟨s1, [], stands m, r == 0, .shr, none, none, hs1, by rw [rangeD_m hm]; simp; exact hst, by simp, hmem, hnd, by rw [rangeD_m hm]; simp, .inl rfl, by rw [rangeD_m hm]; rfl, by simp, by simp⟩
  · rintro x xs ρ ⟨s2, l, os, p, g, s6, s7, hs2, e1, e2, e3, e4, e5, hg, rfl, h6, h7⟩
    have hlos : (os.length : Int) ≤ m := by
      have := nodup_le os (stands m) e4 fun x hx => by
        have := e3 x hx
        unfold stands
        exact upTo_mem this.1 (by omega)
      omega
    have hne : os.map D.int ≠ [] := by
      intro z
      have := congrArg List.length z
      simp at this
      subst this
      simp at e5
    have h3 : os.length ≤ 1000000 := by rcases hm with rfl | rfl <;> omega
    rcases hg with rfl | rfl
    · simp [h6]
      refine S_choice hs2 _ hne (by simpa using h3) fun y s3 hy hs3 => ?_
      obtain ⟨c, hc, rfl⟩ := List.mem_map.mp hy
      have hfl := filt_len os c p e4
      simp [h7]
      refine ⟨by omega, wp_bfilter D.int D.int (fun o => !(o == c) || !p) os rfl (fun b hb => ?_) ?_⟩
      · by_cases q : b = c
        · subst q
          cases p <;> simp
        · simp [q]
      · simp
        refine S_draw hs3 w hw.1 (by omega) fun d s4 d0 d1 hs4 => ?_
        have hl3 : l.length ≤ 100 := by simp at e1; omega
        simp [encL]
        rw [if_pos (by omega)]
        simp
        refine ⟨s4, l ++ [(c, d)], os.filter fun o => !(o == c) || !p, p, .own, _, _, hs4, by simp at e1 ⊢; omega, ?_, fun x hx => e3 x (List.mem_filter.mp hx).1, List.Nodup.sublist List.filter_sublist e4, by simp at e5; omega, .inr rfl, by simp [encL, encP]; exact ⟨rfl, rfl⟩, by simp, by simp⟩
        intro q hq
        rcases List.mem_append.mp hq with hq | hq
        · exact e2 q hq
        · simp at hq
          subst hq
          exact ⟨(e3 c hc).1, (e3 c hc).2, d0, d1⟩
    · simp [h6]
      refine S_choice hs2 _ hne (by simpa using h3) fun y s3 hy hs3 => ?_
      obtain ⟨c, hc, rfl⟩ := List.mem_map.mp hy
      have hfl := filt_len os c p e4
      simp [h7]
      refine ⟨by omega, wp_bfilter D.int D.int (fun o => !(o == c) || !p) os rfl (fun b hb => ?_) ?_⟩
      · by_cases q : b = c
        · subst q
          cases p <;> simp
        · simp [q]
      · simp
        refine S_draw hs3 w hw.1 (by omega) fun d s4 d0 d1 hs4 => ?_
        have hl3 : l.length ≤ 100 := by simp at e1; omega
        simp [encL]
        rw [if_pos (by omega)]
        simp
        refine ⟨s4, l ++ [(c, d)], os.filter fun o => !(o == c) || !p, p, .own, _, _, hs4, by simp at e1 ⊢; omega, ?_, fun x hx => e3 x (List.mem_filter.mp hx).1, List.Nodup.sublist List.filter_sublist e4, by simp at e5; omega, .inr rfl, by simp [encL, encP]; exact ⟨rfl, rfl⟩, by simp, by simp⟩
        intro q hq
        rcases List.mem_append.mp hq with hq | hq
        · exact e2 q hq
        · simp at hq
          subst hq
          exact ⟨(e3 c hc).1, (e3 c hc).2, d0, d1⟩
  · rintro ρ ⟨s2, l, os, p, g, s6, s7, hs2, e1, e2, e3, e4, e5, hg, rfl, h6, h7⟩
    simp
    exact hP l s2 ⟨by simpa using e1, e2⟩ hs2
def invLot (m w k : Int) (q ys : List D) (ρ : Env) : Prop := ∃ t : List (List Pr), ∃ s1 : D, q.length + t.length = k.toNat ∧ ys = t.map encL ∧ (∀ l ∈ t, okL m w l) ∧ Src s1 ∧ ρ = [some (.pin, s1), some (.shr, .int m), some (.shr, .int w), some (.shr, .int k), none]
/-- a comprehension that draws at each turn -/
theorem S_lot {s : D} (hs : Src s) {m w : Int} (hm : m = 2 ∨ m = 3) (hw : 0 < w ∧ w ≤ 1000) (k : Int) (hk : 0 ≤ k ∧ k ≤ 1000) {P : Vl → List D → Prop} (hP : ∀ (t : List (List Pr)) (s' : D), (t.length : Int) = k → (∀ l ∈ t, okL m w l) → Src s' → P (sh (encT t)) [s', .non, .non, .non]) : okF F__law_lot [s, .int m, .int w, .int k] P := by
  refine okF_sem rfl ?_
  have hr : rangeOk 0 k = true := by unfold rangeOk; simp; omega
  have hlen : (rangeD 0 k).length = k.toNat := by simp [rangeD]
  simp [s__law_lot, N__law_lot, fs__law_lot, hr, hlen]
  refine ⟨by omega, ?_⟩
  rw [wp_block rfl]
  refine wp_comp (invLot m w k) ?_ _ [] _ ⟨[], s, by simp [hlen], rfl, by simp, hs, rfl⟩ ?_
  · rintro x xs ys ρ ⟨t, s1, e1, rfl, e2, hs1, rfl⟩
    simp
    refine S_line hs1 hm hw fun l s2 hl hs2 => ?_
    simp
    refine ⟨t ++ [l], s2, by simp at e1 ⊢; omega, by simp, ?_, hs2, rfl⟩
    intro q hq
    rcases List.mem_append.mp hq with hq | hq
    · exact e2 q hq
    · simp at hq; subst hq; exact hl
  · rintro zs ρ ⟨t, s1, e1, e2, e3, hs1, rfl⟩
    simp at e1 e2
    subst e2
    simp
    exact hP t s1 (by omega) e3 hs1
end KT
/-! drawn steps -/
namespace KT
open PL
open PySem (Str)
/-- the words that may be drawn -/
def wordsFor (c : Int) : List Str := if 1 < c then ["each", "in", "in", "out", "out", "within", "holding", "first", "next"] else ["each", "in"]
def invLot2 (m w : Int) (s0 : Env) (q ys : List D) (ρ : Env) : Prop := ∃ t : List (List (List Pr)), ∃ s1 : D, q.length + t.length = w.toNat ∧ ys = t.map encT ∧ (∀ p ∈ t, okT m w p) ∧ Src s1 ∧ ρ = some (.pin, s1) :: s0
theorem plain_tail {s : D} (hs : Src s) {m c : Int} (hm : m = 2 ∨ m = 3) (hc : 1 ≤ c ∧ c ≤ 4) {w : Str} (hw : w ∈ wordsFor c) {a b d : Int} (ha : 0 ≤ a ∧ a < m) (hb : 0 ≤ b ∧ b < m) (hd : 0 ≤ d ∧ d < m) (r : Bool) (s3 : Slot) {P : Vl → List D → Prop}
    (hP : ∀ (p : Stp) (s' : D), p.ok m → ((walkOf m p).wide : Int) ≤ c → Src s' → P (sh p.enc) [s', .non, .non]) :
    wp (evSs (mkG fs__law_plain cs__law_plain) (s__law_plain.drop 3)) [some (.pin, s), some (.shr, .int m), some (.shr, .int c), s3, some (.shr, .str w), some (.own, .lst [.int a, .int b, .int d]), none, some (.shr, encS r), none, none] fun f ρ => match outsAt [true, false, false] ρ with
      | some outs => P (match f with
        | .rt v => v
        | .nx => sh .non) outs
      | none => False := by
  simp [s__law_plain, fs__law_plain]
  by_cases h1 : w = "in"
  · subst h1
    simp
    have h3 : (if c < 3 then c else 3 : Int) ≤ 3 ∧ (if c < 3 then c else 3 : Int) ≤ c ∧ 1 ≤ (if c < 3 then c else 3 : Int) := by split <;> omega
    generalize (if c < 3 then c else 3 : Int) = k at h3
    refine S_draw hs _ (by omega) (by omega) fun x s1 x0 x1 hs1 => ?_
    simp
    refine S_lot hs1 hm ⟨by omega, by omega⟩ (1 + x) ⟨by omega, by omega⟩ fun t s2 ht hl hs2 => ?_
    simp
    refine hP (.inn t) s2 ⟨by omega, by omega, by rw [ht]; exact ⟨ht, hl⟩⟩ (by simp [walkOf, Wk.wide]; omega) hs2
  · simp [h1]
    by_cases h2 : w = "out"
    · subst h2
      have hc1 : 1 < c := by
        unfold wordsFor at hw
        split at hw
        · assumption
        · simp at hw
      simp
      refine S_draw hs 4 (by decide) (by decide) fun x s1 x0 x1 hs1 => ?_
      simp
      have h3 : (1 + if 0 < x then 1 else 0 : Int) ≤ 2 ∧ 1 ≤ (1 + if 0 < x then 1 else 0 : Int) := by split <;> omega
      generalize (1 + if 0 < x then 1 else 0 : Int) = k at h3
      have hrg : rangeOk 0 k = true := by unfold rangeOk; simp; omega
      have hlen : (rangeD 0 k).length = k.toNat := by simp [rangeD]
      simp [hrg, hlen]
      refine ⟨by omega, ?_⟩
      rw [wp_block (by cases s3 <;> rfl)]
      simp
      refine wp_comp (invLot2 m k [some (.shr, .int m), some (.shr, .int c), s3, some (.shr, .str "out"), some (.own, .lst [.int a, .int b, .int d]), none, some (.shr, encS r), some (.shr, .int k), none]) ?_ _ [] _ ⟨[], s1, by simp [hlen], rfl, by simp, hs1, rfl⟩ ?_
      · rintro y ys zs ρ ⟨t, s2, e1, rfl, e2, hs2, rfl⟩
        simp
        refine S_lot hs2 hm ⟨by omega, by omega⟩ k ⟨by omega, by omega⟩ fun p s4 hp hl hs4 => ?_
        simp
        refine ⟨t ++ [p], s4, by simp at e1 ⊢; omega, by simp, ?_, hs4, rfl⟩
        intro q hq
        rcases List.mem_append.mp hq with hq | hq
        · exact e2 q hq
        · simp at hq; subst hq; exact ⟨hp, hl⟩
      · rintro zs ρ ⟨t, s2, e1, e2, e3, hs2, rfl⟩
        simp at e1 e2
        subst e2
        simp
        have e4 : (t.length : Int) = k := by omega
        refine hP (.out r t) s2 ⟨by omega, by omega, by rw [e4]; exact e3⟩ (by simp [walkOf, Wk.wide]; omega) hs2
    · simp [h2]
      by_cases h3 : w = "each"
      · subst h3
        simp
        exact hP (.each a b) s ⟨ha, hb⟩ (by simp [walkOf, Wk.wide]; omega) hs
      · have hc1 : 1 < c := by
          unfold wordsFor at hw
          split at hw
          · assumption
          · simp [h1, h3] at hw
        simp [h3]
        by_cases h4 : w = "within"
        · subst h4
          simp
          exact hP (.within a b d) s ⟨ha, hb, hd⟩ (by simp [walkOf, Wk.wide]; omega) hs
        · by_cases h5 : w = "holding"
          · subst h5
            simp
            exact hP (.holding a b d) s ⟨ha, hb, hd⟩ (by simp [walkOf, Wk.wide]; omega) hs
          · have h4' : ¬ Str.ofString "within" = w := fun z => h4 z.symm
            have h5' : ¬ Str.ofString "holding" = w := fun z => h5 z.symm
            simp [h4', h5']
            by_cases h6 : w = "first"
            · subst h6
              simp
              exact hP (.first r a b) s ⟨ha, hb⟩ (by simp [walkOf, Wk.wide]; omega) hs
            · have h7 : w = "next" := by
                unfold wordsFor at hw
                rw [if_pos hc1] at hw
                simp [h1, h2, h3, h4, h5, h6] at hw
                exact hw
              subst h7
              simp
              exact hP (.next r a b d) s ⟨ha, hb, hd⟩ (by simp [walkOf, Wk.wide]; omega) hs
def invDr (m : Int) (s0 : Env) (q ys : List D) (ρ : Env) : Prop := ∃ l : List Int, ∃ s1 : D, q.length + l.length = 3 ∧ ys = l.map D.int ∧ (∀ x ∈ l, 0 ≤ x ∧ x < m) ∧ Src s1 ∧ ρ = some (.pin, s1) :: s0
theorem S_plain {s : D} (hs : Src s) {m c : Int} (hm : m = 2 ∨ m = 3) (hc : 1 ≤ c ∧ c ≤ 4) {P : Vl → List D → Prop} (hP : ∀ (p : Stp) (s' : D), p.ok m → ((walkOf m p).wide : Int) ≤ c → Src s' → P (sh p.enc) [s', .non, .non]) : okF F__law_plain [s, .int m, .int c] P := by
  refine okF_sem rfl ?_
  have tail := fun (s' : D) (hs' : Src s') (w : Str) (hw : w ∈ wordsFor c) (a b d : Int) ha hb hd r s3 => plain_tail hs' hm hc hw (a := a) (b := b) (d := d) ha hb hd r s3 hP
  have words : bin .add (.lst [.str "each", .str "in"]) ((D.lst ((List.replicate (if 1 < c then 1 else 0 : Int).toNat [D.str "in", .str "out", .str "out", .str "within", .str "holding", .str "first", .str "next"]).flatten))) = some (ow (.lst ((wordsFor c).map D.str))) := by
    unfold wordsFor
    by_cases h : 1 < c
    · simp [h]
    · simp [h]
  have wl : (wordsFor c).length ≤ 9 := by unfold wordsFor; split <;> simp
  have wne : (wordsFor c).map D.str ≠ [] := by unfold wordsFor; split <;> simp
  have r3 : rangeOk 0 3 = true := by decide
  have r3l : (rangeD 0 3).length = 3 := by decide
  have big : -9223372036854775808 ≤ (if 1 < c then 1 else 0 : Int) ∧ (if 1 < c then 1 else 0 : Int) < 9223372036854775808 ∧ 7 * (if 1 < c then 1 else 0 : Int).toNat ≤ 16777216 := by split <;> simp
  show wp (evSs (mkG fs__law_plain cs__law_plain) (s__law_plain.take 3 ++ s__law_plain.drop 3)) _ _
  generalize s__law_plain.drop 3 = rest at tail ⊢
  simp [s__law_plain, N__law_plain, fs__law_plain, big] at words ⊢
  rw [if_pos words.1, words.2]
  simp
  refine S_choice hs _ wne (by simp; omega) fun x s1 hx hs1 => ?_
  obtain ⟨w, hw, rfl⟩ := List.mem_map.mp hx
  simp [r3, r3l]
  rw [wp_block rfl]
  simp
  refine wp_comp (invDr m [some (.shr, .int m), some (.shr, .int c), some (.shr, .lst ((wordsFor c).map D.str)), none, none, none, none, none, none]) ?_ _ [] _ ⟨[], s1, by simp [r3l], rfl, by simp, hs1, rfl⟩ ?_
  · rintro y ys zs ρ ⟨l, s2, e1, rfl, e2, hs2, rfl⟩
    simp
    refine S_draw hs2 m (by omega) (by omega) fun k s4 k0 k1 hs4 => ?_
    simp
    refine ⟨l ++ [k], s4, by simp at e1 ⊢; omega, by simp, ?_, hs4, rfl⟩
    intro q hq
    rcases List.mem_append.mp hq with hq | hq
    · exact e2 q hq
    · simp at hq; subst hq; exact ⟨k0, k1⟩
  · rintro zs ρ ⟨l, s2, e1, e2, e3, hs2, rfl⟩
    simp at e1 e2
    subst e2
    match l, e1, e3 with
    | [i, j, k], _, e3 =>
      simp
      refine S_choice hs2 _ (by simp) (by simp) fun x s4 hx hs4 => ?_
      simp at hx
      rcases hx with rfl | rfl
      · simp
        exact tail s4 hs4 w hw i j k (e3 i (by simp)) (e3 j (by simp)) (e3 k (by simp)) false _
      · simp
        exact tail s4 hs4 w hw i j k (e3 i (by simp)) (e3 j (by simp)) (e3 k (by simp)) true _
end KT
/-! drawn scripts -/
namespace KT
open PL
open PySem (Str)
theorem E_width {m : Int} (p : Stp) : F__law_width [p.enc] = .ok (sh (.int ((walkOf m p).wide : Nat))) [.non] := by
  refine okF_iff fun P hP => okF_sem rfl ?_
  cases p with
  | inn t => simpa [s__law_width, N__law_width, Stp.enc, walkOf, Wk.wide, encT] using hP
  | out r t => simpa [s__law_width, N__law_width, Stp.enc, walkOf, Wk.wide, encTT] using hP
  | _ => simpa [s__law_width, N__law_width, Stp.enc, walkOf, Wk.wide] using hP
theorem prodW_append : ∀ a b : List Wk, prodW (a ++ b) = prodW a * prodW b
  | [], b => by simp [prodW]
  | w :: a, b => by rw [List.cons_append, prodW, prodW, prodW_append a b, Int.mul_assoc]
def invSc (most m : Int) (r : List D) (ρ : Env) : Prop := ∃ (s : D) (qs : List Stq) (p ag : Int) (s7 s8 s9 : Slot), Src s ∧ qs.length + r.length ≤ 5 ∧ ((spreadOf m qs).length : Int) ≤ qs.length + ag ∧ (ag = 0 ∨ ag = 1) ∧ prodW (spreadOf m qs) = p ∧ 1 ≤ p ∧ p ≤ 4 ∧ (∀ q ∈ qs, q.ok m) ∧
  ρ = [some (.pin, s), some (.shr, .int most), some (.shr, .int 4), some (.shr, .int m), some (.shr, .tup (qs.map Stq.enc)), some (.shr, .int p), some (.shr, .int ag), s7, s8, s9] ∧ (∀ d, s7 ≠ some (.pin, d)) ∧ (∀ d, s8 ≠ some (.pin, d)) ∧ (∀ d, s9 ≠ some (.pin, d))
theorem wide_pos {m : Int} {p : Stp} (h : p.ok m) : 1 ≤ (walkOf m p).wide := by
  cases p with
  | inn t => exact h.1
  | out r t => exact h.1
  | _ => simp [walkOf, Wk.wide]
theorem S_script {s : D} (hs : Src s) {most : Int} (hmost : 0 ≤ most ∧ most ≤ 5) {P : Vl → List D → Prop} (hP : ∀ (m : Int) (qs : List Stq) (s' : D), IsScr (.tup [.int m, .tup (qs.map Stq.enc)]) m qs → Src s' → P (sh (.tup [.int m, .tup (qs.map Stq.enc)])) [s', .non, .non]) : okF F__law_script [s, .int most, .int 4] P := by
  refine okF_sem rfl ?_
  simp [s__law_script, N__law_script, fs__law_script]
  refine S_choice hs _ (by simp) (by simp) fun x s1 hx hs1 => ?_
  have hx2 : ∃ m : Int, x = .int m ∧ (m = 2 ∨ m = 3) := by
    simp at hx
    rcases hx with rfl | rfl
    · exact ⟨2, rfl, .inl rfl⟩
    · exact ⟨3, rfl, .inr rfl⟩
  obtain ⟨m, rfl, hm⟩ := hx2
  simp
  refine S_draw hs1 (most + 1) (by omega) (by omega) fun n s2 n0 n1 hs2 => ?_
  have hrg : rangeOk 0 n = true := by unfold rangeOk; simp; omega
  have hlen : (rangeD 0 n).length = n.toNat := by simp [rangeD]
  simp [hrg]
  refine wp_loop (invSc most m) ?_ ?_ _ _ ⟨s2, [], 1, 0, none, none, none, hs2, by simp [hlen]; omega, by simp [spreadOf], .inl rfl, by simp [spreadOf, prodW], by decide, by decide, by simp, rfl, by simp, by simp, by simp⟩
  · rintro y ys ρ ⟨s3, qs, p, ag, s7, s8, s9, hs3, e1, e2, e3, e4, e5, e6, e7, rfl, h7, h8, h9⟩
    have lp : Nat.log2 p.natAbs < 9000 := by
      have : p.natAbs.log2 ≤ p.natAbs := Nat.log2_le_self _
      omega
    have hpos : 0 < p := by omega
    simp [h7, h8, h9, hpos, lp]
    have hc : 1 ≤ 4 / p ∧ 4 / p ≤ 4 := by
      have : p = 1 ∨ p = 2 ∨ p = 3 ∨ p = 4 := by omega
      rcases this with rfl | rfl | rfl | rfl <;> decide
    refine S_plain hs3 hm hc fun q s4 hq hw hs4 => ?_
    simp [h8, h9]
    rw [okF_ok (E_width (m := m) q)]
    simp [h9]
    refine S_draw hs4 6 (by decide) (by decide) fun k s5 k0 k1 hs5 => ?_
    simp
    have hwp := wide_pos hq
    have hw4 : p * ((walkOf m q).wide : Int) ≤ 4 := by
      have : p = 1 ∨ p = 2 ∨ p = 3 ∨ p = 4 := by omega
      rcases this with rfl | rfl | rfl | rfl <;> omega
    have hw1 : 1 ≤ p * ((walkOf m q).wide : Int) := by
      have : p = 1 ∨ p = 2 ∨ p = 3 ∨ p = 4 := by omega
      rcases this with rfl | rfl | rfl | rfl <;> omega
    have sp : small64 p = true := by unfold small64; simp; omega
    have spw : small64 (p * ((walkOf m q).wide : Int)) = true := by unfold small64; simp; omega
    have one_ : spreadOf m (qs ++ [.one q]) = spreadOf m qs ++ [walkOf m q] := by simp [spreadOf, Stq.walks]
    have two_ : spreadOf m (qs ++ [.again 2 [q]]) = spreadOf m qs ++ [walkOf m q, walkOf m q] := by simp [spreadOf, Stq.walks]
    have hql : qs.length ≤ 5 := by omega
    have plain : invSc most m ys [some (.pin, s5), some (.shr, .int most), some (.shr, .int 4), some (.shr, .int m), some (.shr, .tup (qs.map Stq.enc ++ [q.enc])), some (.shr, .int (p * ((walkOf m q).wide : Int))), some (.shr, .int ag), some (.shr, y), some (.shr, q.enc), some (.shr, .int ((walkOf m q).wide : Int))] := by
      refine ⟨s5, qs ++ [.one q], p * ((walkOf m q).wide : Int), ag, _, _, _, hs5, by simp at e1 ⊢; omega, by rw [one_]; simp; omega, e3, by rw [one_, prodW_append, e4]; simp [prodW], hw1, hw4, ?_, by simp [Stq.enc]; exact ⟨rfl, rfl, rfl⟩, by simp, by simp, by simp⟩
      intro z hz
      rcases List.mem_append.mp hz with hz | hz
      · exact e7 z hz
      · simp at hz; subst hz; exact hq
    have again : ag = 0 → p * ((walkOf m q).wide : Int) * ((walkOf m q).wide : Int) ≤ 4 → invSc most m ys [some (.pin, s5), some (.shr, .int most), some (.shr, .int 4), some (.shr, .int m), some (.shr, .tup (qs.map Stq.enc ++ [(Stq.again 2 [q]).enc])), some (.shr, .int (p * ((walkOf m q).wide : Int) * ((walkOf m q).wide : Int))), some (.shr, .int (ag + 1)), some (.shr, y), some (.shr, q.enc), some (.shr, .int ((walkOf m q).wide : Int))] := fun ha h4 => by
      have h5 : 1 ≤ p * ((walkOf m q).wide : Int) * ((walkOf m q).wide : Int) := by
        have := Int.mul_le_mul hw1 (show (1 : Int) ≤ ((walkOf m q).wide : Int) by omega) (by decide) (by omega)
        simpa using this
      refine ⟨s5, qs ++ [.again 2 [q]], _, ag + 1, _, _, _, hs5, by simp at e1 ⊢; omega, by rw [two_]; simp; omega, by omega, by rw [two_, prodW_append, e4]; simp [prodW, Int.mul_assoc], h5, h4, ?_, by simp; exact ⟨rfl, rfl, rfl⟩, by simp, by simp, by simp⟩
      intro z hz
      rcases List.mem_append.mp hz with hz | hz
      · exact e7 z hz
      · simp at hz; subst hz; exact ⟨by decide, by simp, by simp; exact hq⟩
    by_cases hk : k = 0
    · simp [hk, sp, spw]
      by_cases h4 : p * ((walkOf m q).wide : Int) * ((walkOf m q).wide : Int) ≤ 4
      · simp [h4]
        by_cases ha : ag < 1
        · simp [ha, sp, spw]
          rw [if_pos (by omega)]
          simp
          exact again (by omega) h4
        · simp [ha, sp]
          rw [if_pos (by omega)]
          simp
          exact plain
      · simp [h4, sp]
        rw [if_pos (by omega)]
        simp
        exact plain
    · simp [hk, sp]
      rw [if_pos (by omega)]
      simp
      exact plain
  · rintro ρ ⟨s3, qs, p, ag, s7, s8, s9, hs3, e1, e2, e3, e4, e5, e6, e7, rfl, h7, h8, h9⟩
    simp
    refine hP m qs s3 ⟨rfl, hm, by simp at e1; omega, e7, by simp at e1; omega, by rw [e4]; exact e6⟩ hs3
end KT
/-! drawn nestings -/
namespace KT
open PL
open PySem (Str)
/-- a box put in, at the end, so deep as it goes -/
def putR (s : Int) : Nat → Row → Row
  | 0, r => r ++ [.mk s []]
  | d + 1, r => match r.getLast? with
    | none => [.mk s []]
    | some b => r.dropLast ++ [.mk b.s (putR s d b.inner)]
theorem cnts_append : ∀ a b : Row, Box.cnts (a ++ b) = Box.cnts a + Box.cnts b
  | [], b => by simp [Box.cnts]
  | x :: a, b => by rw [List.cons_append, Box.cnts, Box.cnts, cnts_append a b]; omega
theorem last_split (r : Row) (b : Box) (h : r.getLast? = some b) : r = r.dropLast ++ [b] := by
  have hne : r ≠ [] := by
    intro z
    subst z
    simp at h
  rw [List.getLast?_eq_some_getLast hne] at h
  have := List.dropLast_concat_getLast hne
  simp at h
  rw [h] at this
  exact this.symm
theorem cnts_put (s : Int) : ∀ (d : Nat) (r : Row), Box.cnts (putR s d r) = Box.cnts r + 1
  | 0, r => by rw [putR, cnts_append]; simp [Box.cnts, Box.cnt]
  | d + 1, r => by
    rw [putR]
    cases h : r.getLast? with
    | none =>
      have : r = [] := by simpa using h
      subst this
      simp [Box.cnts, Box.cnt]
    | some b =>
      have e := last_split r b h
      have e2 : Box.cnts r = Box.cnts r.dropLast + b.cnt := by
        conv => lhs; rw [e]
        rw [cnts_append]; simp [Box.cnts]
      simp only
      rw [cnts_append, e2, cnt_box b]
      simp only [Box.cnts, Box.cnt]
      rw [cnts_put s d b.inner]
      omega
/-- stands in range, so deep at most -/
def okD (m : Int) : Nat → Row → Prop
  | 0, r => r = []
  | d + 1, r => ∀ b ∈ r, (0 ≤ b.s ∧ b.s < m) ∧ okD m d b.inner
theorem okD_nil (m : Int) : ∀ d, okD m d []
  | 0 => rfl
  | d + 1 => fun b hb => by cases hb
theorem okD_put {m s : Int} (hs : 0 ≤ s ∧ s < m) : ∀ (d k : Nat) (r : Row), d + 1 ≤ k → okD m k r → okD m k (putR s d r)
  | 0, k, r, hk, h => by
    cases k with
    | zero => omega
    | succ k =>
      intro b hb
      rw [putR] at hb
      rcases List.mem_append.mp hb with hb | hb
      · exact h b hb
      · simp at hb
        subst hb
        exact ⟨hs, okD_nil m k⟩
  | d + 1, k, r, hk, h => by
    cases k with
    | zero => omega
    | succ k =>
      intro b hb
      rw [putR] at hb
      cases hl : r.getLast? with
      | none =>
        rw [hl] at hb
        simp at hb
        subst hb
        exact ⟨hs, okD_nil m k⟩
      | some c =>
        rw [hl] at hb
        simp only at hb
        have e := last_split r c hl
        have hc : c ∈ r := by rw [e]; simp
        rcases List.mem_append.mp hb with hb | hb
        · exact h b (by rw [e]; simp [hb])
        · simp at hb
          subst hb
          exact ⟨(h c hc).1, okD_put hs d k c.inner (by omega) (h c hc).2⟩
theorem len_cnts : ∀ r : Row, r.length ≤ Box.cnts r
  | [] => Nat.zero_le _
  | b :: r => by
    have := len_cnts r
    rw [Box.cnts, cnt_box]
    simp
    omega
theorem cnt_mem : ∀ {r : Row} {b : Box}, b ∈ r → b.cnt ≤ Box.cnts r
  | x :: r, b, h => by
    rw [Box.cnts]
    rcases List.mem_cons.mp h with rfl | h
    · omega
    · have := cnt_mem h
      omega
theorem okR_of {m : Int} : ∀ {d : Nat} {r : Row}, okD m d r → Box.cnts r ≤ 40 → okR m d r
  | 0, r, h, _ => h
  | d + 1, r, h, hc => ⟨Nat.le_trans (len_cnts r) hc, fun b hb => ⟨(h b hb).1, okR_of (h b hb).2 (by
    have := cnt_mem hb
    rw [cnt_box] at this
    omega)⟩⟩
theorem okR_okD {m : Int} : ∀ {d : Nat} {r : Row}, okR m d r → okD m d r
  | 0, r, h => h
  | d + 1, r, h => fun b hb => ⟨(h.2 b hb).1, okR_okD (h.2 b hb).2⟩
theorem E_put (s : Int) : ∀ (d e : Nat) (r : Row), d ≤ 20 → Box.cnts r ≤ 1000 → Fine 60 (encR r) → R__law_put (d + 1 + e) [encR r, .int d, .int s] = .ok (sh (encR (putR s d r))) [.non, .non, .non] := by
  intro d
  induction d with
  | zero =>
    intro e r hd hc hf
    rw [show 0 + 1 + e = e + 1 by omega]
    refine okF_iff fun P hP => okF_sem rfl ?_
    generalize recF [false, false, false] N__law_put.length (fun F => mkG (F :: fs__law_put) cs__law_put) s__law_put e = F
    have hl := len_cnts r
    simp [s__law_put, N__law_put, encR, encs_map]
    rw [if_pos (by omega)]
    simp
    simpa [putR, encR, encs_map, Box.enc, Box.encs] using hP
  | succ d ih =>
    intro e r hd hc hf
    rw [show d + 1 + 1 + e = (d + 1 + e) + 1 by omega]
    refine okF_iff fun P hP => okF_sem rfl ?_
    have hF := fun r h1 h2 h3 => ih e r h1 h2 h3
    unfold R__law_put at hF
    generalize recF [false, false, false] N__law_put.length (fun F => mkG (F :: fs__law_put) cs__law_put) s__law_put (d + 1 + e) = F at hF ⊢
    have hl := len_cnts r
    have hd2 : (((d : Int) + 1 : Int) = 0) = False := eq_false (by omega)
    have heq := eq_fine hf (show Fine 60 (.tup []) from ⟨by decide, by decide⟩)
    simp [s__law_put, N__law_put, hd2, heq]
    cases hl2 : r.getLast? with
    | none =>
      have : r = [] := by simpa using hl2
      subst this
      simp [encR, Box.encs]
      simpa [putR, encR, Box.encs, Box.enc] using hP
    | some b =>
      have e1 := last_split r b hl2
      have e2 : putR s (d + 1) r = r.dropLast ++ [.mk b.s (putR s d b.inner)] := by
        rw [putR, hl2]
      rw [e2] at hP
      generalize r.dropLast = l at e1 hP
      subst e1
      have hb : Fine 60 (encR b.inner) := by
        obtain ⟨_, k, hk, hm⟩ := hf.tup
        have h1 : Fine k b.enc := hm _ (by rw [encs_map]; simp)
        rw [enc_box] at h1
        obtain ⟨_, k2, hk2, hm2⟩ := h1.tup
        exact (hm2 (encR b.inner) (by simp)).mono (by omega)
      have hbc : Box.cnts b.inner ≤ 1000 := by
        have := cnt_mem (r := l ++ [b]) (b := b) (by simp)
        rw [cnt_box] at this
        omega
      have hF2 := okF_ok (P := fun v o => o.length = 3 ∧ wp (M.opt (bin .add (.tup (l.map Box.enc)) (.tup [.tup [.int b.s, v.d]]))) [some (.shr, encR (l ++ [b])), some (.shr, .int ((d : Int) + 1)), some (.shr, .int s)] fun a ρ' => match outsAt [false, false, false] ρ' with
        | some outs => P a outs
        | none => False) (hF b.inner (by omega) hbc hb)
      have ee : encR (l ++ [b]) = .tup (l.map Box.enc ++ [b.enc]) := by rw [encR, encs_map]; simp
      simp [ee, enc_box] at hF2 ⊢
      have ne : D.eqvs (l.map Box.enc ++ [D.tup [D.int b.s, encR b.inner]]) [] = false := by cases l <;> simp
      rw [if_neg (by rw [ne]; decide), okF_ok (hF b.inner (by omega) hbc hb)]
      simp at hl
      simp
      rw [if_pos (by omega)]
      simp
      simpa [encR, encs_map, Box.enc] using hP
end KT
/-! drawn nestings, the draw itself -/
namespace KT
open PL
open PySem (Str)
theorem fine_row {m : Int} : ∀ {d : Nat} {r : Row}, okD m d r → Box.cnts r ≤ 1000 → Fine (2 * d + 1) (encR r)
  | 0, r, h, hc => by
    cases (show r = [] from h)
    exact ⟨by decide, by decide⟩
  | d + 1, r, h, hc => by
    have hl := len_cnts r
    refine Fine.mkT (n := 2 * (d + 1)) (by rw [encs_map]; simp; omega) fun x hx => ?_
    rw [encs_map] at hx
    obtain ⟨b, hb, rfl⟩ := List.mem_map.mp hx
    have h1 := cnt_mem hb
    rw [cnt_box] at h1
    rw [enc_box]
    refine Fine.mkT (n := 2 * d + 1) (by simp) fun y hy => ?_
    simp at hy
    rcases hy with rfl | rfl
    · exact Fine.int _
    · exact fine_row (h b hb).2 (by omega)
def invNs (m most : Int) (n : Nat) (r : List D) (ρ : Env) : Prop := ∃ (s : D) (w : Row) (s4 s5 : Slot), Src s ∧ okD m 8 w ∧ Box.cnts w + r.length ≤ n ∧ ρ = [some (.pin, s), some (.shr, .int m), some (.shr, .int most), some (.shr, encR w), s4, s5] ∧ (∀ d, s4 ≠ some (.pin, d)) ∧ (∀ d, s5 ≠ some (.pin, d))
theorem S_nesting {s : D} (hs : Src s) {m most : Int} (hm : m = 2 ∨ m = 3) (hn : 0 ≤ most ∧ most ≤ 40) {P : Vl → List D → Prop} (hP : ∀ (r : Row) (s' : D), okR m 8 r → (Box.cnts r : Int) ≤ most → Src s' → P (sh (encR r)) [s', .non, .non]) : okF F__law_nesting [s, .int m, .int most] P := by
  refine okF_sem rfl ?_
  simp [s__law_nesting, N__law_nesting, fs__law_nesting]
  refine S_draw hs (most + 1) (by omega) (by omega) fun n s1 n0 n1 hs1 => ?_
  have hrg : rangeOk 0 n = true := by unfold rangeOk; simp; omega
  have hlen : (rangeD 0 n).length = n.toNat := by simp [rangeD]
  simp [hrg]
  refine wp_loop (invNs m most n.toNat) ?_ ?_ _ _ ⟨s1, [], none, none, hs1, okD_nil m 8, by simp [hlen, Box.cnts], rfl, by simp, by simp⟩
  · rintro y ys ρ ⟨s2, w, s4, s5, hs2, hw, hc, rfl, h4, h5⟩
    simp [h4, h5]
    refine S_draw hs2 4 (by decide) (by decide) fun a s3 a0 a1 hs3 => ?_
    simp
    have h7 : (if 0 < a then 7 else 2 : Int) ≤ 7 ∧ 0 < (if 0 < a then 7 else 2 : Int) := by split <;> omega
    have put : ∀ z k : Int, 0 ≤ k → k < 7 → F__law_put [encR w, .int k, .int z] = .ok (sh (encR (putR z k.toNat w))) [.non, .non, .non] := fun z k k0 k1 => by
      have q := E_put z k.toNat (63 - k.toNat) w (by omega) (by omega) ((fine_row hw (by omega)).mono (by decide))
      rw [show k.toNat + 1 + (63 - k.toNat) = 64 by omega, Int.toNat_of_nonneg k0] at q
      exact q
    split
    · refine S_draw hs3 7 (by decide) (by decide) fun k s6 k0 k1 hs6 => ?_
      simp [h5]
      refine S_draw hs6 m (by omega) (by omega) fun z s7 z0 z1 hs7 => ?_
      simp
      rw [okF_ok (put z k k0 (by omega))]
      simp
      exact ⟨s7, putR z k.toNat w, _, _, hs7, okD_put ⟨z0, z1⟩ _ _ _ (by omega) hw, by rw [cnts_put]; simp at hc; omega, rfl, by simp, by simp⟩
    · refine S_draw hs3 2 (by decide) (by decide) fun k s6 k0 k1 hs6 => ?_
      simp [h5]
      refine S_draw hs6 m (by omega) (by omega) fun z s7 z0 z1 hs7 => ?_
      simp
      rw [okF_ok (put z k k0 (by omega))]
      simp
      exact ⟨s7, putR z k.toNat w, _, _, hs7, okD_put ⟨z0, z1⟩ _ _ _ (by omega) hw, by rw [cnts_put]; simp at hc; omega, rfl, by simp, by simp⟩
  · rintro ρ ⟨s2, w, s4, s5, hs2, hw, hc, rfl, h4, h5⟩
    simp
    simp at hc
    exact hP w s2 (okR_of hw (by omega)) (by omega) hs2
end KT
/-! how wide tuples are -/
namespace KT
open PL
open PySem (Str)
mutual
/-- tuples have at most so many items -/
def D.wid (k : Nat) : D → Bool
  | .tup l => decide (l.length ≤ k) && D.wids k l
  | _ => true
def D.wids (k : Nat) : List D → Bool
  | [] => true
  | d :: ds => D.wid k d && D.wids k ds
end
theorem wids_mem {k : Nat} : ∀ {l : List D}, D.wids k l = true → ∀ x ∈ l, D.wid k x = true
  | [], h, x, hx => by cases hx
  | y :: l, h, x, hx => by
    rw [D.wids, Bool.and_eq_true] at h
    rcases List.mem_cons.mp hx with rfl | hx
    · exact h.1
    · exact wids_mem h.2 x hx
theorem wids_of {k : Nat} : ∀ {l : List D}, (∀ x ∈ l, D.wid k x = true) → D.wids k l = true
  | [], h => by rw [D.wids]
  | y :: l, h => by
    rw [D.wids, Bool.and_eq_true]
    exact ⟨h y (by simp), wids_of fun x hx => h x (by simp [hx])⟩
theorem wid_tup {k : Nat} {l : List D} (h : D.wid k (.tup l) = true) : l.length ≤ k ∧ ∀ x ∈ l, D.wid k x = true := by
  rw [D.wid, Bool.and_eq_true, decide_eq_true_eq] at h
  exact ⟨h.1, wids_mem h.2⟩
theorem wid_mk {k : Nat} {l : List D} (h : l.length ≤ k) (hx : ∀ x ∈ l, D.wid k x = true) : D.wid k (.tup l) = true := by
  rw [D.wid, Bool.and_eq_true, decide_eq_true_eq]
  exact ⟨h, wids_of hx⟩
theorem wid_mono : ∀ {v : D} {k j : Nat}, k ≤ j → D.wid k v = true → D.wid j v = true
  | .tup l, k, j, le, h => by
    obtain ⟨h1, h2⟩ := wid_tup h
    exact wid_mk (by omega) fun x hx => wid_mono le (h2 x hx)
  | .non, _, _, _, _ => by simp [D.wid]
  | .bl _, _, _, _, _ => by simp [D.wid]
  | .int _, _, _, _, _ => by simp [D.wid]
  | .str _, _, _, _, _ => by simp [D.wid]
  | .lst _, _, _, _, _ => by simp [D.wid]
  | .ro _, _, _, _, _ => by simp [D.wid]
  | .dct _, _, _, _, _ => by simp [D.wid]
  | .fn _, _, _, _, _ => by simp [D.wid]
theorem walks_len {m : Int} {q : Stq} (hq : q.ok m) : (q.walks m).length ≤ 12 := by
  cases q with
  | one s => simp [Stq.walks]
  | again k ps =>
    obtain ⟨⟨h1, h2⟩, ⟨h3, h4⟩, _⟩ := hq
    simp [Stq.walks]
    have : k.toNat ≤ 4 := by omega
    calc k.toNat * ps.length ≤ 4 * 3 := Nat.mul_le_mul this h4
      _ = 12 := rfl
theorem wp_filt {own : List Nat} {asg : D → M Unit} {cnd : M Bool} {elt : M D} {ρ : Env} {P : List D → Env → Prop} (g : D → Bool) (r : List D) (no : noOwned ρ own = true)
    (step : ∀ b ∈ r, wp (asg b) (wipe ρ own) fun _ ρ1 => wp cnd ρ1 fun c ρ2 => c = g b ∧ (g b = true → wp elt ρ2 fun y ρ3 => y = b ∧ wipe ρ3 own = wipe ρ own) ∧ (g b = false → wipe ρ2 own = wipe ρ own)) (hP : P (r.filter g) (restore ρ (wipe ρ own) own)) : wp (block own (compL own asg cnd elt r)) ρ P := by
  have q := wp_bfilter (P := P) (fun x : D => x) (fun x : D => x) g r no step (by simpa using hP)
  simpa using q
theorem eq_nil {l : List D} {n : Nat} (h : ∀ x ∈ l, Fine n x) (hn : n ≤ 50) (hl : l.length ≤ 1000000) : cmpv .eq (.lst l) (.lst []) = some l.isEmpty ∧ cmpv .ne (.lst l) (.lst []) = some (!l.isEmpty) := by
  have h1 : Fine 60 (.lst l) := (Fine.mkL hl h).mono (by omega)
  have h2 : Fine 60 (.lst []) := ⟨by decide, by decide⟩
  rw [eq_fine h1 h2, ne_fine h1 h2]
  cases l <;> simp
theorem filt_nil (g : D → Bool) (l : List D) : (l.filter fun x => !g x).isEmpty = l.all g := by
  induction l with
  | nil => rfl
  | cons x l ih =>
    rw [List.filter_cons, List.all_cons]
    cases q : g x
    · simp
    · simp [ih]
end KT
/-! the law's walks of a script -/
namespace KT
open PL
open PySem (Str)
def wL (m : Int) (s : Stp) : Bool := (F__law_lines [.int m, s.enc]).sameB false (walkOf m s).enc [.non, .non]
theorem l_each : all3 (fun m a b c r => wL m (.each a b)) = true := by decide +kernel
theorem l_within : all3 (fun m a b c r => wL m (.within a b c)) = true := by decide +kernel
theorem l_holding : all3 (fun m a b c r => wL m (.holding a b c)) = true := by decide +kernel
theorem l_first : all3 (fun m a b c r => wL m (.first r a b)) = true := by decide +kernel
theorem l_next : all3 (fun m a b c r => wL m (.next r a b c)) = true := by decide +kernel
theorem E_law_lines {m : Int} (hm : m = 2 ∨ m = 3) (s : Stp) (h : s.ok m) : F__law_lines [.int m, s.enc] = .ok (sh (walkOf m s).enc) [.non, .non] := by
  have hz : (0 : Int) ≤ 0 ∧ 0 < m := by rcases hm with rfl | rfl <;> decide
  cases s with
  | inn t =>
    refine okF_iff fun P hP => okF_sem rfl ?_
    simp [s__law_lines, N__law_lines, Stp.enc]
    simpa [walkOf, Wk.enc] using hP
  | out r t =>
    refine okF_iff fun P hP => okF_sem rfl ?_
    simp [s__law_lines, N__law_lines, Stp.enc]
    simpa [walkOf, Wk.enc] using hP
  | each a b => exact sameB_eq (all3_of l_each true hm h.1 h.2 hz)
  | within a b c => exact sameB_eq (all3_of l_within true hm h.1 h.2.1 h.2.2)
  | holding a b c => exact sameB_eq (all3_of l_holding true hm h.1 h.2.1 h.2.2)
  | first r a b => exact sameB_eq (all3_of l_first r hm h.1 h.2 hz)
  | next r a b c => exact sameB_eq (all3_of l_next r hm h.1 h.2.1 h.2.2)
def invLw (m : Int) (qs : List Stq) (r : List D) (ρ : Env) : Prop := ∃ l l2 s, qs = l ++ l2 ∧ r = l2.map Stq.enc ∧ ρ = [some (.shr, .tup [.int m, .tup (qs.map Stq.enc)]), some (.own, encW (spreadOf m l)), s, none] ∧ (∀ d, s ≠ some (.pin, d))
theorem E_law_walks {m : Int} (hm : m = 2 ∨ m = 3) (qs : List Stq) (hl : qs.length ≤ 100) (ho : ∀ q ∈ qs, q.ok m) : F__law_walks [.tup [.int m, .tup (qs.map Stq.enc)]] = .ok (ow (encW (spreadOf m qs))) [.non] := by
  refine okF_iff fun P hP => okF_sem rfl ?_
  simp [s__law_walks, N__law_walks, fs__law_walks]
  have sl : ∀ l : List Stq, (∀ q ∈ l, q.ok m) → (spreadOf m l).length ≤ 12 * l.length := fun l => by
    induction l with
    | nil => intro _; simp [spreadOf]
    | cons q l ih =>
      intro h
      have h1 := walks_len (h q (by simp))
      have h2 := ih fun x hx => h x (by simp [hx])
      simp [spreadOf] at h2 ⊢
      omega
  refine wp_loop (invLw m qs) ?_ ?_ _ _ ⟨[], qs, none, rfl, rfl, rfl, by simp⟩
  · rintro x xs ρ ⟨l, l2, s, e1, e2, rfl, hs⟩
    cases l2 with
    | nil => cases e2
    | cons q l2 =>
      cases e2
      have hq : q.ok m := ho q (by rw [e1]; simp)
      have hll : l.length ≤ 100 := by
        have := congrArg List.length e1
        simp at this
        omega
      have h1 := sl l fun x hx => ho x (by rw [e1]; simp [hx])
      have h2 := walks_len hq
      have fin : spreadOf m (l ++ [q]) = spreadOf m l ++ q.walks m := by simp [spreadOf]
      cases q with
      | one p =>
        obtain ⟨w, r, e, hw⟩ := plain_head p
        simp [hs, Stq.enc, e, hw]
        simp [encW]
        rw [← e, okF_ok (E_law_lines hm p hq)]
        simp
        rw [if_pos (by omega)]
        simp
        exact ⟨l ++ [.one p], l2, _, by rw [e1]; simp, rfl, by simp [encW, fin, Stq.walks]; rfl, by simp⟩
      | again k ps =>
        obtain ⟨⟨h3, h4⟩, ⟨h5, h6⟩, h7⟩ := hq
        simp [hs, Stq.enc]
        refine ⟨by omega, wp_bmapE Stp.enc (fun p => (walkOf m p).enc) ps rfl (fun p hp => by simp [okF_ok (E_law_lines hm p (h7 p hp))]) ?_⟩
        have e3 : bin .mul (.lst (ps.map fun p => (walkOf m p).enc)) (.int k) = some (ow (encW (Stq.walks m (.again k ps)))) := by
          unfold encW
          have : k.toNat ≤ 4 := by omega
          have h8 : ps.length * k.toNat ≤ 3 * 4 := Nat.mul_le_mul h6 this
          rw [x_mull, if_pos ⟨by omega, by omega, by simp; omega⟩]
          simp [Stq.walks, List.map_flatten, Function.comp_def]
        have hlen : (spreadOf m l).length + (Stq.walks m (.again k ps)).length ≤ 16777216 := by omega
        simp [e3, encW]
        rw [if_pos hlen]
        simp
        exact ⟨l ++ [.again k ps], l2, _, by rw [e1]; simp, rfl, by simp [encW, fin]; rfl, by simp⟩
  · rintro ρ ⟨l, l2, s, e1, e2, rfl, hs⟩
    have : l2 = [] := by cases l2 with
      | nil => rfl
      | cons _ _ => cases e2
    subst this
    simp at e1
    subst e1
    simpa using hP
end KT
/-! drawn scripts are plain data; a value equals itself -/
namespace KT
open PL
open PySem (Str)
mutual
theorem eqv_refl : ∀ {a : D} {n : Nat}, a.cmpb n = true → a.eqv a = true
  | .non, _, _ => by simp
  | .bl _, _, _ => by simp
  | .int _, _, _ => by simp
  | .str _, _, _ => by simp
  | .tup l, n, h => by
    obtain ⟨m, rfl, hm⟩ := cmpb_tup h
    rw [q_tup_tup]
    exact eqvs_refl (cmpbs_of hm)
  | .lst l, n, h => by
    obtain ⟨m, rfl, hm⟩ := cmpb_lst h
    rw [q_lst_lst]
    exact eqvs_refl (cmpbs_of hm)
  | .ro _, n, h => by cases n <;> simp [D.cmpb] at h
  | .dct _, n, h => by cases n <;> simp [D.cmpb] at h
  | .fn _, n, h => by cases n <;> simp [D.cmpb] at h
theorem eqvs_refl : ∀ {l : List D} {n : Nat}, D.cmpbs n l = true → D.eqvs l l = true
  | [], _, _ => by simp
  | x :: l, n, h => by
    rw [D.cmpbs, Bool.and_eq_true] at h
    rw [qs_cc, eqv_refl h.1, eqvs_refl h.2]
    rfl
end
/-- plain data with short tuples -/
def FW (n k : Nat) (v : D) : Prop := Fine n v ∧ D.wid k v = true
theorem FW.int {n k : Nat} (i : Int) : FW n k (.int i) := ⟨Fine.int i, by simp [D.wid]⟩
theorem FW.str {n k : Nat} {s : Str} (h : Fine n (.str s)) : FW n k (.str s) := ⟨h, by simp [D.wid]⟩
theorem FW.tup {n k : Nat} {l : List D} (h : l.length ≤ k) (hk : k ≤ 1000) (hx : ∀ x ∈ l, FW n k x) : FW (n + 1) k (.tup l) :=
  ⟨Fine.mkT (by omega) fun x q => (hx x q).1, wid_mk h fun x q => (hx x q).2⟩
theorem FW.mono {n m k : Nat} {v : D} (h : FW n k v) (le : n ≤ m) : FW m k v := ⟨h.1.mono le, h.2⟩
theorem FW.map {α : Type} {n k : Nat} {f : α → D} {l : List α} (h : l.length ≤ k) (hk : k ≤ 1000) (hx : ∀ x ∈ l, FW n k (f x)) : FW (n + 1) k (.tup (l.map f)) :=
  FW.tup (by simpa using h) hk fun x q => by
    obtain ⟨y, hy, rfl⟩ := List.mem_map.mp q
    exact hx y hy
theorem fw_encP (p : Pr) : FW 1 6 (encP p) := FW.tup (n := 0) (by simp) (by decide) fun x hx => by
  simp at hx
  rcases hx with rfl | rfl <;> exact FW.int _
theorem fw_encL {l : List Pr} (h : l.length ≤ 6) : FW 2 6 (encL l) := FW.map h (by decide) fun p _ => fw_encP p
theorem fw_encT {m w : Int} (hm : m ≤ 3) {t : List (List Pr)} (hl : t.length ≤ 6) (h : okT m w t) : FW 3 6 (encT t) := FW.map hl (by decide) fun l q => fw_encL (by have := (h.2 l q).1; omega)
theorem fw_encTT {m w : Int} (hm : m ≤ 3) {t : List (List (List Pr))} (hl : t.length ≤ 6) (hw : w ≤ 6) (h : ∀ p ∈ t, okT m w p) : FW 4 6 (encTT t) := FW.map hl (by decide) fun p q => fw_encT hm (by have := (h p q).1; omega) (h p q)
theorem fine_word {n : Nat} (s : Str) (h : (D.str s).cmpb 0 = true ∧ (D.str s).szd = true) : Fine n (.str s) := ⟨cmpb_mono (Nat.zero_le n) h.1, h.2⟩
theorem fw_word {n k : Nat} (s : Str) (h : ((D.str s).cmpb 0 && (D.str s).szd) = true) : FW n k (.str s) := FW.str (fine_word s (by simpa [Bool.and_eq_true] using h))
theorem fw_side {n k : Nat} (r : Bool) : FW n k (encS r) := by
  cases r <;> exact fw_word _ (by decide +kernel)
theorem fw_stp {m : Int} (hm : m ≤ 3) {s : Stp} (h : s.ok m) : FW 5 6 s.enc := by
  have w1 : FW 4 6 (.str "in") := fw_word _ (by decide +kernel)
  have w2 : FW 4 6 (.str "out") := fw_word _ (by decide +kernel)
  have w3 : FW 4 6 (.str "each") := fw_word _ (by decide +kernel)
  have w4 : FW 4 6 (.str "within") := fw_word _ (by decide +kernel)
  have w5 : FW 4 6 (.str "holding") := fw_word _ (by decide +kernel)
  have w6 : FW 4 6 (.str "first") := fw_word _ (by decide +kernel)
  have w7 : FW 4 6 (.str "next") := fw_word _ (by decide +kernel)
  have i : ∀ a : Int, FW 4 6 (.int a) := fun a => FW.int a
  have sd : ∀ r : Bool, FW 4 6 (encS r) := fw_side
  cases s with
  | inn t =>
    have q := (fw_encT hm (by have := h.2.1; omega) h.2.2).mono (show 3 ≤ 4 by decide)
    exact FW.tup (n := 4) (by simp) (by decide) (by simp; exact ⟨w1, q⟩)
  | out r t =>
    have q := fw_encTT hm (by have := h.2.1; omega) (by have := h.2.1; omega) h.2.2
    exact FW.tup (n := 4) (by simp) (by decide) (by simp; exact ⟨w2, sd r, q⟩)
  | each a b => exact FW.tup (n := 4) (by simp) (by decide) (by simp; exact ⟨w3, i a, i b⟩)
  | within a b c => exact FW.tup (n := 4) (by simp) (by decide) (by simp; exact ⟨w4, i a, i b, i c⟩)
  | holding a b c => exact FW.tup (n := 4) (by simp) (by decide) (by simp; exact ⟨w5, i a, i b, i c⟩)
  | first r a b => exact FW.tup (n := 4) (by simp) (by decide) (by simp; exact ⟨w6, sd r, i a, i b⟩)
  | next r a b c => exact FW.tup (n := 4) (by simp) (by decide) (by simp; exact ⟨w7, sd r, i a, i b, i c⟩)
theorem fw_stq {m : Int} (hm : m ≤ 3) {q : Stq} (h : q.ok m) : FW 7 6 q.enc := by
  cases q with
  | one s => exact (fw_stp (s := s) hm h).mono (by decide)
  | again k ps =>
    have w : FW 6 6 (.str "again") := fw_word _ (by decide +kernel)
    have p : FW 6 6 (.tup (ps.map Stp.enc)) := FW.map (by have := h.2.1.2; omega) (by decide) fun p hp => fw_stp hm (h.2.2 p hp)
    exact FW.tup (n := 6) (by simp) (by decide) (by simp; exact ⟨w, FW.int k, p⟩)
theorem fw_scr {v : D} {m : Int} {qs : List Stq} (h : IsScr v m qs) : FW 9 6 v := by
  have e := h.1
  subst e
  have hm : m ≤ 3 := by rcases h.2.1 with rfl | rfl <;> decide
  exact FW.tup (n := 8) (by simp) (by decide) (by
    simp
    exact ⟨FW.int m, FW.map h.2.2.1 (by decide) fun q hq => fw_stq hm (h.2.2.2.1 q hq)⟩)
mutual
theorem wid_box : ∀ {n : Nat} (b : Box), b.cnt ≤ n → 2 ≤ n → D.wid n b.enc = true
  | n, .mk s r, h, h2 => by
    rw [Box.cnt] at h
    rw [Box.enc]
    refine wid_mk (by simpa using h2) fun x hx => ?_
    simp at hx
    rcases hx with rfl | rfl
    · simp [D.wid]
    · have h3 := len_cnts r
      rw [D.wid, Bool.and_eq_true, decide_eq_true_eq]
      exact ⟨by rw [encs_map]; simp; omega, wids_row r (by omega) h2⟩
theorem wids_row : ∀ {n : Nat} (r : Row), Box.cnts r ≤ n → 2 ≤ n → D.wids n (Box.encs r) = true
  | n, [], h, h2 => by rw [Box.encs, D.wids]
  | n, b :: r, h, h2 => by
    rw [Box.cnts] at h
    rw [Box.encs, D.wids, Bool.and_eq_true]
    exact ⟨wid_box b (by omega) h2, wids_row r (by omega) h2⟩
end
theorem wid_row {n : Nat} (r : Row) (h : Box.cnts r ≤ n) (h2 : 2 ≤ n) : D.wid n (encR r) = true := by
  have h3 := len_cnts r
  rw [encR, D.wid, Bool.and_eq_true, decide_eq_true_eq]
  exact ⟨by rw [encs_map]; simp; omega, wids_row r h h2⟩
theorem fw_lines {t : List (List Pr)} (hl : t.length ≤ 6) (h : ∀ l ∈ t, l.length ≤ 6) : FW 3 6 (encT t) := FW.map hl (by decide) fun l q => fw_encL (h l q)
theorem stands_len {m : Int} (hm : m = 2 ∨ m = 3) : (stands m).length ≤ 6 := by rcases hm with rfl | rfl <;> decide
theorem fw_inn {t : List (List Pr)} (hl : t.length ≤ 6) (h : ∀ l ∈ t, l.length ≤ 6) : FW 5 6 (Wk.enc (.inn t)) := by
  have w1 : FW 4 6 (.str "in") := fw_word _ (by decide +kernel)
  have w2 : FW 4 6 (.str "left") := fw_word _ (by decide +kernel)
  exact FW.tup (n := 4) (by simp) (by decide) (by simp; exact ⟨w1, w2, (fw_lines hl h).mono (by decide)⟩)
theorem fw_out {r : Bool} {t : List (List (List Pr))} (hl : t.length ≤ 6) (h : ∀ p ∈ t, p.length ≤ 6 ∧ ∀ l ∈ p, l.length ≤ 6) : FW 5 6 (Wk.enc (.out r t)) := by
  have w1 : FW 4 6 (.str "out") := fw_word _ (by decide +kernel)
  have q : FW 4 6 (encTT t) := FW.map hl (by decide) fun p q => fw_lines (h p q).1 (h p q).2
  exact FW.tup (n := 4) (by simp) (by decide) (by simp; exact ⟨w1, fw_side r, q⟩)
theorem fw_wk {m : Int} (hm : m = 2 ∨ m = 3) {s : Stp} (h : s.ok m) : FW 5 6 (walkOf m s).enc := by
  have hs := stands_len hm
  have hm3 : m ≤ 3 := by rcases hm with rfl | rfl <;> decide
  have okl : ∀ {w : Int} {l : List Pr}, okL m w l → l.length ≤ 6 := fun q => by have := q.1; omega
  cases s with
  | inn t => exact fw_inn (by have := h.2.1; omega) fun l hl => okl (h.2.2.2 l hl)
  | out r t => exact fw_out (by have := h.2.1; omega) fun p hp => ⟨by have := (h.2.2 p hp).1; have := h.2.1; omega, fun l hl => okl ((h.2.2 p hp).2 l hl)⟩
  | each a b => exact fw_inn (by simp) (by simpa using hs)
  | within a b c => exact fw_inn (by simp) (by simpa using hs)
  | holding a b c => exact fw_out (by simp) (by simpa using hs)
  | first r a b => exact fw_out (by simp) (by simpa using hs)
  | next r a b c => exact fw_out (by simp) (by simpa using hs)
theorem fw_walks {m : Int} (hm : m = 2 ∨ m = 3) {q : Stq} (h : q.ok m) : ∀ w ∈ q.walks m, FW 5 6 w.enc := by
  cases q with
  | one s => simp [Stq.walks]; exact fw_wk hm h
  | again k ps =>
    intro w hw
    unfold Stq.walks at hw
    dsimp only at hw
    rw [List.mem_flatten] at hw
    obtain ⟨l, hl, hw⟩ := hw
    rw [List.mem_replicate] at hl
    rw [hl.2, List.mem_map] at hw
    obtain ⟨p, hp, rfl⟩ := hw
    exact fw_wk hm (h.2.2 p hp)
theorem fine_encW {v : D} {m : Int} {qs : List Stq} (h : IsScr v m qs) : Fine 60 (encW (spreadOf m qs)) := by
  refine (Fine.mkL (n := 5) (by have := h.2.2.2.2.1; simp; omega) fun x hx => ?_).mono (by decide)
  obtain ⟨w, hw, rfl⟩ := List.mem_map.mp hx
  unfold spreadOf at hw
  rw [List.mem_flatMap] at hw
  obtain ⟨q, hq, hw⟩ := hw
  exact (fw_walks h.2.1 (h.2.2.2.1 q hq) w hw).1
end KT
/-! walks through nestings, typed -/
namespace KT
open PL
open PySem (Str)
def lk2 (t : List (List Pr)) (n s : Int) : Pr := ((t[n.toNat]?.getD [])[s.toNat]?).getD (0, 0)
def lk3 (T : List (List (List Pr))) (n b s : Int) : Pr := lk2 (T[n.toNat]?.getD []) b s
theorem lk2_ok {m w : Int} {t : List (List Pr)} (h : okT m w t) {n s : Int} (hn : 0 ≤ n ∧ n < w) (hs : 0 ≤ s ∧ s < m) :
    ∃ l, at? (t.map encL) n = some (encL l) ∧ at? (l.map encP) s = some (encP (lk2 t n s)) ∧ (0 ≤ (lk2 t n s).1 ∧ (lk2 t n s).1 < m) ∧ 0 ≤ (lk2 t n s).2 ∧ (lk2 t n s).2 < w := by
  have h1 : n.toNat < t.length := by have := h.1; omega
  have h2 := h.2 _ (List.getElem_mem h1)
  have h3 : s.toNat < t[n.toNat].length := by have := h2.1; omega
  have e : lk2 t n s = t[n.toNat][s.toNat] := by
    unfold lk2
    rw [List.getElem?_eq_getElem h1, Option.getD_some, List.getElem?_eq_getElem h3, Option.getD_some]
  refine ⟨t[n.toNat], ?_, ?_, ?_⟩
  · rw [at_int _ hn.1, List.getElem?_map, List.getElem?_eq_getElem h1]
    rfl
  · rw [at_int _ hs.1, List.getElem?_map, List.getElem?_eq_getElem h3, e]
    rfl
  · have := h2.2 _ (List.getElem_mem h3)
    rw [e]
    exact ⟨⟨this.1, this.2.1⟩, this.2.2⟩
def okTT (m : Int) (T : List (List (List Pr))) : Prop := 1 ≤ T.length ∧ T.length ≤ 6 ∧ ∀ p ∈ T, okT m T.length p
theorem lk3_ok {m : Int} {T : List (List (List Pr))} (h : okTT m T) {n b s : Int} (hn : 0 ≤ n ∧ n < T.length) (hb : 0 ≤ b ∧ b < T.length) (hs : 0 ≤ s ∧ s < m) :
    ∃ p l, at? (T.map encT) n = some (encT p) ∧ at? (p.map encL) b = some (encL l) ∧ at? (l.map encP) s = some (encP (lk3 T n b s)) ∧ (0 ≤ (lk3 T n b s).1 ∧ (lk3 T n b s).1 < m) ∧ 0 ≤ (lk3 T n b s).2 ∧ (lk3 T n b s).2 < T.length := by
  have h1 : n.toNat < T.length := by omega
  have h2 := h.2.2 _ (List.getElem_mem h1)
  have e : lk3 T n b s = lk2 T[n.toNat] b s := by
    unfold lk3
    rw [List.getElem?_eq_getElem h1, Option.getD_some]
  obtain ⟨l, q1, q2, q3⟩ := lk2_ok h2 hb hs
  refine ⟨T[n.toNat], l, ?_, q1, by rw [e]; exact q2, by rw [e]; exact q3⟩
  rw [at_int _ hn.1, List.getElem?_map, List.getElem?_eq_getElem h1]
  rfl
mutual
def inB (t : List (List Pr)) (n : Int) : Box → Box
  | .mk s r => .mk (lk2 t n s).1 (inR t (lk2 t n s).2 r)
def inR (t : List (List Pr)) (n : Int) : List Box → List Box
  | [] => []
  | b :: r => inB t n b :: inR t n r
end
theorem inR_map (t : List (List Pr)) (n : Int) : ∀ r : Row, inR t n r = r.map (inB t n)
  | [] => rfl
  | b :: r => by rw [inR, inR_map t n r]; rfl
theorem inB_box (t : List (List Pr)) (n : Int) (b : Box) : inB t n b = .mk (lk2 t n b.s).1 (inR t (lk2 t n b.s).2 b.inner) := by
  cases b with
  | mk s r => rw [inB]; rfl
mutual
def outB (sd : Bool) (T : List (List (List Pr))) (n : Int) : Box → Box × Int
  | .mk s r =>
    let q := if sd then outRt sd T r else outLf sd T 0 r
    (.mk (lk3 T n q.2 s).1 q.1, (lk3 T n q.2 s).2)
def outLf (sd : Bool) (T : List (List (List Pr))) (n : Int) : List Box → List Box × Int
  | [] => ([], n)
  | b :: r =>
    let q := outB sd T n b
    let z := outLf sd T q.2 r
    (q.1 :: z.1, z.2)
def outRt (sd : Bool) (T : List (List (List Pr))) : List Box → List Box × Int
  | [] => ([], 0)
  | b :: r =>
    let z := outRt sd T r
    let q := outB sd T z.2 b
    (q.1 :: z.1, q.2)
end
def outR (sd : Bool) (T : List (List (List Pr))) (r : Row) : Row × Int := if sd then outRt sd T r else outLf sd T 0 r
theorem outB_box (sd : Bool) (T : List (List (List Pr))) (n : Int) (b : Box) : outB sd T n b = (.mk (lk3 T n (outR sd T b.inner).2 b.s).1 (outR sd T b.inner).1, (lk3 T n (outR sd T b.inner).2 b.s).2) := by
  cases b with
  | mk s r => rw [outB]; rfl
theorem outLf_append (sd : Bool) (T : List (List (List Pr))) : ∀ (a : Row) (n : Int) (b : Box), outLf sd T n (a ++ [b]) = ((outLf sd T n a).1 ++ [(outB sd T (outLf sd T n a).2 b).1], (outB sd T (outLf sd T n a).2 b).2)
  | [], n, b => by simp [outLf]
  | x :: a, n, b => by
    rw [List.cons_append, outLf, outLf_append sd T a]
    simp [outLf]
/-- so much is kept -/
theorem okD_in {m w : Int} {t : List (List Pr)} (h : okT m w t) : ∀ {d : Nat} {n : Int} {r : Row}, 0 ≤ n ∧ n < w → okD m d r → okD m d (inR t n r)
  | 0, n, r, hn, hr => by
    cases (show r = [] from hr)
    rw [inR]
    rfl
  | d + 1, n, r, hn, hr => by
    intro b hb
    rw [inR_map] at hb
    obtain ⟨b', hb', rfl⟩ := List.mem_map.mp hb
    obtain ⟨h1, h2⟩ := hr b' hb'
    obtain ⟨_, _, _, q1, q2⟩ := lk2_ok h hn h1
    rw [inB_box]
    exact ⟨q1, okD_in h q2 h2⟩
mutual
theorem cnt_in (t : List (List Pr)) : ∀ (n : Int) (b : Box), (inB t n b).cnt = b.cnt
  | n, .mk s r => by rw [inB, Box.cnt, Box.cnt, cnts_in t _ r]
theorem cnts_in (t : List (List Pr)) : ∀ (n : Int) (r : List Box), Box.cnts (inR t n r) = Box.cnts r
  | n, [] => by rw [inR]
  | n, b :: r => by rw [inR, Box.cnts, Box.cnts, cnt_in t n b, cnts_in t n r]
end
mutual
theorem cnt_out (sd : Bool) (T : List (List (List Pr))) : ∀ (n : Int) (b : Box), (outB sd T n b).1.cnt = b.cnt
  | n, .mk s r => by
    rw [outB]
    cases sd with
    | false => simp only [Box.cnt, Bool.false_eq_true, if_false]; rw [cnts_outL false T 0 r]
    | true => simp only [Box.cnt, if_true]; rw [cnts_outR true T r]
theorem cnts_outL (sd : Bool) (T : List (List (List Pr))) : ∀ (n : Int) (r : List Box), Box.cnts (outLf sd T n r).1 = Box.cnts r
  | n, [] => by rw [outLf]
  | n, b :: r => by rw [outLf, Box.cnts, Box.cnts, cnt_out sd T n b, cnts_outL sd T _ r]
theorem cnts_outR (sd : Bool) (T : List (List (List Pr))) : ∀ (r : List Box), Box.cnts (outRt sd T r).1 = Box.cnts r
  | [] => by rw [outRt]
  | b :: r => by rw [outRt, Box.cnts, Box.cnts, cnt_out sd T _ b, cnts_outR sd T r]
end
theorem cnts_out (sd : Bool) (T : List (List (List Pr))) (r : Row) : Box.cnts (outR sd T r).1 = Box.cnts r := by
  unfold outR
  cases sd with
  | false => exact cnts_outL _ _ _ _
  | true => exact cnts_outR _ _ _
theorem okD_out {m : Int} {T : List (List (List Pr))} (h : okTT m T) (sd : Bool) : ∀ {d : Nat} {r : Row}, okD m d r → okD m d (outR sd T r).1 ∧ 0 ≤ (outR sd T r).2 ∧ (outR sd T r).2 < T.length
  | 0, r, hr => by
    cases (show r = [] from hr)
    have := h.1
    cases sd <;> simp [outR, outLf, outRt, okD] <;> omega
  | d + 1, r, hr => by
    have hw := h.1
    have box : ∀ b : Box, (0 ≤ b.s ∧ b.s < m) ∧ okD m d b.inner → ∀ n : Int, 0 ≤ n ∧ n < T.length → ((0 ≤ (outB sd T n b).1.s ∧ (outB sd T n b).1.s < m) ∧ okD m d (outB sd T n b).1.inner) ∧ 0 ≤ (outB sd T n b).2 ∧ (outB sd T n b).2 < T.length := fun b hb n hn => by
      obtain ⟨q1, q2⟩ := okD_out h sd hb.2
      obtain ⟨_, _, _, _, _, q3, q4⟩ := lk3_ok h hn q2 hb.1
      rw [outB_box]
      exact ⟨⟨q3, q1⟩, q4⟩
    cases sd with
    | false =>
      have key : ∀ (l : Row) (n : Int), 0 ≤ n ∧ n < T.length → okD m (d + 1) l → okD m (d + 1) (outLf false T n l).1 ∧ 0 ≤ (outLf false T n l).2 ∧ (outLf false T n l).2 < T.length := fun l => by
        induction l with
        | nil => intro n hn _; rw [outLf]; exact ⟨fun b hb => (by cases hb), hn⟩
        | cons b l ih =>
          intro n hn hl
          obtain ⟨q1, q2⟩ := box b (hl b (by simp)) n hn
          obtain ⟨q3, q4⟩ := ih _ q2 fun x hx => hl x (by simp [hx])
          rw [outLf]
          refine ⟨fun x hx => ?_, q4⟩
          rcases List.mem_cons.mp hx with rfl | hx
          · exact q1
          · exact q3 x hx
      exact key r 0 ⟨by omega, by omega⟩ hr
    | true =>
      have key : ∀ (l : Row), okD m (d + 1) l → okD m (d + 1) (outRt true T l).1 ∧ 0 ≤ (outRt true T l).2 ∧ (outRt true T l).2 < T.length := fun l => by
        induction l with
        | nil => intro _; rw [outRt]; exact ⟨fun b hb => (by cases hb), by decide, by simp; omega⟩
        | cons b l ih =>
          intro hl
          obtain ⟨q3, q4⟩ := ih fun x hx => hl x (by simp [hx])
          obtain ⟨q1, q2⟩ := box b (hl b (by simp)) _ q4
          rw [outRt]
          refine ⟨fun x hx => ?_, q2⟩
          rcases List.mem_cons.mp hx with rfl | hx
          · exact q1
          · exact q3 x hx
      exact key r hr
end KT
/-! walks through nestings: what the functions do -/
namespace KT
open PL
open PySem (Str)
def npS (s : Slot) : Prop := ∀ d, s ≠ some (.pin, d)
theorem ix_T (t : List (List Pr)) (i : Int) : itemv (encT t) (.int i) = at? (t.map encL) i := rfl
theorem ix_L (l : List Pr) (i : Int) : itemv (encL l) (.int i) = at? (l.map encP) i := rfl
theorem ix_TT (T : List (List (List Pr))) (i : Int) : itemv (encTT T) (.int i) = at? (T.map encT) i := rfl
theorem nps_n : npS none := by intro d; simp
theorem nps_s (d : D) : npS (some (.shr, d)) := by intro d'; simp
theorem nps_o (d : D) : npS (some (.own, d)) := by intro d'; simp
def invIn (t : List (List Pr)) (n : Int) (r : Row) (q : List D) (ρ : Env) : Prop := ∃ (l l2 : Row) (s4 s5 s6 s7 : Slot), r = l ++ l2 ∧ q = l2.map Box.enc ∧ npS s4 ∧ npS s5 ∧ npS s6 ∧ npS s7 ∧ ρ = [some (.shr, encT t), some (.shr, encR r), some (.shr, .int n), some (.shr, encR (inR t n l)), s4, s5, s6, s7]
theorem R_inward_eq {m w : Int} {t : List (List Pr)} (ht : okT m w t) : ∀ (d e : Nat) (r : Row) (n : Int), okD m d r → Box.cnts r ≤ 1000 → 0 ≤ n ∧ n < w → R_inward (d + 1 + e) [encT t, encR r, .int n] = .ok (sh (encR (inR t n r))) [.non, .non, .non] := by
  intro d
  induction d with
  | zero =>
    intro e r n hr hc hn
    cases (show r = [] from hr)
    rw [show 0 + 1 + e = e + 1 by omega]
    refine okF_iff fun P hP => okF_sem rfl ?_
    generalize recF [false, false, false] N_inward.length (fun F => mkG (F :: fs_inward) cs_inward) s_inward e = F
    simp [s_inward, N_inward, encR, Box.encs]
    simpa [inR, encR, Box.encs] using hP
  | succ d ih =>
    intro e r n hr hc hn
    rw [show d + 1 + 1 + e = (d + 1 + e) + 1 by omega]
    refine okF_iff fun P hP => okF_sem rfl ?_
    have hF := fun r n h1 h2 h3 => ih e r n h1 h2 h3
    unfold R_inward at hF
    generalize recF [false, false, false] N_inward.length (fun F => mkG (F :: fs_inward) cs_inward) s_inward (d + 1 + e) = F at hF ⊢
    have hl := len_cnts r
    simp [s_inward, N_inward]
    have src : itemsOf 0 (encR r) none = some (r.map Box.enc) := by rw [encR, encs_map]; rfl
    simp [src]
    refine wp_loop (invIn t n r) ?_ ?_ _ _ ⟨[], r, none, none, none, none, rfl, rfl, nps_n, nps_n, nps_n, nps_n, rfl⟩
    · rintro x xs ρ ⟨l, l2, s4, s5, s6, s7, e1, e2, h4, h5, h6, h7, rfl⟩
      cases l2 with
      | nil => cases e2
      | cons b l2 =>
        cases e2
        obtain ⟨hb1, hb2⟩ := hr b (by rw [e1]; simp)
        have hbc : Box.cnts b.inner ≤ 1000 := by
          have := cnt_mem (r := r) (b := b) (by rw [e1]; simp)
          rw [cnt_box] at this
          omega
        obtain ⟨ln, q1, q2, q3, q4⟩ := lk2_ok ht hn hb1
        have hll : l.length ≤ 1000 := by
          have := congrArg List.length e1
          simp at this
          omega
        have e3 : inR t n (l ++ [b]) = inR t n l ++ [.mk (lk2 t n b.s).1 (inR t (lk2 t n b.s).2 b.inner)] := by rw [inR_map, inR_map, List.map_append, ← inB_box]; rfl
        have hil : (inR t n l).length = l.length := by rw [inR_map, List.length_map]
        unfold npS at h4 h5 h6 h7
        rw [enc_box]
        simp [h4, h5, h6, h7, ix_T, q1, ix_L, q2, encP]
        rw [okF_ok (hF b.inner _ hb2 hbc q4)]
        simp [encR, encs_map]
        rw [if_pos (by omega)]
        simp
        exact ⟨l ++ [b], l2, _, _, _, _, by rw [e1]; simp, rfl, nps_s _, nps_s _, nps_s _, nps_s _, by rw [e3]; simp [encR, encs_map, Box.enc]; exact ⟨rfl, rfl, rfl, rfl⟩⟩
    · rintro ρ ⟨l, l2, s4, s5, s6, s7, e1, e2, h4, h5, h6, h7, rfl⟩
      have : l2 = [] := by cases l2 with
        | nil => rfl
        | cons _ _ => cases e2
      subst this
      simp at e1
      subst e1
      have hil : (inR t n r).length = r.length := by rw [inR_map, List.length_map]
      simp [encR, encs_map] at hP ⊢
      exact hP
def invLIn (t : List (List Pr)) (n : Int) (r : Row) (q : List D) (ρ : Env) : Prop := ∃ (l l2 : Row) (s4 s5 s6 s7 : Slot), r = l ++ l2 ∧ q = l2.map Box.enc ∧ npS s4 ∧ npS s5 ∧ npS s6 ∧ npS s7 ∧ ρ = [some (.shr, encT t), some (.shr, encR r), some (.shr, .int n), some (.own, .lst ((inR t n l).map Box.enc)), s4, s5, s6, s7]
theorem R__law_inward_eq {m w : Int} {t : List (List Pr)} (ht : okT m w t) : ∀ (d e : Nat) (r : Row) (n : Int), okD m d r → Box.cnts r ≤ 1000 → 0 ≤ n ∧ n < w → R__law_inward (d + 1 + e) [encT t, encR r, .int n] = .ok (sh (encR (inR t n r))) [.non, .non, .non] := by
  intro d
  induction d with
  | zero =>
    intro e r n hr hc hn
    cases (show r = [] from hr)
    rw [show 0 + 1 + e = e + 1 by omega]
    refine okF_iff fun P hP => okF_sem rfl ?_
    generalize recF [false, false, false] N__law_inward.length (fun F => mkG (F :: fs__law_inward) cs__law_inward) s__law_inward e = F
    simp [s__law_inward, N__law_inward, encR, Box.encs]
    simpa [inR, encR, Box.encs] using hP
  | succ d ih =>
    intro e r n hr hc hn
    rw [show d + 1 + 1 + e = (d + 1 + e) + 1 by omega]
    refine okF_iff fun P hP => okF_sem rfl ?_
    have hF := fun r n h1 h2 h3 => ih e r n h1 h2 h3
    unfold R__law_inward at hF
    generalize recF [false, false, false] N__law_inward.length (fun F => mkG (F :: fs__law_inward) cs__law_inward) s__law_inward (d + 1 + e) = F at hF ⊢
    have hl := len_cnts r
    simp [s__law_inward, N__law_inward]
    have src : itemsOf 0 (encR r) none = some (r.map Box.enc) := by rw [encR, encs_map]; rfl
    simp [src]
    refine wp_loop (invLIn t n r) ?_ ?_ _ _ ⟨[], r, none, none, none, none, rfl, rfl, nps_n, nps_n, nps_n, nps_n, rfl⟩
    · rintro x xs ρ ⟨l, l2, s4, s5, s6, s7, e1, e2, h4, h5, h6, h7, rfl⟩
      cases l2 with
      | nil => cases e2
      | cons b l2 =>
        cases e2
        obtain ⟨hb1, hb2⟩ := hr b (by rw [e1]; simp)
        have hbc : Box.cnts b.inner ≤ 1000 := by
          have := cnt_mem (r := r) (b := b) (by rw [e1]; simp)
          rw [cnt_box] at this
          omega
        obtain ⟨ln, q1, q2, q3, q4⟩ := lk2_ok ht hn hb1
        have hll : l.length ≤ 1000 := by
          have := congrArg List.length e1
          simp at this
          omega
        have e3 : inR t n (l ++ [b]) = inR t n l ++ [.mk (lk2 t n b.s).1 (inR t (lk2 t n b.s).2 b.inner)] := by rw [inR_map, inR_map, List.map_append, ← inB_box]; rfl
        have hil : (inR t n l).length = l.length := by rw [inR_map, List.length_map]
        unfold npS at h4 h5 h6 h7
        rw [enc_box]
        simp [h4, h5, h6, h7, ix_T, q1, ix_L, q2, encP]
        rw [okF_ok (hF b.inner _ hb2 hbc q4)]
        simp
        rw [if_pos (by omega)]
        simp
        exact ⟨l ++ [b], l2, _, _, _, _, by rw [e1]; simp, rfl, nps_s _, nps_s _, nps_s _, nps_s _, by rw [e3]; simp [encR, encs_map, Box.enc]; exact ⟨rfl, rfl, rfl, rfl⟩⟩
    · rintro ρ ⟨l, l2, s4, s5, s6, s7, e1, e2, h4, h5, h6, h7, rfl⟩
      have : l2 = [] := by cases l2 with
        | nil => rfl
        | cons _ _ => cases e2
      subst this
      simp at e1
      subst e1
      have hil : (inR t n r).length = r.length := by rw [inR_map, List.length_map]
      simp [encR, encs_map] at hP ⊢
      exact hP
end KT
/-! walks outward: what the functions do -/
namespace KT
open PL
open PySem (Str)
theorem outLf_len (sd : Bool) (T : List (List (List Pr))) : ∀ (l : Row) (n : Int), (outLf sd T n l).1.length = l.length
  | [], n => by rw [outLf]
  | b :: l, n => by rw [outLf]; simp [outLf_len sd T l]
theorem outRt_len (sd : Bool) (T : List (List (List Pr))) : ∀ (l : Row), (outRt sd T l).1.length = l.length
  | [] => by rw [outRt]
  | b :: l => by rw [outRt]; simp [outRt_len sd T l]
def invOF (T : List (List (List Pr))) (r : Row) (q : List D) (ρ : Env) : Prop := ∃ (l l2 : Row) (s5 s6 s7 s8 s9 : Slot), r = l ++ l2 ∧ q = l2.map Box.enc ∧ npS s5 ∧ npS s6 ∧ npS s7 ∧ npS s8 ∧ npS s9 ∧ ρ = [some (.shr, .str "left"), some (.shr, encTT T), some (.shr, encR r), some (.shr, .int (outLf false T 0 l).2), some (.shr, .tup ((outLf false T 0 l).1.map Box.enc)), s5, s6, s7, s8, s9]
def invOR (T : List (List (List Pr))) (r : Row) (q : List D) (ρ : Env) : Prop := ∃ (l l2 : Row) (s5 s6 s7 s8 s9 : Slot), r = l2 ++ l ∧ q = (l2.reverse).map Box.enc ∧ npS s5 ∧ npS s6 ∧ npS s7 ∧ npS s8 ∧ npS s9 ∧ ρ = [some (.shr, .str "right"), some (.shr, encTT T), some (.shr, encR r), some (.shr, .int (outRt true T l).2), some (.shr, .tup (((outRt true T l).1.reverse).map Box.enc)), s5, s6, s7, s8, s9]
theorem R_outward_eq {m : Int} {T : List (List (List Pr))} (ht : okTT m T) (sd : Bool) : ∀ (d e : Nat) (r : Row), okD m d r → Box.cnts r ≤ 1000 → R_outward (d + 1 + e) [encS sd, encTT T, encR r] = .ok (sh (.tup [encR (outR sd T r).1, .int (outR sd T r).2])) [.non, .non, .non] := by
  intro d
  induction d with
  | zero =>
    intro e r hr hc
    cases (show r = [] from hr)
    rw [show 0 + 1 + e = e + 1 by omega]
    refine okF_iff fun P hP => okF_sem rfl ?_
    generalize recF [false, false, false] N_outward.length (fun F => mkG (F :: fs_outward) cs_outward) s_outward e = F
    cases sd
    · simp [s_outward, N_outward, encR, Box.encs, encS]
      simpa [outR, outLf, encR, Box.encs] using hP
    · simp [s_outward, N_outward, encR, Box.encs, encS]
      simpa [outR, outRt, encR, Box.encs] using hP
  | succ d ih =>
    intro e r hr hc
    rw [show d + 1 + 1 + e = (d + 1 + e) + 1 by omega]
    refine okF_iff fun P hP => okF_sem rfl ?_
    have hF := fun r h1 h2 => ih e r h1 h2
    unfold R_outward at hF
    generalize recF [false, false, false] N_outward.length (fun F => mkG (F :: fs_outward) cs_outward) s_outward (d + 1 + e) = F at hF ⊢
    have hl := len_cnts r
    have hw := ht.1
    have boxes : ∀ b ∈ r, ((0 ≤ b.s ∧ b.s < m) ∧ okD m d b.inner) ∧ Box.cnts b.inner ≤ 1000 := fun b hb => by
      have := cnt_mem hb
      rw [cnt_box] at this
      exact ⟨hr b hb, by omega⟩
    cases sd with
    | false =>
      simp [s_outward, N_outward, encS]
      have ee : encR r = .tup (r.map Box.enc) := by rw [encR, encs_map]
      simp only [ee]
      simp
      refine wp_loop (invOF T r) ?_ ?_ _ _ ⟨[], r, none, none, none, none, none, by simp, by simp, nps_n, nps_n, nps_n, nps_n, nps_n, by simp [outLf, ee]⟩
      · rintro x xs ρ ⟨l, l2, s5, s6, s7, s8, s9, e1, e2, h5, h6, h7, h8, h9, rfl⟩
        have e3 : ∃ (b : Box) (l3 : Row), l2 = b :: l3 ∧ x = b.enc ∧ xs = l3.map Box.enc := by
          cases l2 with
          | nil => simp at e2
          | cons b l3 =>
            simp at e2
            exact ⟨b, l3, rfl, e2.1, e2.2⟩
        obtain ⟨b, l3, rfl, rfl, rfl⟩ := e3
        have okl : okD m (d + 1) l := fun x hx => hr x (by rw [e1]; simp [hx])
        have bnd : 0 ≤ (outLf false T 0 l).2 ∧ (outLf false T 0 l).2 < T.length := by
          have q := (okD_out ht false okl).2
          unfold outR at q
          simpa using q
        have hll : (outLf false T 0 l).1.length = l.length := by
          have := outLf_len false T l 0
          exact this
        obtain ⟨⟨hb1, hb2⟩, hbc⟩ := boxes b (by rw [e1]; simp)
        have q0 := (okD_out ht false hb2).2
        obtain ⟨pp, ln, q1, q2, q3, q4, q5⟩ := lk3_ok ht bnd q0 hb1
        have hl2 : l.length ≤ 1000 := by
          have := congrArg List.length e1
          simp at this
          omega
        have e4 : outLf false T 0 (l ++ [b]) = ((outLf false T 0 l).1 ++ [(outB false T (outLf false T 0 l).2 b).1], (outB false T (outLf false T 0 l).2 b).2) := outLf_append false T l 0 b
        unfold npS at h5 h6 h7 h8 h9
        rw [enc_box]
        have hFF : F [.str "left", encTT T, encR b.inner] = .ok (sh (.tup [encR (outR false T b.inner).1, .int (outR false T b.inner).2])) [.non, .non, .non] := hF b.inner hb2 hbc
        simp [h5, h6, h7, h8, h9]
        rw [okF_ok hFF]
        simp [h7, h8, h9, ix_TT, q1, ix_T, q2, ix_L, q3, encP]
        rw [if_pos (by omega)]
        simp
        exact ⟨(l ++ [b]), l3, _, _, _, _, _, by rw [e1]; simp, by simp, nps_s _, nps_s _, nps_s _, nps_s _, nps_s _, by rw [e4, outB_box]; simp [Box.enc, encR]; exact ⟨rfl, rfl, rfl, rfl, rfl⟩⟩
      · rintro ρ ⟨l, l2, s5, s6, s7, s8, s9, e1, e2, h5, h6, h7, h8, h9, rfl⟩
        have : l2 = [] := by
          cases l2 with
          | nil => rfl
          | cons _ _ => simp at e2
        subst this
        simp at e1
        subst e1
        have e5 : outR false T r = (outLf false T 0 r) := rfl
        rw [e5] at hP
        simp
        simpa [encR, encs_map] using hP
    | true =>
      simp [s_outward, N_outward, encS]
      have ee : encR r = .tup (r.map Box.enc) := by rw [encR, encs_map]
      simp only [ee]
      simp
      refine wp_loop (invOR T r) ?_ ?_ _ _ ⟨[], r, none, none, none, none, none, by simp, by simp, nps_n, nps_n, nps_n, nps_n, nps_n, by simp [outRt, ee]⟩
      · rintro x xs ρ ⟨l, l2, s5, s6, s7, s8, s9, e1, e2, h5, h6, h7, h8, h9, rfl⟩
        have e3 : ∃ (b : Box) (l3 : Row), l2 = l3 ++ [b] ∧ x = b.enc ∧ xs = l3.reverse.map Box.enc := by
          rcases List.eq_nil_or_concat l2 with h | ⟨l3, b, h⟩
          · subst h; simp at e2
          · rw [List.concat_eq_append] at h
            subst h
            simp at e2
            exact ⟨b, l3, rfl, e2.1, by simp [e2.2]⟩
        obtain ⟨b, l3, rfl, rfl, rfl⟩ := e3
        have okl : okD m (d + 1) l := fun x hx => hr x (by rw [e1]; simp [hx])
        have bnd : 0 ≤ (outRt true T l).2 ∧ (outRt true T l).2 < T.length := by
          have q := (okD_out ht true okl).2
          unfold outR at q
          simpa using q
        have hll : (outRt true T l).1.length = l.length := by
          have := outRt_len true T l
          exact this
        obtain ⟨⟨hb1, hb2⟩, hbc⟩ := boxes b (by rw [e1]; simp)
        have q0 := (okD_out ht true hb2).2
        obtain ⟨pp, ln, q1, q2, q3, q4, q5⟩ := lk3_ok ht bnd q0 hb1
        have hl2 : l.length ≤ 1000 := by
          have := congrArg List.length e1
          simp at this
          omega
        have e4 : outRt true T (b :: l) = ((outB true T (outRt true T l).2 b).1 :: (outRt true T l).1, (outB true T (outRt true T l).2 b).2) := by rw [outRt]
        unfold npS at h5 h6 h7 h8 h9
        rw [enc_box]
        have hFF : F [.str "right", encTT T, encR b.inner] = .ok (sh (.tup [encR (outR true T b.inner).1, .int (outR true T b.inner).2])) [.non, .non, .non] := hF b.inner hb2 hbc
        simp [h5, h6, h7, h8, h9]
        rw [okF_ok hFF]
        simp [h7, h8, h9, ix_TT, q1, ix_T, q2, ix_L, q3, encP]
        rw [if_pos (by omega)]
        simp
        exact ⟨(b :: l), l3, _, _, _, _, _, by rw [e1]; simp, by simp, nps_s _, nps_s _, nps_s _, nps_s _, nps_s _, by rw [e4, outB_box]; simp [Box.enc, encR]; exact ⟨rfl, rfl, rfl, rfl, rfl⟩⟩
      · rintro ρ ⟨l, l2, s5, s6, s7, s8, s9, e1, e2, h5, h6, h7, h8, h9, rfl⟩
        have : l2 = [] := by
          cases l2 with
          | nil => rfl
          | cons _ _ => simp at e2
        subst this
        simp at e1
        subst e1
        have e5 : outR true T r = (outRt true T r) := rfl
        rw [e5] at hP
        simp
        simpa [encR, encs_map] using hP
def invOLF (T : List (List (List Pr))) (r : Row) (q : List D) (ρ : Env) : Prop := ∃ (l l2 : Row) (s5 s6 s7 s8 s9 : Slot), r = l ++ l2 ∧ q = l2.map Box.enc ∧ npS s5 ∧ npS s6 ∧ npS s7 ∧ npS s8 ∧ npS s9 ∧ ρ = [some (.shr, .str "left"), some (.shr, encTT T), some (.shr, encR r), some (.shr, .int (outLf false T 0 l).2), some (.own, .lst ((outLf false T 0 l).1.map Box.enc)), s5, s6, s7, s8, s9]
def invOLR (T : List (List (List Pr))) (r : Row) (q : List D) (ρ : Env) : Prop := ∃ (l l2 : Row) (s5 s6 s7 s8 s9 : Slot), r = l2 ++ l ∧ q = (l2.reverse).map Box.enc ∧ npS s5 ∧ npS s6 ∧ npS s7 ∧ npS s8 ∧ npS s9 ∧ ρ = [some (.shr, .str "right"), some (.shr, encTT T), some (.shr, encR r), some (.shr, .int (outRt true T l).2), some (.own, .lst (((outRt true T l).1.reverse).map Box.enc)), s5, s6, s7, s8, s9]
theorem R__law_outward_eq {m : Int} {T : List (List (List Pr))} (ht : okTT m T) (sd : Bool) : ∀ (d e : Nat) (r : Row), okD m d r → Box.cnts r ≤ 1000 → R__law_outward (d + 1 + e) [encS sd, encTT T, encR r] = .ok (sh (.tup [encR (outR sd T r).1, .int (outR sd T r).2])) [.non, .non, .non] := by
  intro d
  induction d with
  | zero =>
    intro e r hr hc
    cases (show r = [] from hr)
    rw [show 0 + 1 + e = e + 1 by omega]
    refine okF_iff fun P hP => okF_sem rfl ?_
    generalize recF [false, false, false] N__law_outward.length (fun F => mkG (F :: fs__law_outward) cs__law_outward) s__law_outward e = F
    cases sd
    · simp [s__law_outward, N__law_outward, encR, Box.encs, encS]
      simpa [outR, outLf, encR, Box.encs] using hP
    · simp [s__law_outward, N__law_outward, encR, Box.encs, encS]
      simpa [outR, outRt, encR, Box.encs] using hP
  | succ d ih =>
    intro e r hr hc
    rw [show d + 1 + 1 + e = (d + 1 + e) + 1 by omega]
    refine okF_iff fun P hP => okF_sem rfl ?_
    have hF := fun r h1 h2 => ih e r h1 h2
    unfold R__law_outward at hF
    generalize recF [false, false, false] N__law_outward.length (fun F => mkG (F :: fs__law_outward) cs__law_outward) s__law_outward (d + 1 + e) = F at hF ⊢
    have hl := len_cnts r
    have hw := ht.1
    have boxes : ∀ b ∈ r, ((0 ≤ b.s ∧ b.s < m) ∧ okD m d b.inner) ∧ Box.cnts b.inner ≤ 1000 := fun b hb => by
      have := cnt_mem hb
      rw [cnt_box] at this
      exact ⟨hr b hb, by omega⟩
    cases sd with
    | false =>
      simp [s__law_outward, N__law_outward, encS]
      have ee : encR r = .tup (r.map Box.enc) := by rw [encR, encs_map]
      simp only [ee]
      simp
      refine wp_loop (invOLF T r) ?_ ?_ _ _ ⟨[], r, none, none, none, none, none, by simp, by simp, nps_n, nps_n, nps_n, nps_n, nps_n, by simp [outLf, ee]⟩
      · rintro x xs ρ ⟨l, l2, s5, s6, s7, s8, s9, e1, e2, h5, h6, h7, h8, h9, rfl⟩
        have e3 : ∃ (b : Box) (l3 : Row), l2 = b :: l3 ∧ x = b.enc ∧ xs = l3.map Box.enc := by
          cases l2 with
          | nil => simp at e2
          | cons b l3 =>
            simp at e2
            exact ⟨b, l3, rfl, e2.1, e2.2⟩
        obtain ⟨b, l3, rfl, rfl, rfl⟩ := e3
        have okl : okD m (d + 1) l := fun x hx => hr x (by rw [e1]; simp [hx])
        have bnd : 0 ≤ (outLf false T 0 l).2 ∧ (outLf false T 0 l).2 < T.length := by
          have q := (okD_out ht false okl).2
          unfold outR at q
          simpa using q
        have hll : (outLf false T 0 l).1.length = l.length := by
          have := outLf_len false T l 0
          exact this
        obtain ⟨⟨hb1, hb2⟩, hbc⟩ := boxes b (by rw [e1]; simp)
        have q0 := (okD_out ht false hb2).2
        obtain ⟨pp, ln, q1, q2, q3, q4, q5⟩ := lk3_ok ht bnd q0 hb1
        have hl2 : l.length ≤ 1000 := by
          have := congrArg List.length e1
          simp at this
          omega
        have e4 : outLf false T 0 (l ++ [b]) = ((outLf false T 0 l).1 ++ [(outB false T (outLf false T 0 l).2 b).1], (outB false T (outLf false T 0 l).2 b).2) := outLf_append false T l 0 b
        unfold npS at h5 h6 h7 h8 h9
        rw [enc_box]
        have hFF : F [.str "left", encTT T, encR b.inner] = .ok (sh (.tup [encR (outR false T b.inner).1, .int (outR false T b.inner).2])) [.non, .non, .non] := hF b.inner hb2 hbc
        simp [h5, h6, h7, h8, h9]
        rw [okF_ok hFF]
        simp [h7, h8, h9, ix_TT, q1, ix_T, q2, ix_L, q3, encP]
        rw [if_pos (by omega)]
        simp
        exact ⟨(l ++ [b]), l3, _, _, _, _, _, by rw [e1]; simp, by simp, nps_s _, nps_s _, nps_s _, nps_s _, nps_s _, by rw [e4, outB_box]; simp [Box.enc, encR]; exact ⟨rfl, rfl, rfl, rfl, rfl⟩⟩
      · rintro ρ ⟨l, l2, s5, s6, s7, s8, s9, e1, e2, h5, h6, h7, h8, h9, rfl⟩
        have : l2 = [] := by
          cases l2 with
          | nil => rfl
          | cons _ _ => simp at e2
        subst this
        simp at e1
        subst e1
        have e5 : outR false T r = (outLf false T 0 r) := rfl
        rw [e5] at hP
        simp
        simpa [encR, encs_map] using hP
    | true =>
      simp [s__law_outward, N__law_outward, encS]
      have ee : encR r = .tup (r.map Box.enc) := by rw [encR, encs_map]
      simp only [ee]
      simp
      refine wp_loop (invOLR T r) ?_ ?_ _ _ ⟨[], r, none, none, none, none, none, by simp, by simp, nps_n, nps_n, nps_n, nps_n, nps_n, by simp [outRt, ee]⟩
      · rintro x xs ρ ⟨l, l2, s5, s6, s7, s8, s9, e1, e2, h5, h6, h7, h8, h9, rfl⟩
        have e3 : ∃ (b : Box) (l3 : Row), l2 = l3 ++ [b] ∧ x = b.enc ∧ xs = l3.reverse.map Box.enc := by
          rcases List.eq_nil_or_concat l2 with h | ⟨l3, b, h⟩
          · subst h; simp at e2
          · rw [List.concat_eq_append] at h
            subst h
            simp at e2
            exact ⟨b, l3, rfl, e2.1, by simp [e2.2]⟩
        obtain ⟨b, l3, rfl, rfl, rfl⟩ := e3
        have okl : okD m (d + 1) l := fun x hx => hr x (by rw [e1]; simp [hx])
        have bnd : 0 ≤ (outRt true T l).2 ∧ (outRt true T l).2 < T.length := by
          have q := (okD_out ht true okl).2
          unfold outR at q
          simpa using q
        have hll : (outRt true T l).1.length = l.length := by
          have := outRt_len true T l
          exact this
        obtain ⟨⟨hb1, hb2⟩, hbc⟩ := boxes b (by rw [e1]; simp)
        have q0 := (okD_out ht true hb2).2
        obtain ⟨pp, ln, q1, q2, q3, q4, q5⟩ := lk3_ok ht bnd q0 hb1
        have hl2 : l.length ≤ 1000 := by
          have := congrArg List.length e1
          simp at this
          omega
        have e4 : outRt true T (b :: l) = ((outB true T (outRt true T l).2 b).1 :: (outRt true T l).1, (outB true T (outRt true T l).2 b).2) := by rw [outRt]
        unfold npS at h5 h6 h7 h8 h9
        rw [enc_box]
        have hFF : F [.str "right", encTT T, encR b.inner] = .ok (sh (.tup [encR (outR true T b.inner).1, .int (outR true T b.inner).2])) [.non, .non, .non] := hF b.inner hb2 hbc
        simp [h5, h6, h7, h8, h9]
        rw [okF_ok hFF]
        simp [h7, h8, h9, ix_TT, q1, ix_T, q2, ix_L, q3, encP]
        rw [if_pos (by omega)]
        simp
        exact ⟨(b :: l), l3, _, _, _, _, _, by rw [e1]; simp, by simp, nps_s _, nps_s _, nps_s _, nps_s _, nps_s _, by rw [e4, outB_box]; simp [Box.enc, encR]; exact ⟨rfl, rfl, rfl, rfl, rfl⟩⟩
      · rintro ρ ⟨l, l2, s5, s6, s7, s8, s9, e1, e2, h5, h6, h7, h8, h9, rfl⟩
        have : l2 = [] := by
          cases l2 with
          | nil => rfl
          | cons _ _ => simp at e2
        subst this
        simp at e1
        subst e1
        have e5 : outR true T r = (outRt true T r) := rfl
        rw [e5] at hP
        simp
        simpa [encR, encs_map] using hP
end KT
/-! whole scripts run over nestings -/
namespace KT
open PL
open PySem (Str)
def wkR : Wk → Row → Row
  | .inn t, r => inR t 0 r
  | .out sd T, r => (outR sd T r).1
def wkN : Wk → Row → D
  | .inn _, _ => .non
  | .out sd T, r => .int (outR sd T r).2
def Wk.ok (m : Int) : Wk → Prop
  | .inn t => 1 ≤ t.length ∧ t.length ≤ 6 ∧ okT m t.length t
  | .out _ T => okTT m T
def okLB (m w : Int) (l : List Pr) : Bool := decide ((l.length : Int) = m) && l.all fun p => decide (0 ≤ p.1) && (decide (p.1 < m) && (decide (0 ≤ p.2) && decide (p.2 < w)))
def okTB (m w : Int) (t : List (List Pr)) : Bool := decide ((t.length : Int) = w) && t.all (okLB m w)
def Wk.okB (m : Int) : Wk → Bool
  | .inn t => decide (1 ≤ t.length) && (decide (t.length ≤ 6) && okTB m t.length t)
  | .out _ T => decide (1 ≤ T.length) && (decide (T.length ≤ 6) && T.all (okTB m T.length))
theorem okLB_ok {m w : Int} {l : List Pr} (h : okLB m w l = true) : okL m w l := by
  unfold okLB at h
  rw [Bool.and_eq_true, decide_eq_true_eq] at h
  refine ⟨h.1, fun p hp => ?_⟩
  have := List.all_eq_true.mp h.2 p hp
  simpa only [Bool.and_eq_true, decide_eq_true_eq] using this
theorem okTB_ok {m w : Int} {t : List (List Pr)} (h : okTB m w t = true) : okT m w t := by
  unfold okTB at h
  rw [Bool.and_eq_true, decide_eq_true_eq] at h
  exact ⟨h.1, fun l hl => okLB_ok (List.all_eq_true.mp h.2 l hl)⟩
theorem wkB_ok {m : Int} {w : Wk} (h : w.okB m = true) : w.ok m := by
  cases w with
  | inn t =>
    simp only [Wk.okB, Bool.and_eq_true, decide_eq_true_eq] at h
    exact ⟨h.1, h.2.1, okTB_ok h.2.2⟩
  | out r T =>
    simp only [Wk.okB, Bool.and_eq_true, decide_eq_true_eq] at h
    exact ⟨h.1, h.2.1, fun p hp => okTB_ok (List.all_eq_true.mp h.2.2 p hp)⟩
theorem k_each' : all3 (fun m a b c r => (a < m && b < m && c < m) → (walkOf m (.each a b)).okB m) = true := by decide +kernel
theorem k_within' : all3 (fun m a b c r => (a < m && b < m && c < m) → (walkOf m (.within a b c)).okB m) = true := by decide +kernel
theorem k_holding' : all3 (fun m a b c r => (a < m && b < m && c < m) → (walkOf m (.holding a b c)).okB m) = true := by decide +kernel
theorem k_first' : all3 (fun m a b c r => (a < m && b < m && c < m) → (walkOf m (.first r a b)).okB m) = true := by decide +kernel
theorem k_next' : all3 (fun m a b c r => (a < m && b < m && c < m) → (walkOf m (.next r a b c)).okB m) = true := by decide +kernel
theorem walkOf_ok {m : Int} (hm : m = 2 ∨ m = 3) {s : Stp} (h : s.ok m) : (walkOf m s).ok m := by
  have hz : (0 : Int) ≤ 0 ∧ 0 < m := by rcases hm with rfl | rfl <;> decide
  have go : ∀ {q : Bool} {a b c : Int}, decide ((decide (a < m) && decide (b < m) && decide (c < m)) = true → q = true) = true → a < m → b < m → c < m → q = true := fun h h1 h2 h3 => of_decide_eq_true h (by simp [h1, h2, h3])
  cases s with
  | inn t => exact ⟨h.1, by have := h.2.1; omega, h.2.2⟩
  | out r t => exact ⟨h.1, by have := h.2.1; omega, h.2.2⟩
  | each a b => exact wkB_ok (go (all3_of k_each' true hm h.1 h.2 hz) h.1.2 h.2.2 hz.2)
  | within a b c => exact wkB_ok (go (all3_of k_within' true hm h.1 h.2.1 h.2.2) h.1.2 h.2.1.2 h.2.2.2)
  | holding a b c => exact wkB_ok (go (all3_of k_holding' true hm h.1 h.2.1 h.2.2) h.1.2 h.2.1.2 h.2.2.2)
  | first r a b => exact wkB_ok (go (all3_of k_first' r hm h.1 h.2 hz) h.1.2 h.2.2 hz.2)
  | next r a b c => exact wkB_ok (go (all3_of k_next' r hm h.1 h.2.1 h.2.2) h.1.2 h.2.1.2 h.2.2.2)
theorem walks_ok {m : Int} (hm : m = 2 ∨ m = 3) {q : Stq} (h : q.ok m) : ∀ w ∈ q.walks m, w.ok m := by
  cases q with
  | one s => simp [Stq.walks]; exact walkOf_ok hm h
  | again k ps =>
    intro w hw
    unfold Stq.walks at hw
    dsimp only at hw
    rw [List.mem_flatten] at hw
    obtain ⟨l, hl, hw⟩ := hw
    rw [List.mem_replicate] at hl
    rw [hl.2, List.mem_map] at hw
    obtain ⟨p, hp, rfl⟩ := hw
    exact walkOf_ok hm (h.2.2 p hp)
theorem spread_ok {m : Int} (hm : m = 2 ∨ m = 3) {qs : List Stq} (h : ∀ q ∈ qs, q.ok m) : ∀ w ∈ spreadOf m qs, w.ok m := by
  intro w hw
  unfold spreadOf at hw
  rw [List.mem_flatMap] at hw
  obtain ⟨q, hq, hw⟩ := hw
  exact walks_ok hm (h q hq) w hw
theorem okD_wk {m : Int} {w : Wk} (h : w.ok m) {d : Nat} {r : Row} (hr : okD m d r) : okD m d (wkR w r) := by
  cases w with
  | inn t => exact okD_in h.2.2 ⟨by decide, by have := h.1; omega⟩ hr
  | out sd T => exact (okD_out h sd hr).1
theorem cnts_wk (w : Wk) (r : Row) : Box.cnts (wkR w r) = Box.cnts r := by
  cases w with
  | inn t => exact cnts_in t 0 r
  | out sd T => exact cnts_out sd T r
theorem E_walked {m : Int} {w : Wk} (h : w.ok m) {r : Row} (hr : okD m 8 r) (hc : Box.cnts r ≤ 1000) : F_walked [w.enc, encR r] = .ok (sh (encR (wkR w r))) [.non, .non] := by
  refine okF_iff fun P hP => okF_sem rfl ?_
  cases w with
  | inn t =>
    have e : F_inward [encT t, encR r, .int 0] = _ := R_inward_eq h.2.2 8 55 r 0 hr hc ⟨by decide, by have := h.1; omega⟩
    simp [s_walked, N_walked, Wk.enc, fs_walked, okF_ok e]
    exact hP
  | out sd T =>
    have e : F_outward [encS sd, encTT T, encR r] = _ := R_outward_eq h sd 8 55 r hr hc
    simp [s_walked, N_walked, Wk.enc, fs_walked, okF_ok e]
    exact hP
theorem E_lwalked {m : Int} {w : Wk} (h : w.ok m) {r : Row} (hr : okD m 8 r) (hc : Box.cnts r ≤ 1000) : F__law_walked [w.enc, encR r] = .ok (sh (encR (wkR w r))) [.non, .non] := by
  refine okF_iff fun P hP => okF_sem rfl ?_
  cases w with
  | inn t =>
    have e : F__law_inward [encT t, encR r, .int 0] = _ := R__law_inward_eq h.2.2 8 55 r 0 hr hc ⟨by decide, by have := h.1; omega⟩
    simp [s__law_walked, N__law_walked, Wk.enc, fs__law_walked, okF_ok e]
    exact hP
  | out sd T =>
    have e : F__law_outward [encS sd, encTT T, encR r] = _ := R__law_outward_eq h sd 8 55 r hr hc
    simp [s__law_walked, N__law_walked, Wk.enc, fs__law_walked, okF_ok e]
    exact hP
def ledR : List Wk → Row → List Row
  | [], _ => []
  | w :: ws, r => wkR w r :: ledR ws (wkR w r)
def ranR : List Wk → Row → Row
  | [], r => r
  | w :: ws, r => ranR ws (wkR w r)
def brR : List Wk → Row → List D
  | [], _ => []
  | w :: ws, r => wkN w r :: brR ws (wkR w r)
theorem ledR_len : ∀ (ws : List Wk) (r : Row), (ledR ws r).length = ws.length
  | [], r => rfl
  | w :: ws, r => by rw [ledR, List.length_cons, ledR_len ws, List.length_cons]
theorem ranR_last : ∀ (ws : List Wk) (r : Row), ((ledR ws r).map encR).getLast? = if ws = [] then none else some (encR (ranR ws r))
  | [], r => rfl
  | [w], r => rfl
  | w :: v :: ws, r => by
    have := ranR_last (v :: ws) (wkR w r)
    rw [if_neg (by simp)] at this ⊢
    rw [ledR, List.map_cons, List.getLast?_cons, this]
    rfl
theorem okD_ran {m : Int} : ∀ {ws : List Wk} {r : Row}, (∀ w ∈ ws, w.ok m) → okD m 8 r → okD m 8 (ranR ws r)
  | [], r, _, hr => hr
  | w :: ws, r, h, hr => okD_ran (ws := ws) (fun v hv => h v (List.mem_cons_of_mem _ hv)) (okD_wk (h w (by simp)) hr)
theorem cnts_ran : ∀ (ws : List Wk) (r : Row), Box.cnts (ranR ws r) = Box.cnts r
  | [], r => rfl
  | w :: ws, r => by rw [ranR, cnts_ran ws, cnts_wk]
theorem led_ok {m : Int} : ∀ {ws : List Wk} {r : Row}, (∀ w ∈ ws, w.ok m) → okD m 8 r → ∀ q ∈ ledR ws r, okD m 8 q ∧ Box.cnts q = Box.cnts r
  | [], r, _, hr, q, hq => by cases hq
  | w :: ws, r, h, hr, q, hq => by
    rw [ledR] at hq
    have h1 := okD_wk (h w (by simp)) hr
    rcases List.mem_cons.mp hq with rfl | hq
    · exact ⟨h1, cnts_wk w r⟩
    · have := led_ok (ws := ws) (fun v hv => h v (List.mem_cons_of_mem _ hv)) h1 q hq
      exact ⟨this.1, by rw [this.2, cnts_wk]⟩
theorem ledR_append : ∀ (a : List Wk) (w : Wk) (r : Row), ledR (a ++ [w]) r = ledR a r ++ [wkR w (ranR a r)]
  | [], w, r => rfl
  | x :: a, w, r => by rw [List.cons_append, ledR, ledR_append a, ledR, ranR]; rfl
theorem ranR_append : ∀ (a : List Wk) (w : Wk) (r : Row), ranR (a ++ [w]) r = wkR w (ranR a r)
  | [], w, r => rfl
  | x :: a, w, r => by rw [List.cons_append, ranR, ranR_append a, ranR]
theorem brR_append : ∀ (a : List Wk) (w : Wk) (r : Row), brR (a ++ [w]) r = brR a r ++ [wkN w (ranR a r)]
  | [], w, r => rfl
  | x :: a, w, r => by rw [List.cons_append, brR, brR_append a, brR, ranR]; rfl
def encRs (l : List Row) : D := .lst (l.map encR)
def invLe (sc : D) (ws : List Wk) (r0 : Row) (q : List D) (ρ : Env) : Prop := ∃ (l l2 : List Wk) (s3 : Slot), ws = l ++ l2 ∧ q = l2.map Wk.enc ∧ npS s3 ∧ ρ = [some (.shr, sc), some (.shr, encR (ranR l r0)), some (.own, encRs (ledR l r0)), s3]
theorem E_led {sc : D} {m : Int} {qs : List Stq} (hs : IsScr sc m qs) {r : Row} (hr : okD m 8 r) (hc : Box.cnts r ≤ 1000) : F_led [sc, encR r] = .ok (ow (encRs (ledR (spreadOf m qs) r))) [.non, .non] := by
  refine okF_iff fun P hP => okF_sem rfl ?_
  have e := hs.1
  subst e
  have ok := spread_ok hs.2.1 hs.2.2.2.1
  have es := F_spread_eq hs.2.1 qs (by have := hs.2.2.1; omega) hs.2.2.2.1
  have hl : (spreadOf m qs).length ≤ 6 := hs.2.2.2.2.1
  simp [s_led, N_led, fs_led, okF_ok es]
  simp [encW]
  refine wp_loop (invLe (.tup [.int m, .tup (qs.map Stq.enc)]) (spreadOf m qs) r) ?_ ?_ _ _ ⟨[], spreadOf m qs, none, rfl, rfl, nps_n, rfl⟩
  · rintro x xs ρ ⟨l, l2, s3, e1, e2, h3, rfl⟩
    cases l2 with
    | nil => cases e2
    | cons w l2 =>
      cases e2
      have okl : ∀ v ∈ l, v.ok m := fun v hv => ok v (by rw [e1]; simp [hv])
      have hll : l.length ≤ 6 := by
        have := congrArg List.length e1
        simp at this
        omega
      have ew := E_walked (ok w (by rw [e1]; simp)) (okD_ran okl hr) (by rw [cnts_ran]; exact hc)
      unfold npS at h3
      simp [h3]
      rw [okF_ok ew]
      simp [encRs, ledR_len]
      rw [if_pos (by omega)]
      simp
      exact ⟨l ++ [w], l2, _, by rw [e1]; simp, rfl, nps_s _, by rw [ranR_append, ledR_append]; simp [encRs]; rfl⟩
  · rintro ρ ⟨l, l2, s3, e1, e2, h3, rfl⟩
    have : l2 = [] := by cases l2 with
      | nil => rfl
      | cons _ _ => cases e2
    subst this
    simp at e1
    simp
    rw [e1] at hP
    exact hP
theorem encR_fine {m : Int} {r : Row} (hr : okD m 8 r) (hc : Box.cnts r ≤ 1000) : Fine 17 (encR r) := fine_row hr hc
theorem E_ran {sc : D} {m : Int} {qs : List Stq} (hs : IsScr sc m qs) {r : Row} (hr : okD m 8 r) (hc : Box.cnts r ≤ 1000) : F_ran [sc, encR r] = .ok (sh (encR (ranR (spreadOf m qs) r))) [.non, .non] := by
  refine okF_iff fun P hP => okF_sem rfl ?_
  have el := E_led hs hr hc
  have ok := spread_ok hs.2.1 hs.2.2.2.1
  have hl : (spreadOf m qs).length ≤ 6 := hs.2.2.2.2.1
  have ne := (eq_nil (l := (ledR (spreadOf m qs) r).map encR) (n := 17) (fun x hx => by
    obtain ⟨q, hq, rfl⟩ := List.mem_map.mp hx
    have := led_ok ok hr q hq
    exact encR_fine this.1 (by rw [this.2]; exact hc)) (by decide) (by simp [ledR_len]; omega)).2
  have last := ranR_last (spreadOf m qs) r
  simp only [encRs] at el
  simp [s_ran, N_ran, fs_ran, okF_ok el]
  generalize (ledR (spreadOf m qs) r).map encR = L at ne last ⊢
  simp [ne]
  cases L with
  | nil =>
    simp at last ⊢
    have : spreadOf m qs = [] := by
      cases h : spreadOf m qs with
      | nil => rfl
      | cons w ws => rw [h] at last; simp at last
    rw [this] at hP
    exact hP
  | cons x L =>
    have h2 : ¬ spreadOf m qs = [] := fun z => by rw [z] at last; simp at last
    rw [if_neg h2] at last
    simp at last ⊢
    rw [last]
    simp
    exact hP
theorem E_need_nesting (m : Int) (v : D) (h : Fine 50 v) (hn : isNst m v = true) : F_need_nesting [.int m, v] = .ok (sh .non) [.non, .non] := by
  refine okF_iff fun P hP => okF_sem rfl ?_
  simp [s_need_nesting, N_need_nesting, fs_need_nesting, o_has_nesting m v h, hn]
  exact hP
theorem E_need_both {sc v : D} {m : Int} {qs : List Stq} (hs : IsScr sc m qs) (hv : Fine 50 v) (hn : isNst m v = true) : F_need_both [sc, v] = .ok (sh .non) [.non, .non] := by
  refine okF_iff fun P hP => okF_sem rfl ?_
  have f := (fw_scr hs).1.mono (show 9 ≤ 50 by decide)
  have e := hs.1
  simp [s_need_both, N_need_both, fs_need_both, okF_ok (E_need_script sc f (isScript_of hs))]
  subst e
  simp [okF_ok (E_need_nesting m v hv hn)]
  exact hP
theorem E_run {sc : D} {m : Int} {qs : List Stq} (hs : IsScr sc m qs) {r : Row} (hr : okR m 8 r) (hc : Box.cnts r ≤ 40) : F_run [sc, encR r] = .ok (sh (encR (ranR (spreadOf m qs) r))) [.non, .non] := by
  refine okF_iff fun P hP => okF_sem rfl ?_
  have f := (encR_fine (okR_okD hr) (by omega)).mono (show 17 ≤ 50 by decide)
  simp [s_run, N_run, fs_run, okF_ok (E_need_both hs f (isNst_of ⟨rfl, hr, hc⟩)), okF_ok (E_ran hs (okR_okD hr) (by omega))]
  exact hP
theorem E_stages {sc : D} {m : Int} {qs : List Stq} (hs : IsScr sc m qs) {r : Row} (hr : okR m 8 r) (hc : Box.cnts r ≤ 40) : F_stages [sc, encR r] = .ok (ow (encRs (ledR (spreadOf m qs) r))) [.non, .non] := by
  refine okF_iff fun P hP => okF_sem rfl ?_
  have f := (encR_fine (okR_okD hr) (by omega)).mono (show 17 ≤ 50 by decide)
  simp [s_stages, N_stages, fs_stages, okF_ok (E_need_both hs f (isNst_of ⟨rfl, hr, hc⟩)), okF_ok (E_led hs (okR_okD hr) (by omega))]
  exact hP
end KT
/-! what is brought up; values that are no nestings -/
namespace KT
open PL
open PySem (Str)
def zipR : List Wk → Row → List (Wk × Row)
  | [], _ => []
  | w :: ws, r => (w, r) :: zipR ws (wkR w r)
theorem zip_led : ∀ (ws : List Wk) (r : Row), zipD (ws.map Wk.enc) (encR r :: (ledR ws r).map encR) = (zipR ws r).map fun p => D.tup [p.1.enc, encR p.2]
  | [], r => by simp [zipD, zipR]
  | w :: ws, r => by
    rw [List.map_cons, ledR, List.map_cons, zipD, zip_led ws (wkR w r), zipR]
    rfl
theorem zipR_append : ∀ (a b : List Wk) (r : Row), zipR (a ++ b) r = zipR a r ++ zipR b (ranR a r)
  | [], b, r => rfl
  | x :: a, b, r => by rw [List.cons_append, zipR, zipR_append a b, zipR, ranR]; rfl
def invBr (sc ne : D) (ws : List Wk) (r0 : Row) (q : List D) (ρ : Env) : Prop := ∃ (l l2 : List Wk) (s3 s4 : Slot), ws = l ++ l2 ∧ q = (zipR l2 (ranR l r0)).map (fun p => D.tup [p.1.enc, encR p.2]) ∧ npS s3 ∧ npS s4 ∧ ρ = [some (.shr, sc), some (.shr, ne), some (.own, .lst (brR l r0)), s3, s4]
theorem brR_len : ∀ (ws : List Wk) (r : Row), (brR ws r).length = ws.length
  | [], r => rfl
  | w :: ws, r => by rw [brR, List.length_cons, brR_len ws, List.length_cons]
theorem E_brought {sc : D} {m : Int} {qs : List Stq} (hs : IsScr sc m qs) {r : Row} (hr : okR m 8 r) (hc : Box.cnts r ≤ 40) : F_brought [sc, encR r] = .ok (ow (.lst (brR (spreadOf m qs) r))) [.non, .non] := by
  refine okF_iff fun P hP => okF_sem rfl ?_
  have f := (encR_fine (okR_okD hr) (by omega)).mono (show 17 ≤ 50 by decide)
  have e0 := E_need_both hs f (isNst_of ⟨rfl, hr, hc⟩)
  have el := E_led hs (okR_okD hr) (by omega)
  have ok := spread_ok hs.2.1 hs.2.2.2.1
  have es := F_spread_eq hs.2.1 qs (by have := hs.2.2.1; omega) hs.2.2.2.1
  have hl : (spreadOf m qs).length ≤ 6 := hs.2.2.2.2.1
  have e := hs.1
  simp only [encRs] at el
  subst e
  simp [s_brought, N_brought, fs_brought, okF_ok e0, okF_ok es, okF_ok el, ledR_len]
  rw [if_pos (by omega)]
  have zz : itemsOf 4 (encW (spreadOf m qs)) (some (.lst (encR r :: (ledR (spreadOf m qs) r).map encR))) = some ((zipR (spreadOf m qs) r).map fun p => D.tup [p.1.enc, encR p.2]) := by
    rw [← zip_led]
    rfl
  simp [zz]
  refine wp_loop (invBr (.tup [.int m, .tup (qs.map Stq.enc)]) (encR r) (spreadOf m qs) r) ?_ ?_ _ _ ⟨[], spreadOf m qs, none, none, rfl, rfl, nps_n, nps_n, rfl⟩
  · rintro x xs ρ ⟨l, l2, s3, s4, e1, e2, h3, h4, rfl⟩
    cases l2 with
    | nil => cases e2
    | cons w l2 =>
      cases e2
      have okw := ok w (by rw [e1]; simp)
      have okl : ∀ v ∈ l, v.ok m := fun v hv => ok v (by rw [e1]; simp [hv])
      have hll : l.length ≤ 6 := by
        have := congrArg List.length e1
        simp at this
        omega
      have hd := okD_ran okl (okR_okD hr)
      have hcc : Box.cnts (ranR l r) ≤ 1000 := by rw [cnts_ran]; omega
      unfold npS at h3 h4
      have fin : invBr (.tup [.int m, .tup (qs.map Stq.enc)]) (encR r) (spreadOf m qs) r ((zipR l2 (wkR w (ranR l r))).map fun p => D.tup [p.1.enc, encR p.2]) [some (.shr, .tup [.int m, .tup (qs.map Stq.enc)]), some (.shr, encR r), some (.own, .lst (brR l r ++ [wkN w (ranR l r)])), some (.shr, w.enc), some (.shr, encR (ranR l r))] :=
        ⟨l ++ [w], l2, _, _, by rw [e1]; simp, by rw [ranR_append], nps_s _, nps_s _, by rw [brR_append]⟩
      cases w with
      | inn t =>
        simp [h3, h4, Wk.enc]
        simp [brR_len]
        rw [if_pos (by omega)]
        simpa [Wk.enc, wkN] using fin
      | out sd T =>
        have eo : F_outward [encS sd, encTT T, encR (ranR l r)] = _ := R_outward_eq okw sd 8 55 _ hd hcc
        simp [h3, h4, Wk.enc, okF_ok eo]
        simp [brR_len]
        rw [if_pos (by omega)]
        simpa [Wk.enc, wkN] using fin
  · rintro ρ ⟨l, l2, s3, s4, e1, e2, h3, h4, rfl⟩
    have : l2 = [] := by cases l2 with
      | nil => rfl
      | cons _ _ => cases e2
    subst this
    simp at e1
    simp
    rw [e1] at hP
    exact hP
/-- no nesting -/
def eNest : Ex := ⟨"InvalidNesting", none⟩
theorem X_need_nesting (m : Int) (v : D) (h : Fine 50 v) (hn : isNst m v = false) : F_need_nesting [.int m, v] = .err eNest [.non, .non] := by
  refine err_sem rfl ?_
  have e := o_has_nesting m v h
  rw [hn] at e
  rw [show s_need_nesting = [.ife (.not (.call 0 [.var 0, .var 1])) [.raise "InvalidNesting" none] []] from rfl, evSs_q1]
  refine er_bind1 ?_
  rw [evS_q5]
  refine er_bind ?_
  simp [fs_need_nesting, N_need_nesting, e]
  refine er_bind ?_
  simp [sel]
  refine er_bind1 ?_
  rw [er_err]
  exact ⟨rfl, rfl⟩
theorem X_need_both {sc v : D} {m : Int} {qs : List Stq} (hs : IsScr sc m qs) (hv : Fine 50 v) (hn : isNst m v = false) : F_need_both [sc, v] = .err eNest [.non, .non] := by
  refine err_sem rfl ?_
  have f := (fw_scr hs).1.mono (show 9 ≤ 50 by decide)
  have e1 := E_need_script sc f (isScript_of hs)
  have e2 := X_need_nesting m v hv hn
  have e := hs.1
  rw [show s_need_both = [.ex (.call 0 [.var 0]), .ex (.call 1 [.ix (.var 0) (.int 0), .var 1])] from rfl, evSs_q1]
  refine er_bind ?_
  simp [fs_need_both, N_need_both, okF_ok e1]
  subst e
  refine er_bind1 ?_
  refine er_bind1 ?_
  refine er_bind ?_
  simp
  exact er_call rfl e2 rfl ⟨rfl, rfl⟩
theorem err_first {sc v : D} {F : Fn} {ss : List S} {fs : List Fn} {n : Nat} (e : fs.headD (fun _ => .bad) = F_need_both) (h : F_need_both [sc, v] = .err eNest [.non, .non]) (hn : ∃ k, n - 2 = k) : semD [false, false] n (evSs (mkG fs []) (.ex (.call 0 [.var 0, .var 1]) :: ss)) [sc, v] = .err eNest [.non, .non] := by
  refine err_sem rfl ?_
  rw [evSs_q1]
  refine er_bind1 ?_
  rw [evS_q10]
  refine er_bind1 ?_
  have e2 : (mkG fs []).fn 0 = F_need_both := by
    rw [← e]
    cases fs <;> rfl
  rw [evE_q25, e2]
  refine er_bind ?_
  simp [init]
  exact er_call rfl h rfl ⟨rfl, by simp [outsAt]⟩
theorem X_run {sc v : D} {m : Int} {qs : List Stq} (hs : IsScr sc m qs) (hv : Fine 50 v) (hn : isNst m v = false) : F_run [sc, v] = .err eNest [.non, .non] := err_first (F := F_run) rfl (X_need_both hs hv hn) ⟨_, rfl⟩
theorem X_stages {sc v : D} {m : Int} {qs : List Stq} (hs : IsScr sc m qs) (hv : Fine 50 v) (hn : isNst m v = false) : F_stages [sc, v] = .err eNest [.non, .non] := err_first (F := F_stages) rfl (X_need_both hs hv hn) ⟨_, rfl⟩
theorem X_brought {sc v : D} {m : Int} {qs : List Stq} (hs : IsScr sc m qs) (hv : Fine 50 v) (hn : isNst m v = false) : F_brought [sc, v] = .err eNest [.non, .non] := err_first (F := F_brought) rfl (X_need_both hs hv hn) ⟨_, rfl⟩
end KT
/-! law k02: values refused, the written values -/
namespace KT
open PL
open PySem (Str)
def rfTbl : List (Str × Nat) := [("run", 0), ("stages", 1), ("brought", 2)]
def rfBody : List S := [.tryN ["InvalidScript", "InvalidNesting"] [.ex (.callV 3 rfTbl [.var 0, .var 1])] [("InvalidNesting", [.app 2 (.str "nesting")])]]
theorem ref_turn {sc v : D} {nm : Str} {j : Nat} {F : Fn} (hj : rfTbl.lookup nm = some j) (hF : (mkG fs__law_refused cs__law_refused).fn j = F) (hx : F [sc, v] = .err eNest [.non, .non]) (ws : List D) (hl : ws.length < 100) {s3 : Slot} (h3 : npS s3) {P : Fl → Env → Prop}
    (hP : P .nx [some (.shr, sc), some (.shr, v), some (.own, .lst (ws ++ [.str "nesting"])), some (.shr, .fn nm)]) :
    wp (asgTg (.nm 3) (.fn nm) >>= fun _ => evSs (mkG fs__law_refused cs__law_refused) rfBody) [some (.shr, sc), some (.shr, v), some (.own, .lst ws), s3] P := by
  unfold npS at h3
  rw [wp_bind]
  simp only [rfBody]
  simp [h3]
  refine wp_try ?_
  refine er_bind1 ?_
  refine er_bind1 ?_
  refine er_bind ?_
  simp
  refine er_bind ?_
  simp [fnAt, hj, hF]
  refine er_bind ?_
  simp
  have hF2 : (fs__law_refused[j]?.getD fun x => RF.bad) = F := hF
  rw [hF2]
  refine er_call (e := eNest) rfl hx rfl ⟨evSs (mkG fs__law_refused cs__law_refused) [.app 2 (.str "nesting")], by simp [eNest, evH], ?_⟩
  have hl2 : ws.length < 16777216 := by omega
  simp [hl2]
  exact hP
theorem E_lrefused {sc v : D} {m : Int} {qs : List Stq} (hs : IsScr sc m qs) (hv : Fine 50 v) (hn : isNst m v = false) : F__law_refused [sc, v] = .ok (sh (.bl true)) [.non, .non] := by
  refine okF_iff fun P hP => okF_sem rfl ?_
  have x1 := X_run hs hv hn
  have x2 := X_stages hs hv hn
  have x3 := X_brought hs hv hn
  have f : Fine 60 (.lst [.str "nesting", .str "nesting", .str "nesting"]) := ⟨by decide +kernel, by decide +kernel⟩
  have eq := eq_fine f f
  rw [eqv_refl f.1] at eq
  show wp (evSs (mkG fs__law_refused cs__law_refused) [.asg 2 (.lst []), .forIn (.nm 3) 0 (.tup [.con 0, .con 1, .con 2]) none rfBody, .ret (.cmp .eq (.pk 2) (.bin .mul (.lst [.str "nesting"]) (.int 3)))]) _ _
  have t1 := fun {P} => ref_turn (sc := sc) (v := v) (nm := "run") (j := 0) (F := F_run) (by decide +kernel) rfl x1 [] (by decide) (s3 := none) nps_n (P := P)
  have t2 := fun {P} => ref_turn (sc := sc) (v := v) (nm := "stages") (j := 1) (F := F_stages) (by decide +kernel) rfl x2 [.str "nesting"] (by decide) (s3 := some (.shr, .fn "run")) (nps_s _) (P := P)
  have t3 := fun {P} => ref_turn (sc := sc) (v := v) (nm := "brought") (j := 2) (F := F_brought) (by decide +kernel) rfl x3 [.str "nesting", .str "nesting"] (by decide) (s3 := some (.shr, .fn "stages")) (nps_s _) (P := P)
  generalize rfBody = B at t1 t2 t3 ⊢
  simp [N__law_refused, cs__law_refused]
  rw [wp_loopC]
  refine t1 ?_
  rw [wp_loopC]
  refine t2 ?_
  rw [wp_loopC]
  refine t3 ?_
  simp [eq]
  exact hP
def k2C : List (List D) := [
  [.tup [.int 2, .tup [.tup [.str "within", .int 1, .int 0, .int 1]]], .tup [.tup [.int 0, .tup [.tup [.int 0, .tup []], .tup [.int 1, .tup [.tup [.int 0, .tup []]]]]], .tup [.int 1, .tup []]], .tup [.tup [.int 0, .tup [.tup [.int 0, .tup []], .tup [.int 1, .tup [.tup [.int 1, .tup []]]]]], .tup [.int 1, .tup []]]],
  [.tup [.int 2, .tup [.tup [.str "holding", .int 0, .int 1, .int 0]]], .tup [.tup [.int 0, .tup [.tup [.int 0, .tup []], .tup [.int 1, .tup [.tup [.int 0, .tup []]]]]], .tup [.int 1, .tup []]], .tup [.tup [.int 0, .tup [.tup [.int 0, .tup []], .tup [.int 0, .tup [.tup [.int 0, .tup []]]]]], .tup [.int 1, .tup []]]],
  [.tup [.int 2, .tup [.tup [.str "first", .str "right", .int 0, .int 1]]], .tup [.tup [.int 1, .tup [.tup [.int 0, .tup []], .tup [.int 0, .tup []]]], .tup [.int 0, .tup []]], .tup [.tup [.int 1, .tup [.tup [.int 0, .tup []], .tup [.int 1, .tup []]]], .tup [.int 1, .tup []]]],
  [.tup [.int 3, .tup [.tup [.str "next", .str "left", .int 2, .int 0, .int 1]]], .tup [.tup [.int 2, .tup [.tup [.int 0, .tup []]]], .tup [.int 0, .tup [.tup [.int 2, .tup []]]], .tup [.int 0, .tup []]], .tup [.tup [.int 2, .tup [.tup [.int 0, .tup []]]], .tup [.int 1, .tup [.tup [.int 2, .tup []]]], .tup [.int 0, .tup []]]],
  [.tup [.int 2, .tup [.tup [.str "in", .tup [.tup [.tup [.int 0, .int 0], .tup [.int 1, .int 1]], .tup [.tup [.int 1, .int 0], .tup [.int 0, .int 1]]]]]], .tup [.tup [.int 1, .tup [.tup [.int 1, .tup [.tup [.int 1, .tup []]]]]]], .tup [.tup [.int 1, .tup [.tup [.int 0, .tup [.tup [.int 0, .tup []]]]]]]]]
theorem k2_runs : k2C.all (fun c => (F_run [c.getD 0 .non, c.getD 1 .non]).sameB false (c.getD 2 .non) [.non, .non] && ((c.getD 2 .non).cmpb 60 && (c.getD 2 .non).szd)) = true := by decide +kernel
theorem k2_at (i : Nat) (hi : i < 5) : ∀ c, k2C[i]? = some c → F_run [c.getD 0 .non, c.getD 1 .non] = .ok (sh (c.getD 2 .non)) [.non, .non] ∧ cmpv .ne (c.getD 2 .non) (c.getD 2 .non) = some false ∧ cmpv .eq (c.getD 2 .non) (c.getD 2 .non) = some true := by
  intro c hc
  have := List.all_eq_true.mp k2_runs c (List.mem_of_getElem? hc)
  rw [Bool.and_eq_true, Bool.and_eq_true] at this
  have f : Fine 60 (c.getD 2 .non) := ⟨this.2.1, this.2.2⟩
  have n := ne_fine f f
  have e := eq_fine f f
  rw [eqv_refl f.1] at n e
  exact ⟨sameB_eq this.1, n, e⟩
def lawEnd : List S := s_law.drop 1
theorem law_end (ns : D) (a1 a2 a3 a4 a5 a6 a7 a8 a9 a10 : Slot) (h6 : npS a6) {P : Vl → Prop} (hP : P (sh (.bl true))) :
    wp (evSs (mkG fs_law cs_law) lawEnd) [some (.shr, ns), a1, a2, a3, a4, a5, a6, a7, a8, a9, a10, none, none] fun f ρ => match outsAt [false] ρ with
      | some outs => P (match f with
        | .rt v => v
        | .nx => sh .non)
      | none => False := by
  obtain ⟨r0, n0, _⟩ := k2_at 0 (by decide) _ rfl
  obtain ⟨r1, n1, _⟩ := k2_at 1 (by decide) _ rfl
  obtain ⟨r2, n2, _⟩ := k2_at 2 (by decide) _ rfl
  obtain ⟨r3, n3, _⟩ := k2_at 3 (by decide) _ rfl
  obtain ⟨r4, _, q4⟩ := k2_at 4 (by decide) _ rfl
  simp at r0 n0 r1 n1 r2 n2 r3 n3 r4 q4
  have g7 : (fs_law[7]?.getD fun x => RF.bad) = F_run := rfl
  unfold npS at h6
  simp [lawEnd, s_law, h6, g7, okF_ok r0, n0, okF_ok r1, n1, okF_ok r2, n2, okF_ok r3, n3, okF_ok r4, q4]
  exact hP
end KT
/-! law k02 -/
namespace KT
open PL
open PySem (Str)
/-- a value that is refused -/
def Odd (m : Int) (x : D) : Prop := Fine 50 x ∧ isNst m x = false
theorem isNst_not {m : Int} {v : D} (h : ∀ r, v = encR r → ¬ okR m 8 r) : isNst m v = false := by
  unfold isNst
  refine @decide_eq_false _ (Classical.propDecidable _) ?_
  rintro ⟨r, e, h1, _⟩
  exact h r e h1
theorem okR_box {m : Int} {l : List D} {r : Row} (e : D.tup l = encR r) (h : okR m 8 r) : ∀ x ∈ l, ∃ b : Box, x = .tup [.int b.s, encR b.inner] ∧ 0 ≤ b.s ∧ b.s < m := by
  intro x hx
  rw [encR, encs_map] at e
  simp at e
  subst e
  obtain ⟨b, hb, rfl⟩ := List.mem_map.mp hx
  exact ⟨b, enc_box b, (h.2 b hb).1⟩
theorem isNst_41 (m : Int) : isNst m (.tup (List.replicate 41 (.tup [.int 0, .tup []]))) = false := by
  have e : D.tup (List.replicate 41 (.tup [.int 0, .tup []])) = encR (List.replicate 41 (.mk 0 [])) := by
    rw [encR, encs_map, List.map_replicate, Box.enc]
    rfl
  rw [e, isNst_enc]
  have h : Box.cnts (List.replicate 41 (.mk 0 [])) = 41 := by decide
  rw [h]
  simp
def oddL (m : Int) (V : D) : List D := [.non, .lst [], .tup [.tup [.int m, .tup []]], .tup [.tup [.int 0]], .tup [.int 0, .tup []], .tup [.tup [.int 0, .lst []]], .tup [.tup [.bl true, .tup []]], V]
theorem odd_ok {m : Int} (hm : m = 2 ∨ m = 3) {V : D} (hV : V = .tup (List.replicate 41 (.tup [.int 0, .tup []]))) : ∀ x ∈ oddL m V, Odd m x := by
  have f41 : Fine 50 V := by rw [hV]; exact ⟨by decide +kernel, by decide +kernel⟩
  intro x hx
  simp [oddL] at hx
  rcases hx with rfl | rfl | rfl | rfl | rfl | rfl | rfl | rfl
  · exact ⟨⟨by decide, by decide⟩, isNst_not fun r e h => by simp [encR] at e⟩
  · exact ⟨⟨by decide, by decide⟩, isNst_not fun r e h => by simp [encR] at e⟩
  · refine ⟨⟨by simp [D.cmpb, D.cmpbs], by simp [D.szd, D.szds]⟩, isNst_not fun r e h => ?_⟩
    obtain ⟨b, h1, h2, h3⟩ := okR_box e h _ (by simp; rfl)
    simp at h1
    omega
  · refine ⟨⟨by decide, by decide⟩, isNst_not fun r e h => ?_⟩
    obtain ⟨b, h1, h2, h3⟩ := okR_box e h _ (by simp; rfl)
    simp at h1
  · refine ⟨⟨by decide, by decide⟩, isNst_not fun r e h => ?_⟩
    obtain ⟨b, h1, h2, h3⟩ := okR_box e h (.int 0) (by simp)
    simp at h1
  · refine ⟨⟨by decide, by decide⟩, isNst_not fun r e h => ?_⟩
    obtain ⟨b, h1, h2, h3⟩ := okR_box e h _ (by simp; rfl)
    simp [encR] at h1
  · refine ⟨⟨by decide, by decide⟩, isNst_not fun r e h => ?_⟩
    obtain ⟨b, h1, h2, h3⟩ := okR_box e h _ (by simp; rfl)
    simp at h1
  · exact ⟨f41, by rw [hV]; exact isNst_41 m⟩
def lawIn : List S := match s_law with
  | .forIn _ _ _ _ body :: _ => body
  | _ => []
def lawTurn : List S := match lawIn.drop 2 with
  | .forIn _ _ _ _ body :: _ => body
  | _ => []
def lawWalk : List S := match lawTurn.drop 2 with
  | .forIn _ _ _ _ body :: _ => body
  | _ => []
def lawOdd : List S := match lawIn.drop 3 with
  | .forIn _ _ _ _ body :: _ => body
  | _ => []
/-- the draws' state -/
def envK (ns k s sc s4 s5 s6 s7 s8 s9 s10 : Slot) : Env := [ns, k, s, sc, s4, s5, s6, s7, s8, s9, s10, none, none]
def invWa (ns k s sc s4 s5 : Slot) (ws : List Wk) (r0 : Row) (q : List D) (ρ : Env) : Prop := ∃ (l l2 : List Wk) (s7 : Slot), ws = l ++ l2 ∧ q = l2.map Wk.enc ∧ npS s7 ∧ ρ = envK ns k s sc s4 s5 (some (.shr, encR r0)) s7 (some (.own, encRs (ledR l r0))) (some (.own, .lst (brR l r0))) (some (.shr, encR (ranR l r0)))
theorem walk_turn {ns k s sc s4 s5 : Slot} {m : Int} {ws : List Wk} (hok : ∀ w ∈ ws, w.ok m) (hl : ws.length ≤ 6) {r0 : Row} (hr : okD m 8 r0) (hc : Box.cnts r0 ≤ 1000) {x : D} {xs : List D} {ρ : Env} (h : invWa ns k s sc s4 s5 ws r0 (x :: xs) ρ) :
    wp (put 7 (sh x) >>= fun _ => evSs (mkG fs_law cs_law) lawWalk) ρ fun f ρ' => f = .nx ∧ invWa ns k s sc s4 s5 ws r0 xs ρ' := by
  obtain ⟨l, l2, s7, e1, e2, h7, rfl⟩ := h
  cases l2 with
  | nil => cases e2
  | cons w l2 =>
    cases e2
    have okw := hok w (by rw [e1]; simp)
    have okl : ∀ v ∈ l, v.ok m := fun v hv => hok v (by rw [e1]; simp [hv])
    have hll : l.length ≤ 6 := by
      have := congrArg List.length e1
      simp at this
      omega
    have hd := okD_ran okl hr
    have hcc : Box.cnts (ranR l r0) ≤ 1000 := by rw [cnts_ran]; omega
    have ew := E_lwalked okw hd hcc
    have g5 : (fs_law[5]?.getD fun x => RF.bad) = F__law_outward := rfl
    have g6 : (fs_law[6]?.getD fun x => RF.bad) = F__law_walked := rfl
    have hl1 : l.length < 16777216 := by omega
    unfold npS at h7
    have fin : invWa ns k s sc s4 s5 ws r0 (l2.map Wk.enc) (envK ns k s sc s4 s5 (some (.shr, encR r0)) (some (.shr, w.enc)) (some (.own, .lst ((ledR l r0).map encR ++ [encR (wkR w (ranR l r0))]))) (some (.own, .lst (brR l r0 ++ [wkN w (ranR l r0)]))) (some (.shr, encR (wkR w (ranR l r0))))) :=
      ⟨l ++ [w], l2, some (.shr, w.enc), by rw [e1]; simp, rfl, nps_s _, by rw [ledR_append, brR_append, ranR_append]; simp [encRs]⟩
    cases w with
    | inn t =>
      simp only [Wk.enc] at ew fin ⊢
      simp [lawWalk, lawTurn, lawIn, s_law, envK, h7, brR_len, hl1, g6, okF_ok ew, encRs, ledR_len]
      simpa [envK, wkN] using fin
    | out sd T =>
      have eo : F__law_outward [encS sd, encTT T, encR (ranR l r0)] = _ := R__law_outward_eq okw sd 8 55 _ hd hcc
      simp only [Wk.enc] at ew fin ⊢
      simp [lawWalk, lawTurn, lawIn, s_law, envK, h7, brR_len, hl1, g5, g6, okF_ok eo, okF_ok ew, encRs, ledR_len]
      simpa [envK, wkN] using fin
def invTn (ns k sc : Slot) (q : List D) (ρ : Env) : Prop := ∃ (s : D) (s4 s5 s6 s7 s8 s9 s10 : Slot), Src s ∧ npS s4 ∧ npS s5 ∧ npS s6 ∧ npS s7 ∧ npS s8 ∧ npS s9 ∧ npS s10 ∧ ρ = envK ns k (some (.own, s)) sc s4 s5 s6 s7 s8 s9 s10
theorem three_turn {ns k : Slot} {sc : D} {m : Int} {qs : List Stq} (hs : IsScr sc m qs) {x : D} {xs : List D} {ρ : Env} (h : invTn ns k (some (.shr, sc)) (x :: xs) ρ) :
    wp (put 4 (sh x) >>= fun _ => evSs (mkG fs_law cs_law) lawTurn) ρ fun f ρ' => f = .nx ∧ invTn ns k (some (.shr, sc)) xs ρ' := by
  obtain ⟨s, s4, s5, s6, s7, s8, s9, s10, hsrc, h4, h5, h6, h7, h8, h9, h10, rfl⟩ := h
  have body := fun {s5 : Slot} {ws : List Wk} hok hl {r0 : Row} hr hc {y ys ρ s} h => walk_turn (ns := ns) (k := k) (s := s) (sc := some (.shr, sc)) (s4 := some (.shr, x)) (s5 := s5) (m := m) (ws := ws) hok hl (r0 := r0) hr hc (x := y) (xs := ys) (ρ := ρ) h
  have hT : lawTurn = lawTurn.take 2 ++ .forIn (.nm 7) 0 (.call 4 [.var 3]) none lawWalk :: lawTurn.drop 3 := rfl
  have g2 : (fs_law[2]?.getD fun x => RF.bad) = F__law_nesting := rfl
  have g3 : (fs_law[3]?.getD fun x => RF.bad) = F__law_choice := rfl
  have g4 : (fs_law[4]?.getD fun x => RF.bad) = F__law_walks := rfl
  have g7 : (fs_law[7]?.getD fun x => RF.bad) = F_run := rfl
  have g8 : (fs_law[8]?.getD fun x => RF.bad) = F_stages := rfl
  have g9 : (fs_law[9]?.getD fun x => RF.bad) = F_brought := rfl
  have hsc : itemv sc (.int 0) = some (.int m) := by rw [hs.1]; rfl
  have ok := spread_ok hs.2.1 hs.2.2.2.1
  have hl6 : (spreadOf m qs).length ≤ 6 := hs.2.2.2.2.1
  have ew := E_law_walks hs.2.1 qs (by have := hs.2.2.1; omega) hs.2.2.2.1
  rw [← hs.1] at ew
  have tail : ∀ (s : D) (r0 : Row) (s7 : Slot), Src s → npS s7 → okR m 8 r0 → Box.cnts r0 ≤ 40 → wp (evSs (mkG fs_law cs_law) (lawTurn.drop 3)) (envK ns k (some (.own, s)) (some (.shr, sc)) (some (.shr, x)) s5 (some (.shr, encR r0)) s7 (some (.own, encRs (ledR (spreadOf m qs) r0))) (some (.own, .lst (brR (spreadOf m qs) r0))) (some (.shr, encR (ranR (spreadOf m qs) r0)))) fun f ρ' => f = .nx ∧ invTn ns k (some (.shr, sc)) xs ρ' := by
    intro s r0 s7 hsrc h7 hr hc
    have e1 := E_run hs hr hc
    have e2 := E_stages hs hr hc
    have e3 := E_brought hs hr hc
    have hd := okR_okD hr
    have f1 : Fine 60 (encR (ranR (spreadOf m qs) r0)) := (encR_fine (okD_ran ok hd) (by rw [cnts_ran]; omega)).mono (by decide)
    have f2 : Fine 60 (encRs (ledR (spreadOf m qs) r0)) := (Fine.mkL (n := 17) (by simp [ledR_len]; omega) fun y hy => by
      obtain ⟨q, hq, rfl⟩ := List.mem_map.mp hy
      have := led_ok ok hd q hq
      exact encR_fine this.1 (by rw [this.2]; omega)).mono (by decide)
    have f3 : Fine 60 (.lst (brR (spreadOf m qs) r0)) := (Fine.mkL (n := 0) (by simp [brR_len]; omega) fun y hy => by
      have : ∀ (ws : List Wk) (r : Row), ∀ y ∈ brR ws r, Fine 0 y := fun ws => by
        induction ws with
        | nil => intro r y hy; cases hy
        | cons w ws ih =>
          intro r y hy
          rw [brR] at hy
          rcases List.mem_cons.mp hy with rfl | hy
          · cases w with
            | inn t => exact Fine.non
            | out sd T => exact Fine.int _
          · exact ih _ y hy
      exact this _ _ y hy).mono (by decide)
    have n1 := ne_fine f1 f1
    have n2 := ne_fine f2 f2
    have n3 := ne_fine f3 f3
    rw [eqv_refl f1.1] at n1
    rw [eqv_refl f2.1] at n2
    rw [eqv_refl f3.1] at n3
    generalize encR (ranR (spreadOf m qs) r0) = R1 at e1 n1
    generalize encRs (ledR (spreadOf m qs) r0) = R2 at e2 n2
    generalize D.lst (brR (spreadOf m qs) r0) = R3 at e3 n3
    simp [lawTurn, lawIn, s_law, envK, g7, g8, g9, okF_ok e1, okF_ok e2, okF_ok e3, n1, n2, n3]
    exact ⟨s, some (.shr, x), s5, some (.shr, encR r0), s7, some (.own, R2), some (.own, R3), some (.shr, R1), hsrc, nps_s _, h5, nps_s _, h7, nps_o _, nps_o _, nps_s _, rfl⟩
  rw [hT]
  generalize lawWalk = W at body
  generalize lawTurn.drop 3 = B at tail ⊢
  have h7' := h7
  unfold npS at h4 h6 h7 h8 h9 h10
  simp [lawTurn, lawIn, s_law, envK, h4, hsc, g2, g3]
  refine S_choice hsrc _ (by simp) (by simp) fun y s1 hy hs1 => ?_
  have hy2 : ∃ n : Int, y = .int n ∧ 0 ≤ n ∧ n ≤ 40 := by
    simp at hy
    rcases hy with rfl | rfl | rfl <;> exact ⟨_, rfl, by decide, by decide⟩
  obtain ⟨n, rfl, hn⟩ := hy2
  simp
  refine S_nesting hs1 hs.2.1 hn fun r0 s2 hr hc hs2 => ?_
  have hc40 : Box.cnts r0 ≤ 40 := by omega
  simp [h6, h8, h9, h10, g4, okF_ok ew]
  simp [encW]
  refine wp_loop (invWa ns k (some (.own, s2)) (some (.shr, sc)) (some (.shr, x)) s5 (spreadOf m qs) r0) (fun y ys ρ h => ?_) ?_ _ _ ⟨[], spreadOf m qs, s7, rfl, rfl, h7', rfl⟩
  · refine (body ok hl6 (okR_okD hr) (by omega) h).mono fun f ρ' q => ?_
    obtain ⟨rfl, q⟩ := q
    exact q
  · rintro ρ ⟨l, l2, s7', e1, e2, h7'', rfl⟩
    have : l2 = [] := by cases l2 with
      | nil => rfl
      | cons _ _ => cases e2
    subst this
    simp at e1
    rw [← e1]
    exact tail s2 r0 s7' hs2 h7'' hr hc40
end KT
/-! law k02: the whole -/
namespace KT
open PL
open PySem (Str)
def invOd (ns k s sc s4 s6 s7 s8 s9 s10 : Slot) (m : Int) (q : List D) (ρ : Env) : Prop := ∃ s5, npS s5 ∧ (∀ x ∈ q, Odd m x) ∧ ρ = envK ns k s sc s4 s5 s6 s7 s8 s9 s10
theorem odd_turn {ns k s s4 s6 s7 s8 s9 s10 : Slot} {sc : D} {m : Int} {qs : List Stq} (hs : IsScr sc m qs) {x : D} {xs : List D} {ρ : Env} (h : invOd ns k s (some (.shr, sc)) s4 s6 s7 s8 s9 s10 m (x :: xs) ρ) :
    wp (put 5 (sh x) >>= fun _ => evSs (mkG fs_law cs_law) lawOdd) ρ fun f ρ' => f = .nx ∧ invOd ns k s (some (.shr, sc)) s4 s6 s7 s8 s9 s10 m xs ρ' := by
  obtain ⟨s5, h5, ho, rfl⟩ := h
  obtain ⟨f, n⟩ := ho x (by simp)
  have e := E_lrefused hs f n
  have g10 : (fs_law[10]?.getD fun x => RF.bad) = F__law_refused := rfl
  unfold npS at h5
  simp [lawOdd, lawIn, s_law, envK, h5, g10, okF_ok e]
  exact ⟨some (.shr, x), nps_s _, fun y hy => ho y (by simp [hy]), rfl⟩
def invLa (ns : D) (r : List D) (ρ : Env) : Prop := ∃ (s1 s2 s3 s4 s5 s6 s7 s8 s9 s10 : Slot), (∀ x ∈ r, ∃ k : Int, x = .int k ∧ 0 ≤ k) ∧ npS s1 ∧ npS s2 ∧ npS s3 ∧ npS s4 ∧ npS s5 ∧ npS s6 ∧ npS s7 ∧ npS s8 ∧ npS s9 ∧ npS s10 ∧ ρ = envK (some (.shr, ns)) s1 s2 s3 s4 s5 s6 s7 s8 s9 s10
theorem law_k02 : LawOk 63 F_law := by
  intro ns hns
  suffices h : okF F_law [.ro (ns.map D.int)] (fun v _ => v = sh (.bl true)) by
    obtain ⟨v, o, e, rfl⟩ := okF_eq h
    exact ⟨o, e⟩
  refine okF_sem rfl ?_
  show wp (evSs (mkG fs_law cs_law) (s_law.take 1 ++ lawEnd)) _ _
  have tail := fun a1 a2 a3 a4 a5 a6 a7 a8 a9 a10 h6 => law_end (.ro (ns.map D.int)) a1 a2 a3 a4 a5 a6 a7 a8 a9 a10 h6 (P := fun v => v = sh (.bl true)) rfl
  have turn := fun {k : Slot} {sc : D} {m : Int} {qs : List Stq} hs {x xs ρ} h => three_turn (ns := some (.shr, .ro (ns.map D.int))) (k := k) (sc := sc) (m := m) (qs := qs) hs (x := x) (xs := xs) (ρ := ρ) h
  have odd := fun {k s s4 s6 s7 s8 s9 s10 : Slot} {sc : D} {m : Int} {qs : List Stq} hs {x xs ρ} h => odd_turn (ns := some (.shr, .ro (ns.map D.int))) (k := k) (s := s) (s4 := s4) (s6 := s6) (s7 := s7) (s8 := s8) (s9 := s9) (s10 := s10) (sc := sc) (m := m) (qs := qs) hs (x := x) (xs := xs) (ρ := ρ) h
  have hB : lawIn = lawIn.take 2 ++ [.forIn (.nm 4) 1 (.int 8) none lawTurn, .forIn (.nm 5) 0 (.lst [.non, .lst [], .tup [.tup [.ix (.var 3) (.int 0), .tup []]], .tup [.tup [.int 0]], .tup [.int 0, .tup []], .tup [.tup [.int 0, .lst []]], .tup [.tup [.bl true, .tup []]], .bin .mul (.tup [.tup [.int 0, .tup []]]) (.int 41)]) none lawOdd] := rfl
  have hS : s_law.take 1 = [.forIn (.nm 1) 1 (.bin .add (.int 1) (.b2 .min (.b1 .len (.var 0)) (.int 8))) none lawIn] := rfl
  rw [hS, hB]
  generalize lawTurn = T at turn
  generalize lawOdd = O at odd
  generalize lawEnd = B at tail ⊢
  simp [N_law]
  have rk : rangeOk 0 (1 + if 8 < (ns.length : Int) then 8 else (ns.length : Int)) = true := by
    unfold rangeOk
    rw [decide_eq_true_eq]
    split <;> omega
  simp [rk]
  refine wp_loop (invLa (.ro (ns.map D.int))) ?_ ?_ _ _ ⟨none, none, none, none, none, none, none, none, none, none, ?_, nps_n, nps_n, nps_n, nps_n, nps_n, nps_n, nps_n, nps_n, nps_n, nps_n, rfl⟩
  · rintro x xs ρ ⟨s1, s2, s3, s4, s5, s6, s7, s8, s9, s10, hx, h1, h2, h3, h4, h5, h6, h7, h8, h9, h10, rfl⟩
    obtain ⟨k, rfl, k0⟩ := hx x (by simp)
    have hx2 : ∀ y ∈ xs, ∃ k : Int, y = .int k ∧ 0 ≤ k := fun y hy => hx y (by simp [hy])
    have g0 : (fs_law[0]?.getD fun x => RF.bad) = F__law_source := rfl
    have g1 : (fs_law[1]?.getD fun x => RF.bad) = F__law_script := rfl
    unfold npS at h1 h2 h3
    simp [lawIn, s_law, envK, h1, g0]
    refine S_source ns k k0 fun s hs => ?_
    simp [h2, g1]
    refine S_script hs (by decide) fun m qs s' hq hs' => ?_
    obtain ⟨V, hV, hV2⟩ : ∃ V, bin .mul (.tup [.tup [.int 0, .tup []]]) (.int 41) = some (sh V) ∧ V = .tup (List.replicate 41 (.tup [.int 0, .tup []])) := ⟨_, rfl, rfl⟩
    have r8 : rangeOk 0 8 = true := by decide
    have hsc : itemv (.tup [.int m, .tup (qs.map Stq.enc)]) (.int 0) = some (.int m) := rfl
    generalize hsd : D.tup [.int m, .tup (qs.map Stq.enc)] = sc at hq hsc ⊢
    simp [h3, r8]
    refine wp_loop (invTn (some (.shr, .ro (ns.map D.int))) (some (.shr, .int k)) (some (.shr, sc))) (fun y ys ρ h => ?_) ?_ _ _ ⟨s', s4, s5, s6, s7, s8, s9, s10, hs', h4, h5, h6, h7, h8, h9, h10, rfl⟩
    · refine (turn hq h).mono fun f ρ' q => ?_
      obtain ⟨rfl, q⟩ := q
      exact q
    · rintro ρ ⟨s, b4, b5, b6, b7, b8, b9, b10, hsr, q4, q5, q6, q7, q8, q9, q10, rfl⟩
      simp [envK, -x_mult, hV, hsc]
      refine wp_loop (invOd (some (.shr, .ro (ns.map D.int))) (some (.shr, .int k)) (some (.own, s)) (some (.shr, sc)) b4 b6 b7 b8 b9 b10 m) (fun y ys ρ h => ?_) ?_ _ _ ⟨b5, q5, odd_ok hq.2.1 hV2, rfl⟩
      · refine (odd hq h).mono fun f ρ' q => ?_
        obtain ⟨rfl, q⟩ := q
        exact q
      · rintro ρ ⟨c5, z5, _, rfl⟩
        exact ⟨_, _, _, _, _, _, _, _, _, _, hx2, nps_s _, nps_o _, nps_s _, q4, z5, q6, q7, q8, q9, q10, rfl⟩
  · rintro ρ ⟨s1, s2, s3, s4, s5, s6, s7, s8, s9, s10, hx, h1, h2, h3, h4, h5, h6, h7, h8, h9, h10, rfl⟩
    exact tail _ _ _ _ _ _ _ _ _ _ h6
  · intro x hx
    unfold rangeD at hx
    rw [List.mem_map] at hx
    obtain ⟨i, _, rfl⟩ := hx
    exact ⟨_, rfl, by omega⟩
end KT
set_option maxRecDepth 100000 in
theorem PySem.Challenge.cw_anynesting_k02_whole_walks_through_nesti_holds : PySem.Challenge.rw_anynesting_k02_whole_walks_through_nesti.Holds := by
  exact KT.holds_of KT.law_k02
