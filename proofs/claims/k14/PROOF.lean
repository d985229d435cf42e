import PyProof.Rows.All
import Wide.All
import OpenK.AllK
import Wide.FinOn
import PySem.PyData
import HandS.ForMost
import HandS.Exc
import HandS.ExcOwn
import HandS.TryOnly
import HandS.TryMany
import HandS.WordsExc
import HandS.Deep
import HandS.Conv
import HandS.Zip
import HandS.TupAny
import HandS.TupMul
import HandS.Style
import HandS.IsInst
import HandS.CallSlots
import HandS.Wide
import HandS.StrSplit
import HandS.Lambda
import HandS.RaiseMore
import HandS.ExcInit
import HandS.ExcField
import HandS.Defaults
import PyProof.ExcBaseAll.ValueError
import HandS.SetFor
import HandS.Flt
import HandS.HeadHook2
import KE.KStateDown
import HandS.Base
import HandS.Call
import HandS.Ends
import HandS.More
import HandS.Words
import HandS.Codes
import HandS.Head0
import HandS.Head1
import HandS.Head2
import HandS.HeadEnd
import HandS.HeadHook1
import HandS.HeadHook4
import HandS.EndTab
import HandS.HeadWalk
import PySem.Challenge.RW_anynesting_k14_nestings_written_and_read
set_option Elab.async false
set_option linter.all false
set_option maxRecDepth 100000
set_option maxHeartbeats 0
/-! PLCore: a small functional reading of the part of Python that the program and the laws are written in. Plain Lean; no heap. -/
namespace PL
open PySem (Str)
/-- data as a value: no heap. lst and dct are lists and dicts as they stand; ro: a list that is only read; fn: a def of the module -/
inductive D where
  | non | bl (b : Bool) | int (i : Int) | str (s : Str)
  | tup (l : List D) | lst (l : List D) | ro (l : List D) | dct (l : List (D × D))
  | fn (x : Str)
/-- shared (never written again), owned by its slot, or handed in by reference -/
inductive Fg where
  | shr | own | pin
  deriving DecidableEq
abbrev Slot := Option (Fg × D)
abbrev Env := List Slot
/-- an error: its class, its one field -/
structure Ex where
  cls : Str
  fld : Option (Str × D)
structure Vl where
  own : Bool
  d : D
abbrev sh (d : D) : Vl := ⟨false, d⟩
abbrev ow (d : D) : Vl := ⟨true, d⟩
inductive R (α : Type) where
  | ok (a : α) (ρ : Env)
  | err (e : Ex) (ρ : Env)
  | bad
def M (α : Type) := Env → R α
def M.bind {α β : Type} (m : M α) (f : α → M β) : M β := fun ρ => match m ρ with
  | .ok a ρ' => f a ρ'
  | .err e ρ' => .err e ρ'
  | .bad => .bad
def M.ret {α : Type} (a : α) : M α := fun ρ => .ok a ρ
def M.bad {α : Type} : M α := fun _ => .bad
def M.err {α : Type} (e : Ex) : M α := fun ρ => .err e ρ
instance : Monad M where
  pure := M.ret
  bind := M.bind
theorem bind_ok {α β : Type} {f : M α} {g : α → M β} {ρ ρ' : Env} {a : α} (h : f ρ = .ok a ρ') : (f >>= g) ρ = g a ρ' := by
  show M.bind f g ρ = _
  unfold M.bind
  rw [h]
theorem bind_err {α β : Type} {f : M α} {g : α → M β} {ρ ρ' : Env} {e : Ex} (h : f ρ = .err e ρ') : (f >>= g) ρ = .err e ρ' := by
  show M.bind f g ρ = _
  unfold M.bind
  rw [h]
theorem bind_bad {α β : Type} {f : M α} {g : α → M β} {ρ : Env} (h : f ρ = .bad) : (f >>= g) ρ = .bad := by
  show M.bind f g ρ = _
  unfold M.bind
  rw [h]
theorem ret_bind {α β : Type} (a : α) (g : α → M β) : (pure a >>= g) = g a := rfl
def M.opt {α : Type} (o : Option α) : M α := fun ρ => match o with
  | some a => .ok a ρ
  | none => .bad
/-- what a def does: its arguments' values, what it gives and the values of the arguments handed in by reference behind it -/
inductive RF where
  | ok (v : Vl) (outs : List D)
  | err (e : Ex) (outs : List D)
  | bad
abbrev Fn := List D → RF
/-- the module's functions and constants -/
structure Gm where
  fn : Nat → Fn
  con : Nat → D
def szL : Nat := 16777216
/-! ### data -/
mutual
def D.toPy : D → PySem.PyData
  | .non => .none
  | .bl b => .bool b
  | .int i => .int i
  | .str s => .str s
  | .tup l => .tuple (D.toPys l)
  | .lst l => .list (D.toPys l)
  | .ro _ => .none
  | .dct _ => .none
  | .fn _ => .none
def D.toPys : List D → List PySem.PyData
  | [] => []
  | d :: ds => d.toPy :: D.toPys ds
end
mutual
/-- Python's == -/
def D.eqv : D → D → Bool
  | .non, .non => true
  | .bl a, .bl b => a == b
  | .bl a, .int j => (if a then 1 else 0) == j
  | .int i, .bl b => i == (if b then 1 else 0)
  | .int i, .int j => i == j
  | .str x, .str y => x == y
  | .tup xs, .tup ys => D.eqvs xs ys
  | .lst xs, .lst ys => D.eqvs xs ys
  | _, _ => false
def D.eqvs : List D → List D → Bool
  | [], [] => true
  | x :: xs, y :: ys => x.eqv y && D.eqvs xs ys
  | _, _ => false
end
mutual
/-- may be compared: no dict, no read-only list, texts of code points, at most 60 deep -/
def D.cmpb : Nat → D → Bool
  | _, .non => true
  | _, .bl _ => true
  | _, .int _ => true
  | _, .str s => s.cps.all (· < 0x110000)
  | 0, .tup _ => false
  | n + 1, .tup l => D.cmpbs n l
  | 0, .lst _ => false
  | n + 1, .lst l => D.cmpbs n l
  | _, .ro _ => false
  | _, .dct _ => false
  | _, .fn _ => false
def D.cmpbs : Nat → List D → Bool
  | _, [] => true
  | n, d :: ds => d.cmpb n && D.cmpbs n ds
end
mutual
/-- no list or dict within -/
def D.flat : D → Bool
  | .tup l => D.flats l
  | .lst _ => false
  | .ro _ => false
  | .dct _ => false
  | _ => true
def D.flats : List D → Bool
  | [] => true
  | d :: ds => d.flat && D.flats ds
end
/-- a value that names no list: of an owned list, its items -/
def Vl.flat (v : Vl) : Bool := match v.own, v.d with
  | true, .lst l => D.flats l
  | true, _ => false
  | false, d => d.flat
/-! ### operations on data -/
def isInts : List D → Option (List Int)
  | [] => some []
  | .int i :: r => (isInts r).map (i :: ·)
  | _ :: _ => none
def isBls : List D → Option (List Bool)
  | [] => some []
  | .bl b :: r => (isBls r).map (b :: ·)
  | _ :: _ => none
def isStrs : List D → Option (List Str)
  | [] => some []
  | .str x :: r => (isStrs r).map (x :: ·)
  | _ :: _ => none
/-- the place that an index means -/
def ixOf (n : Nat) (i : Int) : Option Nat :=
  if 0 ≤ i then (if i < n then some i.toNat else none) else (if -(n : Int) ≤ i then some (i + n).toNat else none)
def at? {α : Type} (l : List α) (i : Int) : Option α := (ixOf l.length i).bind fun j => l[j]?
/-- the end that a slice's bound means, in a sequence of n -/
def cl (n d : Nat) : Option Int → Nat
  | none => d
  | some v => (if v < 0 then max (v + (n : Int)) 0 else min v (n : Int)).toNat
def cut {α : Type} (l : List α) (lo hi : Option Int) : List α := (l.drop (cl l.length 0 lo)).take (cl l.length l.length hi - cl l.length 0 lo)
inductive Bop where
  | add | sub | mul | fdiv | mod | pow
  deriving DecidableEq
inductive Cop where
  | eq | ne | lt | le | gt | ge
  deriving DecidableEq
def small64 (i : Int) : Bool := decide (i.natAbs < 2 ^ 64)
theorem small64_of {i : Int} (h : small64 i = true) : -(2 ^ 64) < i ∧ i < 2 ^ 64 := by
  unfold small64 at h
  have := of_decide_eq_true h
  omega
def bin : Bop → D → D → Option Vl
  | .add, .int i, .int j => some (sh (.int (i + j)))
  | .add, .str x, .str y => if x.length + y.length ≤ szL then some (sh (.str (x ++ y))) else none
  | .add, .tup x, .tup y => if x.length + y.length ≤ szL then some (sh (.tup (x ++ y))) else none
  | .add, .lst x, .lst y => if x.length + y.length ≤ szL then some (ow (.lst (x ++ y))) else none
  | .sub, .int i, .int j => some (sh (.int (i - j)))
  | .mul, .int i, .int j => if small64 i || small64 j || decide (i.natAbs.log2 + j.natAbs.log2 < 1000000) then some (sh (.int (i * j))) else none
  | .mul, .tup x, .int k => if x ≠ [] ∧ 2 ≤ k ∧ k ≤ 1000 ∧ x.length ≤ 1000 then some (sh (.tup (List.replicate k.toNat x).flatten)) else none
  | .mul, .lst x, .int k => if -(2 ^ 63) ≤ k ∧ k < 2 ^ 63 ∧ x.length * k.toNat ≤ szL then some (ow (.lst (List.replicate k.toNat x).flatten)) else none
  | .mul, .str x, .int k => if -(2 ^ 63) ≤ k ∧ k ≤ 10000 ∧ x.length ≤ 1000 then some (sh (.str ⟨(List.replicate k.toNat x.cps.toList).flatten.toArray⟩)) else none
  | .fdiv, .int i, .int j => if 0 < j ∧ j.natAbs.log2 < 9000 then some (sh (.int (i / j))) else none
  | .mod, .int i, .int j => if 0 < j then some (sh (.int (i % j))) else none
  | .pow, .int i, .int j => if 0 ≤ j ∧ j ≤ 1000000 ∧ i.natAbs < 2 ^ 64 then some (sh (.int (i ^ j.toNat))) else none
  | _, _, _ => none
def isScal : D → Bool
  | .non => true
  | .bl _ => true
  | .int _ => true
  | .str _ => true
  | _ => false
def cmpv : Cop → D → D → Option Bool
  | .eq, .str x, .str y => some (x == y)
  | .ne, .str x, .str y => some (!(x == y))
  | .eq, a, b => if a.cmpb 60 && b.cmpb 60 then some (a.eqv b) else none
  | .ne, a, b => if a.cmpb 60 && b.cmpb 60 then some (!a.eqv b) else none
  | .lt, .int i, .int j => some (decide (i < j))
  | .le, .int i, .int j => some (decide (i ≤ j))
  | .gt, .int i, .int j => some (decide (j < i))
  | .ge, .int i, .int j => some (decide (j ≤ i))
  | _, _, _ => none
/-- x in xs -/
def memv : D → D → Option Bool
  | a, .lst l => if isScal a && l.all isScal || a.cmpb 60 && D.cmpbs 60 l then some (l.any fun z => z.eqv a) else none
  | a, .tup l => if isScal a && l.all isScal then some (l.any fun z => z.eqv a) else none
  | _, _ => none
def itemv : D → D → Option D
  | .tup l, .int i => at? l i
  | .lst l, .int i => at? l i
  | .ro l, .int i => at? l i
  | .str s, .int i => if s.length ≤ szL then (at? s.cps.toList i).map fun c => .str ⟨#[c]⟩ else none
  | _, _ => none
def cutv : D → Option Int → Option Int → Option Vl
  | .tup l, lo, hi => some (sh (.tup (cut l lo hi)))
  | .lst l, lo, hi => some (ow (.lst (cut l lo hi)))
  | .str s, lo, hi => if s.length ≤ szL then some (sh (.str ⟨(cut s.cps.toList lo hi).toArray⟩)) else none
  | _, _, _ => none
def lenv : D → Option Int
  | .tup l => some l.length
  | .lst l => some l.length
  | .ro l => some l.length
  | .str s => if s.length ≤ szL then some s.length else none
  | _ => none
/-- the built-ins of one argument -/
inductive B1 where
  | len | list | tuple | int | str | sum | all | any | abs
  deriving DecidableEq
def b1 : B1 → D → Option Vl
  | .len, d => (lenv d).map fun n => sh (.int n)
  | .list, .lst l => some (ow (.lst l))
  | .list, .tup l => some (ow (.lst l))
  | .tuple, .lst l => some (sh (.tup l))
  | .tuple, .tup l => some (sh (.tup l))
  | .int, .int i => some (sh (.int i))
  | .int, .bl b => some (sh (.int (if b then 1 else 0)))
  | .str, .int i => if i.natAbs.log2 < 1920 then some (sh (.str (toString i))) else none
  | .str, .str x => some (sh (.str x))
  | .sum, .lst l => (isInts l).map fun ns => sh (.int ns.sum)
  | .all, .lst l => (isBls l).map fun bs => sh (.bl (bs.all id))
  | .any, .lst l => (isBls l).map fun bs => sh (.bl (bs.any id))
  | .abs, .int i => some (sh (.int (if i < 0 then -i else i)))
  | _, _ => none
inductive B2 where
  | min | max
  deriving DecidableEq
def b2 : B2 → D → D → Option Vl
  | .min, .int i, .int j => some (sh (.int (if j < i then j else i)))
  | .max, .int i, .int j => some (sh (.int (if j > i then j else i)))
  | _, _, _ => none
def max3 : D → D → D → Option Vl
  | .int i, .int j, .int k => some (sh (.int (max (max i j) k)))
  | _, _, _ => none
/-- the types that isinstance is asked of -/
inductive Ty where
  | int | bool | str | tuple | list
  deriving DecidableEq
def isTy : Ty → D → Option Bool
  | .int, .int _ => some true
  | .int, .bl _ => some true
  | .bool, .bl _ => some true
  | .str, .str _ => some true
  | .tuple, .tup _ => some true
  | .list, .lst _ => some true
  | _, .ro _ => none
  | _, .dct _ => none
  | _, .fn _ => none
  | _, _ => some false
/-! ### what is written -/
inductive Tg where
  | nm (i : Nat)
  | tup (ts : List Tg)
inductive E where
  | var (i : Nat)                                 -- read; what was owned is shared from there on
  | mov (i : Nat)                                 -- read for the last time, the ownership goes along
  | pk (i : Nat)                                  -- as an operand: looked at
  | io (i : Nat)                                  -- as an argument: by reference
  | int (i : Int) | str (s : Str) | bl (b : Bool) | non
  | con (g : Nat)                                 -- a name of the module's
  | tup (es : List E) | lst (es : List E)
  | bin (op : Bop) (a b : E)
  | neg (a : E)
  | cmp (op : Cop) (a b : E)
  | chain (op op' : Cop) (a b c : E)
  | isN (neg : Bool) (a : E)
  | isB (neg : Bool) (a b : E)
  | mem (neg : Bool) (a p : E)
  | and (a b : E) | or (a b : E) | not (a : E)
  | ite (c a b : E)
  | ix (p i : E)
  | cut (p : E) (lo hi : Option E)
  | rev (p : E)
  | call (f : Nat) (es : List E)
  | b1 (b : B1) (p : E)
  | b2 (b : B2) (p q : E)
  | max3 (p q r : E)
  | isi (t : Ty) (a : E)
  | rng (a : E)                                   -- list(range(a))
  | rngT (a : E)                                  -- tuple(range(a))
  | comp (own : List Nat) (tg : Tg) (sk : Nat) (s1 : E) (s2 : Option E) (cnd : Option E) (elt : E)
  | comp2 (own : List Nat) (own2 : List Nat) (tg : Tg) (sk : Nat) (s1 : E) (s2 : Option E) (tg' : Tg) (sk' : Nat) (s1' : E) (s2' : Option E) (elt : E)
  | join (a p : E)
  | split (a b : E)
  | index (p a : E)
  | count (p a : E)
  | strGetE (ks : List Str) (vs : List E) (a dflt : E)   -- {"k": e, ..}.get(a, dflt)
  | strGet (ks : List (Str × Int)) (a : E) (dflt : Int)   -- {"k": n, ..}.get(a, dflt)
  | callV (i : Nat) (tbl : List (Str × Nat)) (es : List E)   -- a call of the def that a slot holds
  | lamc (d : Str) (known : List Str) (hs : List (Str × Str)) (body : E)   -- x(lambda: body), x a def that calls it and gives d, or a word for the error
inductive S where
  | asg (i : Nat) (e : E)
  | asgT (tg : Tg) (e : E)
  | par (is : List Nat) (es : List E)
  | app (i : Nat) (e : E)
  | setix (i : Nat) (k e : E)
  | ife (c : E) (a b : List S)
  | forIn (tg : Tg) (sk : Nat) (s1 : E) (s2 : Option E) (body : List S)
  | whl (fuel : Nat) (c : E) (body : List S)
  | ret (e : E)
  | retN
  | ex (e : E)
  | pass
  | bad
  | raise (cls : Str) (fld : Option (Str × E))
  | tryAs (known : List Str) (body : List S) (cls : Str) (i x kind : Nat) (w f : Str)   -- except cls as slot i: x = (w, its field), x = w + str(its field)
  | tryN (known : List Str) (body : List S) (hs : List (Str × List S))
inductive Fl where
  | nx
  | rt (v : Vl)
/-! ### its meaning -/
/-- an operand: a value, or a slot that is looked at -/
inductive Ref where
  | val (d : D)
  | slot (i : Nat)
def E.peek : E → Option Nat
  | .pk i => some i
  | _ => none
def E.isIo : E → Option Nat
  | .io i => some i
  | _ => none
def see (i : Nat) : M Ref := fun ρ => match ρ[i]? with
  | some (some (f, _)) => if f = .shr then .bad else .ok (.slot i) ρ
  | _ => .bad
def opnd (e : E) (m : M Vl) : M Ref := match e.peek with
  | some i => see i
  | none => m >>= fun v => pure (.val v.d)
def slotd (i : Nat) : M D := fun ρ => match ρ[i]? with
  | some (some (f, d)) => if f = .shr then .bad else .ok d ρ
  | _ => .bad
def deref : Ref → M D
  | .val d => pure d
  | .slot i => slotd i
def rdVar (i : Nat) : M Vl := fun ρ => match ρ[i]? with
  | some (some (.shr, d)) => .ok (sh d) ρ
  | some (some (.own, d)) => .ok (sh d) (ρ.set i (some (.shr, d)))
  | _ => .bad
def mvVar (i : Nat) : M Vl := fun ρ => match ρ[i]? with
  | some (some (.own, d)) => .ok (ow d) (ρ.set i none)
  | _ => .bad
/-- a slot's new value -/
def put (i : Nat) (v : Vl) : M Unit := fun ρ => match ρ[i]? with
  | some (some (.pin, _)) => .bad
  | some _ => .ok () (ρ.set i (some (if v.own then .own else .shr, v.d)))
  | none => .bad
mutual
def asgTg : Tg → D → M Unit
  | .nm i, d => put i (sh d)
  | .tup ts, .tup ds => if ts.length = ds.length then asgTgs ts ds else M.bad
  | .tup _, _ => M.bad
def asgTgs : List Tg → List D → M Unit
  | [], [] => pure ()
  | [], _ :: _ => M.bad
  | t :: ts, d :: ds => asgTg t d >>= fun _ => asgTgs ts ds
  | _ :: _, [] => M.bad
end
/-- an owned slot's object, changed -/
def change (i : Nat) (f : D → Option D) : M Unit := fun ρ => match ρ[i]? with
  | some (some (.shr, _)) => .bad
  | some (some (g, d)) => (match f d with
    | some d' => .ok () (ρ.set i (some (g, d')))
    | none => .bad)
  | _ => .bad
def appd (x : D) : D → Option D
  | .lst l => if l.length < szL then some (.lst (l ++ [x])) else none
  | _ => none
def setd (k x : D) : D → Option D
  | .lst l => (match k with
    | .int i => (ixOf l.length i).map fun j => .lst (l.set j x)
    | _ => none)
  | _ => none
/-- arguments -/
inductive Arg where
  | val (d : D)
  | bor (i : Nat)
  | io (i : Nat)
def argsOf : List Arg → Env → Option (List D)
  | [], _ => some []
  | .val d :: r, ρ => (argsOf r ρ).map (d :: ·)
  | .bor i :: r, ρ => (match ρ[i]? with
    | some (some (.own, d)) => (argsOf r ρ).map (d :: ·)
    | some (some (.pin, d)) => (argsOf r ρ).map (d :: ·)
    | _ => none)
  | .io i :: r, ρ => (match ρ[i]? with
    | some (some (.own, d)) => (argsOf r ρ).map (d :: ·)
    | some (some (.pin, d)) => (argsOf r ρ).map (d :: ·)
    | _ => none)
def slotsOf : List Arg → List Nat
  | [] => []
  | .val _ :: r => slotsOf r
  | .bor i :: r => i :: slotsOf r
  | .io i :: r => i :: slotsOf r
def anyBor : List Arg → Bool
  | [] => false
  | .bor _ :: _ => true
  | _ :: r => anyBor r
/-- what stands in the slots behind a call -/
def putOuts : List Arg → List D → Env → Env
  | .io i :: r, d :: ds, ρ => putOuts r ds (match ρ[i]? with
    | some (some (f, _)) => ρ.set i (some (f, d))
    | _ => ρ)
  | _ :: r, _ :: ds, ρ => putOuts r ds ρ
  | _, _, ρ => ρ
def outsFlat : List Arg → List D → Bool
  | .io _ :: r, d :: ds => (match d with
    | .lst l => D.flats l
    | _ => false) && outsFlat r ds
  | _ :: r, _ :: ds => outsFlat r ds
  | _, _ => true
def nodupB : List Nat → Bool
  | [] => true
  | i :: r => !r.contains i && nodupB r
def callF (F : Fn) (as : List Arg) : M Vl := fun ρ => match argsOf as ρ with
  | none => .bad
  | some ds => if nodupB (slotsOf as) = false then .bad else match F ds with
    | .ok v outs => if anyBor as && !(v.flat && outsFlat as outs) then .bad else if outs.length = as.length then .ok v (putOuts as outs ρ) else .bad
    | .err e outs => if anyBor as then .bad else if outs.length = as.length then .err e (putOuts as outs ρ) else .bad
    | .bad => .bad
def asBl (v : Vl) : M Bool := match v.d with
  | .bl b => pure b
  | _ => M.bad
def asInt (d : D) : M Int := match d with
  | .int i => pure i
  | _ => M.bad
def rangeD (lo hi : Int) : List D := (List.range (hi - lo).toNat).map fun i => .int (lo + (i : Nat))
def rangeOk (lo hi : Int) : Bool := decide (-(2 ^ 62) ≤ lo ∧ lo < 2 ^ 62 ∧ -(2 ^ 62) ≤ hi ∧ hi < 2 ^ 62)
def enumD : Nat → List D → List D
  | _, [] => []
  | n, d :: ds => .tup [.int n, d] :: enumD (n + 1) ds
def zipD : List D → List D → List D
  | x :: xs, y :: ys => .tup [x, y] :: zipD xs ys
  | _, _ => []
/-- the items of a source: 0 a sequence, 1 range(a), 2 range(a, b), 3 enumerate(a list), 4 zip of two lists or two tuples -/
def itemsOf : Nat → D → Option D → Option (List D)
  | 0, .lst l, none => some l
  | 0, .tup l, none => some l
  | 1, .int n, none => if rangeOk 0 n then some (rangeD 0 n) else none
  | 2, .int a, some (.int b) => if rangeOk a b then some (rangeD a b) else none
  | 3, .lst l, none => some (enumD 0 l)
  | 4, .lst x, some (.lst y) => some (zipD x y)
  | 4, .tup x, some (.tup y) => some (zipD x y)
  | _, _, _ => none
def wipe (ρ : Env) : List Nat → Env
  | [] => ρ
  | v :: vs => (wipe ρ vs).set v none
/-- the block's own names back as they were -/
def restore (ρ0 ρ : Env) : List Nat → Env
  | [] => ρ
  | v :: vs => (restore ρ0 ρ vs).set v (ρ0.getD v none)
def noOwned (ρ : Env) : List Nat → Bool
  | [] => true
  | v :: vs => (match ρ[v]? with
    | some none => true
    | some (some (.shr, _)) => true
    | _ => false) && noOwned ρ vs
/-- a comprehension's turns -/
def compL (own : List Nat) (asg : D → M Unit) (cnd : M Bool) (elt : M D) : List D → M (List D)
  | [] => pure []
  | x :: xs => fun ρ => (asg x >>= fun _ => cnd >>= fun c => match c with
    | true => elt >>= fun y => (fun ρ => compL own asg cnd elt xs (wipe ρ own)) >>= fun ys => pure (y :: ys)
    | false => fun ρ => compL own asg cnd elt xs (wipe ρ own)) ρ
def block {α : Type} (own : List Nat) (m : M α) : M α := fun ρ => if noOwned ρ own then (match m (wipe ρ own) with
  | .ok a ρ' => .ok a (restore ρ ρ' own)
  | .err _ _ => .bad
  | .bad => .bad) else .bad
def loopL (turn : D → M Fl) : List D → M Fl
  | [] => pure .nx
  | x :: xs => turn x >>= fun f => match f with
    | .nx => loopL turn xs
    | .rt v => pure (.rt v)
def whileL (c : M Bool) (body : M Fl) : Nat → M Fl
  | 0 => M.bad
  | n + 1 => c >>= fun b => match b with
    | false => pure .nx
    | true => body >>= fun f => match f with
      | .nx => whileL c body n
      | .rt v => pure (.rt v)
def tryL (body : M Fl) (h : Ex → Option (M Fl)) : M Fl := fun ρ => match body ρ with
  | .err e ρ' => (match h e with
    | some m => m ρ'
    | none => .err e ρ')
  | r => r
/-- what a lambda sees: what is shared -/
def hide (ρ : Env) : Env := ρ.map fun s => match s with
  | some (.shr, d) => some (.shr, d)
  | _ => none
def strKeyGet (ks : List (Str × Int)) (x : Str) (d : Int) : Int := match ks.lookup x with
  | some n => n
  | none => d
end PL
namespace PL
open PySem (Str)
def flatD : List D → Option (List D)
  | [] => some []
  | .lst l :: r => (flatD r).map (l ++ ·)
  | _ :: _ => none
def indexD : D → D → Option Int
  | .lst l, x => if isScal x && l.all isScal || x.cmpb 60 && D.cmpbs 60 l then (let n := l.findIdx fun z => z.eqv x; if n < l.length then some (n : Int) else none) else none
  | _, _ => none
def countD : D → D → Option Int
  | .lst l, .int k => (isInts l).map fun ns => ((ns.count k : Nat) : Int)
  | _, _ => none
def getD2 (ks : List Str) (ds : List D) (x : Str) (d : D) : D := match (ks.zip ds).lookup x with
  | some v => v
  | none => d
/-- the pieces of a text of one sign c between -/
def splitL (c : Nat) : List Nat → List (List Nat)
  | [] => [[]]
  | x :: r => if x = c then [] :: splitL c r else (match splitL c r with
    | p :: ps => (x :: p) :: ps
    | [] => [[x]])
def splitD (x : Str) : D → Option Vl
  | .str y => (match y.cps.toList with
    | [c] => if x.length + 2 ≤ szL then some (ow (.lst ((splitL c x.cps.toList).map fun p => .str ⟨p.toArray⟩))) else none
    | _ => none)
  | _ => none
def joinD (x : Str) : D → Option Vl
  | .lst l => (isStrs l).bind fun ss => if (ss.map (·.length)).sum + ss.length * x.length ≤ szL then some (sh (.str (Str.join x ss))) else none
  | _ => none
def asStr (d : D) : M Str := match d with
  | .str x => pure x
  | _ => M.bad
def asLst (d : D) : M Unit := match d with
  | .lst _ => pure ()
  | _ => M.bad
end PL
/-! PLEval: the meaning of what is written, over a table of functions. Plain Lean. -/
namespace PL
open PySem (Str)
def evNot (v : Vl) : M Vl := asBl v >>= fun b => pure (sh (.bl !b))
def cmpM (op : Cop) (x y : D) : M Vl := M.opt ((cmpv op x y).map fun b => sh (.bl b))
def optInt : Option D → Option (Option Int)
  | none => some none
  | some (.int i) => some (some i)
  | some _ => none
/-- a slice's part is an int or left out -/
def asPart (o : Option D) : M (Option Int) := M.opt (optInt o)
/-- the number of the def that a value is -/
def fnAt (tbl : List (Str × Nat)) : D → Option Nat
  | .fn x => tbl.lookup x
  | _ => none
def sel {α : Type} (k : Bool) (a b : α) : α := match k with
  | true => a
  | false => b
mutual
def evE (Γ : Gm) : E → M Vl
  | .var i => rdVar i
  | .mov i => mvVar i
  | .pk _ => M.bad
  | .io _ => M.bad
  | .int i => pure (sh (.int i))
  | .str s => pure (sh (.str s))
  | .bl b => pure (sh (.bl b))
  | .non => pure (sh .non)
  | .con g => pure (sh (Γ.con g))
  | .tup es => evL Γ es >>= fun ds => if ds.length ≤ szL then pure (sh (.tup ds)) else M.bad
  | .lst es => evL Γ es >>= fun ds => if ds.length ≤ szL then pure (ow (.lst ds)) else M.bad
  | .bin op a b => opnd a (evE Γ a) >>= fun x => opnd b (evE Γ b) >>= fun y => deref x >>= fun x => deref y >>= fun y => M.opt (bin op x y)
  | .neg a => evE Γ a >>= fun v => asInt v.d >>= fun i => pure (sh (.int (-i)))
  | .cmp op a b => opnd a (evE Γ a) >>= fun x => opnd b (evE Γ b) >>= fun y => deref x >>= fun x => deref y >>= fun y => cmpM op x y
  | .chain op op' a b c => evE Γ a >>= fun x => evE Γ b >>= fun y => cmpM op x.d y.d >>= fun z => asBl z >>= fun k => sel k (evE Γ c >>= fun w => cmpM op' y.d w.d) (pure (sh (.bl false)))
  | .isN n a => opnd a (evE Γ a) >>= fun r => deref r >>= fun d => pure (sh (.bl (match d with
    | .non => !n
    | _ => n)))
  | .isB n a b => evE Γ a >>= fun x => evE Γ b >>= fun y => asBl x >>= fun p => asBl y >>= fun q => pure (sh (.bl ((p == q) != n)))
  | .mem n a p => evE Γ a >>= fun x => opnd p (evE Γ p) >>= fun r => deref r >>= fun d => M.opt ((memv x.d d).map fun b => sh (.bl (b != n)))
  | .and a b => evE Γ a >>= fun v => asBl v >>= fun k => sel k (evE Γ b) (pure (sh (.bl false)))
  | .or a b => evE Γ a >>= fun v => asBl v >>= fun k => sel k (pure (sh (.bl true))) (evE Γ b)
  | .not a => evE Γ a >>= evNot
  | .ite c a b => evE Γ c >>= fun v => asBl v >>= fun k => sel k (evE Γ a) (evE Γ b)
  | .ix p i => opnd p (evE Γ p) >>= fun r => evE Γ i >>= fun k => deref r >>= fun d => M.opt ((itemv d k.d).map sh)
  | .cut p lo hi => opnd p (evE Γ p) >>= fun r => (evO Γ lo >>= asPart) >>= fun l => (evO Γ hi >>= asPart) >>= fun h => deref r >>= fun d => M.opt (cutv d l h)
  | .rev p => opnd p (evE Γ p) >>= fun r => deref r >>= fun d => match d with
    | .lst l => pure (ow (.lst l.reverse))
    | .tup l => pure (sh (.tup l.reverse))
    | _ => M.bad
  | .call f es => evA Γ es >>= fun as => callF (Γ.fn f) as
  | .b1 b p => opnd p (evE Γ p) >>= fun r => deref r >>= fun d => M.opt (b1 b d)
  | .b2 b p q => evE Γ p >>= fun x => evE Γ q >>= fun y => M.opt (b2 b x.d y.d)
  | .max3 p q r => evE Γ p >>= fun x => evE Γ q >>= fun y => evE Γ r >>= fun z => M.opt (max3 x.d y.d z.d)
  | .isi t a => evE Γ a >>= fun v => M.opt ((isTy t v.d).map fun b => sh (.bl b))
  | .rng a => evE Γ a >>= fun v => asInt v.d >>= fun n => if rangeOk 0 n && decide (n ≤ szL) then pure (ow (.lst (rangeD 0 n))) else M.bad
  | .rngT a => evE Γ a >>= fun v => asInt v.d >>= fun n => if rangeOk 0 n && decide (n ≤ szL) then pure (sh (.tup (rangeD 0 n))) else M.bad
  | .comp own tg sk s1 s2 cnd elt => evE Γ s1 >>= fun v => evO Γ s2 >>= fun d2 => M.opt (itemsOf sk v.d d2) >>= fun xs =>
    if xs.length ≤ szL then block own (compL own (asgTg tg) (evC Γ cnd) (evE Γ elt >>= fun v => pure v.d) xs) >>= fun ys => pure (ow (.lst ys)) else M.bad
  | .comp2 own own2 tg sk s1 s2 tg' sk' s1' s2' elt => evE Γ s1 >>= fun v => evO Γ s2 >>= fun d2 => M.opt (itemsOf sk v.d d2) >>= fun xs =>
    block own (compL own (asgTg tg) (pure true)
      (evE Γ s1' >>= fun v => evO Γ s2' >>= fun d2 => M.opt (itemsOf sk' v.d d2) >>= fun xs =>
        (fun ρ => compL own2 (asgTg tg') (pure true) (evE Γ elt >>= fun v => pure v.d) xs (wipe ρ own2)) >>= fun ys => pure (.lst ys)) xs) >>= fun yss =>
    match flatD yss with
    | some ys => if ys.length ≤ szL then pure (ow (.lst ys)) else M.bad
    | none => M.bad
  | .join a p => evE Γ a >>= fun v => asStr v.d >>= fun x => opnd p (evE Γ p) >>= fun r => deref r >>= fun d => M.opt (joinD x d)
  | .split a b => evE Γ a >>= fun v => asStr v.d >>= fun x => evE Γ b >>= fun u => M.opt (splitD x u.d)
  | .index p a => opnd p (evE Γ p) >>= fun r => deref r >>= fun d => asLst d >>= fun _ => evE Γ a >>= fun v => deref r >>= fun d => M.opt ((indexD d v.d).map fun n => sh (.int n))
  | .count p a => opnd p (evE Γ p) >>= fun r => deref r >>= fun d => asLst d >>= fun _ => evE Γ a >>= fun v => deref r >>= fun d => M.opt ((countD d v.d).map fun n => sh (.int n))
  | .strGetE ks vs a dflt => evL Γ vs >>= fun ds => evE Γ a >>= fun v => asStr v.d >>= fun x => evE Γ dflt >>= fun w => pure (sh (getD2 ks ds x w.d))
  | .strGet ks a dflt => evE Γ a >>= fun v => asStr v.d >>= fun x => pure (sh (.int (strKeyGet ks x dflt)))
  | .lamc d known hs body => fun ρ => match evE Γ body (hide ρ) with
    | .ok _ _ => .ok (sh (.str d)) ρ
    | .err e _ => if e.cls ∈ known then (match hs.lookup e.cls with
      | some w => .ok (sh (.str w)) ρ
      | none => .bad) else .bad
    | .bad => .bad
  | .callV i tbl es => rdVar i >>= fun v => M.opt (fnAt tbl v.d) >>= fun j => evA Γ es >>= fun as => callF (Γ.fn j) as
def evL (Γ : Gm) : List E → M (List D)
  | [] => pure []
  | e :: es => evE Γ e >>= fun v => evL Γ es >>= fun ds => pure (v.d :: ds)
def evO (Γ : Gm) : Option E → M (Option D)
  | none => pure none
  | some e => evE Γ e >>= fun v => pure (some v.d)
def evC (Γ : Gm) : Option E → M Bool
  | none => pure true
  | some e => evE Γ e >>= asBl
def evA (Γ : Gm) : List E → M (List Arg)
  | [] => pure []
  | e :: es => match e.peek with
    | some i => see i >>= fun _ => evA Γ es >>= fun as => pure (.bor i :: as)
    | none => (match e.isIo with
      | some i => see i >>= fun _ => evA Γ es >>= fun as => pure (.io i :: as)
      | none => evE Γ e >>= fun v => evA Γ es >>= fun as => pure (.val v.d :: as))
end
/-- values side by side, what is new stays owned -/
def evV (Γ : Gm) : List E → M (List Vl)
  | [] => pure []
  | e :: es => evE Γ e >>= fun v => evV Γ es >>= fun vs => pure (v :: vs)
def putAll : List Nat → List Vl → M Unit
  | [], [] => pure ()
  | i :: is, v :: vs => put i v >>= fun _ => putAll is vs
  | _, _ => M.bad
def evSrc (Γ : Gm) (sk : Nat) (s1 : E) (s2 : Option E) : M (List D) :=
  evE Γ s1 >>= fun v => evO Γ s2 >>= fun d2 => M.opt (itemsOf sk v.d d2)
/-- x = (w, e.f) or x = w + str(e.f) for the error's field -/
def asSuite (i x kind : Nat) (w f : Str) (fld : Option (Str × D)) : M Fl := fun ρ => match ρ[i]?, fld with
  | some none, some (f', d) => if f' = f then (match kind, d with
    | 0, d => (put x (sh (.tup [.str w, d])) >>= fun _ => pure .nx) ρ
    | 1, .int n => if n.natAbs.log2 < 1920 ∧ w.length ≤ 1000 then (put x (sh (.str (w ++ toString n))) >>= fun _ => pure .nx) ρ else .bad
    | _, _ => .bad) else .bad
  | _, _ => .bad
mutual
def evS (Γ : Gm) : S → M Fl
  | .asg i e => evE Γ e >>= fun v => put i v >>= fun _ => pure .nx
  | .asgT tg e => evE Γ e >>= fun v => asgTg tg v.d >>= fun _ => pure .nx
  | .par is es => evV Γ es >>= fun vs => putAll is vs >>= fun _ => pure .nx
  | .app i e => slotd i >>= fun d => asLst d >>= fun _ => evE Γ e >>= fun v => change i (appd v.d) >>= fun _ => pure .nx
  | .setix i k e => evE Γ e >>= fun v => see i >>= fun _ => evE Γ k >>= fun k => change i (setd k.d v.d) >>= fun _ => pure .nx
  | .ife c a b => evE Γ c >>= fun v => asBl v >>= fun k => sel k (evSs Γ a) (evSs Γ b)
  | .forIn tg sk s1 s2 body => evSrc Γ sk s1 s2 >>= fun xs => loopL (fun x => asgTg tg x >>= fun _ => evSs Γ body) xs
  | .whl fuel c body => whileL (evE Γ c >>= asBl) (evSs Γ body) fuel
  | .ret e => evE Γ e >>= fun v => pure (.rt v)
  | .retN => pure (.rt (sh .non))
  | .ex e => evE Γ e >>= fun _ => pure .nx
  | .pass => pure .nx
  | .bad => M.bad
  | .raise cls none => M.err ⟨cls, none⟩
  | .raise cls (some (f, e)) => evE Γ e >>= fun v => M.err ⟨cls, some (f, v.d)⟩
  | .tryAs known body cls i x kind w f => tryL (evSs Γ body) fun e => if e.cls ∈ known then (if e.cls = cls then some (asSuite i x kind w f e.fld) else none) else some M.bad
  | .tryN known body hs => tryL (evSs Γ body) fun e => if e.cls ∈ known then evH Γ hs e else some M.bad
def evSs (Γ : Gm) : List S → M Fl
  | [] => pure .nx
  | s :: ss => evS Γ s >>= fun f => match f with
    | .nx => evSs Γ ss
    | .rt v => pure (.rt v)
def evH (Γ : Gm) : List (Str × List S) → Ex → Option (M Fl)
  | [], _ => none
  | (c, ss) :: r, e => if e.cls = c then some (evSs Γ ss) else evH Γ r e
end
/-! ### a def -/
def init : List Bool → List D → Env
  | m :: ms, d :: ds => some (if m then .pin else .shr, d) :: init ms ds
  | _, _ => []
def outsAt : List Bool → Env → Option (List D)
  | [], _ => some []
  | true :: ms, some (.pin, d) :: ρ => (outsAt ms ρ).map (d :: ·)
  | true :: _, _ => none
  | false :: ms, _ :: ρ => (outsAt ms ρ).map (.non :: ·)
  | false :: _, [] => none
/-- a def with so many slots, its parameters first (true: by reference) -/
def semD (mask : List Bool) (n : Nat) (m : M Fl) : Fn := fun ds =>
  if ds.length = mask.length then (match m (init mask ds ++ List.replicate (n - mask.length) none) with
    | .ok f ρ => (match outsAt mask ρ with
      | some outs => .ok (match f with
        | .rt v => v
        | .nx => sh .non) outs
      | none => .bad)
    | .err e ρ => (match outsAt mask ρ with
      | some outs => .err e outs
      | none => .bad)
    | .bad => .bad) else .bad
end PL
/-! PLRel: how data lies in the abstract heap; the readings of PLEval over the hand layer. -/
namespace PL
open PySem L2 PySem.Spec PyProof.Rows
/-- the address that the written part's top has for a name -/
def gaK (K : PySem.W.Frag) (x : Str) : Addr := match PySem.W.nsIn K mainGlobals x with
  | some (some (.ref a)) => a
  | _ => 0
mutual
inductive Rp (K : PySem.W.Frag) (F : Hp) : V → D → Prop
  | non : Rp K F .non .non
  | bl (b : Bool) : Rp K F (.bl b) (.bl b)
  | int (i : Int) : Rp K F (.int i) (.int i)
  | str (s : Str) : Rp K F (.str s) (.str s)
  | tup {a : Addr} {xs : List V} {ds : List D} : SqT K F a xs → Rps K F xs ds → Rp K F (.ref a) (.tup ds)
  | lst {a : Addr} {xs : List V} {ds : List D} : F a = some (.lst xs) → Rps K F xs ds → Rp K F (.ref a) (.lst ds)
  | ro {a : Addr} {xs : List V} {ds : List D} : SqL K F a xs → Rps K F xs ds → Rp K F (.ref a) (.ro ds)
  | fn (x : Str) : Rp K F (.ref (gaK K x)) (.fn x)
inductive Rps (K : PySem.W.Frag) (F : Hp) : List V → List D → Prop
  | nil : Rps K F [] []
  | cons {v : V} {vs : List V} {d : D} {ds : List D} : Rp K F v d → Rps K F vs ds → Rps K F (v :: vs) (d :: ds)
end
theorem sqT_mono {K : PySem.W.Frag} {F F' : Hp} {a : Addr} {xs : List V} (e : Same F F') (h : SqT K F a xs) : SqT K F' a xs := by
  rcases h with (h | ⟨o, h⟩) | h
  · exact .inl (.inl (e _ _ h))
  · exact .inl (.inr ⟨o, e _ _ h⟩)
  · exact .inr h
mutual
theorem Rp.mono {K : PySem.W.Frag} {F F' : Hp} (e : Same F F') : ∀ {v : V} {d : D}, Rp K F v d → Rp K F' v d
  | _, _, .non => .non
  | _, _, .bl b => .bl b
  | _, _, .int i => .int i
  | _, _, .str s => .str s
  | _, _, .tup h r => .tup (sqT_mono e h) (Rps.mono e r)
  | _, _, .lst h r => .lst (e _ _ h) (Rps.mono e r)
  | _, _, .ro h r => .ro (e.seq h) (Rps.mono e r)
  | _, _, .fn x => .fn x
theorem Rps.mono {K : PySem.W.Frag} {F F' : Hp} (e : Same F F') : ∀ {vs : List V} {ds : List D}, Rps K F vs ds → Rps K F' vs ds
  | _, _, .nil => .nil
  | _, _, .cons h r => .cons (Rp.mono e h) (Rps.mono e r)
end
/-- a heap that bears the same tuples bears the same flat data -/
def SameT (F F' : Hp) : Prop := ∀ a u, (∀ xs, u ≠ .lst xs) → F a = some u → F' a = some u
mutual
theorem Rp.flat {K : PySem.W.Frag} {F F' : Hp} (e : SameT F F') : ∀ {v : V} {d : D}, Rp K F v d → d.flat = true → Rp K F' v d
  | _, _, .non, _ => .non
  | _, _, .bl b, _ => .bl b
  | _, _, .int i, _ => .int i
  | _, _, .str s, _ => .str s
  | _, _, .tup h r, q => .tup (by
      rcases h with (h | ⟨o, h⟩) | h
      · exact .inl (.inl (e _ _ (fun xs z => nomatch z) h))
      · exact .inl (.inr ⟨o, e _ _ (fun xs z => nomatch z) h⟩)
      · exact .inr h) (Rps.flat e r (by simpa [D.flat] using q))
  | _, _, .lst h r, q => by simp [D.flat] at q
  | _, _, .ro h r, q => by simp [D.flat] at q
  | _, _, .fn x, _ => .fn x
theorem Rps.flat {K : PySem.W.Frag} {F F' : Hp} (e : SameT F F') : ∀ {vs : List V} {ds : List D}, Rps K F vs ds → D.flats ds = true → Rps K F' vs ds
  | _, _, .nil, _ => .nil
  | _, _, .cons h r, q => by
    simp only [D.flats, Bool.and_eq_true] at q
    exact .cons (Rp.flat e h q.1) (Rps.flat e r q.2)
end
section
variable {K : PySem.W.Frag} {F : Hp}
theorem Rps.length : ∀ {vs : List V} {ds : List D}, Rps K F vs ds → vs.length = ds.length
  | _, _, .nil => rfl
  | _, _, .cons _ r => congrArg (· + 1) (Rps.length r)
theorem Rps.append : ∀ {vs ws : List V} {ds es : List D}, Rps K F vs ds → Rps K F ws es → Rps K F (vs ++ ws) (ds ++ es)
  | _, _, _, _, .nil, s => s
  | _, _, _, _, .cons h r, s => .cons h (Rps.append r s)
theorem Rps.get : ∀ {vs : List V} {ds : List D} {i : Nat} {d : D}, Rps K F vs ds → ds[i]? = some d → ∃ v, vs[i]? = some v ∧ Rp K F v d
  | _, _, _, _, .nil, e => by simp at e
  | _, _, 0, _, .cons h _, e => by simp at e; subst e; exact ⟨_, rfl, h⟩
  | _, _, i + 1, d, .cons _ r, e => by
    obtain ⟨v, h1, h2⟩ := Rps.get (i := i) (d := d) r (by simpa using e)
    exact ⟨v, by simpa using h1, h2⟩
theorem Rps.getV : ∀ {vs : List V} {ds : List D} {i : Nat} {v : V}, Rps K F vs ds → vs[i]? = some v → ∃ d, ds[i]? = some d ∧ Rp K F v d
  | _, _, _, _, .nil, e => by simp at e
  | _, _, 0, _, .cons h _, e => by simp at e; subst e; exact ⟨_, rfl, h⟩
  | _, _, i + 1, v, .cons _ r, e => by
    obtain ⟨d, h1, h2⟩ := Rps.getV (i := i) (v := v) r (by simpa using e)
    exact ⟨d, by simpa using h1, h2⟩
theorem Rps.take : ∀ {vs : List V} {ds : List D} (n : Nat), Rps K F vs ds → Rps K F (vs.take n) (ds.take n)
  | _, _, 0, _ => by simp; exact .nil
  | _, _, n + 1, .nil => by simp; exact .nil
  | _, _, n + 1, .cons h r => by simp only [List.take_succ_cons]; exact .cons h (Rps.take n r)
theorem Rps.drop : ∀ {vs : List V} {ds : List D} (n : Nat), Rps K F vs ds → Rps K F (vs.drop n) (ds.drop n)
  | _, _, 0, h => by simpa using h
  | _, _, n + 1, .nil => by simp; exact .nil
  | _, _, n + 1, .cons h r => by simpa using Rps.drop n r
theorem Rps.set : ∀ {vs : List V} {ds : List D} {v : V} {d : D} (n : Nat), Rp K F v d → Rps K F vs ds → Rps K F (vs.set n v) (ds.set n d)
  | _, _, _, _, _, _, .nil => by simp; exact .nil
  | _, _, _, _, 0, q, .cons h r => .cons q r
  | _, _, _, _, n + 1, q, .cons h r => .cons h (Rps.set n q r)
theorem Rps.reverse {vs : List V} {ds : List D} (h : Rps K F vs ds) : Rps K F vs.reverse ds.reverse := by
  induction vs generalizing ds with
  | nil => cases h; exact .nil
  | cons v vs ih =>
    cases h with
    | cons h r =>
      rw [List.reverse_cons, List.reverse_cons]
      exact (ih r).append (.cons h .nil)
theorem Rps.rep {vs : List V} {ds : List D} (h : Rps K F vs ds) : ∀ n : Nat, Rps K F (List.replicate n vs).flatten (List.replicate n ds).flatten
  | 0 => by simp; exact .nil
  | n + 1 => by rw [List.replicate_succ, List.replicate_succ, List.flatten_cons, List.flatten_cons]; exact h.append (Rps.rep h n)
theorem Rps.ints : ∀ {vs : List V} {ds : List D} {ns : List Int}, Rps K F vs ds → isInts ds = some ns → vs = ns.map V.int
  | _, _, ns, .nil, e => by simp [isInts] at e; subst e; rfl
  | _, _, ns, .cons h r, e => by
    cases h with
    | int i =>
      simp only [isInts, Option.map_eq_some_iff] at e
      obtain ⟨m, e1, rfl⟩ := e
      rw [Rps.ints r e1]; rfl
    | _ => simp [isInts] at e
theorem Rps.bls : ∀ {vs : List V} {ds : List D} {ns : List Bool}, Rps K F vs ds → isBls ds = some ns → vs = ns.map V.bl
  | _, _, ns, .nil, e => by simp [isBls] at e; subst e; rfl
  | _, _, ns, .cons h r, e => by
    cases h with
    | bl i =>
      simp only [isBls, Option.map_eq_some_iff] at e
      obtain ⟨m, e1, rfl⟩ := e
      rw [Rps.bls r e1]; rfl
    | _ => simp [isBls] at e
theorem Rps.strs : ∀ {vs : List V} {ds : List D} {ns : List Str}, Rps K F vs ds → isStrs ds = some ns → vs = ns.map V.str
  | _, _, ns, .nil, e => by simp [isStrs] at e; subst e; rfl
  | _, _, ns, .cons h r, e => by
    cases h with
    | str i =>
      simp only [isStrs, Option.map_eq_some_iff] at e
      obtain ⟨m, e1, rfl⟩ := e
      rw [Rps.strs r e1]; rfl
    | _ => simp [isStrs] at e
end
/-! ### the slots -/
/-- an owned object at a -/
def OwnAt (K : PySem.W.Frag) (F G H : Hp) (a : Addr) (d : D) : Prop :=
  F a = none ∧ G a = none ∧ match d with
    | .lst ds => ∃ xs, H a = some (.lst xs) ∧ Rps K F xs ds
    | _ => False
/-- no table of code objects, no code object -/
def notTab : HO → Prop
  | .tbl _ => False
  | .ext _ => False
  | _ => True
/-- the pinned slots' addresses; the tables of code objects, each with its objects' name -/
structure PaT where
  f : Nat → Option Addr
  t : List (Addr × Str)
structure TbI (t : List (Addr × Str)) (F G H : Hp) : Prop where
  tabs : LamX.Tabs t H
  nt : ∀ a o, F a = some o → notTab o
  gt : t ≠ [] → ∀ a ps, G a ≠ some (.tbl ps)
theorem TbI.ext {t : List (Addr × Str)} {F G H H' : Hp} (h : TbI t F G H) (e : Same H H') : TbI t F G H' := ⟨h.tabs.ext e, h.nt, h.gt⟩
theorem TbI.new {t : List (Addr × Str)} {F G H H' : Hp} {p : Addr} {o : HO} (h : TbI t F G H) (e : Same H H') (n : notTab o) : TbI t (upd F p o) G H' := ⟨h.tabs.ext e, fun a u q => by
  by_cases ha : a = p
  · subst ha; rw [upd_same] at q; cases q; exact n
  · rw [upd_ne ha] at q; exact h.nt a u q, h.gt⟩
/-- an object that is no table written -/
theorem TbI.chg {t : List (Addr × Str)} {F G H : Hp} {p : Addr} {o : HO} {xs : List V} (h : TbI t F G H) (hp : H p = some (.lst xs)) : TbI t F G (upd H p o) := ⟨fun q hq => by
  obtain ⟨ps, h1, h2, h3⟩ := h.tabs q hq
  refine ⟨ps, by rw [upd_ne (fun z => by rw [z, hp] at h1; cases h1)]; exact h1, h2, fun pos cv hc => ?_⟩
  obtain ⟨c, e1, e2⟩ := h3 pos cv hc
  exact ⟨c, e1, by rw [upd_ne (fun z => by rw [z, hp] at e2; unfold LamX.CodeO at e2; cases e2)]; exact e2⟩, h.nt, h.gt⟩
structure EnvOk (K : PySem.W.Frag) (pa : PaT) (F G H : Hp) (σ : L2.St) (ρ : Env) : Prop where
  fh : Same F H
  gh : Same G H
  fg : ∀ a o, F a = some o → G a = none
  len : ρ.length = σ.length
  shr : ∀ (i : Nat) (d : D), ρ[i]? = some (some (Fg.shr, d)) → ∃ v, σ[i]? = some (some v) ∧ Rp K F v d
  own : ∀ (i : Nat) (g : Fg) (d : D), ρ[i]? = some (some (g, d)) → g ≠ Fg.shr → ∃ a, σ[i]? = some (some (V.ref a)) ∧ OwnAt K F G H a d
  pin : ∀ (i : Nat) (d : D), ρ[i]? = some (some (Fg.pin, d)) → ∃ a, pa.f i = some a ∧ σ[i]? = some (some (V.ref a))
  dist : ∀ (i j : Nat) (g g' : Fg) (d d' : D) (a : Addr), i ≠ j → ρ[i]? = some (some (g, d)) → g ≠ Fg.shr → ρ[j]? = some (some (g', d')) → g' ≠ Fg.shr → σ[i]? = some (some (V.ref a)) → σ[j]? ≠ some (some (V.ref a))
  tb : TbI pa.t F G H
/-- a is no owned slot's -/
def NotOwn (σ : L2.St) (ρ : Env) (a : Addr) : Prop := ∀ (i : Nat) (g : Fg) (d : D), ρ[i]? = some (some (g, d)) → g ≠ Fg.shr → σ[i]? ≠ some (some (V.ref a))
def Res (K : PySem.W.Frag) (F G H : Hp) (σ : L2.St) (ρ : Env) (v : V) (r : Vl) : Prop := match r.own with
  | false => Rp K F v r.d
  | true => ∃ a, v = .ref a ∧ OwnAt K F G H a r.d ∧ NotOwn σ ρ a
/-- an error as it lies -/
def ExR (K : PySem.W.Frag) (mg : Str → Option Value) (F : Hp) (c : Value) (x : Option Addr) (e : Ex) : Prop :=
  mg e.cls = some c ∧ match e.fld with
    | none => x = none
    | some (f, d) => ∃ a v, x = some a ∧ F a = some (.xd [(f, v)]) ∧ Rp K F v d
/-- what stays the same within a def's body: the written part, the module's names, the pinned slots, the objects of others, the wish about errors -/
structure Fx where
  K : PySem.W.Frag
  mg : Str → Option Value
  pa : PaT
  G : Hp
  W : WX
/-- how what is computed lies -/
abbrev Lie (C α : Type) := Hp → Hp → L2.St → Env → C → α → Prop
def Cont {C α : Type} (Z : Fx) (rel : Lie C α) (σ : L2.St) (F : Hp) (r : R α) (Q : C → Hp → Prop) : Prop := match r with
  | .ok a ρ => ∀ v F' H', Same F F' → EnvOk Z.K Z.pa F' Z.G H' σ ρ → rel F' H' σ ρ v a → Q v H'
  | .err e ρ => ∀ F' H' c x, Same F F' → EnvOk Z.K Z.pa F' Z.G H' σ ρ → ExR Z.K Z.mg F' c x e → Z.W c x σ H'
  | .bad => False
def Rd {C α : Type} (Z : Fx) (rel : Lie C α) (f : M α) : L2.St → Hp → (C → Hp → Prop) → Prop := fun σ H Q =>
  ∃ F ρ, EnvOk Z.K Z.pa F Z.G H σ ρ ∧ Cont Z rel σ F (f ρ) Q
/-- the ways data lies -/
abbrev lV (Z : Fx) : Lie V Vl := fun F H σ ρ v r => Res Z.K F Z.G H σ ρ v r
abbrev lD (Z : Fx) : Lie V D := fun F _ _ _ v d => Rp Z.K F v d
abbrev lDs (Z : Fx) : Lie (List V) (List D) := fun F _ _ _ vs ds => Rps Z.K F vs ds
abbrev lB : Lie Bool Vl := fun _ _ _ _ b r => r.d = .bl b
abbrev lBool : Lie Bool Bool := fun _ _ _ _ b r => r = b
def RefR (K : PySem.W.Frag) (F : Hp) (σ : L2.St) (v : V) : Ref → Prop
  | .val d => Rp K F v d
  | .slot i => σ[i]? = some (some v)
abbrev lR (Z : Fx) : Lie V Ref := fun F _ σ _ v r => RefR Z.K F σ v r
abbrev rdE (Z : Fx) (f : M Vl) : TE := Rd Z (lV Z) f
abbrev rdT (Z : Fx) (f : M Vl) : TT := Rd Z lB f
abbrev rdR (Z : Fx) (f : M Ref) : TE := Rd Z (lR Z) f
section
variable {Z : Fx} {C α β C' : Type} {rel : Lie C α} {rel' : Lie C' β} {σ : L2.St} {F F' H : Hp} {ρ : Env}
theorem Cont.mono {r : R α} {Q : C → Hp → Prop} (e : Same F F') (c : Cont Z rel σ F r Q) : Cont Z rel σ F' r Q := by
  cases r with
  | ok a ρ => exact fun v F2 H2 s => c v F2 H2 (e.trans s)
  | err x ρ => exact fun F2 H2 cl d s => c F2 H2 cl d (e.trans s)
  | bad => exact c
theorem Cont.imp {r : R α} {Q Q' : C → Hp → Prop} (c : Cont Z rel σ F r Q) (h : ∀ v H', Q v H' → Q' v H') : Cont Z rel σ F r Q' := by
  cases r with
  | ok a ρ => exact fun v F2 H2 s E l => h v H2 (c v F2 H2 s E l)
  | err x ρ => exact c
  | bad => exact c
/-- one thing, then another -/
theorem Cont.bind {f : M α} {g : α → M β} {Q : C' → Hp → Prop} (E : EnvOk Z.K Z.pa F Z.G H σ ρ) (c : Cont Z rel' σ F ((f >>= g) ρ) Q) :
    Rd Z rel f σ H fun v H1 => ∃ a F1 ρ1, Same F F1 ∧ EnvOk Z.K Z.pa F1 Z.G H1 σ ρ1 ∧ rel F1 H1 σ ρ1 v a ∧ Cont Z rel' σ F1 (g a ρ1) Q := by
  refine ⟨F, ρ, E, ?_⟩
  have c' : Cont Z rel' σ F (match f ρ with
    | .ok a ρ' => g a ρ'
    | .err e ρ' => .err e ρ'
    | .bad => .bad) Q := c
  cases q : f ρ with
  | ok a ρ1 =>
    rw [q] at c'
    exact fun v F1 H1 s E1 l => ⟨a, F1, ρ1, s, E1, l, c'.mono s⟩
  | err x ρ1 => rw [q] at c'; exact c'
  | bad => rw [q] at c'; exact c'
theorem Rd.mk {f : M α} {Q : C → Hp → Prop} (E : EnvOk Z.K Z.pa F Z.G H σ ρ) (c : Cont Z rel σ F (f ρ) Q) : Rd Z rel f σ H Q := ⟨F, ρ, E, c⟩
theorem Rd.imp {f : M α} {Q Q' : C → Hp → Prop} (r : Rd Z rel f σ H Q) (h : ∀ v H', Q v H' → Q' v H') : Rd Z rel f σ H Q' := by
  obtain ⟨F, ρ, E, c⟩ := r
  exact ⟨F, ρ, E, c.imp h⟩
/-- a value that is there -/
theorem Cont.ok {a : α} {Q : C → Hp → Prop} (c : Cont Z rel σ F (.ok a ρ) Q) (E : EnvOk Z.K Z.pa F Z.G H σ ρ) {v : C} (l : rel F H σ ρ v a) : Q v H := c v F H (Same.refl F) E l
theorem cont_opt {o : Option α} {Q : C → Hp → Prop} (c : Cont Z rel σ F (M.opt o ρ) Q) : ∃ a, o = some a ∧ Cont Z rel σ F (.ok a ρ) Q := by
  cases o with
  | none => exact c.elim
  | some a => exact ⟨a, rfl, c⟩
end
/-! ### the heap grows -/
section
variable {K : PySem.W.Frag} {pa : PaT} {F G H : Hp} {σ : L2.St} {ρ : Env}
theorem upd_same_of {H : Hp} {p : Addr} {o : HO} (h : H p = none) : Same H (upd H p o) := fun b u q => by rw [upd_ne (ne_of_none q h)]; exact q
theorem EnvOk.fnone (E : EnvOk K pa F G H σ ρ) {p : Addr} (h : H p = none) : F p = none := E.fh.free h
theorem EnvOk.gnone (E : EnvOk K pa F G H σ ρ) {p : Addr} (h : H p = none) : G p = none := E.gh.free h
theorem OwnAt.grow {a p : Addr} {o : HO} {d : D} (h : OwnAt K F G H a d) (hp : H p = none) (hF : F p = none) : OwnAt K (upd F p o) G (upd H p o) a d := by
  obtain ⟨h1, h2, h3⟩ := h
  have ne : a ≠ p := by
    rintro rfl
    cases d with
    | lst ds => obtain ⟨xs, e, _⟩ := h3; rw [hp] at e; cases e
    | _ => exact h3.elim
  refine ⟨by rw [upd_ne ne]; exact h1, h2, ?_⟩
  cases d with
  | lst ds =>
    obtain ⟨xs, e, r⟩ := h3
    exact ⟨xs, by rw [upd_ne ne]; exact e, r.mono (upd_same_of hF)⟩
  | _ => exact h3
/-- a new object, shared at once -/
theorem EnvOk.new {p : Addr} {o : HO} (E : EnvOk K pa F G H σ ρ) (hp : H p = none) (nt : notTab o := by exact True.intro) : Same F (upd F p o) ∧ EnvOk K pa (upd F p o) G (upd H p o) σ ρ := by
  have hF := E.fnone hp
  have s := upd_same_of (o := o) hF
  refine ⟨s, fun b u q => ?_, fun b u q => ?_, fun a u q => ?_, E.len, fun i d q => ?_, fun i g d q ng => ?_, E.pin, E.dist, E.tb.new (upd_same_of hp) nt⟩
  · by_cases hb : b = p
    · subst hb; rw [upd_same] at q ⊢; exact q
    · rw [upd_ne hb] at q ⊢; exact E.fh b u q
  · rw [upd_ne (ne_of_none (E.gh b u q) hp)]; exact E.gh b u q
  · by_cases ha : a = p
    · subst ha; exact E.gnone hp
    · rw [upd_ne ha] at q; exact E.fg a u q
  · obtain ⟨v, e, r⟩ := E.shr i d q
    exact ⟨v, e, r.mono s⟩
  · obtain ⟨a, e, r⟩ := E.own i g d q ng
    exact ⟨a, e, r.grow hp hF⟩
/-- a new object that nobody shares yet -/
theorem EnvOk.newOwn {p : Addr} {xs : List V} (E : EnvOk K pa F G H σ ρ) (hp : H p = none) : EnvOk K pa F G (upd H p (.lst xs)) σ ρ := by
  refine ⟨fun b u q => ?_, fun b u q => ?_, E.fg, E.len, E.shr, fun i g d q ng => ?_, E.pin, E.dist, E.tb.ext (upd_same_of hp)⟩
  · rw [upd_ne (ne_of_none (E.fh b u q) hp)]; exact E.fh b u q
  · rw [upd_ne (ne_of_none (E.gh b u q) hp)]; exact E.gh b u q
  · obtain ⟨a, e, h1, h2, h3⟩ := E.own i g d q ng
    refine ⟨a, e, h1, h2, ?_⟩
    cases d with
    | lst ds =>
      obtain ⟨ys, e3, r⟩ := h3
      exact ⟨ys, by rw [upd_ne (ne_of_none e3 hp)]; exact e3, r⟩
    | _ => exact h3
theorem EnvOk.notOwn {p : Addr} (E : EnvOk K pa F G H σ ρ) (hp : H p = none) : NotOwn σ ρ p := fun i g d q ng z => by
  obtain ⟨a, e, _, _, h3⟩ := E.own i g d q ng
  rw [e] at z; cases z
  cases d with
  | lst ds => obtain ⟨ys, e3, _⟩ := h3; rw [hp] at e3; cases e3
  | _ => exact h3
theorem EnvOk.ownNew {p : Addr} {xs : List V} {ds : List D} (E : EnvOk K pa F G H σ ρ) (hp : H p = none) (r : Rps K F xs ds) : Res K F G (upd H p (.lst xs)) σ ρ (.ref p) (ow (.lst ds)) :=
  ⟨p, rfl, ⟨E.fnone hp, E.gnone hp, xs, upd_same, r⟩, E.notOwn hp⟩
/-- an owned value is shared -/
theorem EnvOk.share {v : V} {r : Vl} (E : EnvOk K pa F G H σ ρ) (h : Res K F G H σ ρ v r) : ∃ F', Same F F' ∧ EnvOk K pa F' G H σ ρ ∧ Rp K F' v r.d := by
  obtain ⟨ow, d⟩ := r
  cases ow with
  | false => exact ⟨F, Same.refl F, E, h⟩
  | true =>
    obtain ⟨a, rfl, ⟨h1, h2, h3⟩, no⟩ := h
    cases d with
    | lst ds =>
      obtain ⟨xs, e, r⟩ := h3
      have s := upd_same_of (o := HO.lst xs) h1
      refine ⟨upd F a (.lst xs), s, ⟨fun b u q => ?_, E.gh, fun b u q => ?_, E.len, fun i d q => ?_, fun i g d q ng => ?_, E.pin, E.dist, E.tb.new (Same.refl H) True.intro⟩, .lst upd_same (r.mono s)⟩
      · by_cases hb : b = a
        · subst hb; rw [upd_same] at q; rw [← q]; exact e
        · rw [upd_ne hb] at q; exact E.fh b u q
      · by_cases hb : b = a
        · subst hb; exact h2
        · rw [upd_ne hb] at q; exact E.fg b u q
      · obtain ⟨v, e, r⟩ := E.shr i d q
        exact ⟨v, e, r.mono s⟩
      · obtain ⟨b, eb, k1, k2, k3⟩ := E.own i g d q ng
        have hb : b ≠ a := by
          rintro rfl
          exact no i g d q ng eb
        refine ⟨b, eb, by rw [upd_ne hb]; exact k1, k2, ?_⟩
        cases d with
        | lst ds2 => obtain ⟨ys, e3, r3⟩ := k3; exact ⟨ys, e3, r3.mono s⟩
        | _ => exact k3
    | _ => exact h3.elim
/-- what is looked at: shared, or an owned list -/
def Seen (K : PySem.W.Frag) (F H : Hp) (v : V) (d : D) : Prop := Rp K F v d ∨ ∃ a xs ds, v = .ref a ∧ d = .lst ds ∧ H a = some (.lst xs) ∧ Rps K F xs ds
theorem EnvOk.slotd {i : Nat} {d : D} {v : V} {ρ' : Env} (E : EnvOk K pa F G H σ ρ) (h : PL.slotd i ρ = .ok d ρ') (hv : σ[i]? = some (some v)) : ρ' = ρ ∧ Seen K F H v d := by
  unfold PL.slotd at h
  split at h
  · rename_i f d' q
    split at h
    · cases h
    · rename_i nf
      cases h
      obtain ⟨a, e, _, _, h3⟩ := E.own i f d q nf
      rw [e] at hv; cases hv
      refine ⟨rfl, .inr ?_⟩
      cases d with
      | lst ds => obtain ⟨xs, e3, r⟩ := h3; exact ⟨a, xs, ds, rfl, rfl, e3, r⟩
      | _ => exact h3.elim
  · cases h
end
/-- an operand's value -/
theorem deref_seen {Z : Fx} {C β : Type} {rel : Lie C β} {σ : L2.St} {F H : Hp} {ρ : Env} {r : Ref} {v : V} {g : D → M β} {Q : C → Hp → Prop} (E : EnvOk Z.K Z.pa F Z.G H σ ρ) (h : RefR Z.K F σ v r) (c : Cont Z rel σ F ((deref r >>= g) ρ) Q) :
    ∃ d, Seen Z.K F H v d ∧ Cont Z rel σ F (g d ρ) Q := by
  cases r with
  | val d => exact ⟨d, .inl h, c⟩
  | slot i =>
    cases q : slotd i ρ with
    | ok d ρ' =>
      rw [bind_ok (f := deref (.slot i)) q] at c
      obtain ⟨rfl, s⟩ := E.slotd q h
      exact ⟨d, s, c⟩
    | err e ρ' =>
      unfold slotd at q
      split at q <;> (try split at q) <;> cases q
    | bad =>
      rw [bind_bad (f := deref (.slot i)) q] at c
      exact c.elim
theorem RefR.mono {K : PySem.W.Frag} {F F' : Hp} {σ : L2.St} {v : V} {r : Ref} (s : Same F F') (h : RefR K F σ v r) : RefR K F' σ v r := by
  cases r with
  | val d => exact Rp.mono s h
  | slot i => exact h
end PL
/-! PLOps: the operators' and built-ins' rules for data. -/
namespace PL
open PySem L2 PySem.Spec PyProof.Rows
theorem szL_eq : szL = sizeLine := by rw [sizeLine_eq]; rfl
section
variable {K : PySem.W.Frag} {F H : Hp} {v : V}
theorem seen_int {i : Int} (h : Seen K F H v (.int i)) : v = .int i := by
  rcases h with h | ⟨_, _, _, _, e, _⟩
  · cases h; rfl
  · cases e
theorem seen_bl {i : Bool} (h : Seen K F H v (.bl i)) : v = .bl i := by
  rcases h with h | ⟨_, _, _, _, e, _⟩
  · cases h; rfl
  · cases e
theorem seen_str {i : Str} (h : Seen K F H v (.str i)) : v = .str i := by
  rcases h with h | ⟨_, _, _, _, e, _⟩
  · cases h; rfl
  · cases e
theorem seen_non (h : Seen K F H v .non) : v = .non := by
  rcases h with h | ⟨_, _, _, _, e, _⟩
  · cases h; rfl
  · cases e
theorem seen_tup {ds : List D} (fh : Same F H) (h : Seen K F H v (.tup ds)) : ∃ a xs, v = .ref a ∧ SqT K H a xs ∧ Rps K F xs ds := by
  rcases h with h | ⟨_, _, _, _, e, _⟩
  · cases h with
    | tup s r => exact ⟨_, _, rfl, sqT_mono fh s, r⟩
  · cases e
theorem seen_lst {ds : List D} (fh : Same F H) (h : Seen K F H v (.lst ds)) : ∃ a xs, v = .ref a ∧ H a = some (.lst xs) ∧ Rps K F xs ds := by
  rcases h with h | ⟨a, xs, _, e1, e, e2, r⟩
  · cases h with
    | lst s r => exact ⟨_, _, rfl, fh _ _ s, r⟩
  · cases e; exact ⟨a, xs, e1, e2, r⟩
theorem seen_ro {ds : List D} (fh : Same F H) (h : Seen K F H v (.ro ds)) : ∃ a xs, v = .ref a ∧ SqL K H a xs ∧ Rps K F xs ds := by
  rcases h with h | ⟨a, xs, _, e1, e, e2, r⟩
  · cases h with
    | ro s r => exact ⟨_, _, rfl, fh.seq s, r⟩
  · cases e
theorem seen_scal {d : D} (hs : isScal d = true) (h : Seen K F H v d) : Rp K F v d := by
  rcases h with h | ⟨_, _, _, _, e, _⟩
  · exact h
  · subst e; simp [isScal] at hs
end
section
variable {Z : Fx} {σ : L2.St} {F H : Hp} {ρ : Env} {Q : VK}
theorem cont_val {v : V} {d : D} (c : Cont Z (lV Z) σ F (.ok (sh d) ρ) Q) (E : EnvOk Z.K Z.pa F Z.G H σ ρ) (r : Rp Z.K F v d) : Q v H := c.ok E r
theorem cont_tup {xs : List V} {ds : List D} (c : Cont Z (lV Z) σ F (.ok (sh (.tup ds)) ρ) Q) (E : EnvOk Z.K Z.pa F Z.G H σ ρ) (r : Rps Z.K F xs ds) : ∀ p, H p = none → Q (.ref p) (upd H p (.tup xs)) := fun p hp =>
  have e := E.new (o := .tup xs) hp
  c _ _ _ e.1 e.2 (.tup (SqT.of upd_same) (r.mono e.1))
theorem cont_lst {xs : List V} {ds : List D} (c : Cont Z (lV Z) σ F (.ok (ow (.lst ds)) ρ) Q) (E : EnvOk Z.K Z.pa F Z.G H σ ρ) (r : Rps Z.K F xs ds) : ∀ p, H p = none → Q (.ref p) (upd H p (.lst xs)) := fun p hp =>
  c _ _ _ (Same.refl F) (E.newOwn hp) (E.ownNew hp r)
end
/-- behind both operands -/
def K2 (Z : Fx) (f : D → D → M Vl) : R2 := fun x y H Q => ∃ σ F ρ dx dy, EnvOk Z.K Z.pa F Z.G H σ ρ ∧ Seen Z.K F H x dx ∧ Seen Z.K F H y dy ∧ Cont Z (lV Z) σ F (f dx dy ρ) Q
def K1 (Z : Fx) (f : D → M Vl) : V → Hp → VK → Prop := fun x H Q => ∃ σ F ρ dx, EnvOk Z.K Z.pa F Z.G H σ ρ ∧ Seen Z.K F H x dx ∧ Cont Z (lV Z) σ F (f dx ρ) Q
/-- calls -/
def KC (Z : Fx) (f : D → M Vl) : List V → Hp → VK → Prop := fun vs H Q => ∃ x, vs = [x] ∧ K1 Z f x H Q
def KC2 (Z : Fx) (f : D → D → M Vl) : List V → Hp → VK → Prop := fun vs H Q => ∃ x y, vs = [x, y] ∧ K2 Z f x y H Q
def opB : Bop → Operator
  | .add => .Add
  | .sub => .Sub
  | .mul => .Mult
  | .fdiv => .FloorDiv
  | .mod => .Mod
  | .pow => .Pow
def opC : Cop → CmpOp
  | .eq => .Eq
  | .ne => .NotEq
  | .lt => .Lt
  | .le => .LtE
  | .gt => .Gt
  | .ge => .GtE
section
variable {X : Cx} {Z : Fx}
theorem mul_text (x : Str) (k : Int) : PySem.Txt.mul x k = ⟨(List.replicate k.toNat x.cps.toList).flatten.toArray⟩ := by
  unfold PySem.Txt.mul
  have z : ∀ (n : Nat) (acc : Array Nat), (List.replicate n x.cps).foldl (· ++ ·) acc = acc ++ (List.replicate n x.cps.toList).flatten.toArray := by
    intro n
    induction n with
    | zero => intro acc; simp
    | succ n ih =>
      intro acc
      rw [List.replicate_succ, List.foldl_cons, ih, List.replicate_succ, List.flatten_cons]
      apply Array.ext'
      simp
  by_cases h1 : k < 1
  · rw [if_pos h1]
    have e : k.toNat = 0 := by omega
    rw [e]
    simp [Str.empty]
  · rw [if_neg h1]
    split
    · rename_i h2
      rw [Bool.or_eq_true] at h2
      rcases h2 with h2 | h2
      · have e : k = 1 := eq_of_beq h2
        subst e
        obtain ⟨c⟩ := x
        simp
      · have e : x.length = 0 := eq_of_beq h2
        obtain ⟨c⟩ := x
        have e' : c.size = 0 := e
        have e2 : c = #[] := Array.eq_empty_of_size_eq_zero e'
        subst e2
        simp
    · rw [z]
      simp
theorem op_bin (hK : X.K = Z.K) (b : Bop) : OpR X (binaryOp (opB b)) (K2 Z fun dx dy => M.opt (bin b dx dy)) := by
  obtain ⟨K, mg, pa, G, W⟩ := Z
  cases hK
  intro pins s σ' H x y v u Q I rx ry ⟨σ, F, ρ, dx, dy, E, hx, hy, c⟩
  replace c := cont_opt c
  obtain ⟨r, e, c⟩ := c
  unfold bin at e
  split at e
  · cases e; cases seen_int hx; cases seen_int hy
    exact op_add pins s σ' H _ _ v u Q I rx ry ⟨_, _, rfl, rfl, cont_val c E (.int _)⟩
  · split at e
    · rename_i hl
      cases e; cases seen_str hx; cases seen_str hy
      exact op_add_str pins s σ' H _ _ v u Q I rx ry ⟨_, _, rfl, rfl, by rw [← szL_eq]; exact hl, cont_val c E (.str _)⟩
    · cases e
  · split at e
    · rename_i hl
      cases e
      obtain ⟨a, xs, rfl, sx, r1⟩ := seen_tup E.fh hx
      obtain ⟨b', ys, rfl, sy, r2⟩ := seen_tup E.fh hy
      have rr := r1.append r2
      refine op_catA pins s σ' H _ _ v u Q I rx ry ⟨a, b', xs, ys, rfl, rfl, sx, sy, by rw [← szL_eq, r1.length, r2.length]; exact hl, fun e1 => ?_, fun _ e1 => ?_, fun _ _ => cont_tup c E rr⟩
      · subst e1
        rcases hy with hy | ⟨_, _, _, _, e, _⟩
        · cases r1; exact cont_val c E hy
        · cases e
      · subst e1
        rcases hx with hx | ⟨_, _, _, _, e, _⟩
        · cases r2; rw [List.append_nil] at c; exact cont_val c E hx
        · cases e
    · cases e
  · split at e
    · rename_i hl
      cases e
      obtain ⟨a, xs, rfl, sx, r1⟩ := seen_lst E.fh hx
      obtain ⟨b', ys, rfl, sy, r2⟩ := seen_lst E.fh hy
      exact op_cat pins s σ' H _ _ v u Q I rx ry ⟨a, b', xs, ys, rfl, rfl, sx, sy, by rw [← szL_eq, r1.length, r2.length]; exact hl, cont_lst c E (r1.append r2)⟩
    · cases e
  · cases e; cases seen_int hx; cases seen_int hy
    exact op_sub pins s σ' H _ _ v u Q I rx ry ⟨_, _, rfl, rfl, cont_val c E (.int _)⟩
  · split at e
    · rename_i hl
      cases e; cases seen_int hx; cases seen_int hy
      have q := cont_val c E (.int _)
      rw [Bool.or_eq_true, Bool.or_eq_true] at hl
      rcases hl with (hl | hl) | hl
      · exact op_mul pins s σ' H _ _ v u Q I rx ry ⟨_, _, rfl, rfl, .inl (small64_of hl), q⟩
      · exact op_mul pins s σ' H _ _ v u Q I rx ry ⟨_, _, rfl, rfl, .inr (small64_of hl), q⟩
      · exact op_mulW pins s σ' H _ _ v u Q I rx ry ⟨_, _, rfl, rfl, (of_decide_eq_true (p := (_ : Int).natAbs.log2 + (_ : Int).natAbs.log2 < 1000000) hl), q⟩
    · cases e
  · split at e
    · rename_i hl
      cases e
      obtain ⟨a, xs, rfl, sx, r1⟩ := seen_tup E.fh hx
      cases seen_int hy
      obtain ⟨l1, l2, l3, l4⟩ := hl
      refine op_repT pins s σ' H _ _ v u Q I rx ry ⟨a, _, xs, rfl, rfl, sx, fun e => ?_, l2, l3, by rw [r1.length]; exact l4, cont_tup c E (r1.rep _)⟩
      subst e; cases r1; exact l1 rfl
    · cases e
  · split at e
    · rename_i hl
      cases e
      obtain ⟨a, xs, rfl, sx, r1⟩ := seen_lst E.fh hx
      cases seen_int hy
      obtain ⟨l1, l2, l3⟩ := hl
      exact op_rep pins s σ' H _ _ v u Q I rx ry ⟨a, _, xs, rfl, rfl, sx, l1, l2, by rw [← szL_eq, r1.length]; exact l3, cont_lst c E (r1.rep _)⟩
    · cases e
  · split at e
    · rename_i hl
      cases e; cases seen_str hx; cases seen_int hy
      obtain ⟨l1, l2, l3⟩ := hl
      obtain ⟨t, rfl⟩ := rx
      obtain ⟨t', rfl⟩ := ry
      refine SB.mul (mulOk_of 1000 10000 l3 l2 l1 (by decide) (by decide)) fun t2 k => ?_
      rw [mul_text]
      exact ⟨.str _, H, I.tok _, ⟨_, rfl⟩, cont_val c E (.str _)⟩
    · cases e
  · split at e
    · rename_i hl
      cases e; cases seen_int hx; cases seen_int hy
      exact op_fdivW pins s σ' H _ _ v u Q I rx ry ⟨_, _, rfl, rfl, hl, cont_val c E (.int _)⟩
    · cases e
  · split at e
    · rename_i hl
      cases e; cases seen_int hx; cases seen_int hy
      exact op_mod pins s σ' H _ _ v u Q I rx ry ⟨_, _, rfl, rfl, hl, cont_val c E (.int _)⟩
    · cases e
  · split at e
    · rename_i hl
      cases e; cases seen_int hx; cases seen_int hy
      exact op_pow pins s σ' H _ _ v u Q I rx ry ⟨_, _, rfl, rfl, hl, cont_val c E (.int _)⟩
    · cases e
  · cases e
end
end PL
/-! PLOps2: comparisons, membership, items, slices, built-ins. -/
namespace PL
open PySem L2 PySem.Spec PyProof.Rows
/-! ### data as the library's data -/
mutual
theorem rp_dp {K : PySem.W.Frag} {F H : Hp} (e : Same F H) : ∀ {n : Nat} {v : V} {d : D}, Rp K F v d → d.cmpb n = true → Dp K H v d.toPy
  | _, _, _, .non, _ => .non
  | _, _, _, .bl b, _ => .bl b
  | _, _, _, .int i, _ => .int i
  | _, _, _, .str s, _ => .str s
  | n + 1, _, _, .tup h r, q => .tup (sqT_mono e h) (rps_dp e r (by simpa [D.cmpb] using q))
  | n + 1, _, _, .lst h r, q => .lst (SqL.of (e _ _ h)) (rps_dp e r (by simpa [D.cmpb] using q))
  | 0, _, _, .tup h r, q => by simp [D.cmpb] at q
  | 0, _, _, .lst h r, q => by simp [D.cmpb] at q
  | _, _, _, .ro h r, q => by simp [D.cmpb] at q
theorem rps_dp {K : PySem.W.Frag} {F H : Hp} (e : Same F H) : ∀ {n : Nat} {vs : List V} {ds : List D}, Rps K F vs ds → D.cmpbs n ds = true → DpAll K H vs (D.toPys ds)
  | _, _, _, .nil, _ => .nil
  | _, _, _, .cons h r, q => by
    simp only [D.cmpbs, Bool.and_eq_true] at q
    exact .cons (rp_dp e h q.1) (rps_dp e r q.2)
end
theorem seen_dp {K : PySem.W.Frag} {F H : Hp} (e : Same F H) {n : Nat} {v : V} {d : D} (h : Seen K F H v d) (q : d.cmpb n = true) : Dp K H v d.toPy := by
  rcases h with h | ⟨a, xs, ds, rfl, rfl, e2, r⟩
  · exact rp_dp e h q
  · cases n with
    | zero => simp [D.cmpb] at q
    | succ n => exact .lst (SqL.of e2) (rps_dp e r (by simpa [D.cmpb] using q))
mutual
theorem cmpb_lay : ∀ {n : Nat} {d : D}, d.cmpb n = true → d.toPy.canLay0 = true ∧ d.toPy.depth ≤ n
  | _, .non, _ => by simp [D.toPy, PyData.canLay0, PyData.depth]
  | _, .bl _, _ => by simp [D.toPy, PyData.canLay0, PyData.depth]
  | _, .int _, _ => by simp [D.toPy, PyData.canLay0, PyData.depth]
  | n, .str s, q => by
    have q' : s.cps.all (· < 0x110000) = true := by
      cases n <;> simpa only [D.cmpb] using q
    refine ⟨?_, by simp [D.toPy, PyData.depth]⟩
    simp only [D.toPy, PyData.canLay0]
    exact q'
  | n + 1, .tup l, q => by
    have h := cmpbs_lay (n := n) (ds := l) (by simpa [D.cmpb] using q)
    simp only [D.toPy, PyData.canLay0, PyData.depth]
    exact ⟨h.1, by omega⟩
  | n + 1, .lst l, q => by
    have h := cmpbs_lay (n := n) (ds := l) (by simpa [D.cmpb] using q)
    simp only [D.toPy, PyData.canLay0, PyData.depth]
    exact ⟨h.1, by omega⟩
  | 0, .tup l, q => by simp [D.cmpb] at q
  | 0, .lst l, q => by simp [D.cmpb] at q
  | _, .ro _, q => by simp [D.cmpb] at q
  | _, .dct _, q => by simp [D.cmpb] at q
theorem cmpbs_lay : ∀ {n : Nat} {ds : List D}, D.cmpbs n ds = true → PyData.canLayAll0 (D.toPys ds) = true ∧ PyData.depthAll (D.toPys ds) ≤ n
  | _, [], _ => by simp [D.toPys, PyData.canLayAll0, PyData.depthAll]
  | n, d :: ds, q => by
    simp only [D.cmpbs, Bool.and_eq_true] at q
    have h1 := cmpb_lay (n := n) (d := d) q.1
    have h2 := cmpbs_lay (n := n) (ds := ds) q.2
    simp only [D.toPys, PyData.canLayAll0, PyData.depthAll]
    exact ⟨by rw [h1.1, h2.1]; rfl, by omega⟩
end
theorem cmpb_shaped {d : D} (q : d.cmpb 60 = true) : SeqAt.shaped d.toPy = true := by
  have h := cmpb_lay q
  show (d.toPy.canLay0 && decide (d.toPy.depth ≤ 64)) = true
  rw [Bool.and_eq_true]
  exact ⟨h.1, decide_eq_true (by omega)⟩
theorem cmpbs_shaped {ds : List D} (q : D.cmpbs 60 ds = true) : SeqAt.shaped (.list (D.toPys ds)) = true := by
  have h := cmpbs_lay q
  show (PyData.canLay0 (.list (D.toPys ds)) && decide (PyData.depth (.list (D.toPys ds)) ≤ 64)) = true
  simp only [PyData.canLay0, PyData.depth]
  rw [Bool.and_eq_true]
  exact ⟨h.1, decide_eq_true (by omega)⟩
mutual
theorem eqv_py : ∀ {n m : Nat} {a b : D}, a.cmpb n = true → b.cmpb m = true → PyData.eqv a.toPy b.toPy = a.eqv b
  | n + 1, m + 1, .tup xs, .tup ys, p, q => by
    simp only [D.toPy, PyData.eqv, D.eqv]
    exact eqvs_py (n := n) (m := m) (by simpa [D.cmpb] using p) (by simpa [D.cmpb] using q)
  | n + 1, m + 1, .lst xs, .lst ys, p, q => by
    simp only [D.toPy, PyData.eqv, D.eqv]
    exact eqvs_py (n := n) (m := m) (by simpa [D.cmpb] using p) (by simpa [D.cmpb] using q)
  | 0, _, .tup xs, _, p, q => by simp [D.cmpb] at p
  | 0, _, .lst xs, _, p, q => by simp [D.cmpb] at p
  | _, 0, _, .tup xs, p, q => by simp [D.cmpb] at q
  | _, 0, _, .lst xs, p, q => by simp [D.cmpb] at q
  | _, _, .ro _, _, p, q => by simp [D.cmpb] at p
  | _, _, .dct _, _, p, q => by simp [D.cmpb] at p
  | _, _, _, .ro _, p, q => by simp [D.cmpb] at q
  | _, _, _, .dct _, p, q => by simp [D.cmpb] at q
  | _, _, .non, .non, _, _ => by simp [D.toPy, PyData.eqv, D.eqv]
  | _, _, .non, .bl _, _, _ => by simp [D.toPy, PyData.eqv, D.eqv]
  | _, _, .non, .int _, _, _ => by simp [D.toPy, PyData.eqv, D.eqv]
  | _, _, .non, .str _, _, _ => by simp [D.toPy, PyData.eqv, D.eqv]
  | _, _, .non, .tup _, _, _ => by simp [D.toPy, PyData.eqv, D.eqv]
  | _, _, .non, .lst _, _, _ => by simp [D.toPy, PyData.eqv, D.eqv]
  | _, _, .bl _, .non, _, _ => by simp [D.toPy, PyData.eqv, D.eqv]
  | _, _, .bl _, .bl _, _, _ => by simp [D.toPy, PyData.eqv, D.eqv]
  | _, _, .bl _, .int _, _, _ => by simp [D.toPy, PyData.eqv, D.eqv]
  | _, _, .bl _, .str _, _, _ => by simp [D.toPy, PyData.eqv, D.eqv]
  | _, _, .bl _, .tup _, _, _ => by simp [D.toPy, PyData.eqv, D.eqv]
  | _, _, .bl _, .lst _, _, _ => by simp [D.toPy, PyData.eqv, D.eqv]
  | _, _, .int _, .non, _, _ => by simp [D.toPy, PyData.eqv, D.eqv]
  | _, _, .int _, .bl _, _, _ => by simp [D.toPy, PyData.eqv, D.eqv]
  | _, _, .int _, .int _, _, _ => by simp [D.toPy, PyData.eqv, D.eqv]
  | _, _, .int _, .str _, _, _ => by simp [D.toPy, PyData.eqv, D.eqv]
  | _, _, .int _, .tup _, _, _ => by simp [D.toPy, PyData.eqv, D.eqv]
  | _, _, .int _, .lst _, _, _ => by simp [D.toPy, PyData.eqv, D.eqv]
  | _, _, .str _, .non, _, _ => by simp [D.toPy, PyData.eqv, D.eqv]
  | _, _, .str _, .bl _, _, _ => by simp [D.toPy, PyData.eqv, D.eqv]
  | _, _, .str _, .int _, _, _ => by simp [D.toPy, PyData.eqv, D.eqv]
  | _, _, .str _, .str _, _, _ => by simp [D.toPy, PyData.eqv, D.eqv]
  | _, _, .str _, .tup _, _, _ => by simp [D.toPy, PyData.eqv, D.eqv]
  | _, _, .str _, .lst _, _, _ => by simp [D.toPy, PyData.eqv, D.eqv]
  | _, _, .tup _, .non, _, _ => by simp [D.toPy, PyData.eqv, D.eqv]
  | _, _, .tup _, .bl _, _, _ => by simp [D.toPy, PyData.eqv, D.eqv]
  | _, _, .tup _, .int _, _, _ => by simp [D.toPy, PyData.eqv, D.eqv]
  | _, _, .tup _, .str _, _, _ => by simp [D.toPy, PyData.eqv, D.eqv]
  | _, _, .tup _, .lst _, _, _ => by simp [D.toPy, PyData.eqv, D.eqv]
  | _, _, .lst _, .non, _, _ => by simp [D.toPy, PyData.eqv, D.eqv]
  | _, _, .lst _, .bl _, _, _ => by simp [D.toPy, PyData.eqv, D.eqv]
  | _, _, .lst _, .int _, _, _ => by simp [D.toPy, PyData.eqv, D.eqv]
  | _, _, .lst _, .str _, _, _ => by simp [D.toPy, PyData.eqv, D.eqv]
  | _, _, .lst _, .tup _, _, _ => by simp [D.toPy, PyData.eqv, D.eqv]
theorem eqvs_py : ∀ {n m : Nat} {a b : List D}, D.cmpbs n a = true → D.cmpbs m b = true → PyData.eqvAll (D.toPys a) (D.toPys b) = D.eqvs a b
  | _, _, [], [], _, _ => by simp [D.toPys, PyData.eqvAll, D.eqvs]
  | _, _, [], _ :: _, _, _ => by simp [D.toPys, PyData.eqvAll, D.eqvs]
  | _, _, _ :: _, [], _, _ => by simp [D.toPys, PyData.eqvAll, D.eqvs]
  | n, m, x :: xs, y :: ys, p, q => by
    simp only [D.cmpbs, Bool.and_eq_true] at p q
    simp only [D.toPys, PyData.eqvAll, D.eqvs]
    rw [eqv_py p.1 q.1, eqvs_py p.2 q.2]
end
theorem any_py {n m : Nat} {a : D} (p : a.cmpb n = true) : ∀ {l : List D}, D.cmpbs m l = true → ((D.toPys l).any fun z => PyData.eqv z a.toPy) = l.any fun z => z.eqv a
  | [], _ => by simp [D.toPys]
  | x :: xs, q => by
    simp only [D.cmpbs, Bool.and_eq_true] at q
    simp only [D.toPys, List.any_cons]
    rw [eqv_py q.1 p, any_py p q.2]
theorem scal_flat {K : PySem.W.Frag} {F : Hp} {v : V} {d : D} (r : Rp K F v d) (h : isScal d = true) : flatV v = true := by
  cases r <;> simp_all [isScal, flatV]
theorem scal_flats {K : PySem.W.Frag} {F : Hp} : ∀ {vs : List V} {ds : List D}, Rps K F vs ds → ds.all isScal = true → vs.all flatV = true
  | _, _, .nil, _ => rfl
  | _, _, .cons r t, h => by
    simp only [List.all_cons, Bool.and_eq_true] at h ⊢
    exact ⟨scal_flat r h.1, scal_flats t h.2⟩
theorem scal_eqV {K : PySem.W.Frag} {F : Hp} {v w : V} {d e : D} (r : Rp K F v d) (t : Rp K F w e) (h : isScal d = true) (g : isScal e = true) : eqV v w = d.eqv e := by
  cases r <;> cases t <;> simp_all [isScal, eqV, D.eqv]
theorem scal_inV {K : PySem.W.Frag} {F : Hp} {v : V} {d : D} (r : Rp K F v d) (h : isScal d = true) : ∀ {vs : List V} {ds : List D}, Rps K F vs ds → ds.all isScal = true → inV v vs = ds.any fun z => z.eqv d
  | _, _, .nil, _ => rfl
  | _, _, .cons t ts, g => by
    simp only [List.all_cons, Bool.and_eq_true] at g
    have ih := scal_inV r h ts g.2
    unfold inV at ih ⊢
    simp only [List.any_cons]
    rw [scal_eqV t r g.1 h, ih]
section
variable {X : Cx} {Z : Fx}
theorem op_cmpD (hK : X.K = Z.K) (hu : X.A.units + 65 < cLine) (o : Cop) : OpR X (compareOp (opC o)) (K2 Z (cmpM o)) := by
  obtain ⟨K, mg, pa, G, W⟩ := Z
  cases hK
  intro pins s σ' H x y v u Q I rx ry ⟨σ, F, ρ, dx, dy, E, hx, hy, c⟩
  replace c := cont_opt c
  obtain ⟨r, e, c⟩ := c
  obtain ⟨b, e, rfl⟩ := Option.map_eq_some_iff.mp e
  have q := cont_val c E (.bl b)
  unfold cmpv at e
  split at e
  · cases e; cases seen_str hx; cases seen_str hy
    exact op_eq pins s σ' H _ _ v u Q I rx ry ⟨rfl, by rw [dec_str]; exact q⟩
  · cases e; cases seen_str hx; cases seen_str hy
    exact op_ne pins s σ' H _ _ v u Q I rx ry ⟨rfl, by rw [dec_str]; exact q⟩
  · split at e
    · rename_i hl
      rw [Bool.and_eq_true] at hl
      cases e
      exact op_eqD (by omega) pins s σ' H _ _ v u Q I rx ry ⟨_, _, seen_dp E.fh hx hl.1, seen_dp E.fh hy hl.2, cmpb_shaped hl.1, cmpb_shaped hl.2, by rw [eqv_py hl.1 hl.2]; exact q⟩
    · cases e
  · split at e
    · rename_i hl
      rw [Bool.and_eq_true] at hl
      cases e
      exact op_neD (by omega) pins s σ' H _ _ v u Q I rx ry ⟨_, _, seen_dp E.fh hx hl.1, seen_dp E.fh hy hl.2, cmpb_shaped hl.1, cmpb_shaped hl.2, by rw [eqv_py hl.1 hl.2]; exact q⟩
    · cases e
  · cases e; cases seen_int hx; cases seen_int hy
    exact op_lt pins s σ' H _ _ v u Q I rx ry ⟨_, _, rfl, rfl, q⟩
  · cases e; cases seen_int hx; cases seen_int hy
    exact op_le pins s σ' H _ _ v u Q I rx ry ⟨_, _, rfl, rfl, q⟩
  · cases e; cases seen_int hx; cases seen_int hy
    exact op_gt pins s σ' H _ _ v u Q I rx ry ⟨_, _, rfl, rfl, q⟩
  · cases e; cases seen_int hx; cases seen_int hy
    exact op_ge pins s σ' H _ _ v u Q I rx ry ⟨_, _, rfl, rfl, q⟩
  · cases e
theorem op_memD (hK : X.K = Z.K) (hu : X.A.units + 65 < cLine) (n : Bool) : OpR X (compareOp (if n then .NotIn else .In)) (K2 Z fun x d => M.opt ((memv x d).map fun b => sh (.bl (b != n)))) := by
  obtain ⟨K, mg, pa, G, W⟩ := Z
  cases hK
  intro pins s σ' H x y v u Q I rx ry ⟨σ, F, ρ, dx, dy, E, hx, hy, c⟩
  replace c := cont_opt c
  obtain ⟨r, e, c⟩ := c
  obtain ⟨b, e1, e2⟩ := Option.map_eq_some_iff.mp e
  subst e2
  clear e
  have q := cont_val c E (.bl _)
  unfold memv at e1
  split at e1
  · split at e1
    · rename_i l hl
      obtain rfl := Option.some.inj e1
      rw [Bool.or_eq_true, Bool.and_eq_true, Bool.and_eq_true] at hl
      rcases hl with ⟨h1, h2⟩ | ⟨h1, h2⟩
      · obtain ⟨a, xs, rfl, sx, r1⟩ := seen_lst E.fh hy
        have rx' := seen_scal h1 hx
        have e2 := scal_inV rx' h1 r1 h2
        cases n with
        | false => exact op_in_seq pins s σ' H _ _ v u Q I rx ry ⟨a, xs, rfl, .inl (SqL.of sx), scal_flat rx' h1, scal_flats r1 h2, by rw [e2]; simpa using q⟩
        | true => exact op_notIn_seq pins s σ' H _ _ v u Q I rx ry ⟨a, xs, rfl, .inl (SqL.of sx), scal_flat rx' h1, scal_flats r1 h2, by rw [e2]; simpa using q⟩
      · have hd : Dp X.K H y (.list (D.toPys l)) := by
          obtain ⟨a, xs, rfl, sx, r1⟩ := seen_lst E.fh hy
          exact .lst (SqL.of sx) (rps_dp E.fh r1 h2)
        have e2 := any_py (a := dx) h1 h2
        cases n with
        | false => exact op_inD hu pins s σ' H _ _ v u Q I rx ry ⟨_, _, seen_dp E.fh hx h1, hd, cmpb_shaped h1, cmpbs_shaped h2, by rw [e2]; simpa using q⟩
        | true => exact op_notInD hu pins s σ' H _ _ v u Q I rx ry ⟨_, _, seen_dp E.fh hx h1, hd, cmpb_shaped h1, cmpbs_shaped h2, by rw [e2]; simpa using q⟩
    · cases e1
  · split at e1
    · rename_i l hl
      obtain rfl := Option.some.inj e1
      rw [Bool.and_eq_true] at hl
      obtain ⟨h1, h2⟩ := hl
      obtain ⟨a, xs, rfl, sx, r1⟩ := seen_tup E.fh hy
      have rx' := seen_scal h1 hx
      have e2 := scal_inV rx' h1 r1 h2
      cases n with
      | false => exact op_in_seq pins s σ' H _ _ v u Q I rx ry ⟨a, xs, rfl, .inr sx, scal_flat rx' h1, scal_flats r1 h2, by rw [e2]; simpa using q⟩
      | true => exact op_notIn_seq pins s σ' H _ _ v u Q I rx ry ⟨a, xs, rfl, .inr sx, scal_flat rx' h1, scal_flats r1 h2, by rw [e2]; simpa using q⟩
    · cases e1
  · cases e1
end
end PL
/-! PLOps3: items, slices, built-ins of one and two arguments, isinstance, methods. -/
namespace PL
open PySem L2 PySem.Spec PyProof.Rows
theorem cl_eq (n d : Nat) (o : Option Int) : HT.sIx n d o = cl n d o := by
  cases o with
  | none => rfl
  | some v =>
    show (if v < 0 then (v + (n : Int)).toNat else min v.toNat n) = (if v < 0 then max (v + (n : Int)) 0 else min v (n : Int)).toNat
    split <;> omega
theorem cut_rps {K : PySem.W.Frag} {F : Hp} {xs : List V} {ds : List D} (r : Rps K F xs ds) (lo hi : Option Int) : Rps K F (cutV xs lo hi) (cut ds lo hi) := by
  unfold cutV cut
  rw [cl_eq, cl_eq, r.length]
  exact (r.drop _).take _
theorem at_rps {K : PySem.W.Frag} {F : Hp} {xs : List V} {ds : List D} (r : Rps K F xs ds) {i : Int} {d : D} (h : at? ds i = some d) : ∃ v, atI xs i = some v ∧ Rp K F v d := by
  unfold at? ixOf at h
  have hl := r.length
  by_cases h0 : 0 ≤ i
  · rw [if_pos h0] at h
    by_cases h1 : i < (ds.length : Int)
    · rw [if_pos h1] at h
      obtain ⟨v, h2, h3⟩ := r.get (i := i.toNat) (d := d) h
      have e : i = ((i.toNat : Nat) : Int) := by omega
      exact ⟨v, by rw [e]; exact atI_nat h2, h3⟩
    · rw [if_neg h1] at h; cases h
  · rw [if_neg h0] at h
    by_cases h1 : -(ds.length : Int) ≤ i
    · rw [if_pos h1] at h
      obtain ⟨v, h2, h3⟩ := r.get (i := (i + ds.length).toNat) (d := d) h
      refine ⟨v, ?_, h3⟩
      unfold atI
      have e : ixN xs.length i = some (i + ds.length).toNat := by
        unfold ixN
        rw [hl]
        first
          | rw [if_neg (by omega), if_pos (by omega)]
          | (split <;> first | omega | (congr 1) | (split <;> first | omega | congr 1))
      rw [e]
      exact h2
    · rw [if_neg h1] at h; cases h
theorem at_str {l : List Nat} {i : Int} {c : Nat} (h : at? l i = some c) : atI l i = some c := by
  unfold at? ixOf at h
  by_cases h0 : 0 ≤ i
  · rw [if_pos h0] at h
    by_cases h1 : i < (l.length : Int)
    · rw [if_pos h1] at h
      have e : i = ((i.toNat : Nat) : Int) := by omega
      rw [e]; exact atI_nat h
    · rw [if_neg h1] at h; cases h
  · rw [if_neg h0] at h
    by_cases h1 : -(l.length : Int) ≤ i
    · rw [if_pos h1] at h
      unfold atI
      have e : ixN l.length i = some (i + l.length).toNat := by
        unfold ixN
        first
          | rw [if_neg (by omega), if_pos (by omega)]
          | (split <;> first | omega | (congr 1) | (split <;> first | omega | congr 1))
      rw [e]
      exact h
    · rw [if_neg h1] at h; cases h
section
variable {X : Cx} {Z : Fx}
theorem ix_D (hK : X.K = Z.K) : IxR X (K2 Z fun d k => M.opt ((itemv d k).map sh)) := by
  obtain ⟨K, mg, pa, G, W⟩ := Z
  cases hK
  intro value slice pins s σ' H x y v u Q I rx ry ⟨σ, F, ρ, dx, dy, E, hx, hy, c⟩ hs
  replace c := cont_opt c
  obtain ⟨r, e, c⟩ := c
  obtain ⟨d, e1, e2⟩ := Option.map_eq_some_iff.mp e
  subst e2
  clear e
  unfold itemv at e1
  split at e1
  · obtain ⟨a, xs, rfl, sx, r1⟩ := seen_tup E.fh hx
    cases seen_int hy
    obtain ⟨z, h1, h2⟩ := at_rps r1 e1
    exact ix_tup value slice pins s σ' H _ _ v u Q I rx ry ⟨a, xs, _, z, rfl, rfl, sx, h1, cont_val c E h2⟩ hs
  · obtain ⟨a, xs, rfl, sx, r1⟩ := seen_lst E.fh hx
    cases seen_int hy
    obtain ⟨z, h1, h2⟩ := at_rps r1 e1
    exact ix_list value slice pins s σ' H _ _ v u Q I rx ry ⟨a, xs, _, z, rfl, rfl, SqL.of sx, h1, cont_val c E h2⟩ hs
  · obtain ⟨a, xs, rfl, sx, r1⟩ := seen_ro E.fh hx
    cases seen_int hy
    obtain ⟨z, h1, h2⟩ := at_rps r1 e1
    exact ix_list value slice pins s σ' H _ _ v u Q I rx ry ⟨a, xs, _, z, rfl, rfl, sx, h1, cont_val c E h2⟩ hs
  · split at e1
    · rename_i hl
      obtain ⟨z, e2, e3⟩ := Option.map_eq_some_iff.mp e1
      subst e3
      cases seen_str hx
      cases seen_int hy
      exact ix_str value slice pins s σ' H _ _ v u Q I rx ry ⟨_, _, z, rfl, rfl, by rw [← szL_eq]; exact hl, at_str e2, cont_val c E (.str _)⟩ hs
    · cases e1
  · cases e1
/-- behind a slice's parts -/
def KS (Z : Fx) : V → Option Int → Option Int → Hp → VK → Prop := fun x lo hi H Q => ∃ σ F ρ d, EnvOk Z.K Z.pa F Z.G H σ ρ ∧ Seen Z.K F H x d ∧ Cont Z (lV Z) σ F (M.opt (cutv d lo hi) ρ) Q
theorem sl_D (hK : X.K = Z.K) : SlR X (KS Z) := by
  obtain ⟨K, mg, pa, G, W⟩ := Z
  cases hK
  intro pins s σ' H x v vl vu lo hi sl Q I rx hs pl pu ⟨σ, F, ρ, d, E, hx, c⟩
  replace c := cont_opt c
  obtain ⟨r, e, c⟩ := c
  unfold cutv at e
  split at e
  · obtain rfl := Option.some.inj e
    have hx0 := hx
    obtain ⟨a, xs, rfl, sx, r1⟩ := seen_tup E.fh hx
    refine sl_tupA pins s σ' H _ v vl vu lo hi sl Q I rx hs pl pu ⟨a, xs, rfl, sx, fun hw => ?_, fun _ => cont_tup c E (cut_rps r1 lo hi)⟩
    rw [cl_eq, cl_eq, r1.length] at hw
    have e2 : ∀ ds : List D, ds.length = xs.length → cl ds.length 0 lo = 0 ∧ cl ds.length ds.length hi = ds.length → cut ds lo hi = ds := fun ds _ h => by
      unfold cut
      rw [h.1, h.2, List.drop_zero, Nat.sub_zero, List.take_length]
    rw [e2 _ r1.length.symm hw] at c
    rcases hx0 with hx0 | ⟨_, _, _, _, e, _⟩
    · exact cont_val c E hx0
    · cases e
  · obtain rfl := Option.some.inj e
    obtain ⟨a, xs, rfl, sx, r1⟩ := seen_lst E.fh hx
    exact sl_list pins s σ' H _ v vl vu lo hi sl Q I rx hs pl pu ⟨a, xs, rfl, SqL.of sx, cont_lst c E (cut_rps r1 lo hi)⟩
  · split at e
    · rename_i hl
      obtain rfl := Option.some.inj e
      cases seen_str hx
      refine sl_str pins s σ' H _ v vl vu lo hi sl Q I rx hs pl pu ⟨_, rfl, by rw [← szL_eq]; exact hl, ?_⟩
      unfold cutS
      rw [cl_eq, cl_eq]
      exact cont_val c E (.str _)
    · cases e
  · cases e
/-! ### built-ins -/
def nmB1 : B1 → Str
  | .len => "len"
  | .list => "list"
  | .tuple => "tuple"
  | .int => "int"
  | .str => "str"
  | .sum => "sum"
  | .all => "all"
  | .any => "any"
  | .abs => "abs"
def vaB1 : B1 → Value
  | .len => .builtin "len"
  | .list => .type "list"
  | .tuple => .type "tuple"
  | .int => .type "int"
  | .str => .type "str"
  | .sum => .builtin "sum"
  | .all => .builtin "all"
  | .any => .builtin "any"
  | .abs => .builtin "abs"
theorem boot_B1 (b : B1) : bootBuiltins (nmB1 b) = some (vaB1 b) := by cases b <;> decide +kernel
theorem vals_one {x : V} {us : List Value} (r : Vals [x] us) : Vals [x] us := r
theorem call_b1 (hK : X.K = Z.K) (hc : X.calm = true) (b : B1) : CallR X (vaB1 b) (KC Z fun d => M.opt (b1 b d)) := by
  obtain ⟨K, mg, pa, G, W⟩ := Z
  cases hK
  intro pins s σ' H vs us Q I rv ⟨x, e0, σ, F, ρ, d, E, hx, c⟩
  subst e0
  replace c := cont_opt c
  obtain ⟨r, e, c⟩ := c
  unfold b1 at e
  split at e
  · obtain ⟨n, e1, e2⟩ := Option.map_eq_some_iff.mp e
    subst e2
    clear e
    have q := cont_val c E (.int n)
    unfold lenv at e1
    split at e1
    · cases e1
      obtain ⟨a, xs, rfl, sx, r1⟩ := seen_tup E.fh hx
      exact call_len_seq pins s σ' H _ us Q I rv ⟨a, xs, rfl, .inr sx, by rw [r1.length]; exact q⟩
    · cases e1
      obtain ⟨a, xs, rfl, sx, r1⟩ := seen_lst E.fh hx
      exact call_len_seq pins s σ' H _ us Q I rv ⟨a, xs, rfl, .inl (SqL.of sx), by rw [r1.length]; exact q⟩
    · cases e1
      obtain ⟨a, xs, rfl, sx, r1⟩ := seen_ro E.fh hx
      exact call_len_seq pins s σ' H _ us Q I rv ⟨a, xs, rfl, .inl sx, by rw [r1.length]; exact q⟩
    · split at e1
      · rename_i hl
        cases e1
        cases seen_str hx
        exact call_len_str pins s σ' H _ us Q I rv ⟨_, rfl, by rw [← szL_eq]; exact hl, q⟩
      · cases e1
    · cases e1
  · cases e
    obtain ⟨a, xs, rfl, sx, r1⟩ := seen_lst E.fh hx
    exact call_list_of pins s σ' H _ us Q I rv ⟨a, xs, rfl, .inl (SqL.of sx), cont_lst c E r1⟩
  · cases e
    obtain ⟨a, xs, rfl, sx, r1⟩ := seen_tup E.fh hx
    exact call_list_of pins s σ' H _ us Q I rv ⟨a, xs, rfl, .inr sx, cont_lst c E r1⟩
  · cases e
    obtain ⟨a, xs, rfl, sx, r1⟩ := seen_lst E.fh hx
    exact call_tuple_of pins s σ' H _ us Q I rv ⟨a, xs, rfl, .inl ⟨SqL.of sx, cont_tup c E r1⟩⟩
  · cases e
    have hx0 := hx
    obtain ⟨a, xs, rfl, sx, r1⟩ := seen_tup E.fh hx
    rcases hx0 with hx0 | ⟨_, _, _, _, e, _⟩
    · exact call_tuple_of pins s σ' H _ us Q I rv ⟨a, xs, rfl, .inr ⟨sx, cont_val c E hx0⟩⟩
    · cases e
  · cases e
    cases seen_int hx
    exact call_int1 pins s σ' H _ us Q I rv (.inl ⟨_, rfl, cont_val c E (.int _)⟩)
  · cases e
    cases seen_bl hx
    exact call_int1 pins s σ' H _ us Q I rv (.inr ⟨_, rfl, cont_val c E (.int _)⟩)
  · split at e
    · rename_i hl
      cases e
      cases seen_int hx
      exact call_str_int pins s σ' H _ us Q I rv ⟨_, rfl, hl, cont_val c E (.str _)⟩
    · cases e
  · cases e
    cases seen_str hx
    exact SkE.call_str_str pins s σ' H _ us Q I rv ⟨_, rfl, cont_val c E (.str _)⟩
  · obtain ⟨ns, e1, e2⟩ := Option.map_eq_some_iff.mp e
    subst e2
    obtain ⟨a, xs, rfl, sx, r1⟩ := seen_lst E.fh hx
    obtain rfl := r1.ints e1
    exact cr_sum hc pins s σ' H _ us Q I rv ⟨a, ns, rfl, SqL.of sx, cont_val c E (.int _)⟩
  · obtain ⟨ns, e1, e2⟩ := Option.map_eq_some_iff.mp e
    subst e2
    obtain ⟨a, xs, rfl, sx, r1⟩ := seen_lst E.fh hx
    obtain rfl := r1.bls e1
    exact cr_all hc pins s σ' H _ us Q I rv ⟨a, ns, rfl, SqL.of sx, cont_val c E (.bl _)⟩
  · obtain ⟨ns, e1, e2⟩ := Option.map_eq_some_iff.mp e
    subst e2
    obtain ⟨a, xs, rfl, sx, r1⟩ := seen_lst E.fh hx
    obtain rfl := r1.bls e1
    exact cr_any hc pins s σ' H _ us Q I rv ⟨a, ns, rfl, SqL.of sx, cont_val c E (.bl _)⟩
  · cases e
    cases seen_int hx
    exact call_abs pins s σ' H _ us Q I rv ⟨_, rfl, cont_val c E (.int _)⟩
  · cases e
def nmB2 : B2 → Str
  | .min => "min"
  | .max => "max"
def vaB2 : B2 → Value
  | .min => .builtin "min"
  | .max => .builtin "max"
theorem boot_B2 (b : B2) : bootBuiltins (nmB2 b) = some (vaB2 b) := by cases b <;> decide +kernel
theorem call_b2 (hK : X.K = Z.K) (hc : X.calm = true) (b : B2) : CallR X (vaB2 b) (KC2 Z fun d e => M.opt (b2 b d e)) := by
  obtain ⟨K, mg, pa, G, W⟩ := Z
  cases hK
  intro pins s σ' H vs us Q I rv ⟨x, y, e0, σ, F, ρ, dx, dy, E, hx, hy, c⟩
  subst e0
  replace c := cont_opt c
  obtain ⟨r, e, c⟩ := c
  unfold b2 at e
  split at e
  · cases e; cases seen_int hx; cases seen_int hy
    exact call_min2 hc pins s σ' H _ us Q I rv ⟨_, _, rfl, cont_val c E (.int _)⟩
  · cases e; cases seen_int hx; cases seen_int hy
    exact call_max2 hc pins s σ' H _ us Q I rv ⟨_, _, rfl, cont_val c E (.int _)⟩
  · cases e
/-! ### isinstance -/
def nmTy : Ty → String
  | .int => "int"
  | .bool => "bool"
  | .str => "str"
  | .tuple => "tuple"
  | .list => "list"
def tyD : D → String
  | .non => "NoneType"
  | .bl _ => "bool"
  | .int _ => "int"
  | .str _ => "str"
  | .tup _ => "tuple"
  | .lst _ => "list"
  | _ => "list"
theorem kit_D {t : Ty} {d : D} {b : Bool} (h : isTy t d = some b) : kitB (tyD d) (nmTy t) = some b := by
  cases t <;> cases d <;> simp [isTy] at h <;> subst h <;> simp only [tyD, nmTy] <;> decide +kernel
theorem seen_ty {K : PySem.W.Frag} {F H : Hp} (fh : Same F H) {v : V} {d : D} {t : Ty} {b : Bool} (h : Seen K F H v d) (q : isTy t d = some b) : TyX K H v (.type (tyD d)) := by
  cases d with
  | non => cases seen_non h; exact .base .non
  | bl b => cases seen_bl h; exact .base (.bl _)
  | int b => cases seen_int h; exact .base (.int _)
  | str b => cases seen_str h; exact .base (.str _)
  | tup l =>
    obtain ⟨a, xs, rfl, sx, _⟩ := seen_tup fh h
    rcases sx with (sx | ⟨o, sx⟩) | ⟨o, its, n, sx, hc, _⟩
    · exact .base (.tup sx)
    · exact .fTuple sx
    · exact .kTuple sx hc
  | lst l =>
    obtain ⟨a, xs, rfl, sx, _⟩ := seen_lst fh h
    exact .base (.lst sx)
  | ro l => cases t <;> simp [isTy] at q
  | dct l => cases t <;> simp [isTy] at q
  | fn x => cases t <;> simp [isTy] at q
theorem call_isiD (hK : X.K = Z.K) (t : Ty) : CallR X (.builtin "isinstance") (fun vs H Q => ∃ x, vs = [x, .ty (nmTy t)] ∧ K1 Z (fun d => M.opt ((isTy t d).map fun b => sh (.bl b))) x H Q) := by
  obtain ⟨K, mg, pa, G, W⟩ := Z
  cases hK
  intro pins s σ' H vs us Q I rv ⟨x, e0, σ, F, ρ, d, E, hx, c⟩
  subst e0
  replace c := cont_opt c
  obtain ⟨r, e, c⟩ := c
  obtain ⟨b, q, e2⟩ := Option.map_eq_some_iff.mp e
  subst e2
  exact call_isi pins s σ' H _ us Q I rv ⟨x, .ty (nmTy t), .type (tyD d), .type (nmTy t), b, rfl, .ty _, seen_ty E.fh hx q, kit_ty (kit_D q), cont_val c E (.bl _)⟩
end
end PL
/-! PLExc0: an error class whose __init__(self, f) says Base.__init__(self, 'text') and self.f = f. -/
namespace PL
open PySem L2 PySem.Spec PyProof.Rows
/-- what the written part says of such a class -/
def oexB (K : PySem.W.Frag) (C : Addr) : Bool := (match K.lookup C with
  | some ⟨.type "type", _, .cls cd, sl⟩ => (match cd.mro, sl.toList with
    | .ref C' :: bm, [_, _, _, _, some (.builtin n), _] => C' == C && n == "ValueError.__new__" && !cd.hasDel && cd.hasDict && PySem.HandSPX.refsVE bm
    | _, _ => false)
  | _ => false) && (decide (PySem.W.findIn K (.ref C) "__setattr__" = some (some (.builtin "object.__setattr__"))) && (decide (PySem.W.subIn K (.ref C) (.type "BaseException") = some true) && (decide (PySem.W.typeIn K (.ref C) = some (.type "type")) && PySem.W.keepIn K (.ref C))))
theorem oexB_ok {K : PySem.W.Frag} {C : Addr} (q : oexB K C = true) : OexC K C := by
  unfold oexB at q
  rw [Bool.and_eq_true] at q
  obtain ⟨q, q2⟩ := q
  simp only [Bool.and_eq_true, decide_eq_true_eq] at q2
  refine ⟨?_, q2.1, q2.2.1, q2.2.2.1, q2.2.2.2⟩
  split at q
  · rename_i dd cd sl ho
    split at q
    · rename_i C' bm k0 k1 k2 k3 n k5 hm hs
      simp only [Bool.and_eq_true, beq_iff_eq, Bool.not_eq_true'] at q
      obtain ⟨⟨⟨⟨rfl, rfl⟩, hdel⟩, hdct⟩, ht⟩ := q
      obtain ⟨nm, bs, mro, ns, qn, hd, sn, sub, ab, col, del⟩ := cd
      dsimp only at hm hdel hdct
      subst hm hdel hdct
      have hsl : sl = #[k0, k1, k2, k3, some (.builtin "ValueError.__new__"), k5] := by
        obtain ⟨l⟩ := sl
        simp only at hs
        rw [hs]
      subst hsl
      exact ⟨nm, qn, ns, bs, bm, sn, sub, ab, col, dd, k0, k1, k2, k3, k5, ho, ht⟩
    · cases q
  · cases q
/-- .. and of its base -/
def baseB (K : PySem.W.Frag) (B : Addr) : Bool := PySem.W.readsIn K B (.type "type") && (match PySem.W.findCls K (.ref B) (.type "type") "__init__" with
  | some (.val (.builtin n)) => decide (n = "ValueError.__init__")
  | _ => false)
theorem baseB_ok {K : PySem.W.Frag} {B : Addr} (q : baseB K B = true) : PySem.W.readsIn K B (.type "type") = true ∧ PySem.W.findCls K (.ref B) (.type "type") "__init__" = some (.val (.builtin "ValueError.__init__")) := by
  unfold baseB at q
  rw [Bool.and_eq_true] at q
  refine ⟨q.1, ?_⟩
  have q2 := q.2
  split at q2
  · rename_i n e
    cases of_decide_eq_true q2
    exact e
  · cases q2
section
variable {X : Cx} {e : Expr} {es : List Expr} {ta : TA} {p1 p2 pos : Pos}
/-- Base.__init__(self, ..) of an own class -/
theorem pe_binit {x : Str} {B : Addr} (hg : Gl X x) (hm : X.mg x = some (.ref B)) (hB : baseB X.K B = true) (ha : PA X (e :: es) ta) (hdb : (x == ("__debug__" : Str)) = false)
    (hbase : attributeBase (.Name x p1) "__init__" X.env (eval (.Name x p1) X.env) = eval (.Name x p1) X.env)
    (hfew : ((backTo pos (starEach (e :: es) X.env)).all (fun x => !x.1) && (backToKw pos (keywordEach [] X.env)).all (fun x => x.1.isSome)
      && decide ((e :: es).length + ([] : List Keyword).length + (if ([] : List Keyword).isEmpty then 0 else 1) < 30)) = true) (hline : (p2.endLine == pos.line) = true)
    (he : starEach (e :: es) X.env = (false, eval e X.env) :: starEach es X.env) (hpl : (backTo pos (starEach es X.env)).any (·.1) = false) :
    PE X (.Call (.Attribute (.Name x p1) "__init__" p2) (e :: es) [] pos) (tVeI X.K ta) := by
  obtain ⟨hr, vV⟩ := baseB_ok hB
  have hG : PySem.W.specialIn X.K (.ref B) "__getattribute__" = some (some (.builtin "type.__getattribute__")) := by
    simp only [PySem.W.readsIn, Bool.and_eq_true, beq_iff_eq] at hr
    obtain ⟨⟨⟨⟨a, b⟩, c'⟩, d⟩, f⟩ := hr
    unfold PySem.W.specialIn
    rw [b]
    exact c'
  refine ⟨fun pins s σ H Q I h => ?_⟩
  rw [arm_eval_Call, hbase]
  refine wpAny_bind (ld_glob I hg hm ?_ hdb)
  refine wpAny_bind (wpAny_standAt ?_)
  have hform : methodCallForm ((e :: es).length + ([] : List Keyword).length) (backTo pos (starEach (e :: es) X.env)) (backToKw pos (keywordEach [] X.env)) = true := hfew
  have hpos : methodCallPos true (.Name x p1) X.env p2 pos = pure pos := by unfold methodCallPos; simp [hline]
  unfold methodCall
  rw [hform]
  refine wpAny_bind (wpAny_holding (PySem.W.method_cls I.kIn hG (PySem.W.cls_value I.kIn hr vV (by decide +kernel) ?_)))
  refine wpAny_bind (wpAny_of_eq hpos ?_)
  show wpAny _ _ (callWith pos (Value.builtin "ValueError.__init__") [] (backTo pos (starEach (e :: es) X.env)) []) _ _ _
  refine PyProof.Rows.callWith_method1 (thn (ha.run pos pins _ σ H _ (I.tok _) h) fun us s1 ⟨vs, H1, I1, r1, a, C, ws, ev, hl, T, ea, q⟩ => ?_) he hpl
  subst ev
  cases r1 with
  | @cons _ u0 _ ur ra rw' =>
    obtain rfl : u0 = Value.ref a := ra
    have hlen : ur.length ≤ sizeLine := by
      rw [← Paired.length rw', sizeLine_eq]
      omega
    exact oinit_ok T I1 ea hlen fun s' J => ⟨.non, H1, J, rfl, q⟩
end
/-- the promise of such an __init__ -/
def spI (K : PySem.W.Frag) (C : Addr) (fld : Str) : Sp := fun vs H Q E => ∃ a v, vs = [.ref a, v] ∧ H a = some (exo a C none) ∧ ∀ dx, H dx = none → dx ≠ a → Q .non (upd (upd H dx (exd dx [(fld, v)])) a (exo a C (some dx)))
/-- the body of such an __init__(n0, n1): B.__init__(n0, 'text'); n0.fld = n1 -/
def initB (sc : Scope) (n0 n1 B fld : Str) : List Stmt → Bool
  | [.Expr (.Call (.Attribute (.Name b _) i q2) [.Name s _, .Constant (.str _) _ _] [] q5) _, .Assign [.Attribute (.Name s' _) f _] (.Name l _) _] =>
    (q2.endLine == q5.line) && decide (b = B) && decide (i = ("__init__" : Str)) && decide (s = n0) && decide (s' = n0) && decide (f = fld) && decide (l = n1) && decide (sc.names.lookup B = some .globalImplicit) && decide (sc.names.lookup n0 = some .local) && decide (sc.names.lookup n1 = some .local) &&
      !(B == ("__debug__" : Str)) && !(n0 == ("__debug__" : Str)) && !(n0 == ("__classdict__" : Str)) && !(n1 == ("__debug__" : Str)) && !(n1 == ("__classdict__" : Str)) && !(n0 == n1)
  | _ => false
section
variable {P : Program} {w : World} {K : PySem.W.Frag} {mg : Str → Option Value} {base : Heap} {k : Nat}
theorem init_ok {CX : CXT} {x qual : Str} {params : Arguments} {body : List Stmt} {scope : Scope} {f b C : Addr} {fd : FuncData} {n0 n1 B fld : Str} (D : FunD K x qual params body scope [] [] f fd) (sc : FnScope [n0, n1] [n0, n1] scope)
    (hc : initB scope n0 n1 B fld body = true) (hm : mg B = some (.ref b)) (hB : baseB K b = true) (T : OexC K C) (hno : PySem.W.findIn K (.ref C) fld = some none) : FnOk P w K mg base CX (k + 1) f fd [n0, n1] (spI K C fld) := by
  refine D.ok sc (fun vs H Q E ⟨a, v, e, _⟩ => by rw [e]; rfl) fun cdv A outer s H vs Q E hr ⟨a, v, e, ha, hq⟩ => ?_
  subst e
  let X := cxOf CX P w K mg base [n0, n1] qual scope f cdv A outer s H E
  unfold initB at hc
  split at hc
  · rename_i bb p1 i p2 s0 p3 m j p4 p5 p6 s1 p7 fl p8 l p9 p10
    simp only [Bool.and_eq_true, decide_eq_true_eq, Bool.not_eq_true'] at hc
    obtain ⟨⟨⟨⟨⟨⟨⟨⟨⟨⟨⟨⟨⟨⟨⟨hln, rfl⟩, rfl⟩, rfl⟩, rfl⟩, rfl⟩, rfl⟩, g1⟩, l0⟩, l1⟩, d1⟩, d2⟩, d3⟩, d4⟩, d5⟩, d6⟩ := hc
    have v0 : PE X (.Name s1 p3) (tVar 0) := pe_var rfl (.inl l0) d2 d3
    have v0' : PE X (.Name s1 p7) (tVar 0) := pe_var rfl (.inl l0) d2 d3
    have v1 : PE X (.Name l p9) (tVar 1) := pe_var rfl (.inl l1) d4 d5
    have s1' : PS X (.Expr (.Call (.Attribute (.Name bb p1) "__init__" p2) [.Name s1 p3, .Constant (.str m) j p4] [] p5) p6) _ := ps_expr (pe_binit (x := bb) (B := b) (show Gl X bb from g1) hm hB (pa_cons v0 (pa_cons pe_str pa_nil)) d1 (by rfl) (by rfl) hln (by rfl) (by rfl))
    have s2' : PS X (.Assign [.Attribute (.Name s1 p7) fl p8] (.Name l p9) p10) _ := ps_ost v0' v1
    refine ⟨_, pss_cons s1' (pss_cons s2' pss_nil), ?_⟩
    refine ⟨.ref a, rfl, ?_⟩
    refine ⟨a, C, [.str m], rfl, by simp, T, ha, ?_⟩
    refine ⟨v, rfl, .ref a, rfl, a, C, rfl, T, hno, .inl ⟨ha, fun dx h1 h2 => ?_⟩⟩
    exact hq dx h1 h2
  · cases hc
end
/-- a class of errors with a field -/
def ExcO (P : Program) (w : World) (K : PySem.W.Frag) (mg : Str → Option Value) (base : Heap) (lev : Nat) (x fld : Str) : Prop := ∃ (C fI : Addr) (fd : FuncData) (ps : List Str), mg x = some (.ref C) ∧ OexC K C ∧ PySem.W.findIn K (.ref C) "__init__" = some (some (.ref fI)) ∧ PySem.W.typeIn K (.ref fI) = some (.type "function") ∧
  FnOk P w K mg base (L2.CX P w) lev fI fd ps (spI K C fld) ∧ Binds K fd ps [] ∧ XfC K C ∧ PySem.W.findIn K (.ref C) fld = some none
end PL
/-! PLCons: construct by construct, from the parts' readings. -/
namespace PL
open PySem L2 PySem.Spec PyProof.Rows
/-! ### how a function's promise is told -/
/-- the parameters' slots behind a call -/
def outEnv : List Bool → List D → Env
  | true :: ms, d :: ds => some (.pin, d) :: outEnv ms ds
  | false :: ms, _ :: ds => none :: outEnv ms ds
  | _, _ => []
def spOf (K : PySem.W.Frag) (mg : Str → Option Value) (mask : List Bool) (F : Fn) : Sp := fun vs H Q E => ∃ pa Fz G ds, EnvOk K pa Fz G H (vs.map some) (init mask ds) ∧ vs.length = mask.length ∧ ds.length = mask.length ∧ match F ds with
  | .ok r outs => ∀ x F' H', Same Fz F' → EnvOk K pa F' G H' (vs.map some) (outEnv mask outs) → Res K F' G H' (vs.map some) (outEnv mask outs) x r → Q x H'
  | .err e outs => ∀ F' H' c x, Same Fz F' → EnvOk K pa F' G H' (vs.map some) (outEnv mask outs) → ExR K mg F' c x e → E c x H'
  | .bad => False
/-- the functions, constants, built-ins that are named; the error classes that are raised here; those that are told apart -/
structure Tab where
  fns : List (Str × List Bool)
  cons : List Str
  blt : List Str
  exc : List Str
  known : List Str
  excf : List (Str × Str)
  words : List (Str × Str × List Str × List (Str × Str)) := []
def veL : List Value := [.type "ValueError", .type "Exception", .type "BaseException", .type "object"]
/-- a class of errors without __init__ of its own -/
def ExcF (K : PySem.W.Frag) (mg : Str → Option Value) (x : Str) : Prop := ∃ C : Addr, mg x = some (.ref C) ∧ PySem.W.excIn K C veL "ValueError.__new__" = true ∧ PySem.W.keepIn K (.ref C) = true ∧ PySem.W.subIn K (.ref C) (.type "BaseException") = some true ∧ PySem.W.typeIn K (.ref C) = some (.type "type")
/-- two classes told apart -/
def ExmF (K : PySem.W.Frag) (mg : Str → Option Value) (x y : Str) : Prop := ∃ cx cy, mg x = some cx ∧ mg y = some cy ∧ PySem.W.exmOne K cx cy = some (decide (x = y))
structure Good (P : Program) (w : World) (K : PySem.W.Frag) (mg : Str → Option Value) (base : Heap) (lev : Nat) (T : Tab) (Γ : Gm) : Prop where
  fns : ∀ (j : Nat) (x : Str) (mask : List Bool), T.fns[j]? = some (x, mask) → ∃ (f : Addr) (fd : FuncData) (ps : List Str), mg x = some (.ref f) ∧ f = gaK K x ∧ PySem.W.keepIn K (.ref f) = true ∧ Binds K fd ps [] ∧ ps.length = mask.length ∧
    FnOk P w K mg base (L2.CX P w) lev f fd ps (spOf K mg mask (Γ.fn j))
  cons : ∀ (j : Nat) (x : Str), T.cons[j]? = some x → ∃ u v, mg x = some u ∧ RelV v u ∧ ∀ F, Rp K F v (Γ.con j)
  blt : ∀ x ∈ T.blt, mg x = none
  exc : ∀ x ∈ T.exc, ExcF K mg x
  exm : ∀ x ∈ T.known, ∀ y ∈ T.known, ExmF K mg x y
  excf : ∀ p ∈ T.excf, ∃ lv, lv + 1 ≤ lev ∧ ExcO P w K mg base lv p.1 p.2
/-! ### a def that calls a lambda and tells a word -/
def locB (sc : Scope) (x : Str) : Bool := match sc.names.lookup x with
  | some .local => true
  | some .cell => true
  | _ => false
def hdsWB (sg : Scope) (f : Str) : List (Str × Str) → List ExceptHandler → Bool
  | [], [] => true
  | (x, w) :: l, .ExceptHandler (some (.Name y _)) none [.Assign [.Name f' _] (.Constant (.str w') _ _) _] _ :: hds =>
      decide (x = y) && decide (f' = f) && decide (w' = w) && decide (sg.names.lookup x = some .globalImplicit) && !(x == ("__debug__" : Str)) && hdsWB sg f l hds
  | _, _ => false
/-- f = d / try: a() / except C: f = w .. / return f -/
def wordB (sg : Scope) (a f d : Str) (hs : List (Str × Str)) (bg : List Stmt) : Bool := match bg with
  | [.Assign [.Name f1 _] (.Constant (.str d') _ _) _, .Try [.Expr (.Call (.Name a' _) [] [] _) _] (h :: hds) [] [] _, .Return (some (.Name f2 _)) _] =>
      decide (f1 = f) && decide (d' = d) && decide (a' = a) && decide (f2 = f) && decide (a ≠ f) && locB sg f && locB sg a && !(f == ("__debug__" : Str)) && !(f == ("__classdict__" : Str)) && !(a == ("__debug__" : Str)) && !(a == ("__classdict__" : Str)) && hdsWB sg f hs (h :: hds)
  | _ => false
abbrev WordT : Type := Str × Str × List Str × List (Str × Str)
/-- such a def, as it stands -/
def WordF (K : PySem.W.Frag) (mg : Str → Option Value) (q : WordT) : Prop := ∃ (g : Addr) (fd : FuncData) (params : Arguments) (body : List Stmt) (scope : Scope) (a f : Str),
  FunD K q.1 q.1 params body scope [] [] g fd ∧ mg q.1 = some (.ref g) ∧ Binds K fd [a] [] ∧ FnScope [a, f] [a] scope ∧ wordB scope a f q.2.1 q.2.2.2 body = true
/-- a body that makes lambdas: its code object and its table, what it may call a level lower -/
def LamFit (X : Cx) (Z : Fx) (lev : Nat) (T : Tab) (Γ : Gm) : Prop := ∃ (c P : Addr), Room (lev + 2) X.A ∧ X.env.code = .ref c ∧ LamX.TabB X.base X.mg c P ∧ Z.pa.t = [(P, X.env.qual ++ "<lambda>")] ∧ ∀ q ∈ T.words, WordF X.K X.mg q
/-- a body's context and its reading's -/
structure Fit (X : Cx) (Z : Fx) (lev : Nat) (T : Tab) (Γ : Gm) : Prop where
  hK : X.K = Z.K
  hmg : X.mg = Z.mg
  calm : X.calm = true
  nd : X.N.Nodup
  room : Room lev X.A
  one : 1 ≤ lev
  kind : X.env.scope.kind = .function
  takes : Takes X Z.W
  good : Good X.prog X.w X.K X.mg X.base lev T Γ
  lam : T.words ≠ [] → LamFit X Z lev T Γ
theorem Fit.units {X : Cx} {Z : Fx} {lev : Nat} {T : Tab} {Γ : Gm} (h : Fit X Z lev T Γ) : X.A.units + 65 < cLine := by
  have := h.room.un
  omega
theorem pe_mono {X : Cx} {e : Expr} {t t' : TE} (h : PE X e t) (i : ∀ σ H Q, t' σ H Q → t σ H Q) : PE X e t' := ⟨fun pins s σ H Q I q => h.run pins s σ H Q I (i σ H Q q)⟩
theorem pt_mono {X : Cx} {e : Expr} {t t' : TT} (h : PT X e t) (i : ∀ σ H Q, t' σ H Q → t σ H Q) : PT X e t' := ⟨fun pins s σ H Q I q => h.run pins s σ H Q I (i σ H Q q)⟩
theorem pw_mono {X : Cx} {e : Expr} {t t' : TT} (h : PW X e t) (i : ∀ σ H Q, t' σ H Q → t σ H Q) : PW X e t' := ⟨fun wh pins s σ H Q I q => h.run wh pins s σ H Q I (i σ H Q q)⟩
theorem pa_mono {X : Cx} {e : List Expr} {t t' : TA} (h : PA X e t) (i : ∀ σ H Q, t' σ H Q → t σ H Q) : PA X e t' := ⟨fun p pins s σ H Q I q => h.run p pins s σ H Q I (i σ H Q q)⟩
section
variable {X : Cx} {Z : Fx} {Γ : Gm} {lev : Nat} {T : Tab} {pos : Pos}
/-! ### names -/
theorem rd_var {i : Nat} (σ : L2.St) (H : Hp) (Q : VK) (h : rdE Z (rdVar i) σ H Q) : tVar i σ H Q := by
  obtain ⟨F, ρ, E, c⟩ := h
  unfold rdVar at c
  split at c
  · rename_i d q
    obtain ⟨v, e, r⟩ := E.shr i d q
    exact ⟨v, e, cont_val c E r⟩
  · rename_i d q
    obtain ⟨a, e, h1, h2, h3⟩ := E.own i _ d q (by decide)
    refine ⟨.ref a, e, ?_⟩
    cases d with
    | lst ds =>
      obtain ⟨xs, e3, r⟩ := h3
      have s := upd_same_of (o := HO.lst xs) h1
      have hi : i < ρ.length := (List.getElem?_eq_some_iff.mp q).1
      refine c (.ref a) (upd F a (.lst xs)) H s ⟨fun b u z => ?_, E.gh, fun b u z => ?_, by rw [List.length_set]; exact E.len, fun j d z => ?_, fun j g d z ng => ?_, fun j d z => ?_, fun j k g g' d d' b ne z ng z' ng' => ?_, E.tb.new (Same.refl H) True.intro⟩ (.lst upd_same (r.mono s))
      · by_cases hb : b = a
        · subst hb; rw [upd_same] at z; rw [← z]; exact e3
        · rw [upd_ne hb] at z; exact E.fh b u z
      · by_cases hb : b = a
        · subst hb; exact h2
        · rw [upd_ne hb] at z; exact E.fg b u z
      · by_cases hj : i = j
        · subst hj
          rw [List.getElem?_set_self hi] at z
          cases z
          exact ⟨.ref a, e, .lst upd_same (r.mono s)⟩
        · rw [List.getElem?_set_ne hj] at z
          obtain ⟨v, e4, r4⟩ := E.shr j d z
          exact ⟨v, e4, r4.mono s⟩
      · by_cases hj : i = j
        · subst hj
          rw [List.getElem?_set_self hi] at z
          cases z; exact absurd rfl ng
        · rw [List.getElem?_set_ne hj] at z
          obtain ⟨b, eb, k1, k2, k3⟩ := E.own j g d z ng
          have hb : b ≠ a := by
            rintro rfl
            exact E.dist i j _ g _ d b hj q (by decide) z ng e eb
          refine ⟨b, eb, by rw [upd_ne hb]; exact k1, k2, ?_⟩
          cases d with
          | lst ds2 => obtain ⟨ys, e4, r4⟩ := k3; exact ⟨ys, e4, r4.mono s⟩
          | _ => exact k3
      · by_cases hj : i = j
        · subst hj
          rw [List.getElem?_set_self hi] at z
          cases z
        · rw [List.getElem?_set_ne hj] at z
          exact E.pin j d z
      · by_cases hj : i = j
        · subst hj
          rw [List.getElem?_set_self hi] at z
          cases z; exact absurd rfl ng
        · by_cases hk : i = k
          · subst hk
            rw [List.getElem?_set_self hi] at z'
            cases z'; exact absurd rfl ng'
          · rw [List.getElem?_set_ne hj] at z
            rw [List.getElem?_set_ne hk] at z'
            exact E.dist j k g g' d d' b ne z ng z' ng'
    | _ => exact h3.elim
  · exact c.elim
theorem rd_mov {i : Nat} (σ : L2.St) (H : Hp) (Q : VK) (h : rdE Z (mvVar i) σ H Q) : tVar i σ H Q := by
  obtain ⟨F, ρ, E, c⟩ := h
  unfold mvVar at c
  split at c
  · rename_i d q
    obtain ⟨a, e, o⟩ := E.own i _ d q (by decide)
    have hi : i < ρ.length := (List.getElem?_eq_some_iff.mp q).1
    have old : ∀ {j : Nat} {x : Fg × D}, (ρ.set i none)[j]? = some (some x) → i ≠ j ∧ ρ[j]? = some (some x) := fun {j x} z => by
      by_cases hj : i = j
      · subst hj; rw [List.getElem?_set_self hi] at z; cases z
      · rw [List.getElem?_set_ne hj] at z; exact ⟨hj, z⟩
    refine ⟨.ref a, e, c (.ref a) F H (Same.refl F) ⟨E.fh, E.gh, E.fg, by rw [List.length_set]; exact E.len, fun j d z => E.shr j d (old z).2, fun j g d z ng => E.own j g d (old z).2 ng, fun j d z => E.pin j d (old z).2,
      fun j k g g' d d' b ne z ng z' ng' => E.dist j k g g' d d' b ne (old z).2 ng (old z').2 ng', E.tb⟩ ⟨a, rfl, o, fun j g d z ng => ?_⟩⟩
    exact E.dist i j _ g _ d a (old z).1 q (by decide) (old z).2 ng e
  · exact c.elim
theorem see_snd {i : Nat} {C β : Type} {rel : Lie C β} {σ : L2.St} {F H : Hp} {ρ : Env} {g : Ref → M β} {Q : C → Hp → Prop} (E : EnvOk Z.K Z.pa F Z.G H σ ρ) (c : Cont Z rel σ F ((see i >>= g) ρ) Q) :
    ∃ a, σ[i]? = some (some (V.ref a)) ∧ Cont Z rel σ F (g (.slot i) ρ) Q := by
  cases q : see i ρ with
  | ok r ρ' =>
    have q0 := q
    unfold see at q
    split at q
    · rename_i f d e
      split at q
      · cases q
      · rename_i nf
        cases q
        obtain ⟨a, h, _⟩ := E.own i f d e nf
        rw [bind_ok q0] at c
        exact ⟨a, h, c⟩
    · cases q
  | err e ρ' =>
    unfold see at q
    split at q <;> (try split at q) <;> cases q
  | bad =>
    rw [bind_bad q] at c
    exact c.elim
theorem see_pure (i : Nat) : (see i >>= fun r => (pure r : M Ref)) = see i := by
  funext ρ
  cases q : see i ρ with
  | ok r ρ' => rw [bind_ok q]; rfl
  | err e ρ' => rw [bind_err q]
  | bad => rw [bind_bad q]
/-- an operand -/
theorem opnd_snd {a : E} {ast : Expr} (hp : ∀ i, a.peek = some i → PE X ast (tVar i)) (he : a.peek = none → PE X ast (rdE Z (evE Γ a))) : PE X ast (rdR Z (opnd a (evE Γ a))) := by
  cases q : a.peek with
  | some i =>
    refine pe_mono (hp i q) fun σ H Q h => ?_
    obtain ⟨F, ρ, E, c⟩ := h
    unfold opnd at c
    rw [q] at c
    have c1 : Cont Z (lR Z) σ F ((see i >>= fun r => (pure r : M Ref)) ρ) Q := by rw [see_pure]; exact c
    obtain ⟨a, h, c2⟩ := see_snd E c1
    exact ⟨.ref a, h, c2.ok E h⟩
  | none =>
    refine pe_mono (he q) fun σ H Q h => ?_
    obtain ⟨F, ρ, E, c⟩ := h
    unfold opnd at c
    rw [q] at c
    refine (Cont.bind E c).imp fun v H1 ⟨r, F1, ρ1, s, E1, l, c1⟩ => ?_
    obtain ⟨F2, s2, E2, l2⟩ := E1.share l
    exact (c1.mono s2).ok E2 l2
end
end PL
/-! PLCons2: construct by construct, from the parts' readings. -/
namespace PL
open PySem L2 PySem.Spec PyProof.Rows
/-! ### forms of the text -/
def nst : PySem.Expr → Bool
  | .Starred .. => false
  | _ => true
theorem star_cons {e : PySem.Expr} {es : List PySem.Expr} {env : PySem.Env} (h : nst e = true) : starEach (e :: es) env = (false, eval e env) :: starEach es env := by
  cases e <;> first | rfl | cases h
theorem star_any {env : PySem.Env} {pos : Pos} : ∀ {es : List PySem.Expr}, es.all nst = true → (backTo pos (starEach es env)).any (·.1) = false
  | [], _ => rfl
  | e :: es, h => by
    rw [List.all_cons, Bool.and_eq_true] at h
    rw [star_cons h.1]
    show (false || (backTo pos (starEach es env)).any (·.1)) = false
    rw [star_any h.2]; rfl
def nslice : PySem.Expr → Bool
  | .Slice .. => false
  | _ => true
theorem plain_ix {e : PySem.Expr} (h : nslice e = true) : PlainIx e := by
  intro o i
  cases e <;> first | rfl | cases h
def nset : PySem.Expr → Bool
  | .Set .. => false
  | _ => true
theorem nmark {e : PySem.Expr} {op : CmpOp} (h : nset e = true) : behindInMarks op e = false := by
  cases e <;> first | rfl | cases h
theorem nfold {e : PySem.Expr} {env : PySem.Env} (h : nset e = true) : ∀ x, foldedSetIterable e env x = pure x := by
  intro x
  cases e <;> first | rfl | cases h
def ncall0 : PySem.Expr → Bool
  | .Call (.Name ..) [] [] _ => false
  | _ => true
theorem nbase {e : PySem.Expr} {f : Str} {env : PySem.Env} {t : Sem Value} (h : ncall0 e = true) : attributeBase e f env t = t := by
  unfold attributeBase
  split
  · cases h
  · rfl
section
variable {X : Cx} {Z : Fx} {Γ : Gm} {lev : Nat} {T : Tab} {pos p : Pos}
/-! ### two operands, one -/
theorem two_opnds {A B : M Ref} {f : D → D → M Vl} (σ : L2.St) (H : Hp) (Q : VK) (h : rdE Z (A >>= fun x => B >>= fun y => deref x >>= fun x => deref y >>= fun y => f x y) σ H Q) : tOp (K2 Z f) (rdR Z A) (rdR Z B) σ H Q := by
  obtain ⟨F, ρ, E, c⟩ := h
  refine (Cont.bind E c).imp fun x H1 ⟨ra, F1, ρ1, s1, E1, l1, c1⟩ => ?_
  refine (Cont.bind E1 c1).imp fun y H2 ⟨rb, F2, ρ2, s2, E2, l2, c2⟩ => ?_
  obtain ⟨da, sa, c3⟩ := deref_seen E2 (RefR.mono s2 l1) c2
  obtain ⟨db, sb, c4⟩ := deref_seen E2 l2 c3
  exact ⟨σ, F2, ρ2, da, db, E2, sa, sb, c4⟩
theorem one_opnd {A : M Ref} {f : D → M Vl} (σ : L2.St) (H : Hp) (Q : VK) (h : rdE Z (A >>= fun x => deref x >>= fun x => f x) σ H Q) : rdR Z A σ H fun x H1 => K1 Z f x H1 Q := by
  obtain ⟨F, ρ, E, c⟩ := h
  refine (Cont.bind E c).imp fun x H1 ⟨ra, F1, ρ1, s1, E1, l1, c1⟩ => ?_
  obtain ⟨da, sa, c3⟩ := deref_seen E1 l1 c1
  exact ⟨σ, F1, ρ1, da, E1, sa, c3⟩
/-- a value, looked at at once -/
theorem one_val {A : M Vl} {f : D → M Vl} (σ : L2.St) (H : Hp) (Q : VK) (h : rdE Z (A >>= fun v => f v.d) σ H Q) : rdE Z A σ H fun x H1 => K1 Z f x H1 Q := by
  obtain ⟨F, ρ, E, c⟩ := h
  refine (Cont.bind E c).imp fun x H1 ⟨ra, F1, ρ1, s1, E1, l1, c1⟩ => ?_
  obtain ⟨F2, s2, E2, l2⟩ := E1.share l1
  exact ⟨σ, F2, ρ1, ra.d, E2, .inl l2, c1.mono s2⟩
theorem two_vals {A B : M Vl} {f : D → D → M Vl} (σ : L2.St) (H : Hp) (Q : VK) (h : rdE Z (A >>= fun x => B >>= fun y => f x.d y.d) σ H Q) : tOp (K2 Z f) (rdE Z A) (rdE Z B) σ H Q := by
  obtain ⟨F, ρ, E, c⟩ := h
  refine (Cont.bind E c).imp fun x H1 ⟨ra, F1, ρ1, s1, E1, l1, c1⟩ => ?_
  obtain ⟨F2, s2, E2, l2⟩ := E1.share l1
  refine (Cont.bind E2 (c1.mono s2)).imp fun y H2 ⟨rb, F3, ρ3, s3, E3, l3, c3⟩ => ?_
  obtain ⟨F4, s4, E4, l4⟩ := E3.share l3
  exact ⟨σ, F4, ρ3, ra.d, rb.d, E4, .inl (l2.mono (s3.trans s4)), .inl l4, c3.mono s4⟩
/-- an operand, then a value -/
theorem opnd_val {A : M Ref} {B : M Vl} {f : D → D → M Vl} (σ : L2.St) (H : Hp) (Q : VK) (h : rdE Z (A >>= fun x => B >>= fun y => deref x >>= fun x => f x y.d) σ H Q) : tOp (K2 Z f) (rdR Z A) (rdE Z B) σ H Q := by
  obtain ⟨F, ρ, E, c⟩ := h
  refine (Cont.bind E c).imp fun x H1 ⟨ra, F1, ρ1, s1, E1, l1, c1⟩ => ?_
  refine (Cont.bind E1 c1).imp fun y H2 ⟨rb, F3, ρ3, s3, E3, l3, c3⟩ => ?_
  obtain ⟨F4, s4, E4, l4⟩ := E3.share l3
  obtain ⟨da, sa, c4⟩ := deref_seen E4 (RefR.mono (s3.trans s4) l1) (c3.mono s4)
  exact ⟨σ, F4, ρ3, da, rb.d, E4, sa, .inl l4, c4⟩
theorem val_opnd {A : M Vl} {B : M Ref} {f : D → D → M Vl} (σ : L2.St) (H : Hp) (Q : VK) (h : rdE Z (A >>= fun x => B >>= fun y => deref y >>= fun y => f x.d y) σ H Q) : tOp (K2 Z f) (rdE Z A) (rdR Z B) σ H Q := by
  obtain ⟨F, ρ, E, c⟩ := h
  refine (Cont.bind E c).imp fun x H1 ⟨ra, F1, ρ1, s1, E1, l1, c1⟩ => ?_
  obtain ⟨F2, s2, E2, l2⟩ := E1.share l1
  refine (Cont.bind E2 (c1.mono s2)).imp fun y H2 ⟨rb, F3, ρ3, s3, E3, l3, c3⟩ => ?_
  obtain ⟨db, sb, c4⟩ := deref_seen E3 l3 c3
  exact ⟨σ, F3, ρ3, ra.d, db, E3, .inl (l2.mono s3), sb, c4⟩
/-! ### lists of items -/
theorem snd_nil : PA X [] (Rd Z (lDs Z) (evL Γ [])) := pa_mono pa_nil fun σ H Q ⟨F, ρ, E, c⟩ => by
  rw [evL] at c
  exact c [] F H (Same.refl F) E .nil
theorem snd_cons {e : E} {es : List E} {a : PySem.Expr} {as : List PySem.Expr} (ha : PE X a (rdE Z (evE Γ e))) (hs : PA X as (Rd Z (lDs Z) (evL Γ es))) (hn : nst a = true) : PA X (a :: as) (Rd Z (lDs Z) (evL Γ (e :: es))) :=
  pa_mono (pa_cons ha hs (star_cons hn)) fun σ H Q ⟨F, ρ, E, c⟩ => by
    rw [evL] at c
    refine (Cont.bind E c).imp fun x H1 ⟨ra, F1, ρ1, s1, E1, l1, c1⟩ => ?_
    obtain ⟨F2, s2, E2, l2⟩ := E1.share l1
    refine (Cont.bind E2 (c1.mono s2)).imp fun xs H2 ⟨ds, F3, ρ3, s3, E3, l3, c3⟩ => ?_
    exact c3 _ F3 H2 (Same.refl F3) E3 (.cons (l2.mono s3) l3)
theorem snd_tup {es : List E} {as : List PySem.Expr} {k : Nat} (h : PA X as (Rd Z (lDs Z) (evL Γ es))) : PE X (.Tuple as k pos) (rdE Z (evE Γ (.tup es))) :=
  pe_mono (pe_tup h) fun σ H Q ⟨F, ρ, E, c⟩ => by
    rw [evE] at c
    refine (Cont.bind E c).imp fun xs H1 ⟨ds, F1, ρ1, s1, E1, l1, c1⟩ => ?_
    split at c1
    · rename_i hl
      exact ⟨by rw [← szL_eq, l1.length]; exact hl, cont_tup c1 E1 l1⟩
    · exact c1.elim
theorem snd_lst {es : List E} {as : List PySem.Expr} (h : PA X as (Rd Z (lDs Z) (evL Γ es))) : PE X (.List as pos) (rdE Z (evE Γ (.lst es))) :=
  pe_mono (pe_lst h) fun σ H Q ⟨F, ρ, E, c⟩ => by
    rw [evE] at c
    refine (Cont.bind E c).imp fun xs H1 ⟨ds, F1, ρ1, s1, E1, l1, c1⟩ => ?_
    split at c1
    · rename_i hl
      exact ⟨by rw [← szL_eq, l1.length]; exact hl, cont_lst c1 E1 l1⟩
    · exact c1.elim
/-! ### constants -/
theorem snd_const {v : V} {d : D} {m : M Vl} {ast : PySem.Expr} (hm : m = pure (sh d)) (r : ∀ F, Rp Z.K F v d) (h : PE X ast (tC v)) : PE X ast (rdE Z m) :=
  pe_mono h fun σ H Q ⟨F, ρ, E, c⟩ => by
    subst hm
    exact cont_val c E (r F)
/-! ### operators -/
theorem snd_bin {op : Bop} {a b : E} {x y : PySem.Expr} (hK : X.K = Z.K) (ha : PE X x (rdR Z (opnd a (evE Γ a)))) (hb : PE X y (rdR Z (opnd b (evE Γ b)))) : PE X (.BinOp x (opB op) y pos) (rdE Z (evE Γ (.bin op a b))) :=
  pe_mono (pe_op (op_bin hK op) ha hb) fun σ H Q h => by
    rw [evE] at h
    exact two_opnds σ H Q h
theorem snd_cmp {op : Cop} {a b : E} {x y : PySem.Expr} (ft : Fit X Z lev T Γ) (ha : PE X x (rdR Z (opnd a (evE Γ a)))) (hb : PE X y (rdR Z (opnd b (evE Γ b)))) : PE X (.Compare x [opC op] [y] pos) (rdE Z (evE Γ (.cmp op a b))) :=
  pe_mono (pe_cmpR (op_cmpD ft.hK ft.units op) ha hb (by cases op <;> exact nomark _)) fun σ H Q h => by
    rw [evE] at h
    exact two_opnds σ H Q h
theorem snd_mem {n : Bool} {a b : E} {x y : PySem.Expr} (ft : Fit X Z lev T Γ) (hn : nset y = true) (ha : PE X x (rdE Z (evE Γ a))) (hb : PE X y (rdR Z (opnd b (evE Γ b)))) : PE X (.Compare x [if n then .NotIn else .In] [y] pos) (rdE Z (evE Γ (.mem n a b))) :=
  pe_mono (pe_cmpR (op_memD ft.hK ft.units n) ha hb (nmark hn)) fun σ H Q h => by
    rw [evE] at h
    exact val_opnd (f := fun x d => M.opt ((memv x d).map fun b => sh (.bl (b != n)))) σ H Q h
theorem op_isND (hK : X.K = Z.K) (n : Bool) : OpR X (compareOp (if n then .IsNot else .Is)) (fun x y H Q => y = .non ∧ K1 Z (fun d => pure (sh (.bl (match d with
    | .non => !n
    | _ => n)))) x H Q) := by
  intro pins s σ' H x y v u Q I rx ry ⟨ey, σ, F, ρ, d, E, hx, c⟩
  have e : decide (x = .non) = (match d with
    | .non => true
    | _ => false) := by
    rcases hx with hx | ⟨a, xs, ds, rfl, rfl, _⟩
    · cases hx <;> simp
    · simp
  have q := cont_val c E (.bl _)
  cases n with
  | false =>
    refine op_isN pins s σ' H x y v u Q I rx ry ⟨ey, ?_⟩
    rw [e]
    cases d <;> exact q
  | true =>
    refine op_notN pins s σ' H x y v u Q I rx ry ⟨ey, ?_⟩
    rw [e]
    cases d <;> exact q
theorem snd_isN {n : Bool} {a : E} {x : PySem.Expr} {k : Nat} {p2 : Pos} (hK : X.K = Z.K) (ha : PE X x (rdR Z (opnd a (evE Γ a)))) : PE X (.Compare x [if n then .IsNot else .Is] [.Constant .none k p2] pos) (rdE Z (evE Γ (.isN n a))) :=
  pe_mono (pe_cmpR (op_isND hK n) ha pe_non rfl) fun σ H Q h => by
    rw [evE] at h
    refine (one_opnd (f := fun d => pure (sh (.bl (match d with
      | .non => !n
      | _ => n)))) σ H Q h).imp fun x H1 q => ?_
    exact ⟨rfl, q⟩
theorem op_isBD (n : Bool) : OpR X (compareOp (if n then .IsNot else .Is)) (K2 Z fun x y => asBl (sh x) >>= fun p => asBl (sh y) >>= fun q => pure (sh (.bl ((p == q) != n)))) := by
  intro pins s σ' H x y v u Q I rx ry ⟨σ, F, ρ, dx, dy, E, hx, hy, c⟩
  cases dx with
  | bl p =>
    cases dy with
    | bl q =>
      cases seen_bl hx
      cases seen_bl hy
      have z := cont_val c E (.bl _)
      cases n with
      | false =>
        refine op_isBl pins s σ' H _ _ v u Q I rx ry ⟨p, q, rfl, rfl, ?_⟩
        rw [show decide (p = q) = ((p == q) != false) by cases p <;> cases q <;> rfl]
        exact z
      | true =>
        refine op_notBl pins s σ' H _ _ v u Q I rx ry ⟨p, q, rfl, rfl, ?_⟩
        rw [show (!decide (p = q)) = ((p == q) != true) by cases p <;> cases q <;> rfl]
        exact z
    | _ => exact c.elim
  | _ => exact c.elim
theorem snd_isB {n : Bool} {a b : E} {x y : PySem.Expr} (hn : nset y = true) (ha : PE X x (rdE Z (evE Γ a))) (hb : PE X y (rdE Z (evE Γ b))) : PE X (.Compare x [if n then .IsNot else .Is] [y] pos) (rdE Z (evE Γ (.isB n a b))) :=
  pe_mono (pe_cmpR (op_isBD n) ha hb (nmark hn)) fun σ H Q h => by
    rw [evE] at h
    exact two_vals (f := fun x y => asBl (sh x) >>= fun p => asBl (sh y) >>= fun q => pure (sh (.bl ((p == q) != n)))) σ H Q h
theorem snd_neg {a : E} {x : PySem.Expr} (ha : PE X x (rdE Z (evE Γ a))) : PE X (.UnaryOp .USub x pos) (rdE Z (evE Γ (.neg a))) :=
  pe_mono (pe_un un_neg ha) fun σ H Q h => by
    rw [evE] at h
    refine (one_val (f := fun d => asInt d >>= fun i => pure (sh (.int (-i)))) σ H Q h).imp fun x H1 ⟨σ', F, ρ, d, E, hx, c⟩ => ?_
    cases d with
    | int i =>
      cases seen_int hx
      exact ⟨i, rfl, cont_val c E (.int _)⟩
    | _ => exact c.elim
/-! ### truth -/
theorem asBl_of {r : Vl} {v : V} {F G H : Hp} {σ : L2.St} {ρ : Env} {K : PySem.W.Frag} {b : Bool} (h : Res K F G H σ ρ v r) (e : r.d = .bl b) : v = .bl b := by
  obtain ⟨o, d⟩ := r
  cases e
  cases o with
  | false =>
    have h' : Rp K F v (.bl b) := h
    cases h'; rfl
  | true =>
    obtain ⟨a, _, ⟨_, _, z⟩, _⟩ := h
    exact z.elim
theorem rd_bl {m : M Vl} {C β : Type} {rel : Lie C β} {g : Bool → M β} {Q : C → Hp → Prop} {σ : L2.St} {F H : Hp} {ρ : Env} (E : EnvOk Z.K Z.pa F Z.G H σ ρ) (c : Cont Z rel σ F ((m >>= fun v => asBl v >>= g) ρ) Q) :
    rdE Z m σ H fun x H1 => ∃ b, x = .bl b ∧ ∃ F1 ρ1, Same F F1 ∧ EnvOk Z.K Z.pa F1 Z.G H1 σ ρ1 ∧ Cont Z rel σ F1 (g b ρ1) Q := by
  refine (Cont.bind E c).imp fun x H1 ⟨ra, F1, ρ1, s1, E1, l1, c1⟩ => ?_
  cases q : ra.d with
  | bl b =>
    refine ⟨b, asBl_of l1 q, F1, ρ1, s1, E1, ?_⟩
    unfold asBl at c1
    rw [q] at c1
    exact c1
  | _ =>
    unfold asBl at c1
    rw [q] at c1
    exact c1.elim
abbrev rdB (Z : Fx) (m : M Bool) : TT := Rd Z lBool m
theorem rd_blT {m : M Vl} {C β : Type} {rel : Lie C β} {g : Bool → M β} {Q : C → Hp → Prop} {σ : L2.St} {F H : Hp} {ρ : Env} (E : EnvOk Z.K Z.pa F Z.G H σ ρ) (c : Cont Z rel σ F ((m >>= fun v => asBl v >>= g) ρ) Q) :
    rdB Z (m >>= asBl) σ H fun b H1 => ∃ F1 ρ1, Same F F1 ∧ EnvOk Z.K Z.pa F1 Z.G H1 σ ρ1 ∧ Cont Z rel σ F1 (g b ρ1) Q := by
  have e : (m >>= fun v => asBl v >>= g) = ((m >>= asBl) >>= g) := by
    funext ρ
    cases q : m ρ with
    | ok a ρ' =>
      rw [bind_ok q]
      cases q2 : asBl a ρ' with
      | ok b ρ2 => rw [bind_ok q2, bind_ok (f := m >>= asBl) (a := b) (ρ' := ρ2)]; rw [bind_ok q]; exact q2
      | err x ρ2 => rw [bind_err q2, bind_err (f := m >>= asBl) (e := x) (ρ' := ρ2)]; rw [bind_ok q]; exact q2
      | bad => rw [bind_bad q2, bind_bad (f := m >>= asBl)]; rw [bind_ok q]; exact q2
    | err x ρ' => rw [bind_err q, bind_err (f := m >>= asBl) (e := x) (ρ' := ρ')]; rw [bind_err q]
    | bad => rw [bind_bad q, bind_bad (f := m >>= asBl)]; rw [bind_bad q]
  rw [e] at c
  refine (Cont.bind E c).imp fun b H1 ⟨ra, F1, ρ1, s1, E1, l1, c1⟩ => ?_
  cases (show ra = b from l1)
  exact ⟨F1, ρ1, s1, E1, c1⟩
/-- what may stand as a test and is a plain value -/
def plainT : PySem.Expr → Bool
  | .Call .. => true
  | .Name .. => true
  | .Subscript .. => true
  | .Constant .. => true
  | _ => false
theorem pt_plain {m : M Vl} {e : PySem.Expr} (h : PE X e (rdE Z m)) (hp : plainT e = true) : PT X e (rdB Z (m >>= asBl)) := by
  refine pt_mono (pt_val h (by intro w; cases e <;> first | rfl | cases hp)) fun σ H Q ⟨F, ρ, E, c⟩ => ?_
  have c' : Cont Z lBool σ F ((m >>= fun v => asBl v >>= fun b => (pure b : M Bool)) ρ) Q := by
    have e : (m >>= fun v => asBl v >>= fun b => (pure b : M Bool)) = (m >>= asBl) := by
      have e2 : (fun v => asBl v >>= fun b => (pure b : M Bool)) = asBl := by
        funext v ρ
        unfold asBl
        cases v.d <;> rfl
      rw [e2]
    rw [e]; exact c
  exact (rd_bl E c').imp fun x H1 ⟨b, e, F1, ρ1, _, E1, c1⟩ => ⟨b, e, c1.ok E1 rfl⟩
/-- the same of a comparison -/
theorem pt_cmpv {m : M Vl} {op : CmpOp} {x y : PySem.Expr} {r : R2} {ta tb : TE} (ho : OpR X (compareOp op) r) (ha : PE X x ta) (hb : PE X y tb) (hm : behindInMarks op y = false) (h : ∀ σ H Q, rdE Z m σ H Q → tOp r ta tb σ H Q) :
    PT X (.Compare x [op] [y] pos) (rdB Z (m >>= asBl)) := by
  refine pt_mono (pt_cmpR ho ha hb hm) fun σ H Q ⟨F, ρ, E, c⟩ => ?_
  have c' : Cont Z lBool σ F ((m >>= fun v => asBl v >>= fun b => (pure b : M Bool)) ρ) Q := by
    have e : (m >>= fun v => asBl v >>= fun b => (pure b : M Bool)) = (m >>= asBl) := by
      have e2 : (fun v => asBl v >>= fun b => (pure b : M Bool)) = asBl := by
        funext v ρ
        unfold asBl
        cases v.d <;> rfl
      rw [e2]
    rw [e]; exact c
  exact h σ H _ ((rd_bl E c').imp fun x H1 ⟨b, e, F1, ρ1, _, E1, c1⟩ => ⟨b, e, c1.ok E1 rfl⟩)
end
end PL
/-! PLCons3: and, or, not, if-else, items, slices, calls of built-ins. -/
namespace PL
open PySem L2 PySem.Spec PyProof.Rows
section
variable {X : Cx} {Z : Fx} {Γ : Gm} {lev : Nat} {T : Tab} {pos p : Pos}
theorem snd_and {a b : E} {x y : PySem.Expr} {r : List PySem.Expr} (ha : PE X x (rdE Z (evE Γ a))) (hb : PE X (.BoolOp .And (y :: r) pos) (rdE Z (evE Γ b))) : PE X (.BoolOp .And (x :: y :: r) pos) (rdE Z (evE Γ (.and a b))) :=
  pe_mono (pe_and ha hb) fun σ H Q ⟨F, ρ, E, c⟩ => by
    rw [evE] at c
    refine (rd_bl E c).imp fun x H1 ⟨b, e, F1, ρ1, _, E1, c1⟩ => ⟨b, e, ?_⟩
    cases b with
    | true => exact iteT ⟨F1, ρ1, E1, c1⟩
    | false => exact iteF (cont_val c1 E1 (.bl _))
theorem snd_or {a b : E} {x y : PySem.Expr} {r : List PySem.Expr} (ha : PE X x (rdE Z (evE Γ a))) (hb : PE X (.BoolOp .Or (y :: r) pos) (rdE Z (evE Γ b))) : PE X (.BoolOp .Or (x :: y :: r) pos) (rdE Z (evE Γ (.or a b))) :=
  pe_mono (pe_or ha hb) fun σ H Q ⟨F, ρ, E, c⟩ => by
    rw [evE] at c
    refine (rd_bl E c).imp fun x H1 ⟨b, e, F1, ρ1, _, E1, c1⟩ => ⟨b, e, ?_⟩
    cases b with
    | false => exact iteF ⟨F1, ρ1, E1, c1⟩
    | true => exact iteT (cont_val c1 E1 (.bl _))
theorem bl_eta (m : M Vl) : (m >>= fun v => asBl v >>= fun b => (pure b : M Bool)) = (m >>= asBl) := by
  have e2 : (fun v => asBl v >>= fun b => (pure b : M Bool)) = asBl := by
    funext v ρ
    unfold asBl
    cases v.d <;> rfl
  rw [e2]
theorem bind_assoc {α β γ : Type} (m : M α) (f : α → M β) (g : β → M γ) : ((m >>= f) >>= g) = (m >>= fun a => f a >>= g) := by
  funext ρ
  cases q : m ρ with
  | ok a ρ' =>
    rw [bind_ok (g := fun a => f a >>= g) q]
    cases q2 : f a ρ' with
    | ok b ρ2 => rw [bind_ok q2, bind_ok (f := m >>= f) (a := b) (ρ' := ρ2)]; rw [bind_ok q]; exact q2
    | err x ρ2 => rw [bind_err q2, bind_err (f := m >>= f) (e := x) (ρ' := ρ2)]; rw [bind_ok q]; exact q2
    | bad => rw [bind_bad q2, bind_bad (f := m >>= f)]; rw [bind_ok q]; exact q2
  | err x ρ' => rw [bind_err (g := fun a => f a >>= g) q, bind_err (f := m >>= f) (e := x) (ρ' := ρ')]; rw [bind_err q]
  | bad => rw [bind_bad (g := fun a => f a >>= g) q, bind_bad (f := m >>= f)]; rw [bind_bad q]
theorem sndT_and {a b : E} {x y : PySem.Expr} {r : List PySem.Expr} (ha : PT X x (rdB Z (evE Γ a >>= asBl))) (hb : PW X (.BoolOp .And (y :: r) pos) (rdB Z (evE Γ b >>= asBl))) : PW X (.BoolOp .And (x :: y :: r) pos) (rdB Z (evE Γ (.and a b) >>= asBl)) :=
  pw_mono (pw_and ha hb) fun σ H Q ⟨F, ρ, E, c⟩ => by
    rw [evE, bind_assoc] at c
    have e : (fun v => (asBl v >>= fun k => sel k (evE Γ b) (pure (sh (.bl false)))) >>= asBl) = fun v => asBl v >>= fun k => (sel k (evE Γ b) (pure (sh (.bl false))) >>= asBl) := by
      funext v
      rw [bind_assoc]
    rw [e] at c
    refine (rd_blT E c).imp fun k H1 ⟨F1, ρ1, _, E1, c1⟩ => ?_
    cases k with
    | true => exact iteT ⟨F1, ρ1, E1, c1⟩
    | false => exact iteF ((show Cont Z lBool σ F1 (.ok false ρ1) Q from c1).ok E1 rfl)
theorem sndT_or {a b : E} {x y : PySem.Expr} {r : List PySem.Expr} (ha : PT X x (rdB Z (evE Γ a >>= asBl))) (hb : PW X (.BoolOp .Or (y :: r) pos) (rdB Z (evE Γ b >>= asBl))) : PW X (.BoolOp .Or (x :: y :: r) pos) (rdB Z (evE Γ (.or a b) >>= asBl)) :=
  pw_mono (pw_or ha hb) fun σ H Q ⟨F, ρ, E, c⟩ => by
    rw [evE, bind_assoc] at c
    have e : (fun v => (asBl v >>= fun k => sel k (pure (sh (.bl true))) (evE Γ b)) >>= asBl) = fun v => asBl v >>= fun k => (sel k (pure (sh (.bl true))) (evE Γ b) >>= asBl) := by
      funext v
      rw [bind_assoc]
    rw [e] at c
    refine (rd_blT E c).imp fun k H1 ⟨F1, ρ1, _, E1, c1⟩ => ?_
    cases k with
    | false => exact iteF ⟨F1, ρ1, E1, c1⟩
    | true => exact iteT ((show Cont Z lBool σ F1 (.ok true ρ1) Q from c1).ok E1 rfl)
theorem pw_one {op : BoolOp} {y : PySem.Expr} {t : TT} (h : PT X y t) : PW X (.BoolOp op [y] pos) t := by
  cases op
  · exact pw_and1 h
  · exact pw_or1 h
theorem snd_not {a : E} {x : PySem.Expr} (ha : PE X x (rdE Z (evE Γ a))) : PE X (.UnaryOp .Not x pos) (rdE Z (evE Γ (.not a))) :=
  pe_mono (pe_not ha) fun σ H Q ⟨F, ρ, E, c⟩ => by
    rw [evE] at c
    exact (rd_bl (g := fun b => pure (sh (.bl !b))) E c).imp fun x H1 ⟨b, e, F1, ρ1, _, E1, c1⟩ => ⟨b, e, cont_val c1 E1 (.bl _)⟩
theorem sndT_not {a : E} {x : PySem.Expr} (ha : PT X x (rdB Z (evE Γ a >>= asBl))) : PT X (.UnaryOp .Not x pos) (rdB Z (evE Γ (.not a) >>= asBl)) :=
  pt_mono (pt_not ha) fun σ H Q ⟨F, ρ, E, c⟩ => by
    rw [evE, bind_assoc] at c
    have e : (fun v => evNot v >>= asBl) = fun v => asBl v >>= fun b => (pure (!b) : M Bool) := by
      funext v
      unfold evNot
      rw [bind_assoc]
      rfl
    rw [e] at c
    exact (rd_blT E c).imp fun b H1 ⟨F1, ρ1, _, E1, c1⟩ => c1.ok E1 rfl
theorem snd_ite {c a b : E} {x y z : PySem.Expr} (hc : PT X x (rdB Z (evE Γ c >>= asBl))) (ha : PE X y (rdE Z (evE Γ a))) (hb : PE X z (rdE Z (evE Γ b))) : PE X (.IfExp x y z pos) (rdE Z (evE Γ (.ite c a b))) :=
  pe_mono (pe_ifExp hc ha hb) fun σ H Q ⟨F, ρ, E, c⟩ => by
    rw [evE] at c
    refine (rd_blT E c).imp fun k H1 ⟨F1, ρ1, _, E1, c1⟩ => ?_
    cases k with
    | true => exact iteT ⟨F1, ρ1, E1, c1⟩
    | false => exact iteF ⟨F1, ρ1, E1, c1⟩
/-- a < b < c of ints -/
theorem op_ord (hK : X.K = Z.K) (hu : X.A.units + 65 < cLine) (o : Cop) : OpR X (compareOp (opC o)) (K2 Z (cmpM o)) := op_cmpD hK hu o
theorem snd_chain {o o' : Cop} {a b c : E} {x y z : PySem.Expr} (ft : Fit X Z lev T Γ) (ha : PE X x (rdE Z (evE Γ a))) (hb : PE X y (rdE Z (evE Γ b))) (hc : PE X z (rdE Z (evE Γ c))) :
    PE X (.Compare x [opC o, opC o'] [y, z] pos) (rdE Z (evE Γ (.chain o o' a b c))) ∧ PT X (.Compare x [opC o, opC o'] [y, z] pos) (rdB Z (evE Γ (.chain o o' a b c) >>= asBl)) := by
  have key : ∀ (σ : L2.St) (H : Hp) (Q : VK), rdE Z (evE Γ (.chain o o' a b c)) σ H Q → tChain (K2 Z (cmpM o)) (K2 Z (cmpM o')) (rdE Z (evE Γ a)) (rdE Z (evE Γ b)) (rdE Z (evE Γ c)) σ H Q := fun σ H Q ⟨F, ρ, E, c⟩ => by
    rw [evE] at c
    refine (Cont.bind E c).imp fun x H1 ⟨ra, F1, ρ1, s1, E1, l1, c1⟩ => ?_
    obtain ⟨F2, s2, E2, l2⟩ := E1.share l1
    refine (Cont.bind E2 (c1.mono s2)).imp fun y H2 ⟨rb, F3, ρ3, s3, E3, l3, c3⟩ => ?_
    obtain ⟨F4, s4, E4, l4⟩ := E3.share l3
    refine ⟨σ, F4, ρ3, ra.d, rb.d, E4, .inl (l2.mono (s3.trans s4)), .inl l4, ?_⟩
    have c5 := c3.mono s4
    cases q : cmpv o ra.d rb.d with
    | none =>
      have e : cmpM o ra.d rb.d ρ3 = .bad := by unfold cmpM; rw [q]; rfl
      rw [bind_bad e] at c5
      exact c5.elim
    | some k =>
      have e : cmpM o ra.d rb.d ρ3 = .ok (sh (.bl k)) ρ3 := by unfold cmpM; rw [q]; rfl
      rw [bind_ok e] at c5
      rw [e]
      intro v F' H' s E' l
      have ev : v = .bl k := asBl_of l rfl
      refine ⟨k, ev, ?_⟩
      cases k with
      | false => exact iteF (cont_val (c5.mono s) E' (.bl _))
      | true =>
        refine iteT ?_
        refine (Cont.bind E' ((show Cont Z (lV Z) σ F4 ((evE Γ _ >>= fun w => cmpM o' rb.d w.d) ρ3) Q from c5).mono s)).imp fun w H3 ⟨rc, F5, ρ5, s5, E5, l5, c6⟩ => ?_
        obtain ⟨F6, s6, E6, l6⟩ := E5.share l5
        exact ⟨σ, F6, ρ5, rb.d, rc.d, E6, .inl (l4.mono (s.trans (s5.trans s6))), .inl l6, c6.mono s6⟩
  refine ⟨pe_mono (pe_chain (op_ord ft.hK ft.units o) (op_ord ft.hK ft.units o') ha hb hc (by show behindInMarks (opC o') z = false; cases o' <;> exact nomark _)) key, ?_⟩
  refine pt_mono (pt_chain (op_ord ft.hK ft.units o) (op_ord ft.hK ft.units o') ha hb hc (by show behindInMarks (opC o') z = false; cases o' <;> exact nomark _)) fun σ H Q ⟨F, ρ, E, c⟩ => ?_
  rw [← bl_eta] at c
  exact key σ H _ ((rd_bl E c).imp fun x H1 ⟨b, e, F1, ρ1, _, E1, c1⟩ => ⟨b, e, c1.ok E1 rfl⟩)
/-! ### items and slices -/
theorem snd_ix {a b : E} {x y : PySem.Expr} (hK : X.K = Z.K) (hn : nslice y = true) (ha : PE X x (rdR Z (opnd a (evE Γ a)))) (hb : PE X y (rdE Z (evE Γ b))) : PE X (.Subscript x y pos) (rdE Z (evE Γ (.ix a b))) :=
  pe_mono (pe_ix (ix_D hK) ha hb (plain_ix hn)) fun σ H Q h => by
    rw [evE] at h
    exact opnd_val (f := fun d k => M.opt ((itemv d k).map sh)) σ H Q h
abbrev lO (Z : Fx) : Lie (Option Int) (Option D) := fun _ _ _ _ v d => optInt d = some v
theorem sndO_none : PO X none (Rd Z (fun _ _ _ _ v d => d = v) (evO Γ none >>= asPart)) := ⟨fun pins s σ H Q I ⟨F, ρ, E, c⟩ => po_none.run pins s σ H Q I (by
  rw [evO] at c
  exact c none F H (Same.refl F) E rfl)⟩
theorem sndO_some {a : E} {x : PySem.Expr} (h : PE X x (rdE Z (evE Γ a))) : PO X (some x) (Rd Z (fun _ _ _ _ v d => d = v) (evO Γ (some a) >>= asPart)) := ⟨fun pins s σ H Q I ⟨F, ρ, E, c⟩ => (po_some h).run pins s σ H Q I (by
  rw [evO, bind_assoc] at c
  refine (Cont.bind E c).imp fun v H1 ⟨r, F1, ρ1, s1, E1, l1, c1⟩ => ?_
  have c2 : Cont Z (fun _ _ _ _ v d => d = v) σ F1 (asPart (some r.d) ρ1) Q := c1
  unfold asPart at c2
  obtain ⟨o, e, c3⟩ := cont_opt c2
  obtain ⟨ow, d⟩ := r
  cases d with
  | int i =>
    cases e
    cases ow with
    | false =>
      have l1' : Rp Z.K F1 v (.int i) := l1
      cases l1'
      exact ⟨i, rfl, c3 _ F1 H1 (Same.refl F1) E1 rfl⟩
    | true =>
      obtain ⟨_, _, ⟨_, _, z⟩, _⟩ := l1
      exact z.elim
  | _ => cases e)⟩
theorem snd_cut {a : E} {lo hi : Option E} {x : PySem.Expr} {xl xh : Option PySem.Expr} {p2 : Pos} (hK : X.K = Z.K) (ha : PE X x (rdR Z (opnd a (evE Γ a)))) (hl : PO X xl (Rd Z (fun _ _ _ _ v d => d = v) (evO Γ lo >>= asPart)))
    (hh : PO X xh (Rd Z (fun _ _ _ _ v d => d = v) (evO Γ hi >>= asPart))) : PE X (.Subscript x (.Slice xl xh none p2) pos) (rdE Z (evE Γ (.cut a lo hi))) :=
  pe_mono (pe_slice (sl_D hK) ha hl hh) fun σ H Q ⟨F, ρ, E, c⟩ => by
    rw [evE] at c
    refine (Cont.bind E c).imp fun v H1 ⟨r, F1, ρ1, s1, E1, l1, c1⟩ => ?_
    refine (Cont.bind E1 c1).imp fun l H2 ⟨l', F2, ρ2, s2, E2, e2, c2⟩ => ?_
    subst e2
    refine (Cont.bind E2 c2).imp fun h H3 ⟨h', F3, ρ3, s3, E3, e3, c3⟩ => ?_
    subst e3
    obtain ⟨d, sd, c4⟩ := deref_seen E3 (RefR.mono (s2.trans s3) l1) c3
    exact ⟨σ, F3, ρ3, d, E3, sd, c4⟩
/-! ### built-ins -/
def ndb (x : Str) : Bool := !(x == ("__debug__" : Str)) && !(x == ("__classdict__" : Str)) && decide (x ≠ "__name__")
theorem snd_b1 {b : B1} {a : E} {x : PySem.Expr} (ft : Fit X Z lev T Γ) (hg : Gl X (nmB1 b)) (hm : X.mg (nmB1 b) = none) (hn : nst x = true) (ha : PE X x (rdR Z (opnd a (evE Γ a)))) :
    PE X (.Call (.Name (nmB1 b) p) [x] [] pos) (rdE Z (evE Γ (.b1 b a))) := by
  have key : ∀ (σ : L2.St) (H : Hp) (Q : VK), rdE Z (evE Γ (.b1 b a)) σ H Q → tCB (KC Z fun d => M.opt (b1 b d)) (tCons (rdR Z (opnd a (evE Γ a))) tNil) σ H Q := fun σ H Q h => by
    rw [evE] at h
    exact (one_opnd (f := fun d => M.opt (b1 b d)) σ H Q h).imp fun x H1 q => ⟨x, rfl, q⟩
  have pa := pa_cons ha pa_nil (star_cons (es := []) hn)
  cases b
  · exact pe_mono (pe_callB (id := "len") (call_b1 ft.hK ft.calm .len) hg hm (boot_B1 .len) pa (by decide) (by decide) (star_cons hn) rfl) key
  · exact pe_mono (pe_callTy (T := "list") (call_b1 ft.hK ft.calm .list) hg hm (boot_B1 .list) pa (by decide) (by decide) (star_cons hn) rfl) key
  · exact pe_mono (pe_callTy (T := "tuple") (call_b1 ft.hK ft.calm .tuple) hg hm (boot_B1 .tuple) pa (by decide) (by decide) (star_cons hn) rfl) key
  · exact pe_mono (pe_callTy (T := "int") (call_b1 ft.hK ft.calm .int) hg hm (boot_B1 .int) pa (by decide) (by decide) (star_cons hn) rfl) key
  · exact pe_mono (pe_callTy (T := "str") (call_b1 ft.hK ft.calm .str) hg hm (boot_B1 .str) pa (by decide) (by decide) (star_cons hn) rfl) key
  · exact pe_mono (pe_callB (id := "sum") (call_b1 ft.hK ft.calm .sum) hg hm (boot_B1 .sum) pa (by decide) (by decide) (star_cons hn) rfl) key
  · exact pe_mono (pe_callB (id := "all") (call_b1 ft.hK ft.calm .all) hg hm (boot_B1 .all) pa (by decide) (by decide) (star_cons hn) rfl) key
  · exact pe_mono (pe_callB (id := "any") (call_b1 ft.hK ft.calm .any) hg hm (boot_B1 .any) pa (by decide) (by decide) (star_cons hn) rfl) key
  · exact pe_mono (pe_callB (id := "abs") (call_b1 ft.hK ft.calm .abs) hg hm (boot_B1 .abs) pa (by decide) (by decide) (star_cons hn) rfl) key
theorem snd_b2 {b : B2} {a c : E} {x y : PySem.Expr} (ft : Fit X Z lev T Γ) (hg : Gl X (nmB2 b)) (hm : X.mg (nmB2 b) = none) (hn : nst x = true) (hn2 : nst y = true) (ha : PE X x (rdE Z (evE Γ a))) (hb : PE X y (rdE Z (evE Γ c))) :
    PE X (.Call (.Name (nmB2 b) p) [x, y] [] pos) (rdE Z (evE Γ (.b2 b a c))) := by
  have key : ∀ (σ : L2.St) (H : Hp) (Q : VK), rdE Z (evE Γ (.b2 b a c)) σ H Q → tCB (KC2 Z fun d e => M.opt (b2 b d e)) (tCons (rdE Z (evE Γ a)) (tCons (rdE Z (evE Γ c)) tNil)) σ H Q := fun σ H Q h => by
    rw [evE] at h
    exact (two_vals (f := fun d e => M.opt (b2 b d e)) σ H Q h).imp fun x H1 q => q.imp fun y H2 q => ⟨x, y, rfl, q⟩
  have pa := pa_cons ha (pa_cons hb pa_nil (star_cons (es := []) hn2)) (star_cons hn)
  have st : (backTo pos (starEach [y] X.env)).any (·.1) = false := star_any (es := [y]) (by simp [hn2])
  cases b
  · exact pe_mono (pe_callB (id := "min") (call_b2 ft.hK ft.calm .min) hg hm (boot_B2 .min) pa (by decide) (by decide) (star_cons hn) st) key
  · exact pe_mono (pe_callB (id := "max") (call_b2 ft.hK ft.calm .max) hg hm (boot_B2 .max) pa (by decide) (by decide) (star_cons hn) st) key
def nmTyS (t : Ty) : Str := (nmTy t : Str)
theorem boot_Ty (t : Ty) : bootBuiltins (nmTyS t) = some (.type (nmTy t)) := by cases t <;> decide +kernel
theorem snd_isi {t : Ty} {a : E} {x : PySem.Expr} {p2 : Pos} (ft : Fit X Z lev T Γ) (hg : Gl X "isinstance") (hm : X.mg "isinstance" = none) (hg2 : Gl X (nmTyS t)) (hm2 : X.mg (nmTyS t) = none) (hn : nst x = true) (ha : PE X x (rdE Z (evE Γ a))) :
    PE X (.Call (.Name "isinstance" p) [x, .Name (nmTyS t) p2] [] pos) (rdE Z (evE Γ (.isi t a))) := by
  have pt : PE X (.Name (nmTyS t) p2) (tC (.ty (nmTy t))) := pe_bltn hg2 hm2 (boot_Ty t) rfl (by cases t <;> decide) (by cases t <;> decide)
  refine pe_mono (pe_callB (call_isiD ft.hK t) hg hm boot_isinstance (pa_cons ha (pa_cons pt pa_nil rfl) (star_cons hn)) (by decide) (by decide) (star_cons hn) rfl) fun σ H Q h => ?_
  rw [evE] at h
  exact (one_val (f := fun d => M.opt ((isTy t d).map fun b => sh (.bl b))) σ H Q h).imp fun x H1 q => ⟨x, rfl, q⟩
end
end PL
/-! PLCall: a call of a function of the module. -/
namespace PL
open PySem L2 PySem.Spec PyProof.Rows
def E.ioB (e : E) : Bool := e.isIo.isSome && e.peek.isNone
def kindsOf : List Arg → List Bool
  | [] => []
  | .io _ :: r => true :: kindsOf r
  | _ :: r => false :: kindsOf r
inductive ArgsR (K : PySem.W.Frag) (F : Hp) (σ : L2.St) : List V → List Arg → Prop
  | nil : ArgsR K F σ [] []
  | val {v : V} {d : D} {vs : List V} {as : List Arg} : Rp K F v d → ArgsR K F σ vs as → ArgsR K F σ (v :: vs) (.val d :: as)
  | bor {i : Nat} {a : Addr} {vs : List V} {as : List Arg} : σ[i]? = some (some (V.ref a)) → ArgsR K F σ vs as → ArgsR K F σ (.ref a :: vs) (.bor i :: as)
  | io {i : Nat} {a : Addr} {vs : List V} {as : List Arg} : σ[i]? = some (some (V.ref a)) → ArgsR K F σ vs as → ArgsR K F σ (.ref a :: vs) (.io i :: as)
theorem ArgsR.mono {K : PySem.W.Frag} {F F' : Hp} {σ : L2.St} (s : Same F F') {vs : List V} {as : List Arg} (h : ArgsR K F σ vs as) : ArgsR K F' σ vs as := by
  induction h with
  | nil => exact .nil
  | val r _ ih => exact .val (r.mono s) ih
  | bor e _ ih => exact .bor e ih
  | io e _ ih => exact .io e ih
abbrev lAs (Z : Fx) (es : List E) : Lie (List V) (List Arg) := fun F _ σ _ vs as => ArgsR Z.K F σ vs as ∧ kindsOf as = es.map E.ioB
/-- the addresses of the slots looked at, handed in -/
def borA (σ : L2.St) : List Arg → List Addr
  | .bor i :: r => (match σ[i]? with
    | some (some (V.ref a)) => a :: borA σ r
    | _ => borA σ r)
  | _ :: r => borA σ r
  | [] => []
def ioA (σ : L2.St) : List Arg → List Addr
  | .io i :: r => (match σ[i]? with
    | some (some (V.ref a)) => a :: ioA σ r
    | _ => ioA σ r)
  | _ :: r => ioA σ r
  | [] => []
theorem mem_borA {σ : L2.St} {a : Addr} : ∀ {as : List Arg}, a ∈ borA σ as → ∃ i, i ∈ slotsOf as ∧ σ[i]? = some (some (V.ref a))
  | [], h => by cases h
  | .val _ :: r, h => mem_borA (as := r) h
  | .io i :: r, h => by
    obtain ⟨j, h1, h2⟩ := mem_borA (as := r) h
    exact ⟨j, List.mem_cons_of_mem _ h1, h2⟩
  | .bor i :: r, h => by
    unfold borA at h
    split at h
    · rename_i b e
      rcases List.mem_cons.mp h with rfl | h
      · exact ⟨i, List.mem_cons_self, e⟩
      · obtain ⟨j, h1, h2⟩ := mem_borA (as := r) h
        exact ⟨j, List.mem_cons_of_mem _ h1, h2⟩
    · obtain ⟨j, h1, h2⟩ := mem_borA (as := r) h
      exact ⟨j, List.mem_cons_of_mem _ h1, h2⟩
theorem mem_ioA {σ : L2.St} {a : Addr} : ∀ {as : List Arg}, a ∈ ioA σ as → ∃ i, i ∈ slotsOf as ∧ σ[i]? = some (some (V.ref a))
  | [], h => by cases h
  | .val _ :: r, h => mem_ioA (as := r) h
  | .bor i :: r, h => by
    obtain ⟨j, h1, h2⟩ := mem_ioA (as := r) h
    exact ⟨j, List.mem_cons_of_mem _ h1, h2⟩
  | .io i :: r, h => by
    unfold ioA at h
    split at h
    · rename_i b e
      rcases List.mem_cons.mp h with rfl | h
      · exact ⟨i, List.mem_cons_self, e⟩
      · obtain ⟨j, h1, h2⟩ := mem_ioA (as := r) h
        exact ⟨j, List.mem_cons_of_mem _ h1, h2⟩
    · obtain ⟨j, h1, h2⟩ := mem_ioA (as := r) h
      exact ⟨j, List.mem_cons_of_mem _ h1, h2⟩
theorem borA_nil {σ : L2.St} : ∀ {as : List Arg}, anyBor as = false → borA σ as = []
  | [], _ => rfl
  | .val _ :: r, h => borA_nil (as := r) h
  | .io _ :: r, h => borA_nil (as := r) h
  | .bor _ :: r, h => by cases h
/-- an argument list's slots are owned ones -/
theorem args_own : ∀ {as : List Arg} {ρ : Env} {ds : List D}, argsOf as ρ = some ds → ∀ i ∈ slotsOf as, ∃ f d, ρ[i]? = some (some (f, d)) ∧ f ≠ Fg.shr
  | [], _, _, _, i, h => by cases h
  | .val d :: r, ρ, ds, e, i, h => by
    obtain ⟨es, e1, _⟩ := Option.map_eq_some_iff.mp (show (argsOf r ρ).map (d :: ·) = some ds from e)
    exact args_own e1 i h
  | .bor j :: r, ρ, ds, e, i, h => by
    unfold argsOf at e
    split at e
    · rename_i d q
      obtain ⟨es, e1, _⟩ := Option.map_eq_some_iff.mp e
      rcases List.mem_cons.mp h with rfl | h
      · exact ⟨_, d, q, by decide⟩
      · exact args_own e1 i h
    · rename_i d q
      obtain ⟨es, e1, _⟩ := Option.map_eq_some_iff.mp e
      rcases List.mem_cons.mp h with rfl | h
      · exact ⟨_, d, q, by decide⟩
      · exact args_own e1 i h
    · cases e
  | .io j :: r, ρ, ds, e, i, h => by
    unfold argsOf at e
    split at e
    · rename_i d q
      obtain ⟨es, e1, _⟩ := Option.map_eq_some_iff.mp e
      rcases List.mem_cons.mp h with rfl | h
      · exact ⟨_, d, q, by decide⟩
      · exact args_own e1 i h
    · rename_i d q
      obtain ⟨es, e1, _⟩ := Option.map_eq_some_iff.mp e
      rcases List.mem_cons.mp h with rfl | h
      · exact ⟨_, d, q, by decide⟩
      · exact args_own e1 i h
    · cases e
theorem args_at : ∀ {as : List Arg} {ρ : Env} {ds : List D}, argsOf as ρ = some ds → as.length = ds.length ∧ ∀ (k : Nat) (x : Arg), as[k]? = some x → ∃ d : D, ds[k]? = some d ∧ match x with
    | .val d' => d' = d
    | .bor i => ∃ f, f ≠ Fg.shr ∧ ρ[i]? = some (some (f, d))
    | .io i => ∃ f, f ≠ Fg.shr ∧ ρ[i]? = some (some (f, d))
  | [], ρ, ds, e => by
    cases (show some [] = some ds from e)
    exact ⟨rfl, fun k x h => by simp at h⟩
  | .val d :: r, ρ, ds, e => by
    obtain ⟨es, e1, rfl⟩ := Option.map_eq_some_iff.mp (show (argsOf r ρ).map (d :: ·) = some ds from e)
    obtain ⟨h1, h2⟩ := args_at e1
    refine ⟨by simp [h1], fun k x h => ?_⟩
    cases k with
    | zero => simp at h; subst h; exact ⟨d, rfl, rfl⟩
    | succ k => simpa using h2 k x (by simpa using h)
  | .bor j :: r, ρ, ds, e => by
    unfold argsOf at e
    split at e
    · rename_i d q
      obtain ⟨es, e1, rfl⟩ := Option.map_eq_some_iff.mp e
      obtain ⟨h1, h2⟩ := args_at e1
      refine ⟨by simp [h1], fun k x h => ?_⟩
      cases k with
      | zero => simp at h; subst h; exact ⟨d, rfl, _, by decide, q⟩
      | succ k => simpa using h2 k x (by simpa using h)
    · rename_i d q
      obtain ⟨es, e1, rfl⟩ := Option.map_eq_some_iff.mp e
      obtain ⟨h1, h2⟩ := args_at e1
      refine ⟨by simp [h1], fun k x h => ?_⟩
      cases k with
      | zero => simp at h; subst h; exact ⟨d, rfl, _, by decide, q⟩
      | succ k => simpa using h2 k x (by simpa using h)
    · cases e
  | .io j :: r, ρ, ds, e => by
    unfold argsOf at e
    split at e
    · rename_i d q
      obtain ⟨es, e1, rfl⟩ := Option.map_eq_some_iff.mp e
      obtain ⟨h1, h2⟩ := args_at e1
      refine ⟨by simp [h1], fun k x h => ?_⟩
      cases k with
      | zero => simp at h; subst h; exact ⟨d, rfl, _, by decide, q⟩
      | succ k => simpa using h2 k x (by simpa using h)
    · rename_i d q
      obtain ⟨es, e1, rfl⟩ := Option.map_eq_some_iff.mp e
      obtain ⟨h1, h2⟩ := args_at e1
      refine ⟨by simp [h1], fun k x h => ?_⟩
      cases k with
      | zero => simp at h; subst h; exact ⟨d, rfl, _, by decide, q⟩
      | succ k => simpa using h2 k x (by simpa using h)
    · cases e
theorem argsR_at {K : PySem.W.Frag} {F : Hp} {σ : L2.St} {vs : List V} {as : List Arg} (h : ArgsR K F σ vs as) : vs.length = as.length ∧ ∀ (k : Nat) (x : Arg), as[k]? = some x → ∃ v : V, vs[k]? = some v ∧ match x with
    | .val d => Rp K F v d
    | .bor i => ∃ a, v = .ref a ∧ σ[i]? = some (some (V.ref a))
    | .io i => ∃ a, v = .ref a ∧ σ[i]? = some (some (V.ref a)) := by
  induction h with
  | nil => exact ⟨rfl, fun k x h => by simp at h⟩
  | val r _ ih =>
    refine ⟨by simp [ih.1], fun k x h => ?_⟩
    cases k with
    | zero => simp at h; subst h; exact ⟨_, rfl, r⟩
    | succ k => simpa using ih.2 k x (by simpa using h)
  | bor e _ ih =>
    refine ⟨by simp [ih.1], fun k x h => ?_⟩
    cases k with
    | zero => simp at h; subst h; exact ⟨_, rfl, _, rfl, e⟩
    | succ k => simpa using ih.2 k x (by simpa using h)
  | io e _ ih =>
    refine ⟨by simp [ih.1], fun k x h => ?_⟩
    cases k with
    | zero => simp at h; subst h; exact ⟨_, rfl, _, rfl, e⟩
    | succ k => simpa using ih.2 k x (by simpa using h)
theorem borA_at {σ : L2.St} {a : Addr} {i : Nat} : ∀ {as : List Arg} {k : Nat}, as[k]? = some (.bor i) → σ[i]? = some (some (V.ref a)) → a ∈ borA σ as
  | [], k, h, _ => by simp at h
  | x :: r, 0, h, e => by
    simp at h
    subst h
    unfold borA
    rw [e]
    exact List.mem_cons_self
  | x :: r, k + 1, h, e => by
    have ih := borA_at (as := r) (k := k) (by simpa using h) e
    cases x with
    | val d => exact ih
    | io j => exact ih
    | bor j =>
      unfold borA
      split
      · exact List.mem_cons_of_mem _ ih
      · exact ih
theorem ioA_at {σ : L2.St} {a : Addr} {i : Nat} : ∀ {as : List Arg} {k : Nat}, as[k]? = some (.io i) → σ[i]? = some (some (V.ref a)) → a ∈ ioA σ as
  | [], k, h, _ => by simp at h
  | x :: r, 0, h, e => by
    simp at h
    subst h
    unfold ioA
    rw [e]
    exact List.mem_cons_self
  | x :: r, k + 1, h, e => by
    have ih := ioA_at (as := r) (k := k) (by simpa using h) e
    cases x with
    | val d => exact ih
    | bor j => exact ih
    | io j =>
      unfold ioA
      split
      · exact List.mem_cons_of_mem _ ih
      · exact ih
theorem bor_mem {σ : L2.St} {a : Addr} : ∀ {as : List Arg}, a ∈ borA σ as → ∃ (k i : Nat), as[k]? = some (.bor i) ∧ σ[i]? = some (some (V.ref a))
  | [], h => by cases h
  | .val _ :: r, h => by
    obtain ⟨k, i, h1, h2⟩ := bor_mem (as := r) h
    exact ⟨k + 1, i, by simpa using h1, h2⟩
  | .io i :: r, h => by
    obtain ⟨k, i, h1, h2⟩ := bor_mem (as := r) h
    exact ⟨k + 1, i, by simpa using h1, h2⟩
  | .bor i :: r, h => by
    unfold borA at h
    split at h
    · rename_i b e
      rcases List.mem_cons.mp h with rfl | h
      · exact ⟨0, i, rfl, e⟩
      · obtain ⟨k, i, h1, h2⟩ := bor_mem (as := r) h
        exact ⟨k + 1, i, by simpa using h1, h2⟩
    · obtain ⟨k, i, h1, h2⟩ := bor_mem (as := r) h
      exact ⟨k + 1, i, by simpa using h1, h2⟩
theorem io_mem {σ : L2.St} {a : Addr} : ∀ {as : List Arg}, a ∈ ioA σ as → ∃ (k i : Nat), as[k]? = some (.io i) ∧ σ[i]? = some (some (V.ref a))
  | [], h => by cases h
  | .val _ :: r, h => by
    obtain ⟨k, i, h1, h2⟩ := io_mem (as := r) h
    exact ⟨k + 1, i, by simpa using h1, h2⟩
  | .bor i :: r, h => by
    obtain ⟨k, i, h1, h2⟩ := io_mem (as := r) h
    exact ⟨k + 1, i, by simpa using h1, h2⟩
  | .io i :: r, h => by
    unfold ioA at h
    split at h
    · rename_i b e
      rcases List.mem_cons.mp h with rfl | h
      · exact ⟨0, i, rfl, e⟩
      · obtain ⟨k, i, h1, h2⟩ := io_mem (as := r) h
        exact ⟨k + 1, i, by simpa using h1, h2⟩
    · obtain ⟨k, i, h1, h2⟩ := io_mem (as := r) h
      exact ⟨k + 1, i, by simpa using h1, h2⟩
def slotOf : Arg → Option Nat
  | .val _ => none
  | .bor i => some i
  | .io i => some i
/-- two places of an argument list with different slots -/
theorem slots_ne : ∀ {as : List Arg}, nodupB (slotsOf as) = true → ∀ {k m : Nat} {x y : Arg} {i j : Nat}, as[k]? = some x → as[m]? = some y → slotOf x = some i → slotOf y = some j → k ≠ m → i ≠ j := by
  have mem : ∀ {as : List Arg} {k : Nat} {x : Arg} {i : Nat}, as[k]? = some x → slotOf x = some i → i ∈ slotsOf as := by
    intro as
    induction as with
    | nil => intro k x i h; simp at h
    | cons z r ih =>
      intro k x i h e
      cases k with
      | zero =>
        simp at h
        subst h
        cases z <;> simp [slotOf] at e <;> subst e <;> simp [slotsOf]
      | succ k =>
        have q := ih (k := k) (by simpa using h) e
        cases z <;> simp [slotsOf, q]
  intro as
  induction as with
  | nil => intro _ k m x y i j h; simp at h
  | cons z r ih =>
    intro nd k m x y i j h1 h2 e1 e2 ne
    have tail : nodupB (slotsOf r) = true := by
      cases z <;> simp [slotsOf, nodupB] at nd <;> first | exact nd | exact nd.2
    have head : ∀ i, slotOf z = some i → i ∉ slotsOf r := by
      intro i e
      cases z <;> simp [slotOf] at e <;> subst e <;> simp [slotsOf, nodupB] at nd <;> exact nd.1
    cases k with
    | zero =>
      cases m with
      | zero => exact absurd rfl ne
      | succ m =>
        simp at h1
        subst h1
        rintro rfl
        exact head i e1 (mem (k := m) (by simpa using h2) e2)
    | succ k =>
      cases m with
      | zero =>
        simp at h2
        subst h2
        rintro rfl
        exact head i e2 (mem (k := k) (by simpa using h1) e1)
      | succ m => exact ih tail (by simpa using h1) (by simpa using h2) e1 e2 (by omega)
theorem kinds_at : ∀ {as : List Arg} {k : Nat} {x : Arg}, as[k]? = some x → (kindsOf as)[k]? = some (match x with
    | .io _ => true
    | _ => false)
  | [], k, x, h => by simp at h
  | z :: r, 0, x, h => by
    simp at h
    subst h
    cases z <;> rfl
  | z :: r, k + 1, x, h => by
    have ih := kinds_at (as := r) (k := k) (by simpa using h)
    cases z <;> simpa [kindsOf] using ih
theorem kinds_length : ∀ as : List Arg, (kindsOf as).length = as.length
  | [] => rfl
  | x :: r => by cases x <;> simp [kindsOf, kinds_length r]
theorem init_at : ∀ {mask : List Bool} {ds : List D} {k : Nat} {f : Fg} {d : D}, (init mask ds)[k]? = some (some (f, d)) → ∃ m, mask[k]? = some m ∧ ds[k]? = some d ∧ f = if m then .pin else .shr
  | [], ds, k, f, d, h => by simp [init] at h
  | m :: ms, [], k, f, d, h => by simp [init] at h
  | m :: ms, d' :: ds, 0, f, d, h => by
    simp [init] at h
    exact ⟨m, rfl, by simp [h.2], h.1.symm⟩
  | m :: ms, d' :: ds, k + 1, f, d, h => by
    obtain ⟨m', h1, h2, h3⟩ := init_at (mask := ms) (ds := ds) (k := k) (by simpa [init] using h)
    exact ⟨m', by simpa using h1, by simpa using h2, h3⟩
theorem init_length : ∀ {mask : List Bool} {ds : List D}, mask.length = ds.length → (init mask ds).length = mask.length
  | [], [], _ => rfl
  | m :: ms, d :: ds, h => by simp [init]; exact init_length (by simpa using h)
  | [], _ :: _, h => by simp at h
  | _ :: _, [], h => by simp at h
end PL
/-! PLCall2: a call of a function of the module, the state ahead and behind. -/
namespace PL
open PySem L2 PySem.Spec PyProof.Rows
section
variable {K : PySem.W.Frag} {pa : PaT} {F G H : Hp} {σ : L2.St} {ρ : Env}
def inF (F H : Hp) (B : List Addr) : Hp := fun a => if a ∈ B then H a else F a
def inG (Fc H : Hp) (O : List Addr) : Hp := fun a => if (Fc a).isSome || decide (a ∈ O) then none else H a
def outF (F' : Hp) (B : List Addr) : Hp := fun a => if a ∈ B then none else F' a
def paOf (σ : L2.St) (as : List Arg) : PaT := ⟨fun k => match as[k]? with
  | some (.io i) => (match σ[i]? with
    | some (some (V.ref a)) => some a
    | _ => none)
  | _ => none, []⟩
/-- the state as the callee takes it -/
theorem call_in {vs : List V} {as : List Arg} {ds : List D} {mask : List Bool} (E : EnvOk K pa F G H σ ρ) (l : ArgsR K F σ vs as) (hk : kindsOf as = mask) (ha : argsOf as ρ = some ds) (nd : nodupB (slotsOf as) = true) :
    EnvOk K (paOf σ as) (inF F H (borA σ as)) (inG (inF F H (borA σ as)) H (ioA σ as)) H (vs.map some) (init mask ds) ∧ vs.length = mask.length ∧ ds.length = mask.length ∧ Same F (inF F H (borA σ as)) := by
  obtain ⟨la, at_⟩ := args_at ha
  obtain ⟨lv, vt⟩ := argsR_at l
  have hm : mask.length = as.length := by rw [← hk]; exact kinds_length as
  have sF : Same F (inF F H (borA σ as)) := fun a o q => by
    unfold inF
    split
    · exact E.fh a o q
    · exact q
  -- a slot's address
  have own_at : ∀ {k : Nat} {x : Arg} {i : Nat}, as[k]? = some x → slotOf x = some i → ∃ a d f, σ[i]? = some (some (V.ref a)) ∧ ds[k]? = some d ∧ vs[k]? = some (V.ref a) ∧ f ≠ Fg.shr ∧ ρ[i]? = some (some (f, d)) ∧ OwnAt K F G H a d := by
    intro k x i hx hs
    obtain ⟨d, hd, q⟩ := at_ k x hx
    obtain ⟨v, hv, r⟩ := vt k x hx
    cases x with
    | val d' => cases hs
    | bor j =>
      cases hs
      obtain ⟨f, nf, q⟩ := q
      obtain ⟨a, rfl, e⟩ := r
      obtain ⟨b, e2, o⟩ := E.own _ f d q nf
      rw [e] at e2; cases e2
      exact ⟨a, d, f, e, hd, hv, nf, q, o⟩
    | io j =>
      cases hs
      obtain ⟨f, nf, q⟩ := q
      obtain ⟨a, rfl, e⟩ := r
      obtain ⟨b, e2, o⟩ := E.own _ f d q nf
      rw [e] at e2; cases e2
      exact ⟨a, d, f, e, hd, hv, nf, q, o⟩
  have io_bor : ∀ {k : Nat} {i : Nat} {a : Addr}, as[k]? = some (.io i) → σ[i]? = some (some (V.ref a)) → a ∉ borA σ as := by
    intro k i a hx e hb
    obtain ⟨m, j, h1, h2⟩ := bor_mem hb
    have ne : k ≠ m := by
      rintro rfl
      rw [hx] at h1; cases h1
    obtain ⟨b, d, f, e1, _, _, nf, q, _⟩ := own_at hx rfl
    obtain ⟨b', d', f', e1', _, _, nf', q', _⟩ := own_at h1 rfl
    rw [e] at e1; cases e1
    exact E.dist i j f f' d d' a (slots_ne nd hx h1 rfl rfl ne) q nf q' nf' e h2
  refine ⟨⟨fun a o q => ?_, fun a o q => ?_, fun a o q => ?_, ?_, fun k d q => ?_, fun k g d q ng => ?_, fun k d q => ?_, fun k m g g' d d' a ne q ng q' ng' e => ?_, ⟨fun p hp => (by cases hp), fun a o q => ?_, fun n => absurd rfl n⟩⟩, by omega, by omega, sF⟩
  · unfold inF at q
    split at q
    · exact q
    · exact E.fh a o q
  · unfold inG at q
    split at q
    · cases q
    · exact q
  · unfold inG
    rw [if_pos (by simp [q])]
  · rw [init_length (by omega), List.length_map]; omega
  · obtain ⟨m, h1, h2, h3⟩ := init_at q
    cases m with
    | true => cases h3
    | false =>
      have hkk : k < as.length := by
        have := (List.getElem?_eq_some_iff.mp h2).1
        omega
      obtain ⟨x, hx⟩ : ∃ x, as[k]? = some x := ⟨as[k], List.getElem?_eq_getElem hkk⟩
      have kk := kinds_at hx
      rw [hk, h1] at kk
      obtain ⟨v, hv, r⟩ := vt k x hx
      refine ⟨v, by rw [List.getElem?_map, hv]; rfl, ?_⟩
      obtain ⟨d', hd', q'⟩ := at_ k x hx
      rw [h2] at hd'; cases hd'
      cases x with
      | val d' =>
        cases q'
        exact Rp.mono sF r
      | bor i =>
        obtain ⟨a, d2, f, e, hd2, hv2, nf, q2, o1, o2, o3⟩ := own_at hx rfl
        rw [hv] at hv2; cases hv2
        rw [h2] at hd2; cases hd2
        cases d with
        | lst es =>
          obtain ⟨xs, e3, r3⟩ := o3
          refine .lst ?_ (r3.mono sF)
          unfold inF
          rw [if_pos (borA_at hx e)]
          exact e3
        | _ => exact o3.elim
      | io i => simp at kk
  · obtain ⟨m, h1, h2, h3⟩ := init_at q
    cases m with
    | false => exact absurd h3 ng
    | true =>
      have hkk : k < as.length := by
        have := (List.getElem?_eq_some_iff.mp h2).1
        omega
      obtain ⟨x, hx⟩ : ∃ x, as[k]? = some x := ⟨as[k], List.getElem?_eq_getElem hkk⟩
      have kk := kinds_at hx
      rw [hk, h1] at kk
      cases x with
      | val d' => simp at kk
      | bor i => simp at kk
      | io i =>
        obtain ⟨a, d2, f, e, hd2, hv2, nf, q2, o1, o2, o3⟩ := own_at hx rfl
        rw [h2] at hd2; cases hd2
        have nb := io_bor hx e
        refine ⟨a, by rw [List.getElem?_map, hv2]; rfl, ?_, ?_, ?_⟩
        · unfold inF
          rw [if_neg nb]
          exact o1
        · unfold inG
          rw [if_pos (by simp [ioA_at hx e])]
        · cases d with
          | lst es =>
            obtain ⟨xs, e3, r3⟩ := o3
            exact ⟨xs, e3, r3.mono sF⟩
          | _ => exact o3
  · obtain ⟨m, h1, h2, h3⟩ := init_at q
    have hkk : k < as.length := by
      have := (List.getElem?_eq_some_iff.mp h2).1
      omega
    obtain ⟨x, hx⟩ : ∃ x, as[k]? = some x := ⟨as[k], List.getElem?_eq_getElem hkk⟩
    cases m with
    | false => cases h3
    | true =>
      have kk := kinds_at hx
      rw [hk, h1] at kk
      cases x with
      | val d' => simp at kk
      | bor i => simp at kk
      | io i =>
        obtain ⟨a, d2, f, e, hd2, hv2, nf, q2, _⟩ := own_at hx rfl
        refine ⟨a, ?_, by rw [List.getElem?_map, hv2]; rfl⟩
        unfold paOf
        dsimp only
        rw [hx]
        simp only [e]
  · have io_of : ∀ {k : Nat} {g : Fg} {d : D}, (init mask ds)[k]? = some (some (g, d)) → g ≠ Fg.shr → ∃ i, as[k]? = some (.io i) := by
      intro k g d q ng
      obtain ⟨m, h1, h2, h3⟩ := init_at q
      cases m with
      | false => exact absurd h3 ng
      | true =>
        have hkk : k < as.length := by
          have := (List.getElem?_eq_some_iff.mp h2).1
          omega
        obtain ⟨x, hx⟩ : ∃ x, as[k]? = some x := ⟨as[k], List.getElem?_eq_getElem hkk⟩
        have kk := kinds_at hx
        rw [hk, h1] at kk
        cases x with
        | val d' => simp at kk
        | bor i => simp at kk
        | io i => exact ⟨i, hx⟩
    obtain ⟨i, hx⟩ := io_of q ng
    obtain ⟨j, hy⟩ := io_of q' ng'
    obtain ⟨b, d1, f, e1, _, hv1, nf, q1, _⟩ := own_at hx rfl
    obtain ⟨b', d2, f', e2, _, hv2, nf', q2, _⟩ := own_at hy rfl
    rw [List.getElem?_map, hv1] at e
    cases e
    rw [List.getElem?_map, hv2]
    intro z
    cases z
    exact E.dist i j f f' d1 d2 _ (slots_ne nd hx hy rfl rfl ne) q1 nf q2 nf' e1 e2
  · unfold inF at q
    split at q
    · rename_i hb
      obtain ⟨m, j, h1, h2⟩ := bor_mem hb
      obtain ⟨b, d, f, e1, _, _, _, _, _, _, o3⟩ := own_at h1 rfl
      rw [h2] at e1; cases e1
      cases d with
      | lst es => obtain ⟨xs, e3, _⟩ := o3; rw [e3] at q; cases q; exact True.intro
      | _ => exact o3.elim
    · exact E.tb.nt a o q
end
/-- the slots behind a call -/
theorem putOuts_length : ∀ (as : List Arg) (ds : List D) (ρ : Env), (putOuts as ds ρ).length = ρ.length
  | [], _, _ => by unfold putOuts; rfl
  | .val _ :: r, [], _ => by unfold putOuts; rfl
  | .bor _ :: r, [], _ => by unfold putOuts; rfl
  | .io _ :: r, [], _ => by unfold putOuts; rfl
  | .val _ :: r, d :: ds, ρ => by unfold putOuts; exact putOuts_length r ds ρ
  | .bor _ :: r, d :: ds, ρ => by unfold putOuts; exact putOuts_length r ds ρ
  | .io i :: r, d :: ds, ρ => by
    unfold putOuts
    rw [putOuts_length r ds]
    split
    · rw [List.length_set]
    · rfl
theorem putOuts_other {i : Nat} : ∀ {as : List Arg} {ds : List D} {ρ : Env}, (∀ k : Nat, as[k]? ≠ some (.io i)) → (putOuts as ds ρ)[i]? = ρ[i]?
  | [], _, _, _ => by unfold putOuts; rfl
  | .val _ :: r, [], _, _ => by unfold putOuts; rfl
  | .bor _ :: r, [], _, _ => by unfold putOuts; rfl
  | .io _ :: r, [], _, _ => by unfold putOuts; rfl
  | .val _ :: r, d :: ds, ρ, h => by unfold putOuts; exact putOuts_other fun k => by simpa using h (k + 1)
  | .bor _ :: r, d :: ds, ρ, h => by unfold putOuts; exact putOuts_other fun k => by simpa using h (k + 1)
  | .io j :: r, d :: ds, ρ, h => by
    unfold putOuts
    rw [putOuts_other fun k => by simpa using h (k + 1)]
    have ne : j ≠ i := by
      rintro rfl
      exact h 0 rfl
    split
    · rw [List.getElem?_set_ne ne]
    · rfl
theorem putOuts_io {i : Nat} {f : Fg} {d0 : D} : ∀ {as : List Arg} {ds : List D} {ρ : Env} {k : Nat}, nodupB (slotsOf as) = true → as[k]? = some (.io i) → ρ[i]? = some (some (f, d0)) → as.length = ds.length → ∃ d, ds[k]? = some d ∧ (putOuts as ds ρ)[i]? = some (some (f, d))
  | [], _, _, k, _, h, _, _ => by simp at h
  | x :: r, [], _, _, _, _, _, h => by simp at h
  | x :: r, d :: ds, ρ, 0, nd, h, hr, hl => by
    simp at h
    subst h
    refine ⟨d, rfl, ?_⟩
    unfold putOuts
    rw [hr]
    simp only [slotsOf, nodupB, Bool.and_eq_true] at nd
    rw [putOuts_other fun k hk => ?_]
    · rw [List.getElem?_set_self (List.getElem?_eq_some_iff.mp hr).1]
    · have m : i ∈ slotsOf r := by
        clear hr hl nd
        induction r generalizing k with
        | nil => simp at hk
        | cons y r ih =>
          cases k with
          | zero => simp at hk; subst hk; simp [slotsOf]
          | succ k =>
            have := ih k (by simpa using hk)
            cases y <;> simp [slotsOf, this]
      have := nd.1
      simp at this
      exact this m
  | x :: r, d :: ds, ρ, k + 1, nd, h, hr, hl => by
    have nd' : nodupB (slotsOf r) = true := by
      cases x <;> simp [slotsOf, nodupB] at nd <;> first | exact nd | exact nd.2
    have h' : r[k]? = some (.io i) := by simpa using h
    have hl' : r.length = ds.length := by simpa using hl
    cases x with
    | val _ => unfold putOuts; simpa using putOuts_io (k := k) nd' h' hr hl'
    | bor _ => unfold putOuts; simpa using putOuts_io (k := k) nd' h' hr hl'
    | io j =>
      have ne : j ≠ i := slots_ne (as := .io j :: r) nd (k := 0) (m := k + 1) rfl h rfl rfl (by omega)
      unfold putOuts
      have hr' : (match ρ[j]? with
        | some (some (f, _)) => ρ.set j (some (f, d))
        | _ => ρ)[i]? = some (some (f, d0)) := by
        split
        · rw [List.getElem?_set_ne ne]; exact hr
        · exact hr
      obtain ⟨d', h1, h2⟩ := putOuts_io (k := k) nd' h' hr' hl'
      exact ⟨d', by simpa using h1, h2⟩
theorem outEnv_at : ∀ {mask : List Bool} {ds : List D} {k : Nat} {d : D}, mask[k]? = some true → ds[k]? = some d → (outEnv mask ds)[k]? = some (some (.pin, d))
  | [], _, _, _, h, _ => by simp at h
  | m :: ms, [], _, _, _, h => by simp at h
  | true :: ms, d' :: ds, 0, d, _, h => by simp at h; subst h; rfl
  | false :: ms, d' :: ds, 0, d, h, _ => by simp at h
  | true :: ms, d' :: ds, k + 1, d, h1, h2 => by simpa [outEnv] using outEnv_at (k := k) (by simpa using h1) (by simpa using h2)
  | false :: ms, d' :: ds, k + 1, d, h1, h2 => by simpa [outEnv] using outEnv_at (k := k) (by simpa using h1) (by simpa using h2)
section
variable {K : PySem.W.Frag} {pa pc : PaT} {F F' G H H' : Hp} {σ : L2.St} {ρ : Env}
theorem sameT_out {B : List Addr} (h : ∀ a ∈ B, ∃ xs, F' a = some (.lst xs)) : SameT F' (outF F' B) := fun a u nu q => by
  unfold outF
  split
  · rename_i hb
    obtain ⟨xs, e⟩ := h a hb
    rw [q] at e
    cases e
    exact absurd rfl (nu xs)
  · exact q
/-- the state behind a call -/
theorem call_out {vs : List V} {as : List Arg} {ds outs : List D} {mask : List Bool} (E : EnvOk K pa F G H σ ρ) (l : ArgsR K F σ vs as) (hk : kindsOf as = mask) (ha : argsOf as ρ = some ds) (nd : nodupB (slotsOf as) = true) (ho : outs.length = as.length)
    (s : Same (inF F H (borA σ as)) F') (E' : EnvOk K pc F' (inG (inF F H (borA σ as)) H (ioA σ as)) H' (vs.map some) (outEnv mask outs)) (hfl : anyBor as = true → outsFlat as outs = true) :
    Same F (outF F' (borA σ as)) ∧ EnvOk K pa (outF F' (borA σ as)) G H' σ (putOuts as outs ρ) ∧
      (∀ {x : V} {r : Vl}, (anyBor as = true → r.flat = true) → Res K F' (inG (inF F H (borA σ as)) H (ioA σ as)) H' (vs.map some) (outEnv mask outs) x r → Res K (outF F' (borA σ as)) G H' σ (putOuts as outs ρ) x r) := by
  obtain ⟨la, at_⟩ := args_at ha
  obtain ⟨lv, vt⟩ := argsR_at l
  have own_at : ∀ {k : Nat} {x : Arg} {i : Nat}, as[k]? = some x → slotOf x = some i → ∃ a d f, σ[i]? = some (some (V.ref a)) ∧ ds[k]? = some d ∧ vs[k]? = some (V.ref a) ∧ f ≠ Fg.shr ∧ ρ[i]? = some (some (f, d)) ∧ OwnAt K F G H a d := by
    intro k x i hx hs
    obtain ⟨d, hd, q⟩ := at_ k x hx
    obtain ⟨v, hv, r⟩ := vt k x hx
    cases x with
    | val d' => cases hs
    | bor j =>
      cases hs
      obtain ⟨f, nf, q⟩ := q
      obtain ⟨a, rfl, e⟩ := r
      obtain ⟨b, e2, o⟩ := E.own _ f d q nf
      rw [e] at e2; cases e2
      exact ⟨a, d, f, e, hd, hv, nf, q, o⟩
    | io j =>
      cases hs
      obtain ⟨f, nf, q⟩ := q
      obtain ⟨a, rfl, e⟩ := r
      obtain ⟨b, e2, o⟩ := E.own _ f d q nf
      rw [e] at e2; cases e2
      exact ⟨a, d, f, e, hd, hv, nf, q, o⟩
  have isl : ∀ {a : Addr} {d : D}, OwnAt K F G H a d → ∃ xs ds, d = .lst ds ∧ H a = some (.lst xs) ∧ Rps K F xs ds := fun {a d} o => by
    obtain ⟨_, _, o3⟩ := o
    cases d with
    | lst es => obtain ⟨xs, e, r⟩ := o3; exact ⟨xs, es, rfl, e, r⟩
    | _ => exact o3.elim
  -- the borrowed ones as they were
  have bor_at : ∀ {a : Addr}, a ∈ borA σ as → F a = none ∧ G a = none ∧ (∃ xs, H a = some (.lst xs)) ∧ F' a = H a ∧ H' a = H a := fun {a} hb => by
    obtain ⟨k, i, h1, h2⟩ := bor_mem hb
    obtain ⟨b, d, f, e1, _, _, nf, q, o⟩ := own_at h1 rfl
    rw [h2] at e1; cases e1
    obtain ⟨xs, ds, _, e, _⟩ := isl o
    have z : F' a = some (.lst xs) := s a _ (by unfold inF; rw [if_pos hb]; exact e)
    exact ⟨o.1, o.2.1, ⟨xs, e⟩, by rw [z, e], by rw [E'.fh a _ z, e]⟩
  have sF : Same F (outF F' (borA σ as)) := fun a o q => by
    have nb : a ∉ borA σ as := fun hb => by rw [(bor_at hb).1] at q; cases q
    unfold outF
    rw [if_neg nb]
    exact s a o (by unfold inF; rw [if_neg nb]; exact q)
  have sT : SameT F' (outF F' (borA σ as)) := sameT_out fun a hb => by
    obtain ⟨_, _, ⟨xs, e⟩, e2, _⟩ := bor_at hb
    exact ⟨xs, by rw [e2]; exact e⟩
  have noB : anyBor as = false → outF F' (borA σ as) = F' := fun h => by
    funext a
    unfold outF
    rw [borA_nil h, if_neg (by simp)]
  have gG : ∀ a o, G a = some o → inG (inF F H (borA σ as)) H (ioA σ as) a = some o := fun a o q => by
    have nf : F a = none := by
      cases z : F a with
      | none => rfl
      | some u => rw [E.fg a u z] at q; cases q
    have nb : a ∉ borA σ as := fun hb => by rw [(bor_at hb).2.1] at q; cases q
    have no : a ∉ ioA σ as := fun hb => by
      obtain ⟨k, i, h1, h2⟩ := io_mem hb
      obtain ⟨b, d, f, e1, _, _, _, _, o⟩ := own_at h1 rfl
      rw [h2] at e1; cases e1
      rw [o.2.1] at q; cases q
    unfold inG inF
    rw [if_neg nb, nf]
    simp [no, E.gh a o q]
  -- an owned slot that isn't handed in by reference
  have other : ∀ {i : Nat} {f : Fg} {d : D} {a : Addr}, ρ[i]? = some (some (f, d)) → f ≠ Fg.shr → σ[i]? = some (some (V.ref a)) → (∀ k : Nat, as[k]? ≠ some (.io i)) → H' a = H a ∧ outF F' (borA σ as) a = none := by
    intro i f d a q nf e hno
    obtain ⟨b, e2, o⟩ := E.own i f d q nf
    rw [e] at e2; cases e2
    obtain ⟨xs, es, _, eh, _⟩ := isl o
    by_cases hb : a ∈ borA σ as
    · refine ⟨(bor_at hb).2.2.2.2, ?_⟩
      unfold outF
      rw [if_pos hb]
    · have no : a ∉ ioA σ as := fun hc => by
        obtain ⟨k, j, h1, h2⟩ := io_mem hc
        obtain ⟨b, d2, f2, e1, _, _, nf2, q2, _⟩ := own_at h1 rfl
        by_cases hij : i = j
        · subst hij; exact hno k h1
        · exact E.dist i j f f2 d d2 a hij q nf q2 nf2 e h2
      have hg : inG (inF F H (borA σ as)) H (ioA σ as) a = some (.lst xs) := by
        unfold inG inF
        rw [if_neg hb, o.1]
        simp [no, eh]
      refine ⟨by rw [E'.gh a _ hg, eh], ?_⟩
      unfold outF
      rw [if_neg hb]
      cases z : F' a with
      | none => rfl
      | some u =>
        rw [E'.fg a u z] at hg
        cases hg
  have rps_out : ∀ {xs : List V} {es : List D}, Rps K F' xs es → (anyBor as = true → D.flats es = true) → Rps K (outF F' (borA σ as)) xs es := fun {xs es} r h => by
    cases z : anyBor as with
    | false => rw [noB z]; exact r
    | true => exact r.flat sT (h z)
  -- a slot handed in by reference
  have byref : ∀ {i k : Nat} {f : Fg} {d0 : D} {a : Addr}, as[k]? = some (.io i) → ρ[i]? = some (some (f, d0)) → f ≠ Fg.shr → σ[i]? = some (some (V.ref a)) → ∃ d, (putOuts as outs ρ)[i]? = some (some (f, d)) ∧ OwnAt K (outF F' (borA σ as)) G H' a d := by
    intro i k f d0 a hx q nf e
    obtain ⟨d, hd, hp⟩ := putOuts_io (k := k) (ds := outs) nd hx q (by omega)
    refine ⟨d, hp, ?_⟩
    have hm : mask[k]? = some true := by
      have kk := kinds_at hx
      rw [hk] at kk
      exact kk
    obtain ⟨b, e2, o1, o2, o3⟩ := E'.own k .pin d (outEnv_at hm hd) (by decide)
    obtain ⟨b2, d2, f2, e1, _, hv, _, _, o⟩ := own_at hx rfl
    rw [e] at e1; cases e1
    rw [List.getElem?_map, hv] at e2
    cases e2
    refine ⟨?_, o.2.1, ?_⟩
    · unfold outF
      split
      · rfl
      · exact o1
    · cases d with
      | lst es =>
        obtain ⟨xs, e3, r3⟩ := o3
        refine ⟨xs, e3, rps_out r3 fun z => ?_⟩
        have h := hfl z
        have of : ∀ {as : List Arg} {outs : List D} {k : Nat}, outsFlat as outs = true → as[k]? = some (.io i) → outs[k]? = some (.lst es) → D.flats es = true := by
          intro as
          induction as with
          | nil => intro outs k _ h; simp at h
          | cons y r ih =>
            intro outs k h h1 h2
            cases outs with
            | nil => simp at h2
            | cons o os =>
              cases k with
              | zero =>
                simp at h1 h2
                subst h1 h2
                simp [outsFlat] at h
                exact h.1
              | succ k =>
                refine ih (outs := os) (k := k) ?_ (by simpa using h1) (by simpa using h2)
                cases y <;> simp [outsFlat] at h <;> first | exact h | exact h.2
        exact of h hx hd
      | _ => exact o3
  have slot_of : ∀ {i : Nat} {f : Fg} {d : D}, (putOuts as outs ρ)[i]? = some (some (f, d)) → ((∀ k : Nat, as[k]? ≠ some (.io i)) ∧ ρ[i]? = some (some (f, d))) ∨ ∃ (k : Nat) (d0 : D), as[k]? = some (.io i) ∧ ρ[i]? = some (some (f, d0)) := by
    intro i f d q
    by_cases h : ∃ k : Nat, as[k]? = some (.io i)
    · obtain ⟨k, hx⟩ := h
      obtain ⟨a, d0, f0, _, _, _, nf, q0, _⟩ := own_at hx rfl
      obtain ⟨d1, _, hp⟩ := putOuts_io (k := k) (ds := outs) nd hx q0 (by omega)
      rw [q] at hp
      cases hp
      exact .inr ⟨k, d0, hx, q0⟩
    · have h' : ∀ k : Nat, as[k]? ≠ some (.io i) := fun k z => h ⟨k, z⟩
      rw [putOuts_other h'] at q
      exact .inl ⟨h', q⟩
  have E2 : EnvOk K pa (outF F' (borA σ as)) G H' σ (putOuts as outs ρ) := by
    refine ⟨fun a o q => ?_, fun a o q => E'.gh a o (gG a o q), fun a o q => ?_, by rw [putOuts_length]; exact E.len, fun i d q => ?_, fun i g d q ng => ?_, fun i d q => ?_, fun i j g g' d d' a ne q ng q' ng' e => ?_, ⟨fun p hp => ?_, fun a o q => ?_, E.tb.gt⟩⟩
    · unfold outF at q
      split at q
      · cases q
      · exact E'.fh a o q
    · unfold outF at q
      split at q
      · cases q
      · cases z : G a with
        | none => rfl
        | some u =>
          have := gG a u z
          rw [E'.fg a o q] at this
          cases this
    · rcases slot_of q with ⟨_, q⟩ | ⟨k, d0, hx, q0⟩
      · obtain ⟨v, e, r⟩ := E.shr i d q
        exact ⟨v, e, r.mono sF⟩
      · obtain ⟨_, _, f0, _, _, _, nf, q1, _⟩ := own_at hx rfl
        rw [q0] at q1; cases q1
        exact absurd rfl nf
    · rcases slot_of q with ⟨hno, q⟩ | ⟨k, d0, hx, q0⟩
      · obtain ⟨a, e, o⟩ := E.own i g d q ng
        obtain ⟨h1, h2⟩ := other q ng e hno
        refine ⟨a, e, h2, o.2.1, ?_⟩
        obtain ⟨xs, es, rfl, e3, r⟩ := isl o
        exact ⟨xs, by rw [h1]; exact e3, r.mono sF⟩
      · obtain ⟨a, e, _⟩ := E.own i g d0 q0 ng
        obtain ⟨d1, hp, o⟩ := byref hx q0 ng e
        rw [q] at hp; cases hp
        exact ⟨a, e, o⟩
    · rcases slot_of q with ⟨_, q⟩ | ⟨k, d0, hx, q0⟩
      · exact E.pin i d q
      · exact E.pin i d0 q0
    · have old : ∀ {i : Nat} {g : Fg} {d : D}, (putOuts as outs ρ)[i]? = some (some (g, d)) → ∃ d0, ρ[i]? = some (some (g, d0)) := fun {i g d} q => by
        rcases slot_of q with ⟨_, q⟩ | ⟨k, d0, hx, q0⟩
        · exact ⟨d, q⟩
        · exact ⟨d0, q0⟩
      obtain ⟨e0, q0⟩ := old q
      obtain ⟨e1, q1⟩ := old q'
      exact E.dist i j g g' e0 e1 a ne q0 ng q1 ng' e
    · have stay : ∀ a u, H a = some u → ¬ notTab u → H' a = some u := fun a u q n => by
        have nf : F a = none := by
          cases z : F a with
          | none => rfl
          | some w =>
            have e := E.fh a w z
            rw [q] at e
            cases e
            exact absurd (E.tb.nt a u z) n
        have nl : ∀ xs, u ≠ .lst xs := fun xs z => by subst z; exact n True.intro
        have nb : a ∉ borA σ as := fun hb => by
          obtain ⟨_, _, ⟨xs, e⟩, _⟩ := bor_at hb
          rw [q] at e
          cases e
          exact n True.intro
        have no : a ∉ ioA σ as := fun hb => by
          obtain ⟨k, i, h1, h2⟩ := io_mem hb
          obtain ⟨b, d, f, e1, _, _, _, _, o⟩ := own_at h1 rfl
          rw [h2] at e1; cases e1
          obtain ⟨xs, _, _, e, _⟩ := isl o
          rw [q] at e
          cases e
          exact n True.intro
        refine E'.gh a u ?_
        unfold inG inF
        rw [if_neg nb, nf]
        simp [no, q]
      obtain ⟨ps, h1, h2, h3⟩ := E.tb.tabs p hp
      refine ⟨ps, stay _ _ h1 (fun z => z), h2, fun pos cv hc => ?_⟩
      obtain ⟨c, e1, e2⟩ := h3 pos cv hc
      exact ⟨c, e1, stay _ _ e2 (fun z => by unfold LamX.CodeO at z; exact z)⟩
    · unfold outF at q
      split at q
      · cases q
      · exact E'.tb.nt a o q
  refine ⟨sF, E2, fun {x r} hf hr => ?_⟩
  obtain ⟨ow, d⟩ := r
  cases ow with
  | false =>
    have hr' : Rp K F' x d := hr
    show Rp K (outF F' (borA σ as)) x d
    cases z : anyBor as with
    | false => rw [noB z]; exact hr'
    | true => exact hr'.flat sT (hf z)
  | true =>
    obtain ⟨a, rfl, ⟨o1, o2, o3⟩, no⟩ := hr
    have nb : a ∉ borA σ as := fun hb => by
      obtain ⟨_, _, ⟨xs, e⟩, e2, _⟩ := bor_at hb
      rw [e2, e] at o1; cases o1
    refine ⟨a, rfl, ⟨by unfold outF; rw [if_neg nb]; exact o1, ?_, ?_⟩, fun i g d' q ng e => ?_⟩
    · cases z : G a with
      | none => rfl
      | some u => rw [gG a u z] at o2; cases o2
    · cases d with
      | lst es =>
        obtain ⟨xs, e3, r3⟩ := o3
        exact ⟨xs, e3, rps_out r3 fun z => hf z⟩
      | _ => exact o3
    · rcases slot_of q with ⟨hno, q⟩ | ⟨k, d0, hx, q0⟩
      · obtain ⟨b, e2, o⟩ := E.own i g d' q ng
        rw [e] at e2; cases e2
        obtain ⟨xs, es, _, eh, _⟩ := isl o
        have noio : a ∉ ioA σ as := fun hc => by
          obtain ⟨k, j, h1, h2⟩ := io_mem hc
          obtain ⟨b, d2, f2, e1, _, _, nf2, q2, _⟩ := own_at h1 rfl
          by_cases hij : i = j
          · subst hij; exact hno k h1
          · exact E.dist i j g f2 d' d2 a hij q ng q2 nf2 e h2
        have hg : inG (inF F H (borA σ as)) H (ioA σ as) a = some (.lst xs) := by
          unfold inG inF
          rw [if_neg nb, o.1]
          simp [noio, eh]
        rw [hg] at o2; cases o2
      · have hm : mask[k]? = some true := by
          have kk := kinds_at hx
          rw [hk] at kk
          exact kk
        obtain ⟨d1, hd1, _⟩ := putOuts_io (k := k) nd hx q0 (ds := outs) (by omega)
        obtain ⟨b2, d2, f2, e1, _, hv, _, _, _⟩ := own_at hx rfl
        rw [e] at e1; cases e1
        exact no k .pin d1 (outEnv_at hm hd1) (by decide) (by rw [List.getElem?_map, hv]; rfl)
end
section
variable {X : Cx} {Z : Fx} {Γ : Gm} {lev : Nat} {T : Tab} {pos p : Pos}
theorem sndA_nil : PA X [] (Rd Z (lAs Z []) (evA Γ [])) := pa_mono pa_nil fun σ H Q ⟨F, ρ, E, c⟩ => by
  rw [evA] at c
  exact c [] F H (Same.refl F) E ⟨.nil, rfl⟩
theorem sndA_val {e : E} {es : List E} {a : PySem.Expr} {as : List PySem.Expr} (hp : e.peek = none) (hi : e.isIo = none) (ha : PE X a (rdE Z (evE Γ e))) (hs : PA X as (Rd Z (lAs Z es) (evA Γ es))) (hn : nst a = true) :
    PA X (a :: as) (Rd Z (lAs Z (e :: es)) (evA Γ (e :: es))) :=
  pa_mono (pa_cons ha hs (star_cons hn)) fun σ H Q ⟨F, ρ, E, c⟩ => by
    rw [evA, hp, hi] at c
    refine (Cont.bind E c).imp fun x H1 ⟨ra, F1, ρ1, s1, E1, l1, c1⟩ => ?_
    obtain ⟨F2, s2, E2, l2⟩ := E1.share l1
    refine (Cont.bind E2 (c1.mono s2)).imp fun xs H2 ⟨ds, F3, ρ3, s3, E3, l3, c3⟩ => ?_
    exact c3 _ F3 H2 (Same.refl F3) E3 ⟨.val (l2.mono s3) l3.1, by
      show false :: kindsOf ds = PL.E.ioB e :: es.map PL.E.ioB
      rw [l3.2]
      simp [PL.E.ioB, hi]⟩
theorem sndA_bor {e : E} {i : Nat} {es : List E} {a : PySem.Expr} {as : List PySem.Expr} (hp : e.peek = some i) (ha : PE X a (tVar i)) (hs : PA X as (Rd Z (lAs Z es) (evA Γ es))) (hn : nst a = true) :
    PA X (a :: as) (Rd Z (lAs Z (e :: es)) (evA Γ (e :: es))) :=
  pa_mono (pa_cons ha hs (star_cons hn)) fun σ H Q ⟨F, ρ, E, c⟩ => by
    rw [evA, hp] at c
    obtain ⟨b, hb, c1⟩ := see_snd E c
    refine ⟨.ref b, hb, ?_⟩
    refine (Cont.bind E c1).imp fun xs H2 ⟨ds, F3, ρ3, s3, E3, l3, c3⟩ => ?_
    exact c3 _ F3 H2 (Same.refl F3) E3 ⟨.bor hb l3.1, by
      show false :: kindsOf ds = PL.E.ioB e :: es.map PL.E.ioB
      rw [l3.2]
      simp [PL.E.ioB, hp]⟩
theorem sndA_io {e : E} {i : Nat} {es : List E} {a : PySem.Expr} {as : List PySem.Expr} (hp : e.peek = none) (hi : e.isIo = some i) (ha : PE X a (tVar i)) (hs : PA X as (Rd Z (lAs Z es) (evA Γ es))) (hn : nst a = true) :
    PA X (a :: as) (Rd Z (lAs Z (e :: es)) (evA Γ (e :: es))) :=
  pa_mono (pa_cons ha hs (star_cons hn)) fun σ H Q ⟨F, ρ, E, c⟩ => by
    rw [evA, hp, hi] at c
    obtain ⟨b, hb, c1⟩ := see_snd E c
    refine ⟨.ref b, hb, ?_⟩
    refine (Cont.bind E c1).imp fun xs H2 ⟨ds, F3, ρ3, s3, E3, l3, c3⟩ => ?_
    exact c3 _ F3 H2 (Same.refl F3) E3 ⟨.io hb l3.1, by
      show true :: kindsOf ds = PL.E.ioB e :: es.map PL.E.ioB
      rw [l3.2]
      simp [PL.E.ioB, hp, hi]⟩
/-- behind the arguments -/
theorem call_key {σ : L2.St} {F H : Hp} {ρ : Env} {vs : List V} {as : List Arg} {mask : List Bool} {f : Fn} {Q : VK} (E : EnvOk Z.K Z.pa F Z.G H σ ρ) (l : ArgsR Z.K F σ vs as) (hk : kindsOf as = mask) (c : Cont Z (lV Z) σ F (callF f as ρ) Q) :
    spOf Z.K Z.mg mask f vs H Q (fun cl d H' => Z.W cl d σ H') := by
  unfold callF at c
  split at c
  · exact c.elim
  · rename_i ds ha
    split at c
    · exact c.elim
    · rename_i nd
      have nd' : nodupB (slotsOf as) = true := by simpa using nd
      obtain ⟨E1, h1, h2, s0⟩ := call_in E l hk ha nd'
      refine ⟨_, _, _, ds, E1, h1, h2, ?_⟩
      cases q : f ds with
      | ok r outs =>
        rw [q] at c
        intro x F' H' s E' hr
        simp only at c
        split at c
        · exact c.elim
        · rename_i hb
          have hb' : anyBor as = true → r.flat = true ∧ outsFlat as outs = true := fun z => by
            simp [z] at hb
            exact hb
          split at c
          · rename_i ho
            obtain ⟨g1, g2, g3⟩ := call_out E l hk ha nd' ho s E' fun z => (hb' z).2
            exact c x _ H' g1 g2 (g3 (fun z => (hb' z).1) hr)
          · exact c.elim
      | err e outs =>
        rw [q] at c
        intro F' H' cl d s E' hx
        simp only at c
        split at c
        · exact c.elim
        · rename_i hb
          split at c
          · rename_i ho
            have nb : anyBor as = false := by simpa using hb
            obtain ⟨g1, g2, g3⟩ := call_out E l hk ha nd' ho s E' fun z => by rw [nb] at z; cases z
            have e2 : outF F' (borA σ as) = F' := by
              funext a
              unfold outF
              rw [borA_nil nb, if_neg (by simp)]
            rw [e2] at g1 g2
            exact c F' H' cl d g1 g2 hx
          · exact c.elim
      | bad =>
        rw [q] at c
        exact c.elim
theorem snd_call {j : Nat} {x : Str} {mask : List Bool} {es : List E} {a : PySem.Expr} {as : List PySem.Expr} (ft : Fit X Z lev T Γ) (hT : T.fns[j]? = some (x, mask)) (hk : es.map E.ioB = mask) (hg : Gl X x) (hd : (x == ("__debug__" : Str)) = false) (hn : (a :: as).all nst = true)
    (ha : PA X (a :: as) (Rd Z (lAs Z es) (evA Γ es))) : PE X (.Call (.Name x p) (a :: as) [] pos) (rdE Z (evE Γ (.call j es))) := by
  obtain ⟨f, fd, ps, h1, _, h2, h3, h4, h5⟩ := ft.good.fns j x mask hT
  rw [List.all_cons, Bool.and_eq_true] at hn
  refine pe_mono (pe_callSD (E := WE Z.W) h5 ft.room hg h1 h2 h3 .nil (passAt ft.takes) ha hd (star_cons hn.1) (star_any hn.2)) fun σ H Q ⟨F, ρ, E, c⟩ => ?_
  rw [evE] at c
  refine (Cont.bind E c).imp fun vs H1 ⟨ras, F1, ρ1, s1, E1, l1, c1⟩ => ?_
  rw [List.append_nil, ft.hK, ft.hmg]
  exact call_key E1 l1.1 (l1.2.trans hk) c1
/-- a call of the def that a slot holds, what is raised wished for at the caller's slots -/
theorem pe_callLS {i k : Nat} {f : Addr} {fd : FuncData} {ps : List Str} {sp : Sp} {E : L2.St → XK} {x : Str} {e : Expr} {es : List Expr} {t : TA} {CX : CXT} (F : FnOk X.prog X.w X.K X.mg X.base CX k f fd ps sp) (hr : Room k X.A) (hN : X.N[i]? = some x) (hv : Vis X.env.scope x) (hk : PySem.W.keepIn X.K (.ref f) = true) (hb : Binds X.K fd ps []) (hx : ∀ σ, PassesAt CX X σ (E σ)) (ha : PA X (e :: es) t)
    (hdb : (x == ("__debug__" : Str)) = false) (hcd : (x == ("__classdict__" : Str)) = false)
    (he : starEach (e :: es) X.env = (false, eval e X.env) :: starEach es X.env) (hpl : (backTo pos (starEach es X.env)).any (·.1) = false) : PE X (.Call (.Name x p) (e :: es) [] pos) (fun σ H Q => σ[i]? = some (some (.ref f)) ∧ t σ H fun vs H1 => sp (vs ++ []) H1 Q (E σ)) := by
  refine ⟨fun pins s σ H Q I h => ?_⟩
  obtain ⟨hs, ht⟩ := h
  refine wpAny_Call_Name_kw (thn ((pe_var (pos := p) hN hv hdb hcd).run pins s σ H (fun v H1 => v = .ref f ∧ H1 = H) I ⟨.ref f, hs, rfl, rfl⟩) fun u s1 ⟨v, H1, I1, r1, q1⟩ => ?_)
  obtain ⟨rfl, rfl⟩ := q1
  cases r1
  refine PySem.W.callWith_K (h₀ := X.base) I.ok.mod.kin hk (thn (ha.run pos pins s1 σ _ _ I1 ht) fun us s2 ⟨vs, H2, I2, r, q⟩ => ⟨I2.kIn, ?_⟩) he hpl
  exact run_fnSD F hr hb .nil (hx σ) I2 r q
theorem lookup_mem {α : Type} : ∀ {l : List (Str × α)} {y : Str} {j : α}, l.lookup y = some j → (y, j) ∈ l
  | [], y, j, h => by simp at h
  | (k, n) :: r, y, j, h => by
    rw [List.lookup] at h
    cases w : y == k with
    | true =>
      rw [w] at h
      simp at w h
      simp [w, h]
    | false =>
      rw [w] at h
      exact List.mem_cons_of_mem _ (lookup_mem h)
theorem snd_callV {i : Nat} {x : Str} {tbl : List (Str × Nat)} {es : List E} {a : PySem.Expr} {as : List PySem.Expr} (ft : Fit X Z lev T Γ) (hT : ∀ p ∈ tbl, ∃ mask, T.fns[p.2]? = some (p.1, mask) ∧ es.map E.ioB = mask) (hN : X.N[i]? = some x) (hv : Vis X.env.scope x) (hd : (x == ("__debug__" : Str)) = false) (hcd : (x == ("__classdict__" : Str)) = false) (hn : (a :: as).all nst = true)
    (ha : PA X (a :: as) (Rd Z (lAs Z es) (evA Γ es))) : PE X (.Call (.Name x p) (a :: as) [] pos) (rdE Z (evE Γ (.callV i tbl es))) := by
  rw [List.all_cons, Bool.and_eq_true] at hn
  refine ⟨fun pins s σ H Q I ⟨F, ρ, E, c⟩ => ?_⟩
  rw [evE] at c
  cases q : rdVar i ρ with
  | bad => rw [bind_bad q] at c; exact c.elim
  | err e ρ1 =>
    unfold rdVar at q
    split at q <;> cases q
  | ok v ρ1 =>
    rw [bind_ok q] at c
    cases q2 : fnAt tbl v.d with
    | none =>
      rw [q2] at c
      exact c.elim
    | some j =>
      rw [q2] at c
      have c2 : Cont Z (lV Z) σ F ((evA Γ es >>= fun as => callF (Γ.fn j) as) ρ1) Q := c
      obtain ⟨y, e1, e2⟩ : ∃ y, v.d = .fn y ∧ tbl.lookup y = some j := by
        unfold fnAt at q2
        split at q2
        · rename_i y e
          exact ⟨y, e, q2⟩
        · cases q2
      have hm : (y, j) ∈ tbl := lookup_mem e2
      obtain ⟨mask, hT1, hk⟩ := hT _ hm
      obtain ⟨f, fd, ps, h1, h0, h2, h3, h4, h5⟩ := ft.good.fns j y mask hT1
      have sl : ρ1 = ρ ∧ ρ[i]? = some (some (.shr, v.d)) := by
        unfold rdVar at q
        split at q
        · rename_i d e
          cases q
          exact ⟨rfl, e⟩
        · rename_i d e
          cases q
          obtain ⟨a, _, _, _, h9⟩ := E.own i _ _ e (by decide)
          rw [show d = .fn y from e1] at h9
          exact h9.elim
        · cases q
      obtain ⟨rfl, sl⟩ := sl
      obtain ⟨u, s1, r1⟩ := E.shr i _ sl
      rw [e1] at r1
      cases r1
      refine (pe_callLS (E := WE Z.W) h5 ft.room hN hv h2 h3 (passAt ft.takes) ha hd hcd (star_cons hn.1) (star_any hn.2)).run pins s σ H Q I ⟨by rw [s1, h0, ft.hK], ?_⟩
      refine (Cont.bind E c2).imp fun vs H1 ⟨ras, F1, ρ1, s1, E1, l1, c1⟩ => ?_
      rw [List.append_nil, ft.hK, ft.hmg]
      exact call_key E1 l1.1 (l1.2.trans hk) c1
end
end PL
/-! PLIter: what a loop or a comprehension walks, and its targets. -/
namespace PL
open PySem L2 PySem.Spec PyProof.Rows
/-- at each turn the iterator gives the item; it may make one new object -/
structure Yields (K : PySem.W.Frag) (F : Hp) (J : It) (items : List D) : Prop where
  go : ∀ (i : Nat) (H Fc : Hp), Same F Fc → Same Fc H → i < items.length → J.go i H
  stop : ∀ (H Fc : Hp), Same F Fc → Same Fc H → J.stop items.length H
  yld : ∀ (i : Nat) (H Fc : Hp) (d : D), Same F Fc → Same Fc H → items[i]? = some d → ∀ x H', J.yld i H x H' → (H' = H ∧ Rp K Fc x d) ∨ ∃ p o, H p = none ∧ H' = upd H p o ∧ notTab o ∧ Rp K (upd Fc p o) x d
abbrev lI (Z : Fx) : Lie It (List D) := fun F _ _ _ J ds => Yields Z.K F J ds
abbrev rdI (Z : Fx) (m : M (List D)) : TI := Rd Z (lI Z) m
section
variable {K : PySem.W.Frag} {F : Hp}
theorem yields_list {a : Addr} {xs : List V} {ds : List D} (e : F a = some (.lst xs)) (r : Rps K F xs ds) : Yields K F (Itl K a) ds where
  go := fun i H Fc s1 s2 hi => by
    obtain ⟨x, hx, _⟩ := r.get (i := i) (d := ds[i]) (List.getElem?_eq_getElem hi)
    exact ⟨xs, x, SqL.of (s2 _ _ (s1 _ _ e)), hx⟩
  stop := fun H Fc s1 s2 => ⟨xs, SqL.of (s2 _ _ (s1 _ _ e)), by rw [r.length]; exact Nat.le_refl _⟩
  yld := fun i H Fc d s1 s2 hd x H' y => by
    obtain ⟨rfl, hy⟩ := y
    obtain ⟨v, hv, rv⟩ := r.get hd
    have := hy xs (SqL.of (s2 _ _ (s1 _ _ e)))
    rw [hv] at this
    cases this
    exact .inl ⟨rfl, rv.mono s1⟩
theorem yields_tup {a : Addr} {xs : List V} {ds : List D} (e : SqT K F a xs) (r : Rps K F xs ds) : Yields K F (Itt K a) ds where
  go := fun i H Fc s1 s2 hi => by
    obtain ⟨x, hx, _⟩ := r.get (i := i) (d := ds[i]) (List.getElem?_eq_getElem hi)
    exact ⟨xs, x, sqT_mono s2 (sqT_mono s1 e), hx⟩
  stop := fun H Fc s1 s2 => ⟨xs, sqT_mono s2 (sqT_mono s1 e), by rw [r.length]; exact Nat.le_refl _⟩
  yld := fun i H Fc d s1 s2 hd x H' y => by
    obtain ⟨rfl, hy⟩ := y
    obtain ⟨v, hv, rv⟩ := r.get hd
    have := hy xs (sqT_mono s2 (sqT_mono s1 e))
    rw [hv] at this
    cases this
    exact .inl ⟨rfl, rv.mono s1⟩
theorem rangeD_at {lo hi : Int} {i : Nat} {d : D} (h : (rangeD lo hi)[i]? = some d) : d = .int (lo + (i : Nat)) := by
  unfold rangeD at h
  rw [List.getElem?_map] at h
  cases q : (List.range (hi - lo).toNat)[i]? with
  | none => rw [q] at h; cases h
  | some j =>
    rw [q] at h
    obtain ⟨hj, e⟩ := List.getElem?_eq_some_iff.mp q
    rw [List.getElem_range] at e
    subst e
    exact (Option.some.inj h).symm
theorem rangeD_length (lo hi : Int) : (rangeD lo hi).length = (hi - lo).toNat := by unfold rangeD; rw [List.length_map, List.length_range]
theorem yields_range {lo hi : Int} : Yields K F (Itr lo (hi - lo).toNat) (rangeD lo hi) where
  go := fun i H Fc s1 s2 hi' => by rw [rangeD_length] at hi'; exact hi'
  stop := fun H Fc s1 s2 => by rw [rangeD_length]; exact Nat.le_refl _
  yld := fun i H Fc d s1 s2 hd x H' y => by
    obtain ⟨rfl, rfl⟩ := y
    cases rangeD_at hd
    exact .inl ⟨rfl, .int _⟩
theorem enumD_at : ∀ {ds : List D} {n i : Nat} {d : D}, (enumD n ds)[i]? = some d → ∃ x, ds[i]? = some x ∧ d = .tup [.int ((n + i : Nat) : Int), x]
  | [], n, i, d, h => by simp [enumD] at h
  | x :: xs, n, 0, d, h => by
    simp [enumD] at h
    exact ⟨x, rfl, by rw [← h]; simp⟩
  | x :: xs, n, i + 1, d, h => by
    obtain ⟨y, h1, h2⟩ := enumD_at (ds := xs) (n := n + 1) (i := i) (by simpa [enumD] using h)
    refine ⟨y, by simpa using h1, ?_⟩
    rw [h2]
    have : n + 1 + i = n + (i + 1) := by omega
    rw [this]
theorem enumD_length : ∀ (n : Nat) (ds : List D), (enumD n ds).length = ds.length
  | _, [] => rfl
  | n, _ :: r => by simp [enumD, enumD_length (n + 1) r]
theorem yields_enum {a : Addr} {xs : List V} {ds : List D} (e : F a = some (.lst xs)) (r : Rps K F xs ds) : Yields K F (Ite K a) (enumD 0 ds) where
  go := fun i H Fc s1 s2 hi => by
    rw [enumD_length] at hi
    obtain ⟨x, hx, _⟩ := r.get (i := i) (d := ds[i]) (List.getElem?_eq_getElem hi)
    exact ⟨xs, x, SqL.of (s2 _ _ (s1 _ _ e)), hx⟩
  stop := fun H Fc s1 s2 => by
    rw [enumD_length]
    exact ⟨xs, SqL.of (s2 _ _ (s1 _ _ e)), by rw [r.length]; exact Nat.le_refl _⟩
  yld := fun i H Fc d s1 s2 hd x H' y => by
    obtain ⟨T, z, rfl, hT, rfl, hy⟩ := y
    obtain ⟨d', hd', rfl⟩ := enumD_at hd
    obtain ⟨v, hv, rv⟩ := r.get hd'
    have := hy xs (SqL.of (s2 _ _ (s1 _ _ e)))
    rw [hv] at this
    cases this
    have hF : Fc T = none := s2.free hT
    refine .inr ⟨T, _, hT, rfl, True.intro, .tup (SqT.of upd_same) ?_⟩
    rw [Nat.zero_add]
    exact .cons (.int _) (.cons ((rv.mono s1).mono (upd_same_of hF)) .nil)
theorem zipD_at : ∀ {xs ys : List D} {i : Nat} {d : D}, (zipD xs ys)[i]? = some d → ∃ x y, xs[i]? = some x ∧ ys[i]? = some y ∧ d = .tup [x, y]
  | [], _, i, d, h => by simp [zipD] at h
  | _ :: _, [], i, d, h => by simp [zipD] at h
  | x :: xs, y :: ys, 0, d, h => by
    simp [zipD] at h
    exact ⟨x, y, rfl, rfl, h.symm⟩
  | x :: xs, y :: ys, i + 1, d, h => by
    obtain ⟨a, b, h1, h2, h3⟩ := zipD_at (xs := xs) (ys := ys) (i := i) (by simpa [zipD] using h)
    exact ⟨a, b, by simpa using h1, by simpa using h2, h3⟩
theorem zipD_length : ∀ (xs ys : List D), (zipD xs ys).length = min xs.length ys.length
  | [], _ => by simp [zipD]
  | _ :: _, [] => by simp [zipD]
  | x :: xs, y :: ys => by
    have := zipD_length xs ys
    simp only [zipD, List.length_cons]
    omega
theorem yields_zip {a b : Addr} {xs ys : List V} {ds es : List D} (e : F a = some (.lst xs)) (r : Rps K F xs ds) (e' : F b = some (.lst ys)) (r' : Rps K F ys es) : Yields K F (Itz K a b) (zipD ds es) where
  go := fun i H Fc s1 s2 hi => by
    rw [zipD_length] at hi
    obtain ⟨x, hx, _⟩ := r.get (i := i) (d := ds[i]'(by omega)) (List.getElem?_eq_getElem (by omega))
    obtain ⟨y, hy, _⟩ := r'.get (i := i) (d := es[i]'(by omega)) (List.getElem?_eq_getElem (by omega))
    exact ⟨xs, ys, x, y, SqL.of (s2 _ _ (s1 _ _ e)), SqL.of (s2 _ _ (s1 _ _ e')), hx, hy⟩
  stop := fun H Fc s1 s2 => by
    rw [zipD_length]
    exact ⟨xs, ys, SqL.of (s2 _ _ (s1 _ _ e)), SqL.of (s2 _ _ (s1 _ _ e')), by rw [r.length, r'.length]; omega⟩
  yld := fun i H Fc d s1 s2 hd x H' y => by
    obtain ⟨T, z1, z2, rfl, hT, rfl, hy1, hy2⟩ := y
    obtain ⟨d1, d2, hd1, hd2, rfl⟩ := zipD_at hd
    obtain ⟨v, hv, rv⟩ := r.get hd1
    obtain ⟨w, hw, rw'⟩ := r'.get hd2
    have q1 := hy1 xs (SqL.of (s2 _ _ (s1 _ _ e)))
    have q2 := hy2 ys (SqL.of (s2 _ _ (s1 _ _ e')))
    rw [hv] at q1
    rw [hw] at q2
    cases q1; cases q2
    have hF : Fc T = none := s2.free hT
    exact .inr ⟨T, _, hT, rfl, True.intro, .tup (SqT.of upd_same) (.cons ((rv.mono s1).mono (upd_same_of hF)) (.cons ((rw'.mono s1).mono (upd_same_of hF)) .nil))⟩
theorem yields_zipT {a b : Addr} {xs ys : List V} {ds es : List D} (e : SqT K F a xs) (r : Rps K F xs ds) (e' : SqT K F b ys) (r' : Rps K F ys es) : Yields K F (RZ.ItzT K a b) (zipD ds es) where
  go := fun i H Fc s1 s2 hi => by
    rw [zipD_length] at hi
    obtain ⟨x, hx, _⟩ := r.get (i := i) (d := ds[i]'(by omega)) (List.getElem?_eq_getElem (by omega))
    obtain ⟨y, hy, _⟩ := r'.get (i := i) (d := es[i]'(by omega)) (List.getElem?_eq_getElem (by omega))
    exact ⟨xs, ys, x, y, sqT_mono s2 (sqT_mono s1 e), sqT_mono s2 (sqT_mono s1 e'), hx, hy⟩
  stop := fun H Fc s1 s2 => by
    rw [zipD_length]
    exact ⟨xs, ys, sqT_mono s2 (sqT_mono s1 e), sqT_mono s2 (sqT_mono s1 e'), by rw [r.length, r'.length]; omega⟩
  yld := fun i H Fc d s1 s2 hd x H' y => by
    obtain ⟨T, z1, z2, rfl, hT, rfl, hy1, hy2⟩ := y
    obtain ⟨d1, d2, hd1, hd2, rfl⟩ := zipD_at hd
    obtain ⟨v, hv, rv⟩ := r.get hd1
    obtain ⟨w, hw, rw'⟩ := r'.get hd2
    have q1 := hy1 xs (sqT_mono s2 (sqT_mono s1 e))
    have q2 := hy2 ys (sqT_mono s2 (sqT_mono s1 e'))
    rw [hv] at q1
    rw [hw] at q2
    cases q1; cases q2
    have hF : Fc T = none := s2.free hT
    exact .inr ⟨T, _, hT, rfl, True.intro, .tup (SqT.of upd_same) (.cons ((rv.mono s1).mono (upd_same_of hF)) (.cons ((rw'.mono s1).mono (upd_same_of hF)) .nil))⟩
end
theorem pi_mono {X : Cx} {tg e : PySem.Expr} {t t' : TI} (h : PI X tg e t) (i : ∀ σ H Q, t' σ H Q → t σ H Q) : PI X tg e t' := ⟨fun pins s σ H Q I q => h.run pins s σ H Q I (i σ H Q q)⟩
section
variable {X : Cx} {Z : Fx} {Γ : Gm} {lev : Nat} {T : Tab} {pos p tpos : Pos} {tg : PySem.Expr}
/-- a list or a tuple -/
theorem pi_seq {l : PySem.Expr} {tl : TE} (hl : PE X l tl) : PI X tg l (fun σ H R => tl σ H fun x H1 => (∃ a, x = .ref a ∧ (∃ xs, SqL X.K H1 a xs) ∧ R (Itl X.K a) H1) ∨ ∃ a, x = .ref a ∧ (∃ xs, SqT X.K H1 a xs) ∧ R (Itt X.K a) H1) := by
  refine ⟨fun pins s σ H R I h => ?_⟩
  refine thn (hl.run pins s σ H _ I h) fun v s1 ⟨x, H1, I1, r1, q1⟩ => ?_
  rcases q1 with ⟨a, e, ⟨xs, hq⟩, q⟩ | ⟨a, e, ⟨xs, hq⟩, q⟩
  · subst e
    cases r1
    obtain ⟨its, rv, p, hz⟩ := I1.list hq
    refine wpAny_pyIter_list p.isList ?_
    refine ⟨s1.heap.objs.size, [s1.heap.objs.size], _, _, H1, rfl, I1.kept (t' := s1.toks) fun b o e => Heap.get?_push_of_some _ e, turn_list a _, ⟨_, Heap.get?_push_size _ rfl, rfl, rfl⟩, fun b hb => ?_, q⟩
    have e : b = s1.heap.objs.size := by simpa using hb
    subst e
    exact I1.fpOk (Nat.le_refl _) (I1.hok.fresh (Nat.le_refl _))
  · subst e
    cases r1
    obtain ⟨its, rv, p, hz⟩ := I1.tuple hq
    refine wpAny_pyIter_tuple (show s1.heap.IsTuple a its.toArray from p) ?_
    refine ⟨s1.heap.objs.size, [s1.heap.objs.size], _, _, H1, rfl, I1.kept (t' := s1.toks) fun b o e => Heap.get?_push_of_some _ e, turn_tuple a _, ⟨_, Heap.get?_push_size _ rfl, rfl, rfl⟩, fun b hb => ?_, q⟩
    have e : b = s1.heap.objs.size := by simpa using hb
    subst e
    exact I1.fpOk (Nat.le_refl _) (I1.hok.fresh (Nat.le_refl _))
theorem sndI_seq {a : E} {x : PySem.Expr} (hK : X.K = Z.K) (ha : PE X x (rdE Z (evE Γ a))) : PI X tg x (rdI Z (evSrc Γ 0 a none)) := by
  refine pi_mono (pi_seq ha) fun σ H Q ⟨F, ρ, E, c⟩ => ?_
  unfold evSrc at c
  refine (Cont.bind E c).imp fun v H1 ⟨r, F1, ρ1, s1, E1, l1, c1⟩ => ?_
  obtain ⟨F2, s2, E2, l2⟩ := E1.share l1
  rw [evO, ret_bind] at c1
  obtain ⟨ds, e, c2⟩ := cont_opt c1
  have c3 := c2.mono s2
  obtain ⟨ow, d⟩ := r
  cases d with
  | lst l =>
    cases e
    cases l2 with
    | lst hs hr => exact .inl ⟨_, rfl, ⟨_, SqL.of (E2.fh _ _ hs)⟩, by rw [hK]; exact c3.ok E2 (yields_list hs hr)⟩
  | tup l =>
    cases e
    cases l2 with
    | tup hs hr => exact .inr ⟨_, rfl, ⟨_, by rw [hK]; exact sqT_mono E2.fh hs⟩, by rw [hK]; exact c3.ok E2 (yields_tup hs hr)⟩
  | _ => cases e
theorem sndI_rng1 {a : E} {x : PySem.Expr} (hg : Gl X "range") (hm : X.mg "range" = none) (hn : nst x = true) (ha : PE X x (rdE Z (evE Γ a))) : PI X tg (.Call (.Name "range" p) [x] [] pos) (rdI Z (evSrc Γ 1 a none)) := by
  refine pi_mono (pi_range1 hg hm (pa_cons ha pa_nil (star_cons hn)) (star_cons hn)) fun σ H Q ⟨F, ρ, E, c⟩ => ?_
  unfold evSrc at c
  refine (Cont.bind E c).imp fun v H1 ⟨r, F1, ρ1, s1, E1, l1, c1⟩ => ?_
  rw [evO, ret_bind] at c1
  obtain ⟨ds, e, c2⟩ := cont_opt c1
  obtain ⟨F2, s2, E2, l2⟩ := E1.share l1
  have c3 := c2.mono s2
  obtain ⟨ow, d⟩ := r
  cases d with
  | int n =>
    simp only [itemsOf] at e
    split at e
    · rename_i ok
      cases e
      cases l2
      have ok' := of_decide_eq_true ok
      refine ⟨n, rfl, ok'.2.2.1, ok'.2.2.2, ?_⟩
      have y : Yields Z.K F2 (Itr 0 (n - 0).toNat) (rangeD 0 n) := yields_range
      rw [Int.sub_zero] at y
      exact c3.ok E2 y
    · cases e
  | _ => cases e
theorem sndI_rng2 {a b : E} {x y : PySem.Expr} (hg : Gl X "range") (hm : X.mg "range" = none) (hn : nst x = true) (hn2 : nst y = true) (ha : PE X x (rdE Z (evE Γ a))) (hb : PE X y (rdE Z (evE Γ b))) : PI X tg (.Call (.Name "range" p) [x, y] [] pos) (rdI Z (evSrc Γ 2 a (some b))) := by
  refine pi_mono (pi_range2 hg hm (pa_cons ha (pa_cons hb pa_nil (star_cons hn2)) (star_cons hn)) (by rw [star_cons hn, star_cons hn2]; rfl) (star_cons hn2)) fun σ H Q ⟨F, ρ, E, c⟩ => ?_
  unfold evSrc at c
  refine (Cont.bind E c).imp fun v H1 ⟨r, F1, ρ1, s1, E1, l1, c1⟩ => ?_
  obtain ⟨F2, s2, E2, l2⟩ := E1.share l1
  rw [evO, bind_assoc] at c1
  refine (Cont.bind E2 (c1.mono s2)).imp fun w H3 ⟨r', F3, ρ3, s3, E3, l3, c3⟩ => ?_
  obtain ⟨F4, s4, E4, l4⟩ := E3.share l3
  rw [ret_bind] at c3
  obtain ⟨ds, e, c5⟩ := cont_opt c3
  have c6 := c5.mono s4
  obtain ⟨ow, d⟩ := r
  obtain ⟨ow', d'⟩ := r'
  unfold itemsOf at e
  split at e <;> try (cases e; done)
  · rename_i h1 h2 h3
    simp at h1
  · rename_i h1 h2 h3
    simp at h1
  · rename_i h1 h2 h3
    simp at h1
  · rename_i a1 b1 h1 h2 h3
    split at e
    · rename_i ok
      cases e
      cases h2
      cases h3
      cases l2
      cases l4
      have ok' := of_decide_eq_true ok
      exact ⟨_, _, rfl, ok', c6.ok E4 yields_range⟩
    · cases e
  all_goals (rename_i h1 h2 h3; simp at h1)
theorem sndI_enum {a : E} {x : PySem.Expr} {elts : List PySem.Expr} {kk : Nat} (hK : X.K = Z.K) (hg : Gl X "enumerate") (hm : X.mg "enumerate" = none) (hn : nst x = true) (ha : PE X x (rdE Z (evE Γ a))) :
    PI X (.Tuple elts kk tpos) (.Call (.Name "enumerate" p) [x] [] pos) (rdI Z (evSrc Γ 3 a none)) := by
  refine pi_mono (pi_enum hg hm (pa_cons ha pa_nil (star_cons hn)) (star_cons hn)) fun σ H Q ⟨F, ρ, E, c⟩ => ?_
  unfold evSrc at c
  refine (Cont.bind E c).imp fun v H1 ⟨r, F1, ρ1, s1, E1, l1, c1⟩ => ?_
  rw [evO, ret_bind] at c1
  obtain ⟨ds, e, c2⟩ := cont_opt c1
  obtain ⟨F2, s2, E2, l2⟩ := E1.share l1
  have c3 := c2.mono s2
  obtain ⟨ow, d⟩ := r
  cases d with
  | lst l =>
    cases e
    cases l2 with
    | lst hs hr => exact ⟨_, _, rfl, SqL.of (E2.fh _ _ hs), by rw [hK]; exact c3.ok E2 (yields_enum hs hr)⟩
  | _ => cases e
theorem sndI_zip {a b : E} {x y : PySem.Expr} {elts : List PySem.Expr} {kk : Nat} (hK : X.K = Z.K) (hg : Gl X "zip") (hm : X.mg "zip" = none) (hn : nst x = true) (hn2 : nst y = true) (ha : PE X x (rdE Z (evE Γ a))) (hb : PE X y (rdE Z (evE Γ b))) :
    PI X (.Tuple elts kk tpos) (.Call (.Name "zip" p) [x, y] [] pos) (rdI Z (evSrc Γ 4 a (some b))) := by
  refine pi_mono (RZ.pi_zipA hg hm (pa_cons ha (pa_cons hb pa_nil (star_cons hn2)) (star_cons hn)) (star_cons hn) (star_any (es := [y]) (by simp [hn2]))) fun σ H Q ⟨F, ρ, E, c⟩ => ?_
  unfold evSrc at c
  refine (Cont.bind E c).imp fun v H1 ⟨r, F1, ρ1, s1, E1, l1, c1⟩ => ?_
  obtain ⟨F2, s2, E2, l2⟩ := E1.share l1
  rw [evO, bind_assoc] at c1
  refine (Cont.bind E2 (c1.mono s2)).imp fun w H3 ⟨r', F3, ρ3, s3, E3, l3, c3⟩ => ?_
  obtain ⟨F4, s4, E4, l4⟩ := E3.share l3
  rw [ret_bind] at c3
  obtain ⟨ds, e, c5⟩ := cont_opt c3
  have c6 := c5.mono s4
  have l6 := l2.mono (s3.trans s4)
  obtain ⟨ow, d⟩ := r
  obtain ⟨ow', d'⟩ := r'
  cases d with
  | lst l =>
    cases d' with
    | lst l' =>
      cases e
      cases l6 with
      | lst hs hr =>
        cases l4 with
        | lst hs' hr' => exact ⟨_, _, _, _, rfl, .inl ⟨SqL.of (E4.fh _ _ hs), SqL.of (E4.fh _ _ hs'), by rw [hK]; exact c6.ok E4 (yields_zip hs hr hs' hr')⟩⟩
    | _ => cases e
  | tup l =>
    cases d' with
    | tup l' =>
      cases e
      cases l6 with
      | tup hs hr =>
        cases l4 with
        | tup hs' hr' => exact ⟨_, _, _, _, rfl, .inr ⟨by rw [hK]; exact sqT_mono E4.fh hs, by rw [hK]; exact sqT_mono E4.fh hs', by rw [hK]; exact c6.ok E4 (yields_zipT hs hr hs' hr')⟩⟩
    | _ => cases e
  | _ => cases e
/-! ### targets -/
mutual
def Tg.slots : Tg → List Nat
  | .nm i => [i]
  | .tup ts => slotsTg ts
def slotsTg : List Tg → List Nat
  | [] => []
  | t :: ts => t.slots ++ slotsTg ts
end
/-- an assignment's reading: the slots of the target alone change -/
def rdG (Z : Fx) (sl : List Nat) (f : D → M Unit) : TG := fun v σ H Q => ∃ F ρ d, EnvOk Z.K Z.pa F Z.G H σ ρ ∧ Rp Z.K F v d ∧ match f d ρ with
  | .ok _ ρ' => ∀ σ', EnvOk Z.K Z.pa F Z.G H σ' ρ' → σ'.length = σ.length → (∀ i, i ∉ sl → σ'[i]? = σ[i]?) → Q σ' H
  | _ => False
def rdGs (Z : Fx) (sl : List Nat) (f : List D → M Unit) : TGs := fun vs σ H Q => ∃ F ρ ds, EnvOk Z.K Z.pa F Z.G H σ ρ ∧ Rps Z.K F vs ds ∧ match f ds ρ with
  | .ok _ ρ' => ∀ σ', EnvOk Z.K Z.pa F Z.G H σ' ρ' → σ'.length = σ.length → (∀ i, i ∉ sl → σ'[i]? = σ[i]?) → Q σ' H
  | _ => False
/-- a slot gets a value -/
theorem EnvOk.put {K : PySem.W.Frag} {pa : PaT} {F G H : Hp} {σ : L2.St} {ρ ρ' : Env} {i : Nat} {v : V} {r : Vl} (E : EnvOk K pa F G H σ ρ) (h : Res K F G H σ ρ v r) (e : PL.put i r ρ = .ok () ρ') : EnvOk K pa F G H (σ.set i (some v)) ρ' := by
  have fin : (∃ s : Slot, ρ[i]? = some s ∧ ∀ d, s ≠ some (Fg.pin, d)) ∧ ρ' = ρ.set i (some (if r.own then .own else .shr, r.d)) := by
    unfold PL.put at e
    split at e
    · cases e
    · rename_i s np q
      cases e
      exact ⟨⟨s, q, fun d z => np d z⟩, rfl⟩
    · cases e
  obtain ⟨⟨s, q, np⟩, rfl⟩ := fin
  have hi : i < ρ.length := (List.getElem?_eq_some_iff.mp q).1
  have hi' : i < σ.length := by rw [← E.len]; exact hi
  refine ⟨E.fh, E.gh, E.fg, by rw [List.length_set, List.length_set]; exact E.len, fun j d z => ?_, fun j g d z ng => ?_, fun j d z => ?_, fun j k g g' d d' a ne z ng z' ng' ea => ?_, E.tb⟩
  · by_cases hj : i = j
    · subst hj
      rw [List.getElem?_set_self hi] at z
      rw [List.getElem?_set_self hi']
      obtain ⟨ow, rd⟩ := r
      cases ow with
      | true => simp at z
      | false =>
        simp at z
        subst z
        exact ⟨v, rfl, h⟩
    · rw [List.getElem?_set_ne hj] at z
      rw [List.getElem?_set_ne hj]
      exact E.shr j d z
  · by_cases hj : i = j
    · subst hj
      rw [List.getElem?_set_self hi] at z
      rw [List.getElem?_set_self hi']
      obtain ⟨ow, rd⟩ := r
      cases ow with
      | false =>
        simp at z
        exact absurd z.1.symm ng
      | true =>
        simp at z
        obtain ⟨_, rfl⟩ := z
        obtain ⟨a, rfl, o, _⟩ := h
        exact ⟨a, rfl, o⟩
    · rw [List.getElem?_set_ne hj] at z
      rw [List.getElem?_set_ne hj]
      exact E.own j g d z ng
  · by_cases hj : i = j
    · subst hj
      rw [List.getElem?_set_self hi] at z
      obtain ⟨ow, rd⟩ := r
      cases ow <;> simp at z
    · rw [List.getElem?_set_ne hj] at z
      rw [List.getElem?_set_ne hj]
      exact E.pin j d z
  · have mine : ∀ {k : Nat} {g : Fg} {d : D} {a : Addr}, (ρ.set i (some (if r.own then Fg.own else Fg.shr, r.d)))[i]? = some (some (g, d)) → g ≠ Fg.shr → (σ.set i (some v))[i]? = some (some (V.ref a)) → NotOwn σ ρ a := by
      intro k g d a z ng ea
      rw [List.getElem?_set_self hi] at z
      rw [List.getElem?_set_self hi'] at ea
      obtain ⟨ow, rd⟩ := r
      cases ow with
      | false => simp at z; exact absurd z.1.symm ng
      | true =>
        obtain ⟨b, rfl, o, no⟩ := h
        cases ea
        exact no
    by_cases hj : i = j
    · subst hj
      have no := mine (k := i) z ng ea
      rw [List.getElem?_set_ne ne] at z' ⊢
      exact no k g' d' z' ng'
    · rw [List.getElem?_set_ne hj] at z ea
      by_cases hk : i = k
      · subst hk
        intro q'
        exact mine (k := i) z' ng' q' j g d z ng ea
      · rw [List.getElem?_set_ne hk] at z' ⊢
        exact E.dist j k g g' d d' a ne z ng z' ng' ea
theorem pg_mono {e : PySem.Expr} {t t' : TG} (h : PG X e t) (i : ∀ v σ H Q, t' v σ H Q → t v σ H Q) : PG X e t' := ⟨fun pins s σ H v u Q I r q => h.run pins s σ H v u Q I r (i v σ H Q q)⟩
theorem pgs_mono {e : List PySem.Expr} {t t' : TGs} (h : PGs X e t) (i : ∀ v σ H Q, t' v σ H Q → t v σ H Q) : PGs X e t' := ⟨fun pins s σ H v u Q I r q => h.run pins s σ H v u Q I r (i v σ H Q q)⟩
theorem sndG_nm {i : Nat} {x : Str} (hN : X.N.Nodup) (hi : X.N[i]? = some x) (hx : Loc X.env.scope x) (hf : X.fn x = true ∨ X.env.scope.names.lookup x = some .local) : PG X (.Name x pos) (rdG Z [i] (asgTg (.nm i))) :=
  pg_mono (pg_name hN hi hx hf) fun v σ H Q ⟨F, ρ, d, E, r, c⟩ => by
    rw [asgTg] at c
    cases q : put i (sh d) ρ with
    | ok u ρ' =>
      rw [q] at c
      exact c _ (E.put (r := sh d) r q) List.length_set fun j hj => List.getElem?_set_ne (fun e => hj (by simp [e]))
    | err e ρ' => rw [q] at c; exact c.elim
    | bad => rw [q] at c; exact c.elim
theorem sndGs_nil : PGs X [] (rdGs Z [] (asgTgs [])) := pgs_mono pgs_nil fun vs σ H Q ⟨F, ρ, ds, E, r, c⟩ => by
  cases ds with
  | nil =>
    rw [asgTgs] at c
    cases r
    exact ⟨rfl, c σ E rfl fun _ _ => rfl⟩
  | cons d ds =>
    rw [asgTgs] at c
    exact c.elim
theorem assign_cons {e : PySem.Expr} {es : List PySem.Expr} {env : PySem.Env} (h : nst e = true) : assignEach (e :: es) env = (false, assign e env) :: assignEach es env := by
  cases e <;> first | rfl | cases h
theorem sndGs_cons {t : Tg} {ts : List Tg} {a : PySem.Expr} {as : List PySem.Expr} (hn : nst a = true) (ha : PG X a (rdG Z t.slots (asgTg t))) (hs : PGs X as (rdGs Z (slotsTg ts) (asgTgs ts))) : PGs X (a :: as) (rdGs Z (slotsTg (t :: ts)) (asgTgs (t :: ts))) :=
  pgs_mono (pgs_cons ha hs (by rw [assign_cons hn] <;> rfl)) fun vs σ H Q ⟨F, ρ, ds, E, r, c⟩ => by
    cases r with
    | nil =>
      rw [asgTgs] at c
      exact c.elim
    | @cons v vs d ds r1 rs =>
      rw [asgTgs] at c
      refine ⟨v, vs, rfl, F, ρ, d, E, r1, ?_⟩
      cases q : asgTg t d ρ with
      | ok u ρ1 =>
        rw [bind_ok q] at c
        intro σ1 E1 m1 k1
        refine ⟨F, ρ1, ds, E1, rs, ?_⟩
        cases q2 : asgTgs ts ds ρ1 with
        | ok u2 ρ2 =>
          rw [q2] at c
          intro σ2 E2 m2 k2
          refine c σ2 E2 (m2.trans m1) fun i hi => ?_
          rw [slotsTg, List.mem_append, not_or] at hi
          rw [k2 i hi.2, k1 i hi.1]
        | err e ρ2 => rw [q2] at c; exact c.elim
        | bad => rw [q2] at c; exact c.elim
      | err e ρ1 => rw [bind_err q] at c; exact c.elim
      | bad => rw [bind_bad q] at c; exact c.elim
theorem assign_len {env : PySem.Env} : ∀ {es : List PySem.Expr}, es.all nst = true → (assignEach es env).length = es.length ∧ (assignEach es env).findIdx? (·.1) = none
  | [], _ => ⟨rfl, rfl⟩
  | e :: es, h => by
    rw [List.all_cons, Bool.and_eq_true] at h
    obtain ⟨h1, h2⟩ := assign_len (env := env) h.2
    rw [assign_cons h.1]
    refine ⟨by simp [h1], ?_⟩
    rw [List.findIdx?_cons, h2]
    rfl
theorem sndG_tup {ts : List Tg} {as : List PySem.Expr} {k : Nat} (hK : X.K = Z.K) (hc : X.calm = true) (hl : ts.length = as.length) (hn : as.all nst = true) (hs : PGs X as (rdGs Z (slotsTg ts) (asgTgs ts))) : PG X (.Tuple as k pos) (rdG Z (Tg.slots (.tup ts)) (asgTg (.tup ts))) :=
  pg_mono (pg_tup (n := as.length) hc hs (assign_len hn).1 (assign_len hn).2) fun v σ H Q ⟨F, ρ, d, E, r, c⟩ => by
    cases d with
    | tup ds =>
      rw [asgTg] at c
      by_cases h : ts.length = ds.length
      · rw [if_pos h] at c
        cases r with
        | tup h1 h2 => exact ⟨_, _, rfl, by rw [hK]; exact sqT_mono E.fh h1, by rw [h2.length, ← h, hl], F, ρ, ds, E, h2, by rw [Tg.slots] at c; exact c⟩
      · rw [if_neg h] at c
        exact c.elim
    | _ =>
      rw [asgTg] at c
      · exact c.elim
      all_goals (intro ds z; cases z)
end
end PL
/-! PLComp: comprehensions. -/
namespace PL
open PySem L2 PySem.Spec PyProof.Rows
theorem wipe_get {ρ : Env} {i : Nat} : ∀ {vs : List Nat} {x : Fg × D}, (PL.wipe ρ vs)[i]? = some (some x) → ρ[i]? = some (some x) ∧ i ∉ vs
  | [], x, h => ⟨h, by simp⟩
  | v :: vs, x, h => by
    unfold PL.wipe at h
    by_cases hi : v = i
    · subst hi
      by_cases hv : v < (PL.wipe ρ vs).length
      · rw [List.getElem?_set_self hv] at h; cases h
      · rw [List.getElem?_eq_none (by simpa using hv)] at h; cases h
    · rw [List.getElem?_set_ne hi] at h
      obtain ⟨h1, h2⟩ := wipe_get h
      exact ⟨h1, by simp only [List.mem_cons, not_or]; exact ⟨fun e => hi e.symm, h2⟩⟩
theorem wipe_len (ρ : Env) : ∀ vs : List Nat, (PL.wipe ρ vs).length = ρ.length
  | [] => rfl
  | v :: vs => by unfold PL.wipe; rw [List.length_set, wipe_len ρ vs]
theorem restore_len (ρ0 ρ : Env) : ∀ vs : List Nat, (restore ρ0 ρ vs).length = ρ.length
  | [] => rfl
  | v :: vs => by unfold restore; rw [List.length_set, restore_len ρ0 ρ vs]
theorem restore_get {ρ0 ρ : Env} {i : Nat} {x : Fg × D} : ∀ {vs : List Nat}, (restore ρ0 ρ vs)[i]? = some (some x) → (i ∈ vs ∧ ρ0[i]? = some (some x)) ∨ (i ∉ vs ∧ ρ[i]? = some (some x))
  | [], h => .inr ⟨by simp, h⟩
  | v :: vs, h => by
    unfold restore at h
    by_cases hi : v = i
    · subst hi
      by_cases hv : v < (restore ρ0 ρ vs).length
      · rw [List.getElem?_set_self hv] at h
        refine .inl ⟨by simp, ?_⟩
        have h2 : ρ0.getD v none = some x := Option.some.inj h
        rw [List.getD_eq_getElem?_getD] at h2
        cases q : ρ0[v]? with
        | none => rw [q] at h2; cases h2
        | some y => rw [q] at h2; exact congrArg some h2
      · rw [List.getElem?_eq_none (by simpa using hv)] at h; cases h
    · rw [List.getElem?_set_ne hi] at h
      rcases restore_get h with ⟨h1, h2⟩ | ⟨h1, h2⟩
      · exact .inl ⟨List.mem_cons_of_mem _ h1, h2⟩
      · exact .inr ⟨by simp only [List.mem_cons, not_or]; exact ⟨fun e => hi e.symm, h1⟩, h2⟩
theorem noOwned_at {ρ : Env} {i : Nat} {f : Fg} {d : D} : ∀ {vs : List Nat}, noOwned ρ vs = true → i ∈ vs → ρ[i]? = some (some (f, d)) → f = .shr
  | [], _, h, _ => by cases h
  | v :: vs, h, hm, e => by
    unfold noOwned at h
    rw [Bool.and_eq_true] at h
    rcases List.mem_cons.mp hm with rfl | hm
    · rw [e] at h
      cases f with
      | shr => rfl
      | own => simp at h
      | pin => simp at h
    · exact noOwned_at h.2 hm e
theorem l2wipe_out {σ : L2.St} {i : Nat} : ∀ {vs : List Nat}, i ∉ vs → (L2.wipe σ vs)[i]? = σ[i]? := fun h => L2.wipe_out h
/-- two stores that agree outside -/
theorem l2wipe_eq {σ σ' : L2.St} {vs : List Nat} (hl : σ.length = σ'.length) (h : ∀ i, i ∉ vs → σ[i]? = σ'[i]?) : L2.wipe σ vs = L2.wipe σ' vs := by
  have at_ : ∀ (τ : L2.St) (i : Nat) (ws : List Nat), i ∈ ws → i < τ.length → (L2.wipe τ ws)[i]? = some none := by
    intro τ i ws
    induction ws with
    | nil => intro hm; cases hm
    | cons w ws ih =>
      intro hm hlt
      unfold L2.wipe
      by_cases hw : w = i
      · subst hw
        rw [List.getElem?_set_self (by rw [L2.wipe_length]; exact hlt)]
      · rw [List.getElem?_set_ne hw]
        rcases List.mem_cons.mp hm with rfl | hm
        · exact absurd rfl hw
        · exact ih hm hlt
  apply List.ext_getElem?
  intro i
  by_cases hi : i ∈ vs
  · by_cases hlt : i < σ.length
    · rw [at_ σ i vs hi hlt, at_ σ' i vs hi (by omega)]
    · rw [List.getElem?_eq_none (by rw [L2.wipe_length]; omega), List.getElem?_eq_none (by rw [L2.wipe_length]; omega)]
  · rw [l2wipe_out hi, l2wipe_out hi, h i hi]
section
variable {K : PySem.W.Frag} {pa : PaT} {F G H : Hp} {σ : L2.St} {ρ : Env}
theorem EnvOk.wipe (E : EnvOk K pa F G H σ ρ) (vs : List Nat) : EnvOk K pa F G H (L2.wipe σ vs) (PL.wipe ρ vs) := by
  refine ⟨E.fh, E.gh, E.fg, by rw [wipe_len, L2.wipe_length]; exact E.len, fun i d q => ?_, fun i g d q ng => ?_, fun i d q => ?_, fun i j g g' d d' a ne q ng q' ng' e => ?_, E.tb⟩
  · obtain ⟨q, hi⟩ := wipe_get q
    rw [l2wipe_out hi]
    exact E.shr i d q
  · obtain ⟨q, hi⟩ := wipe_get q
    rw [l2wipe_out hi]
    exact E.own i g d q ng
  · obtain ⟨q, hi⟩ := wipe_get q
    rw [l2wipe_out hi]
    exact E.pin i d q
  · obtain ⟨q, hi⟩ := wipe_get q
    obtain ⟨q', hj⟩ := wipe_get q'
    rw [l2wipe_out hi] at e
    rw [l2wipe_out hj]
    exact E.dist i j g g' d d' a ne q ng q' ng' e
/-- another store that holds the same outside the wiped slots -/
theorem EnvOk.agree {σ' : L2.St} {vs : List Nat} (E : EnvOk K pa F G H σ (PL.wipe ρ vs)) (hl : σ'.length = σ.length) (h : ∀ i, i ∉ vs → σ'[i]? = σ[i]?) : EnvOk K pa F G H σ' (PL.wipe ρ vs) := by
  refine ⟨E.fh, E.gh, E.fg, by rw [hl]; exact E.len, fun i d q => ?_, fun i g d q ng => ?_, fun i d q => ?_, fun i j g g' d d' a ne q ng q' ng' e => ?_, E.tb⟩
  · rw [h i (wipe_get q).2]; exact E.shr i d q
  · rw [h i (wipe_get q).2]; exact E.own i g d q ng
  · rw [h i (wipe_get q).2]; exact E.pin i d q
  · rw [h i (wipe_get q).2] at e
    rw [h j (wipe_get q').2]
    exact E.dist i j g g' d d' a ne q ng q' ng' e
/-- behind the block: its own names as they were -/
theorem EnvOk.restore {F0 H0 : Hp} {ρ0 : Env} {vs : List Nat} (E0 : EnvOk K pa F0 G H0 σ ρ0) (no : noOwned ρ0 vs = true) (s : Same F0 F) {τ : L2.St} (E : EnvOk K pa F G H τ ρ) (hτ : ∀ i, i ∉ vs → τ[i]? = σ[i]?) (hl : τ.length = σ.length) : EnvOk K pa F G H σ (restore ρ0 ρ vs) := by
  refine ⟨E.fh, E.gh, E.fg, by rw [restore_len, E.len, hl], fun i d q => ?_, fun i g d q ng => ?_, fun i d q => ?_, fun i j g g' d d' a ne q ng q' ng' e => ?_, E.tb⟩
  · rcases restore_get q with ⟨hi, q⟩ | ⟨hi, q⟩
    · obtain ⟨v, e, r⟩ := E0.shr i d q
      exact ⟨v, e, r.mono s⟩
    · rw [← hτ i hi]; exact E.shr i d q
  · rcases restore_get q with ⟨hi, q⟩ | ⟨hi, q⟩
    · exact absurd (noOwned_at no hi q) ng
    · rw [← hτ i hi]; exact E.own i g d q ng
  · rcases restore_get q with ⟨hi, q⟩ | ⟨hi, q⟩
    · cases noOwned_at no hi q
    · rw [← hτ i hi]; exact E.pin i d q
  · rcases restore_get q with ⟨hi, q⟩ | ⟨hi, q⟩
    · exact absurd (noOwned_at no hi q) ng
    · rcases restore_get q' with ⟨hj, q'⟩ | ⟨hj, q'⟩
      · exact absurd (noOwned_at no hj q') ng'
      · rw [← hτ i hi] at e
        rw [← hτ j hj]
        exact E.dist i j g g' d d' a ne q ng q' ng' e
/-- with a further object that nobody else writes -/
theorem EnvOk.guard {p : Addr} {xs : List V} (E : EnvOk K pa F G H σ ρ) (hp : H p = some (.lst xs)) (hF : F p = none) (no : NotOwn σ ρ p) : EnvOk K pa F (upd G p (.lst xs)) H σ ρ := by
  refine ⟨E.fh, fun b u q => ?_, fun b u q => ?_, E.len, E.shr, fun i g d q ng => ?_, E.pin, E.dist, ⟨E.tb.tabs, E.tb.nt, fun n a ps q => ?_⟩⟩
  · by_cases hb : b = p
    · subst hb; rw [upd_same] at q; rw [← q]; exact hp
    · rw [upd_ne hb] at q; exact E.gh b u q
  · by_cases hb : b = p
    · subst hb; rw [hF] at q; cases q
    · rw [upd_ne hb]; exact E.fg b u q
  · obtain ⟨a, e, h1, h2, h3⟩ := E.own i g d q ng
    have ne : a ≠ p := by
      rintro rfl
      exact no i g d q ng e
    exact ⟨a, e, h1, by rw [upd_ne ne]; exact h2, h3⟩
  · by_cases hb : a = p
    · subst hb; rw [upd_same] at q; cases q
    · rw [upd_ne hb] at q; exact E.tb.gt n a ps q
theorem EnvOk.unguard {p : Addr} {xs : List V} (E : EnvOk K pa F (upd G p (.lst xs)) H σ ρ) (hG : G p = none) : EnvOk K pa F G H σ ρ ∧ H p = some (.lst xs) ∧ F p = none ∧ NotOwn σ ρ p := by
  have gp : ∀ b u, G b = some u → upd G p (.lst xs) b = some u := fun b u q => by
    have hb : b ≠ p := by
      rintro rfl
      rw [hG] at q; cases q
    rw [upd_ne hb]; exact q
  have gn : ∀ b, upd G p (.lst xs) b = none → G b = none ∧ b ≠ p := fun b q => by
    have hb : b ≠ p := by
      rintro rfl
      rw [upd_same] at q; cases q
    exact ⟨by rw [upd_ne hb] at q; exact q, hb⟩
  have hFp : F p = none := by
    cases z : F p with
    | none => rfl
    | some u =>
      have := E.fg p u z
      rw [upd_same] at this; cases this
  refine ⟨⟨E.fh, fun b u q => E.gh b u (gp b u q), fun b u q => (gn b (E.fg b u q)).1, E.len, E.shr, fun i g d q ng => ?_, E.pin, E.dist, ⟨E.tb.tabs, E.tb.nt, fun n a ps q => E.tb.gt n a ps (gp a _ q)⟩⟩, E.gh p _ upd_same, hFp, fun i g d q ng e => ?_⟩
  · obtain ⟨a, e, h1, h2, h3⟩ := E.own i g d q ng
    exact ⟨a, e, h1, (gn a h2).1, h3⟩
  · obtain ⟨a, e2, h1, h2, h3⟩ := E.own i g d q ng
    rw [e] at e2; cases e2
    exact (gn _ h2).2 rfl
/-- an object of one's own is changed -/
theorem EnvOk.write {p : Addr} {xs ys : List V} (E : EnvOk K pa F G H σ ρ) (hH : H p = some (.lst xs)) (hF : F p = none) (hG : G p = none) (no : NotOwn σ ρ p) : EnvOk K pa F G (upd H p (.lst ys)) σ ρ := by
  have nf : ∀ b u, F b = some u → b ≠ p := fun b u q e => by subst e; rw [hF] at q; cases q
  have ng' : ∀ b u, G b = some u → b ≠ p := fun b u q e => by subst e; rw [hG] at q; cases q
  refine ⟨fun b u q => by rw [upd_ne (nf b u q)]; exact E.fh b u q, fun b u q => by rw [upd_ne (ng' b u q)]; exact E.gh b u q, E.fg, E.len, E.shr, fun i g d q ng => ?_, E.pin, E.dist, E.tb.chg hH⟩
  obtain ⟨a, e, h1, h2, h3⟩ := E.own i g d q ng
  have ne : a ≠ p := by
    rintro rfl
    exact no i g d q ng e
  refine ⟨a, e, h1, h2, ?_⟩
  cases d with
  | lst ds => obtain ⟨zs, e3, r⟩ := h3; exact ⟨zs, by rw [upd_ne ne]; exact e3, r⟩
  | _ => exact h3
end
theorem ok_bind {α β : Type} {f : M α} {g : α → M β} {ρ ρ' : Env} {b : β} (h : (f >>= g) ρ = .ok b ρ') : ∃ a ρ1, f ρ = .ok a ρ1 ∧ g a ρ1 = .ok b ρ' := by
  cases q : f ρ with
  | ok a ρ1 => rw [bind_ok q] at h; exact ⟨a, ρ1, rfl, h⟩
  | err e ρ1 => rw [bind_err q] at h; cases h
  | bad => rw [bind_bad q] at h; cases h
theorem block_ok {Z : Fx} {C α β : Type} {rel : Lie C β} {σ : L2.St} {F : Hp} {ρ : Env} {own : List Nat} {m : M α} {k : α → M β} {Q : C → Hp → Prop} (c : Cont Z rel σ F ((block own m >>= k) ρ) Q) :
    noOwned ρ own = true ∧ ∃ a ρe, m (PL.wipe ρ own) = .ok a ρe ∧ Cont Z rel σ F (k a (restore ρ ρe own)) Q := by
  by_cases h : noOwned ρ own = true
  · refine ⟨h, ?_⟩
    cases q : m (PL.wipe ρ own) with
    | ok a ρe =>
      have e : block own m ρ = .ok a (restore ρ ρe own) := by unfold block; rw [if_pos h, q]
      rw [bind_ok e] at c
      exact ⟨a, ρe, rfl, c⟩
    | err x ρe =>
      have e : block own m ρ = .bad := by unfold block; rw [if_pos h, q]
      rw [bind_bad e] at c
      exact c.elim
    | bad =>
      have e : block own m ρ = .bad := by unfold block; rw [if_pos h, q]
      rw [bind_bad e] at c
      exact c.elim
  · have e : block own m ρ = .bad := by unfold block; rw [if_neg h]
    rw [bind_bad e] at c
    exact c.elim
theorem src_bind {Γ : Gm} {sk : Nat} {s1 : E} {s2 : Option E} {β : Type} (k : List D → M β) : (evE Γ s1 >>= fun v => evO Γ s2 >>= fun d2 => M.opt (itemsOf sk v.d d2) >>= k) = (evSrc Γ sk s1 s2 >>= k) := by
  unfold evSrc
  rw [bind_assoc]
  congr 1
  funext v
  rw [bind_assoc]
/-- the context within a comprehension's block -/
abbrev Fx.blk (Z : Fx) (G : Hp) : Fx := ⟨Z.K, Z.mg, Z.pa, G, fun _ _ _ _ => False⟩
theorem Fit.blk {X : Cx} {Z : Fx} {lev : Nat} {T : Tab} {Γ : Gm} (ft : Fit X Z lev T Γ) (G : Hp) (s : Shared) (H : Hp) {scope : Scope} (hk : scope.kind = .function) (C : Addr) (cl : List (Str × Addr)) (fp : List Addr) :
    Fit (X.blk s H scope (compEnvC scope cl C X.env) fp) (Z.blk G) lev T Γ where
  hK := ft.hK
  hmg := ft.hmg
  calm := ft.calm
  nd := ft.nd
  room := ft.room
  one := ft.one
  kind := hk
  takes := takes0
  good := ft.good
  lam := ft.lam
/-- a reading that holds whatever others hold -/
theorem pe_any {X : Cx} {e : PySem.Expr} {ι : Type} {t : ι → TE} (h : ∀ i, PE X e (t i)) : PE X e (fun σ H Q => ∃ i, t i σ H Q) := ⟨fun pins s σ H Q I ⟨i, q⟩ => (h i).run pins s σ H Q I q⟩
theorem pts_any {X : Cx} {e : List PySem.Expr} {ι : Type} {t : ι → TT} (h : ∀ i, PTs X e (t i)) : PTs X e (fun σ H Q => ∃ i, t i σ H Q) := ⟨fun pins s σ H Q I ⟨i, q⟩ => (h i).run pins s σ H Q I q⟩
theorem pg_any {X : Cx} {e : PySem.Expr} {ι : Type} {t : ι → TG} (h : ∀ i, PG X e (t i)) : PG X e (fun v σ H Q => ∃ i, t i v σ H Q) := ⟨fun pins s σ H v u Q I r ⟨i, q⟩ => (h i).run pins s σ H v u Q I r q⟩
theorem pi_any {X : Cx} {tg e : PySem.Expr} {ι : Type} {t : ι → TI} (h : ∀ i, PI X tg e (t i)) : PI X tg e (fun σ H Q => ∃ i, t i σ H Q) := ⟨fun pins s σ H Q I ⟨i, q⟩ => (h i).run pins s σ H Q I q⟩
theorem pts_mono {X : Cx} {e : List PySem.Expr} {t t' : TT} (h : PTs X e t) (i : ∀ σ H Q, t' σ H Q → t σ H Q) : PTs X e t' := ⟨fun pins s σ H Q I q => h.run pins s σ H Q I (i σ H Q q)⟩
theorem sndC_none {X : Cx} {Z : Fx} {Γ : Gm} : PTs X [] (rdB Z (evC Γ none)) := pts_mono pts_nil fun σ H Q ⟨F, ρ, E, c⟩ => by
  rw [evC] at c
  exact (show Cont Z lBool σ F (.ok true ρ) Q from c).ok E rfl
theorem sndC_some {X : Cx} {Z : Fx} {Γ : Gm} {a : E} {x : PySem.Expr} (h : PT X x (rdB Z (evE Γ a >>= asBl))) : PTs X [x] (rdB Z (evC Γ (some a))) := pts_mono (pts_one h) fun σ H Q r => by
  rw [evC] at r
  exact r
theorem notOwn_wipe {σ : L2.St} {ρ : Env} {p : Addr} {vs : List Nat} (h : NotOwn σ ρ p) : NotOwn (L2.wipe σ vs) (PL.wipe ρ vs) p := fun i g d q ng e => by
  obtain ⟨q, hi⟩ := wipe_get q
  rw [l2wipe_out hi] at e
  exact h i g d q ng e
/-- what a turn yields, in a state of ours -/
theorem Yields.step {K : PySem.W.Frag} {pa : PaT} {F Fi G H H' : Hp} {σ : L2.St} {ρ : Env} {J : It} {items : List D} {i : Nat} {d : D} {x : V} (y : Yields K F J items) (s : Same F Fi) (E : EnvOk K pa Fi G H σ ρ) (hd : items[i]? = some d) (h : J.yld i H x H') :
    ∃ F', Same Fi F' ∧ EnvOk K pa F' G H' σ ρ ∧ Rp K F' x d ∧ ∀ p u, H p = some u → H' p = some u ∧ (Fi p = none → F' p = none) := by
  rcases y.yld i H Fi d s E.fh hd x H' h with ⟨rfl, r⟩ | ⟨p, o, hp, rfl, nt, r⟩
  · exact ⟨Fi, Same.refl _, E, r, fun p u q => ⟨q, fun z => z⟩⟩
  · obtain ⟨s', E'⟩ := E.new (o := o) hp nt
    refine ⟨_, s', E', r, fun b u q => ?_⟩
    have ne := ne_of_none q hp
    exact ⟨by rw [upd_ne ne]; exact q, fun z => by rw [upd_ne ne]; exact z⟩
section
variable {X : Cx} {Z : Fx} {Γ : Gm} {lev : Nat} {T : Tab} {pos : Pos}
/-- one turn of a comprehension and the rest -/
theorem compL_cons {own : List Nat} {asg : D → M Unit} {cnd : M Bool} {elt : M D} {d : D} {ds : List D} {ρ ρe : Env} {rest : List D} (h : compL own asg cnd elt (d :: ds) ρ = .ok rest ρe) :
    ∃ ρa b ρc, asg d ρ = .ok () ρa ∧ cnd ρa = .ok b ρc ∧ (b = true → ∃ y ρy rest', elt ρc = .ok y ρy ∧ compL own asg cnd elt ds (PL.wipe ρy own) = .ok rest' ρe ∧ rest = y :: rest') ∧ (b = false → compL own asg cnd elt ds (PL.wipe ρc own) = .ok rest ρe) := by
  rw [compL] at h
  obtain ⟨u, ρa, h1, h2⟩ := ok_bind h
  obtain ⟨b, ρc, h3, h4⟩ := ok_bind h2
  refine ⟨ρa, b, ρc, h1, h3, fun hb => ?_, fun hb => ?_⟩
  · subst hb
    obtain ⟨y, ρy, h5, h6⟩ := ok_bind h4
    obtain ⟨r, ρr, h7, h8⟩ := ok_bind h6
    cases h8
    exact ⟨y, ρy, r, h5, h7, rfl⟩
  · subst hb
    exact h4
/-- the state between two turns: D holds what is made so far -/
structure CState (Z : Fx) (own : List Nat) (σ : L2.St) (F1 : Hp) (D0 : Addr) (made : List D) (ρi : Env) (H : Hp) : Prop where
  ex : ∃ (Fi : Hp) (acc : List V), Same F1 Fi ∧ EnvOk Z.K Z.pa Fi Z.G H (L2.wipe σ own) (PL.wipe ρi own) ∧ H D0 = some (.lst acc) ∧ Fi D0 = none ∧ Z.G D0 = none ∧ NotOwn (L2.wipe σ own) (PL.wipe ρi own) D0 ∧ Rps Z.K Fi acc made
theorem comp_core {own : List Nat} {t : Tg} {cnd : Option E} {e : E} {items ys : List D} {σ : L2.St} {F1 H1 : Hp} {ρ1 ρe : Env} {J : It} {Q : VK} (E1 : EnvOk Z.K Z.pa F1 Z.G H1 σ ρ1) (y : Yields Z.K F1 J items) (hl : items.length ≤ szL) (hsub : ∀ i ∈ t.slots, i ∈ own)
    (no : noOwned ρ1 own = true) (hm : compL own (asgTg t) (evC Γ cnd) (evE Γ e >>= fun v => pure v.d) items (PL.wipe ρ1 own) = .ok ys ρe) (c : Cont Z (lV Z) σ F1 (.ok (ow (.lst ys)) (restore ρ1 ρe own)) Q) :
    ∀ D0, H1 D0 = none → ∃ W : Nat → Nat → Hp → Prop, (∃ m, W 0 m (upd H1 D0 (.lst []))) ∧ ∀ i m H, W i m H →
      (J.stop i H ∧ Q (.ref D0) H) ∨ (J.go i H ∧ ∃ Nx : Hp → Prop, (∀ H', Nx H' → ∃ m', m' < m ∧ W (i + 1) m' H') ∧ ∀ x H', J.yld i H x H' →
        (fun v σ H Q => ∃ G, rdG (Z.blk G) t.slots (asgTg t) v σ H Q) x (L2.wipe σ own) H' fun σ2 H2 => L2.wipe σ2 own = L2.wipe σ own ∧ (fun σ H Q => ∃ G, rdB (Z.blk G) (evC Γ cnd) σ H Q) σ2 H2 fun b H3 =>
          if b = true then (fun σ H Q => ∃ G, rdE (Z.blk G) (evE Γ e) σ H Q) σ2 H3 fun y H4 => ∃ acc, H4 D0 = some (.lst acc) ∧ acc.length < sizeLine ∧ Nx (upd H4 D0 (.lst (acc ++ [y]))) else Nx H3) := by
  intro D0 hD
  refine ⟨fun i m H => m = items.length - i ∧ i ≤ items.length ∧ ∃ made ρi rest, CState Z own σ F1 D0 made ρi H ∧ made.length ≤ i ∧ compL own (asgTg t) (evC Γ cnd) (evE Γ e >>= fun v => pure v.d) (items.drop i) (PL.wipe ρi own) = .ok rest ρe ∧ ys = made ++ rest, ?_, ?_⟩
  · refine ⟨items.length, by simp, Nat.zero_le _, [], ρ1, ys, ⟨F1, [], Same.refl _, (E1.newOwn hD).wipe own, upd_same, E1.fnone hD, E1.gnone hD, notOwn_wipe (E1.notOwn hD), .nil⟩, Nat.le_refl _, hm, rfl⟩
  · rintro i m H ⟨rfl, hi, made, ρi, rest, ⟨Fi, acc, s, Ei, hD0, fD, gD, nD, rps⟩, hlen, hrun, hys⟩
    by_cases hlt : i < items.length
    · refine .inr ⟨y.go i H Fi s Ei.fh hlt, fun H' => i + 1 ≤ items.length ∧ ∃ made ρi rest, CState Z own σ F1 D0 made ρi H' ∧ made.length ≤ i + 1 ∧ compL own (asgTg t) (evC Γ cnd) (evE Γ e >>= fun v => pure v.d) (items.drop (i + 1)) (PL.wipe ρi own) = .ok rest ρe ∧ ys = made ++ rest,
        fun H' h => ⟨items.length - (i + 1), by omega, rfl, h⟩, fun x H' hy => ?_⟩
      rw [List.drop_eq_getElem_cons hlt] at hrun
      obtain ⟨ρa, b, ρc, ha, hc, ht, hf⟩ := compL_cons hrun
      obtain ⟨F', s', E', rx, keep⟩ := y.step s Ei (List.getElem?_eq_getElem hlt) hy
      obtain ⟨hD', fD'⟩ := keep D0 _ hD0
      have Eg := E'.guard hD' (fD' fD) nD
      refine ⟨_, F', PL.wipe ρi own, items[i], Eg, rx, ?_⟩
      rw [ha]
      intro σ2 E2 l2 k2
      have w2 : L2.wipe σ2 own = L2.wipe σ own := by
        refine l2wipe_eq (by rw [l2, L2.wipe_length]) fun j hj => ?_
        rw [k2 j (fun z => hj (hsub j z)), l2wipe_out hj]
      refine ⟨w2, _, F', ρa, E2, ?_⟩
      rw [hc]
      intro b' F3 H3 s3 E3 eb
      have eb' : b = b' := eb
      subst eb'
      cases b with
      | true =>
        refine iteT ?_
        obtain ⟨z, ρy, rest', he, hr, rfl⟩ := ht rfl
        obtain ⟨r, ρz, he1, he2⟩ := ok_bind he
        cases he2
        refine ⟨_, F3, ρc, E3, ?_⟩
        rw [he1]
        intro v F4 H4 s4 E4 l4
        obtain ⟨F5, s5, E5, l5⟩ := E4.share l4
        obtain ⟨E6, hD6, fD6, nD6⟩ := E5.unguard gD
        have hal : acc.length = made.length := rps.length
        refine ⟨acc, hD6, by rw [hal, ← szL_eq]; omega, by omega, made ++ [r.d], ρy, rest', ⟨F5, acc ++ [v], s.trans (s'.trans (s3.trans (s4.trans s5))), ?_, upd_same, fD6, gD, ?_, ?_⟩, by simp; omega, hr, by rw [hys]; simp⟩
        · rw [← w2]
          exact (E6.write (ys := acc ++ [v]) (xs := acc) hD6 fD6 gD nD6).wipe own
        · rw [← w2]
          exact notOwn_wipe nD6
        · exact (rps.mono (s'.trans (s3.trans (s4.trans s5)))).append (.cons l5 .nil)
      | false =>
        refine iteF ?_
        obtain ⟨E6, hD6, fD6, nD6⟩ := E3.unguard gD
        refine ⟨by omega, made, ρc, rest, ⟨F3, acc, s.trans (s'.trans s3), ?_, hD6, fD6, gD, ?_, rps.mono (s'.trans s3)⟩, by omega, hf rfl, hys⟩
        · rw [← w2]
          exact E6.wipe own
        · rw [← w2]
          exact notOwn_wipe nD6
    · have ei : i = items.length := by omega
      subst ei
      rw [List.drop_length, compL] at hrun
      cases hrun
      refine .inl ⟨y.stop H Fi s Ei.fh, ?_⟩
      rw [List.append_nil] at hys
      subst hys
      refine c (.ref D0) Fi H s (E1.restore no s Ei (fun j hj => l2wipe_out hj) (L2.wipe_length _ _)) ⟨D0, rfl, ⟨fD, gD, acc, hD0, rps⟩, fun j g d q ng eq => ?_⟩
      rcases restore_get q with ⟨hj, q⟩ | ⟨hj, q⟩
      · exact absurd (noOwned_at no hj q) ng
      · rw [← l2wipe_out (vs := own) hj] at eq
        exact nD j g d q ng eq
theorem snd_comp {own : List Nat} {t : Tg} {sk : Nat} {s1 : E} {s2 cnd : Option E} {e : E} {tg iter elt : PySem.Expr} {ifs : List PySem.Expr} {scope : Scope} {ow' : List (Str × Nat)} (ft : Fit X Z lev T Γ) (hown : ow'.map (·.2) = own) (ok : BlkOk X.N X.env.scope scope ow') (hn : nset iter = true)
    (hsub : ∀ i ∈ t.slots, i ∈ own) (hi : PI X tg iter (rdI Z (evSrc Γ sk s1 s2)))
    (hg : ∀ (G : Hp) (s : Shared) (H : Hp) (C : Addr) (cl : List (Str × Addr)) (fp : List Addr), PG (X.blk s H scope (compEnvC scope cl C X.env) fp) tg (rdG (Z.blk G) t.slots (asgTg t)))
    (ht : ∀ (G : Hp) (s : Shared) (H : Hp) (C : Addr) (cl : List (Str × Addr)) (fp : List Addr), PTs (X.blk s H scope (compEnvC scope cl C X.env) fp) ifs (rdB (Z.blk G) (evC Γ cnd)))
    (he : ∀ (G : Hp) (s : Shared) (H : Hp) (C : Addr) (cl : List (Str × Addr)) (fp : List Addr), PE (X.blk s H scope (compEnvC scope cl C X.env) fp) elt (rdE (Z.blk G) (evE Γ e))) :
    (∀ σ H Q, rdE Z (evE Γ (.comp own t sk s1 s2 cnd e)) σ H Q → tLc (rdI Z (evSrc Γ sk s1 s2)) (fun v σ H Q => ∃ G, rdG (Z.blk G) t.slots (asgTg t) v σ H Q) (fun σ H Q => ∃ G, rdB (Z.blk G) (evC Γ cnd) σ H Q) (fun σ H Q => ∃ G, rdE (Z.blk G) (evE Γ e) σ H Q) (ow'.map (·.2)) σ H Q) ∧
      PE X (.ListComp elt [⟨tg, iter, ifs, 0⟩] scope pos) (rdE Z (evE Γ (.comp own t sk s1 s2 cnd e))) := by
  have key : ∀ σ H Q, rdE Z (evE Γ (.comp own t sk s1 s2 cnd e)) σ H Q → tLc (rdI Z (evSrc Γ sk s1 s2)) (fun v σ H Q => ∃ G, rdG (Z.blk G) t.slots (asgTg t) v σ H Q) (fun σ H Q => ∃ G, rdB (Z.blk G) (evC Γ cnd) σ H Q) (fun σ H Q => ∃ G, rdE (Z.blk G) (evE Γ e) σ H Q) (ow'.map (·.2)) σ H Q := by
    rintro σ H Q ⟨F, ρ, E, c⟩
    rw [evE, src_bind] at c
    rw [hown]
    refine (Cont.bind E c).imp fun J H1 ⟨items, F1, ρ1, s1, E1, y, c1⟩ => ?_
    split at c1
    · rename_i hl
      obtain ⟨no, ys, ρe, hm, c2⟩ := block_ok c1
      exact comp_core E1 y hl hsub no hm c2
    · exact c1.elim
  exact ⟨key, pe_mono (pe_lc ft.calm ft.nd hi ok (fun s H C cl fp => pg_any fun G => hg G s H C cl fp) (fun s H C cl fp => pts_any fun G => ht G s H C cl fp) (fun s H C cl fp => pe_any fun G => he G s H C cl fp) (nfold hn)) key⟩
end
end PL
/-! PLStr: methods of texts and lists, ranges as lists, a written dict that is asked. -/
namespace PL
open PySem L2 PySem.Spec PyProof.Rows
/-! ### split -/
theorem splitL_ne (c : Nat) : ∀ l, splitL c l ≠ []
  | [] => by simp [splitL]
  | x :: r => by
    unfold splitL
    split
    · simp
    · split <;> simp
theorem splitL_free {c : Nat} : ∀ {l : List Nat}, c ∉ l → splitL c l = [l]
  | [], _ => rfl
  | x :: r, h => by
    simp only [List.mem_cons, not_or] at h
    unfold splitL
    rw [if_neg (fun e => h.1 e.symm), splitL_free h.2]
theorem splitL_app {c : Nat} : ∀ {l r : List Nat}, c ∉ l → splitL c (l ++ c :: r) = l :: splitL c r
  | [], r, _ => by
    show splitL c (c :: r) = _
    rw [splitL, if_pos rfl]
  | x :: l, r, h => by
    simp only [List.mem_cons, not_or] at h
    show splitL c (x :: (l ++ c :: r)) = _
    rw [splitL, if_neg (fun e => h.1 e.symm), splitL_app h.2]
theorem split_of_join {c : Nat} : ∀ {ps : List Str}, ps ≠ [] → (∀ p ∈ ps, c ∉ p.cps.toList) → splitL c (Str.join ⟨#[c]⟩ ps).cps.toList = ps.map fun p => p.cps.toList
  | [], h, _ => absurd rfl h
  | [p], _, h => by
    show splitL c p.cps.toList = _
    rw [splitL_free (h p (by simp))]; rfl
  | p :: q :: r, _, h => by
    have ih := split_of_join (c := c) (ps := q :: r) (by simp) (fun x hx => h x (List.mem_cons_of_mem _ hx))
    have e : (Str.join ⟨#[c]⟩ (p :: q :: r)).cps.toList = p.cps.toList ++ c :: (Str.join ⟨#[c]⟩ (q :: r)).cps.toList := by
      show ((p ++ (⟨#[c]⟩ : Str)) ++ Str.join ⟨#[c]⟩ (q :: r)).cps.toList = _
      show ((p.cps ++ #[c]) ++ (Str.join ⟨#[c]⟩ (q :: r)).cps).toList = _
      simp
    rw [e, splitL_app (h p (by simp)), ih]; rfl
theorem split_ne (x y : Str) : Txt.split x y ≠ [] := by
  unfold Txt.split
  split
  · simp
  · split
    · simp
    · rw [StrLaws.partsBetween_eq]
      cases Builtin.Str.occurrences x y 0 x.length (x.length + 1) <;> simp [StrLaws.partsFrom]
theorem split_eq (x : Str) (c : Nat) : Txt.split x ⟨#[c]⟩ = (splitL c x.cps.toList).map fun p => ⟨p.toArray⟩ := by
  have h := split_of_join (split_ne x ⟨#[c]⟩) (StrLaws.split_free x c)
  rw [StrLaws.join_split] at h
  rw [h, List.map_map]
  have e : ((fun p : List Nat => (⟨p.toArray⟩ : Str)) ∘ fun p : Str => p.cps.toList) = id := by
    funext p
    rfl
  rw [e, List.map_id]
theorem rps_strs {K : PySem.W.Frag} {F : Hp} : ∀ l : List Str, Rps K F (l.map V.str) (l.map D.str)
  | [] => .nil
  | x :: r => .cons (.str x) (rps_strs r)
theorem asStr_bind {β : Type} {d : D} {g : Str → M β} {C : Type} {Z : Fx} {rel : Lie C β} {σ : L2.St} {F : Hp} {ρ : Env} {Q : C → Hp → Prop} (c : Cont Z rel σ F ((asStr d >>= g) ρ) Q) : ∃ s, d = .str s ∧ Cont Z rel σ F (g s ρ) Q := by
  cases d with
  | str s => exact ⟨s, rfl, c⟩
  | _ => exact c.elim
theorem asInt_bind {β : Type} {d : D} {g : Int → M β} {C : Type} {Z : Fx} {rel : Lie C β} {σ : L2.St} {F : Hp} {ρ : Env} {Q : C → Hp → Prop} (c : Cont Z rel σ F ((asInt d >>= g) ρ) Q) : ∃ s, d = .int s ∧ Cont Z rel σ F (g s ρ) Q := by
  cases d with
  | int s => exact ⟨s, rfl, c⟩
  | _ => exact c.elim
theorem asLst_bind {β : Type} {d : D} {g : Unit → M β} {C : Type} {Z : Fx} {rel : Lie C β} {σ : L2.St} {F : Hp} {ρ : Env} {Q : C → Hp → Prop} (c : Cont Z rel σ F ((asLst d >>= g) ρ) Q) : ∃ s, d = .lst s ∧ Cont Z rel σ F (g () ρ) Q := by
  cases d with
  | lst s => exact ⟨s, rfl, c⟩
  | _ => exact c.elim
section
variable {X : Cx} {Z : Fx} {Γ : Gm} {lev : Nat} {T : Tab} {pos p apos : Pos}
theorem snd_split {a b : E} {x y : PySem.Expr} (hn : nst y = true) (hb : ncall0 x = true) (hl : (apos.endLine == pos.line) = true) (ha : PE X x (rdE Z (evE Γ a))) (hy : PE X y (rdE Z (evE Γ b))) :
    PE X (.Call (.Attribute x "split" apos) [y] [] pos) (rdE Z (evE Γ (.split a b))) := by
  refine pe_mono (pe_split ha hy (star_cons hn) (nbase hb) hl) fun σ H Q ⟨F, ρ, E, c⟩ => ?_
  rw [evE] at c
  refine (Cont.bind E c).imp fun u H1 ⟨r, F1, ρ1, s1, E1, l1, c1⟩ => ?_
  obtain ⟨F2, s2, E2, l2⟩ := E1.share l1
  obtain ⟨z, ez, c2⟩ := asStr_bind c1
  rw [ez] at l2
  cases l2
  refine ⟨⟨z, rfl⟩, (Cont.bind E2 (c2.mono s2)).imp fun w H3 ⟨r', F3, ρ3, s3, E3, l3, c3⟩ => ?_⟩
  obtain ⟨F4, s4, E4, l4⟩ := E3.share l3
  replace c3 := cont_opt (c3.mono s4)
  obtain ⟨v, e, c5⟩ := c3
  cases q : r'.d with
  | str y =>
    rw [q] at e l4
    cases l4
    unfold splitD at e
    simp only at e
    split at e
    · rename_i ch hy'
      split at e
      · rename_i hz
        cases e
        have ey : y = ⟨#[ch]⟩ := by
          obtain ⟨a⟩ := y
          have : a = #[ch] := Array.toList_inj.mp hy'
          rw [this]
        subst ey
        refine ⟨z, ⟨#[ch]⟩, rfl, rfl, rfl, by rw [← szL_eq]; exact hz, ?_⟩
        rw [split_eq]
        have cc := cont_lst c5 E4 (by
          have h := rps_strs (K := Z.K) (F := F4) ((splitL ch z.cps.toList).map fun p => ⟨p.toArray⟩)
          rw [List.map_map (f := fun p : List Nat => (⟨p.toArray⟩ : Str)) (g := D.str)] at h
          exact h)
        exact cc
      · cases e
    · cases e
  | _ => rw [q] at e; cases e
theorem snd_join {a b : E} {x y : PySem.Expr} (hn : nst y = true) (hb : ncall0 x = true) (hl : (apos.endLine == pos.line) = true) (ha : PE X x (rdE Z (evE Γ a))) (hy : PE X y (rdR Z (opnd b (evE Γ b)))) :
    PE X (.Call (.Attribute x "join" apos) [y] [] pos) (rdE Z (evE Γ (.join a b))) := by
  refine pe_mono (pe_join ha hy (star_cons hn) (nbase hb) hl) fun σ H Q ⟨F, ρ, E, c⟩ => ?_
  rw [evE] at c
  refine (Cont.bind E c).imp fun u H1 ⟨r, F1, ρ1, s1, E1, l1, c1⟩ => ?_
  obtain ⟨F2, s2, E2, l2⟩ := E1.share l1
  obtain ⟨z, ez, c2⟩ := asStr_bind c1
  rw [ez] at l2
  cases l2
  refine ⟨⟨z, rfl⟩, (Cont.bind E2 (c2.mono s2)).imp fun w H3 ⟨r', F3, ρ3, s3, E3, l3, c3⟩ => ?_⟩
  obtain ⟨d, sd, c4⟩ := deref_seen E3 l3 c3
  replace c4 := cont_opt c4
  obtain ⟨v, e, c5⟩ := c4
  unfold joinD at e
  split at e
  · obtain ⟨ss, e1, e2⟩ := Option.bind_eq_some_iff.mp e
    split at e2
    · rename_i hz
      cases e2
      obtain ⟨a, xs, rfl, sx, r1⟩ := seen_lst E3.fh sd
      obtain rfl := r1.strs e1
      refine ⟨z, a, ss, rfl, rfl, .inl (SqL.of sx), hz, ?_⟩
      rw [show Txt.join z ss = Str.join z ss from StrLaws.glued_eq_join z ss]
      exact cont_val c5 E3 (.str _)
    · cases e2
  · cases e
theorem rp_list_dp {K : PySem.W.Frag} {F H : Hp} {v : V} {l : List D} (fh : Same F H) (h : Seen K F H v (.lst l)) (q : D.cmpbs 60 l = true) : Dp K H v (.list (D.toPys l)) := by
  obtain ⟨a, xs, rfl, sx, r1⟩ := seen_lst fh h
  exact .lst (SqL.of sx) (rps_dp fh r1 q)
theorem toPys_get : ∀ {l : List D} {j : Nat}, (D.toPys l)[j]? = (l[j]?).map D.toPy
  | [], j => by simp [D.toPys]
  | x :: r, 0 => by simp [D.toPys]
  | x :: r, j + 1 => by simpa [D.toPys] using toPys_get (l := r) (j := j)
theorem cmpbs_get : ∀ {n : Nat} {l : List D} {j : Nat} {d : D}, D.cmpbs n l = true → l[j]? = some d → d.cmpb n = true
  | _, [], j, d, _, h => by simp at h
  | n, x :: r, 0, d, q, h => by
    simp only [D.cmpbs, Bool.and_eq_true] at q
    simp at h; subst h; exact q.1
  | n, x :: r, j + 1, d, q, h => by
    simp only [D.cmpbs, Bool.and_eq_true] at q
    exact cmpbs_get (j := j) q.2 (by simpa using h)
theorem indexD_of {d x : D} {n : Int} (h : indexD d x = some n) : ∃ l, d = .lst l ∧ (isScal x && l.all isScal || x.cmpb 60 && D.cmpbs 60 l) = true ∧ (l.findIdx fun z => z.eqv x) < l.length ∧ n = ((l.findIdx fun z => z.eqv x : Nat) : Int) := by
  cases d with
  | lst l =>
    have h' : (if (isScal x && l.all isScal || x.cmpb 60 && D.cmpbs 60 l) = true then (if (l.findIdx fun z => z.eqv x) < l.length then some ((l.findIdx fun z => z.eqv x : Nat) : Int) else none) else none) = some n := h
    by_cases q : (isScal x && l.all isScal || x.cmpb 60 && D.cmpbs 60 l) = true
    · rw [if_pos q] at h'
      by_cases q2 : (l.findIdx fun z => z.eqv x) < l.length
      · rw [if_pos q2] at h'
        exact ⟨l, rfl, q, q2, (Option.some.inj h').symm⟩
      · rw [if_neg q2] at h'; cases h'
    · rw [if_neg q] at h'; cases h'
  | _ => cases h
theorem snd_index {a b : E} {x y : PySem.Expr} (ft : Fit X Z lev T Γ) (hn : nst y = true) (hb : ncall0 x = true) (hl : (apos.endLine == pos.line) = true) (ha : PE X x (rdR Z (opnd a (evE Γ a)))) (hy : PE X y (rdE Z (evE Γ b))) :
    PE X (.Call (.Attribute x "index" apos) [y] [] pos) (rdE Z (evE Γ (.index a b))) := by
  have few : ((backTo pos (starEach [y] X.env)).all (fun x => !x.1) && (backToKw pos (keywordEach [] X.env)).all (fun x => x.1.isSome)
      && decide (([y] : List PySem.Expr).length + ([] : List Keyword).length + (if ([] : List Keyword).isEmpty then 0 else 1) < 30)) = true := by
    rw [star_cons hn]; rfl
  refine pe_mono (pe_bm PySem.F.plainAttrs_list PySem.F.slot_list_index PySem.F.type_list_index ((mt_index (X := X)).or (mt_indexD ft.units)) ha (pa_cons hy pa_nil (star_cons hn)) (nbase hb) few hl (star_cons hn) rfl) fun σ H Q ⟨F, ρ, E, c⟩ => ?_
  have hK := ft.hK
  obtain ⟨K, mg, pa, G, W⟩ := Z
  cases hK
  rw [evE] at c
  refine (Cont.bind E c).imp fun u H1 ⟨r, F1, ρ1, s1, E1, l1, c1⟩ => ?_
  obtain ⟨d, sd, c2⟩ := deref_seen E1 l1 c1
  obtain ⟨ds, rfl, c3⟩ := asLst_bind c2
  obtain ⟨aa, xs, rfl, sx, r1⟩ := seen_lst E1.fh sd
  refine ⟨Or.inl ⟨rfl, _, SqL.of sx⟩, (Cont.bind E1 c3).imp fun w H3 ⟨r', F3, ρ3, s3, E3, l3, c4⟩ => ?_⟩
  obtain ⟨F4, s4, E4, l4⟩ := E3.share l3
  obtain ⟨d2, sd2, c5⟩ := deref_seen E4 (RefR.mono (s3.trans s4) l1) (c4.mono s4)
  replace c5 := cont_opt c5
  obtain ⟨v, e, c6⟩ := c5
  obtain ⟨n, e1, e2⟩ := Option.map_eq_some_iff.mp e
  subst e2
  clear e
  obtain ⟨l, rfl, hq, hlt, rfl⟩ := indexD_of e1
  obtain ⟨a2, ys, e3, sy, r2⟩ := seen_lst E4.fh sd2
  cases e3
  have q := cont_val c6 E4 (.int _)
  have hz : ∃ z, l[l.findIdx fun z => z.eqv r'.d]? = some z := ⟨_, List.getElem?_eq_getElem hlt⟩
  obtain ⟨z, hz⟩ := hz
  have hzt : z.eqv r'.d = true := by
    have := List.findIdx_getElem (w := hlt)
    rw [List.getElem?_eq_getElem hlt] at hz
    cases hz
    exact this
  have hno : ∀ (m : Nat) (z' : D), m < (l.findIdx fun z => z.eqv r'.d) → l[m]? = some z' → z'.eqv r'.d = false := fun m z' hm hz' => by
    have h := List.not_of_lt_findIdx hm
    obtain ⟨hml, ez⟩ := List.getElem?_eq_some_iff.mp hz'
    rw [← ez]
    simpa using h
  rw [Bool.or_eq_true, Bool.and_eq_true, Bool.and_eq_true] at hq
  rcases hq with ⟨h1, h2⟩ | ⟨h1, h2⟩
  · obtain ⟨zv, hzv, rz⟩ := r2.get hz
    have sc : isScal z = true := List.all_eq_true.mp h2 z (List.mem_of_getElem? hz)
    refine .inl ⟨_, ys, w, _, zv, rfl, rfl, SqL.of sy, scal_flat l4 h1, scal_flats r2 h2, hzv, by rw [scal_eqV rz l4 sc h1]; exact hzt, fun m z' hm hz' => ?_, q⟩
    obtain ⟨d', hd', rd'⟩ := r2.getV hz'
    have sc' : isScal d' = true := List.all_eq_true.mp h2 d' (List.mem_of_getElem? hd')
    rw [scal_eqV rd' l4 sc' h1]
    exact hno m d' hm hd'
  · refine .inr ⟨_, w, r'.d.toPy, D.toPys l, _, z.toPy, rfl, rfl, rp_list_dp E4.fh sd2 h2, rp_dp E4.fh l4 h1, cmpbs_shaped h2, cmpb_shaped h1, by rw [toPys_get, hz]; rfl, by rw [eqv_py (cmpbs_get h2 hz) h1]; exact hzt, fun m z' hm hz' => ?_, q⟩
    rw [toPys_get] at hz'
    obtain ⟨d', hd', rfl⟩ := Option.map_eq_some_iff.mp hz'
    rw [eqv_py (cmpbs_get h2 hd') h1]
    exact hno m d' hm hd'
theorem snd_rng {a : E} {x : PySem.Expr} {p2 p3 : Pos} (hc : X.calm = true) (hg : Gl X "list") (hm : X.mg "list" = none) (hg2 : Gl X "range") (hm2 : X.mg "range" = none) (hn : nst x = true) (ha : PE X x (rdE Z (evE Γ a))) :
    PE X (.Call (.Name "list" p) [.Call (.Name "range" p2) [x] [] p3] [] pos) (rdE Z (evE Γ (.rng a))) := by
  refine pe_mono (pe_listRg hc hg hm (prg_1 hg2 hm2 ha (star_cons hn)) rfl) fun σ H Q ⟨F, ρ, E, c⟩ => ?_
  rw [evE] at c
  refine (Cont.bind E c).imp fun u H1 ⟨r, F1, ρ1, s1, E1, l1, c1⟩ => ?_
  obtain ⟨F2, s2, E2, l2⟩ := E1.share l1
  obtain ⟨n, en, c2⟩ := asInt_bind c1
  rw [en] at l2
  cases l2
  by_cases h : (rangeOk 0 n && decide (n ≤ (szL : Int))) = true
  · rw [if_pos h] at c2
    rw [Bool.and_eq_true] at h
    have h1 := of_decide_eq_true h.1
    have h2 : n ≤ (szL : Int) := of_decide_eq_true h.2
    have e1 : (szL : Int) = 16777216 := rfl
    refine ⟨n, rfl, ⟨by omega, by omega, h1.2.2.1, h1.2.2.2, by omega⟩, ?_⟩
    have rr : Rps Z.K F2 (rgV 0 n) (rangeD 0 n) := by
      unfold rgV rangeD
      have z : ∀ l : List Nat, Rps Z.K F2 (l.map fun i => V.int (0 + (i : Nat))) (l.map fun i => D.int (0 + (i : Nat))) := fun l => by
        induction l with
        | nil => exact .nil
        | cons i r ih => exact .cons (.int _) ih
      exact z _
    exact cont_lst (c2.mono s2) E2 rr
  · rw [if_neg h] at c2
    exact c2.elim
/-! ### {"k": n, ..}.get(x, m) -/
def keyAt : Option PySem.Expr → Option Str
  | some (.Constant (.str k) _ _) => some k
  | _ => none
def valAt : PySem.Expr → Option Int
  | .Constant (.int n) _ _ => some n
  | _ => none
theorem keyAt_of {e : Option PySem.Expr} {k : Str} (h : keyAt e = some k) : ∃ j p, e = some (.Constant (.str k) j p) := by
  unfold keyAt at h
  split at h
  · cases h; exact ⟨_, _, rfl⟩
  · cases h
theorem valAt_of {e : PySem.Expr} {k : Int} (h : valAt e = some k) : ∃ j p, e = .Constant (.int k) j p := by
  unfold valAt at h
  split at h
  · cases h; exact ⟨_, _, rfl⟩
  · cases h
def keysOk : List (Str × Int) → List (Option PySem.Expr) → List PySem.Expr → Bool
  | [], [], [] => true
  | kn :: r, e :: kr, v :: vr => decide (keyAt e = some kn.1) && decide (valAt v = some kn.2) && keysOk r kr vr
  | _, _, _ => false
def trsOf (ks : List (Str × Int)) : List (TE × TE) := ks.map fun p => (tC (.str p.1), tC (.int p.2))
theorem keysOk_snd : ∀ {ks : List (Str × Int)} {keys : List (Option PySem.Expr)} {values : List PySem.Expr}, keysOk ks keys values = true → PPs X pos keys values (trsOf ks) ∧ keys.all (·.isSome) = true ∧ keys.length = values.length ∧ keys.length = ks.length
  | [], [], [], _ => ⟨pps_nil, rfl, rfl, rfl⟩
  | [], _ :: _, _, h => by simp [keysOk] at h
  | [], [], _ :: _, h => by simp [keysOk] at h
  | _ :: _, [], _, h => by simp [keysOk] at h
  | _ :: _, _ :: _, [], h => by simp [keysOk] at h
  | (k, n) :: r, e :: kr, v :: vr, h => by
    simp only [keysOk, Bool.and_eq_true, decide_eq_true_eq] at h
    obtain ⟨⟨h1, h2⟩, h⟩ := h
    obtain ⟨_, _, rfl⟩ := keyAt_of h1
    obtain ⟨_, _, rfl⟩ := valAt_of h2
    obtain ⟨i1, i2, i3, i4⟩ := keysOk_snd h
    exact ⟨pps_cons pe_str pe_int i1, by simpa using i2, by simp [i3], by simp [i4]⟩
theorem tPairs_const {σ : L2.St} : ∀ {ks : List (Str × Int)} {H : Hp} {Q : List (V × V) → Hp → Prop}, Q (ks.map fun p => (V.str p.1, V.int p.2)) H → tPairs (trsOf ks) σ H Q
  | [], _, _, q => q
  | (k, n) :: r, H, Q, q => by
    show tPairs (trsOf r) σ H fun ps H3 => Q ((V.str k, V.int n) :: ps) H3
    exact tPairs_const (ks := r) q
theorem put_fresh {kvs : List (Key × V)} {k : Key} {v : V} (h : ∀ p ∈ kvs, p.1 ≠ k) : putK kvs k v = kvs ++ [(k, v)] := by
  unfold putK
  rw [if_neg]
  simp only [List.any_eq_true, decide_eq_true_eq, not_exists, not_and]
  exact fun p hp e => h p hp e
theorem merge_fresh : ∀ {more kvs : List (Key × V)}, ((kvs ++ more).map (·.1)).Nodup → mergeK kvs more = kvs ++ more
  | [], kvs, _ => by simp [mergeK]
  | p :: r, kvs, h => by
    show mergeK (putK kvs p.1 p.2) r = _
    have h1 : ∀ q ∈ kvs, q.1 ≠ p.1 := fun q hq e => by
      rw [List.map_append, List.nodup_append] at h
      exact h.2.2 q.1 (List.mem_map_of_mem hq) p.1 (by simp) e
    rw [put_fresh h1, merge_fresh (by simpa using h)]
    simp
theorem val_lookup {x : Str} : ∀ {ks : List (Str × Int)}, valV (ks.map fun p => ((Sum.inr p.1 : Key), V.int p.2)) (.inr x) = (ks.lookup x).map V.int
  | [] => rfl
  | (k, n) :: r => by
    have ih := val_lookup (x := x) (ks := r)
    unfold valV at ih ⊢
    rw [List.map_cons, List.find?_cons, List.lookup_cons]
    by_cases e : x = k
    · subst e
      simp
    · have e2 : (x == k) = false := by simpa using e
      rw [e2]
      have e3 : decide ((Sum.inr k : Key) = Sum.inr x) = false := decide_eq_false fun q => e (Sum.inr.inj q).symm
      simp only [e3]
      exact ih
theorem snd_strGet {ks : List (Str × Int)} {a : E} {dflt : Int} {keys : List (Option PySem.Expr)} {values : List PySem.Expr} {x : PySem.Expr} {k : Nat} {p2 p3 : Pos} (ft : Fit X Z lev T Γ) (hk : keysOk ks keys values = true) (hd : (ks.map (·.1)).Nodup) (h0 : ks ≠ []) (h15 : ks.length ≤ 15)
    (hl : (apos.endLine == pos.line) = true) (hn : nst x = true) (ha : PE X x (rdE Z (evE Γ a))) :
    PE X (.Call (.Attribute (.Dict keys values p2) "get" apos) [x, .Constant (.int dflt) k p3] [] pos) (rdE Z (evE Γ (.strGet ks a dflt))) := by
  obtain ⟨i1, i2, i3, i4⟩ := keysOk_snd (X := X) (pos := p2) hk
  have m : M2 X (.Dict keys values p2) "get" apos x (.Constant (.int dflt) k p3) pos := ⟨rfl, by rw [star_cons hn] <;> rfl, hl, by rw [star_cons hn] <;> rfl⟩
  refine pe_mono (pe_dget2 (hu_of ft.room) (pe_disp i1 i2 i3 (by intro e; rw [e] at i4; exact h0 (List.eq_nil_of_length_eq_zero i4.symm)) (by omega)) ha pe_int m) fun σ H Q ⟨F, ρ, E, c⟩ => ?_
  rw [evE] at c
  intro p hp
  refine tPairs_const ?_
  refine ⟨upd_same, ks.map fun p => ((Sum.inr p.1 : Key), V.int p.2), by rw [List.map_map]; rfl, by rw [List.length_map]; exact h15, ?_⟩
  rw [upd_upd]
  obtain ⟨s0, E0⟩ := E.new (o := .dK (mergeK [] (ks.map fun p => ((Sum.inr p.1 : Key), V.int p.2)))) hp
  refine ⟨p, rfl, .inl ⟨_, .inl upd_same⟩, (Cont.bind E0 (c.mono s0)).imp fun w H3 ⟨r', F3, ρ3, s3, E3, l3, c3⟩ => ?_⟩
  obtain ⟨F4, s4, E4, l4⟩ := E3.share l3
  obtain ⟨z, ez, c4⟩ := asStr_bind c3
  rw [ez] at l4
  cases l4
  have hH : H3 p = some (.dK (mergeK [] (ks.map fun p => ((Sum.inr p.1 : Key), V.int p.2)))) := E4.fh p _ (s4 _ _ (s3 _ _ upd_same))
  refine ⟨_, DGet.k (k := .inr z) hH, ?_⟩
  have nd : ((([] : List (Key × V)) ++ ks.map fun p => ((Sum.inr p.1 : Key), V.int p.2)).map (·.1)).Nodup := by
    rw [List.nil_append, List.map_map]
    have e : ((fun x : Key × V => x.1) ∘ fun p : Str × Int => ((Sum.inr p.1 : Key), V.int p.2)) = (fun x : Str => (Sum.inr x : Key)) ∘ (fun p : Str × Int => p.1) := rfl
    rw [e, ← List.map_map]
    exact List.Pairwise.map _ (fun a b ne q => ne (Sum.inr.inj q)) hd
  rw [merge_fresh nd, List.nil_append, val_lookup]
  have q := cont_val (c4.mono s4) E4 (.int _)
  unfold strKeyGet at q
  cases e : ks.lookup z with
  | none => rw [e] at q; exact q
  | some n => rw [e] at q; exact q
end
end PL
/-! PLStmt: statements. -/
namespace PL
open PySem L2 PySem.Spec PyProof.Rows
def SCont (Z : Fx) (F : Hp) (D : Ends) (r : R Fl) : Prop := match r with
  | .ok .nx ρ => ∀ σ' F' H', Same F F' → EnvOk Z.K Z.pa F' Z.G H' σ' ρ → D.nx σ' H'
  | .ok (.rt v) ρ => ∀ x σ' F' H', Same F F' → EnvOk Z.K Z.pa F' Z.G H' σ' ρ → Res Z.K F' Z.G H' σ' ρ x v → D.rt x H'
  | .err e ρ => ∀ σ' F' H' c x, Same F F' → EnvOk Z.K Z.pa F' Z.G H' σ' ρ → ExR Z.K Z.mg F' c x e → Z.W c x σ' H'
  | .bad => False
def rdS (Z : Fx) (f : M Fl) : TS := fun D σ H => ∃ F ρ, EnvOk Z.K Z.pa F Z.G H σ ρ ∧ SCont Z F D (f ρ)
theorem ps_mono {X : Cx} {s : Stmt} {t t' : TS} (h : PS X s t) (i : ∀ D σ H, t' D σ H → t D σ H) : PS X s t' := ⟨fun pins s σ H D I q => h.run pins s σ H D I (i D σ H q)⟩
theorem pss_mono {X : Cx} {s : List Stmt} {t t' : TS} (h : PSs X s t) (i : ∀ D σ H, t' D σ H → t D σ H) : PSs X s t' := ⟨fun pins s σ H D I q => h.run pins s σ H D I (i D σ H q)⟩
section
variable {Z : Fx} {C α : Type} {rel : Lie C α} {σ : L2.St} {F F' H : Hp} {ρ : Env} {D : Ends}
theorem SCont.mono {r : R Fl} (s : Same F F') (c : SCont Z F D r) : SCont Z F' D r := by
  cases r with
  | ok a ρ =>
    cases a with
    | nx => exact fun σ' F2 H' s2 => c σ' F2 H' (s.trans s2)
    | rt v => exact fun x σ' F2 H' s2 => c x σ' F2 H' (s.trans s2)
  | err e ρ => exact fun σ' F2 H' cl x s2 => c σ' F2 H' cl x (s.trans s2)
  | bad => exact c
theorem SCont.bind {f : M α} {g : α → M Fl} (E : EnvOk Z.K Z.pa F Z.G H σ ρ) (c : SCont Z F D ((f >>= g) ρ)) :
    Rd Z rel f σ H fun v H1 => ∃ a F1 ρ1, Same F F1 ∧ EnvOk Z.K Z.pa F1 Z.G H1 σ ρ1 ∧ rel F1 H1 σ ρ1 v a ∧ SCont Z F1 D (g a ρ1) := by
  refine ⟨F, ρ, E, ?_⟩
  cases q : f ρ with
  | ok a ρ1 =>
    rw [bind_ok q] at c
    exact fun v F1 H1 s E1 l => ⟨a, F1, ρ1, s, E1, l, c.mono s⟩
  | err x ρ1 =>
    rw [bind_err q] at c
    exact fun F1 H1 cl d s E1 l => c σ F1 H1 cl d s E1 l
  | bad =>
    rw [bind_bad q] at c
    exact c.elim
/-- one part of a block, then the rest -/
def thenS (a b : M Fl) : M Fl := a >>= fun f => match f with
  | .nx => b
  | .rt v => pure (.rt v)
theorem SCont.split {a b : M Fl} (c : SCont Z F D (thenS a b ρ)) : SCont Z F { D with nx := fun σ' H' => ∃ F' ρ', Same F F' ∧ EnvOk Z.K Z.pa F' Z.G H' σ' ρ' ∧ SCont Z F' D (b ρ') } (a ρ) := by
  unfold thenS at c
  cases q : a ρ with
  | ok f ρ1 =>
    rw [bind_ok q] at c
    cases f with
    | nx => exact fun σ' F' H' s E' => ⟨F', ρ1, s, E', SCont.mono (D := D) s c⟩
    | rt v => exact c
  | err e ρ1 =>
    rw [bind_err q] at c
    exact c
  | bad =>
    rw [bind_bad q] at c
    exact c
end
theorem evSs_cons (Γ : Gm) (s : S) (ss : List S) : evSs Γ (s :: ss) = thenS (evS Γ s) (evSs Γ ss) := by
  rw [evSs]
  rfl
section
variable {X : Cx} {Z : Fx} {Γ : Gm} {lev : Nat} {T : Tab} {pos p : Pos}
theorem sndSs_nil : PSs X [] (rdS Z (evSs Γ [])) := pss_mono pss_nil fun D σ H ⟨F, ρ, E, c⟩ => by
  rw [evSs] at c
  exact c σ F H (Same.refl F) E
theorem sndSs_cons {s : S} {ss : List S} {a : Stmt} {as : List Stmt} (h : PS X a (rdS Z (evS Γ s))) (hs : PSs X as (rdS Z (evSs Γ ss))) : PSs X (a :: as) (rdS Z (evSs Γ (s :: ss))) :=
  pss_mono (pss_cons h hs) fun D σ H ⟨F, ρ, E, c⟩ => by
    rw [evSs_cons] at c
    refine ⟨F, ρ, E, ?_⟩
    have c2 := c.split
    cases q : evS Γ s ρ with
    | ok f ρ1 =>
      rw [q] at c2
      cases f with
      | nx =>
        intro σ' F' H' s' E'
        obtain ⟨F2, ρ2, s2, E2, c3⟩ := c2 σ' F' H' s' E'
        exact ⟨F2, ρ2, E2, c3⟩
      | rt v => exact c2
    | err e ρ1 => rw [q] at c2; exact c2
    | bad => rw [q] at c2; exact c2
/-! ### small statements -/
def ncomp : PySem.Expr → Bool
  | .ListComp .. => false
  | .SetComp .. => false
  | .DictComp .. => false
  | _ => true
theorem nswap {e : PySem.Expr} {t : Option PySem.Expr} {l : Nat} {env : PySem.Env} (h : ncomp e = true) : swapsWith e t l env = pure false := by
  cases e <;> first | rfl | cases h
theorem sub_swap {e o i : PySem.Expr} {l : Nat} {p : Pos} {env : PySem.Env} : swapsWithSole [.Subscript o i p] e l env = pure false := by
  show swapsWith e (some (.Subscript o i p)) l env = pure false
  cases e <;> rfl
theorem asg_key {te : TE} {i : Nat} {m : M Vl} (ht : ∀ σ H Q, rdE Z m σ H Q → te σ H Q) (D : Ends) (σ : L2.St) (H : Hp) (h : rdS Z (m >>= fun v => put i v >>= fun _ => pure .nx) D σ H) : tAsg te (gName i) D σ H := by
  obtain ⟨F, ρ, E, c⟩ := h
  refine ht σ H _ ((SCont.bind E c).imp fun x H1 ⟨r, F1, ρ1, s1, E1, l1, c1⟩ => ?_)
  cases q : put i r ρ1 with
  | ok u ρ2 =>
    rw [bind_ok q] at c1
    exact c1 _ F1 H1 (Same.refl F1) (E1.put l1 q)
  | err e ρ2 =>
    unfold put at q
    split at q <;> cases q
  | bad => rw [bind_bad q] at c1; exact c1.elim
theorem snd_asg {i : Nat} {x : Str} {e : E} {a : PySem.Expr} {p2 : Pos} (hN : X.N.Nodup) (hi : X.N[i]? = some x) (hx : Loc X.env.scope x) (hf : X.fn x = true ∨ X.env.scope.names.lookup x = some .local) (hs : swapsWith a (some (.Name x p2)) pos.line X.env = pure false) (ha : PE X a (rdE Z (evE Γ e))) :
    PS X (.Assign [.Name x p2] a pos) (rdS Z (evS Γ (.asg i e))) :=
  ps_mono (ps_set hN hi hx ha hs hf) fun D σ H h => by
    rw [evS] at h
    exact asg_key (fun _ _ _ q => q) D σ H h
theorem put_noerr {i : Nat} {v : Vl} {ρ ρ' : Env} {e : Ex} : put i v ρ ≠ .err e ρ' := by
  unfold put
  split <;> (intro h; cases h)
mutual
theorem asgTg_noerr : ∀ (t : Tg) (d : D) (ρ : Env) (e : Ex) (ρ' : Env), asgTg t d ρ ≠ .err e ρ'
  | .nm i, d, ρ, e, ρ' => by rw [asgTg]; exact put_noerr
  | .tup ts, .tup ds, ρ, e, ρ' => by
    rw [asgTg]
    split
    · exact asgTgs_noerr ts ds ρ e ρ'
    · intro h; cases h
  | .tup ts, .non, ρ, e, ρ' => by simp [asgTg, M.bad]
  | .tup ts, .bl _, ρ, e, ρ' => by simp [asgTg, M.bad]
  | .tup ts, .int _, ρ, e, ρ' => by simp [asgTg, M.bad]
  | .tup ts, .str _, ρ, e, ρ' => by simp [asgTg, M.bad]
  | .tup ts, .lst _, ρ, e, ρ' => by simp [asgTg, M.bad]
  | .tup ts, .ro _, ρ, e, ρ' => by simp [asgTg, M.bad]
  | .tup ts, .dct _, ρ, e, ρ' => by simp [asgTg, M.bad]
  | .tup ts, .fn _, ρ, e, ρ' => by simp [asgTg, M.bad]
theorem asgTgs_noerr : ∀ (ts : List Tg) (ds : List D) (ρ : Env) (e : Ex) (ρ' : Env), asgTgs ts ds ρ ≠ .err e ρ'
  | [], [], ρ, e, ρ' => by rw [asgTgs]; intro h; cases h
  | [], _ :: _, ρ, e, ρ' => by rw [asgTgs]; intro h; cases h
  | _ :: _, [], ρ, e, ρ' => by rw [asgTgs]; intro h; cases h
  | t :: ts, d :: ds, ρ, e, ρ' => by
    rw [asgTgs]
    intro h
    cases q : asgTg t d ρ with
    | ok u ρ1 => rw [bind_ok q] at h; exact asgTgs_noerr ts ds ρ1 e ρ' h
    | err e2 ρ1 => exact asgTg_noerr t d ρ e2 ρ1 q
    | bad => rw [bind_bad q] at h; cases h
end
theorem asgT_key {te : TE} {t : Tg} {m : M Vl} (ht : ∀ σ H Q, rdE Z m σ H Q → te σ H Q) (D : Ends) (σ : L2.St) (H : Hp) (h : rdS Z (m >>= fun v => asgTg t v.d >>= fun _ => pure .nx) D σ H) : tAsg te (rdG Z t.slots (asgTg t)) D σ H := by
  obtain ⟨F, ρ, E, c⟩ := h
  refine ht σ H _ ((SCont.bind E c).imp fun x H1 ⟨r, F1, ρ1, s1, E1, l1, c1⟩ => ?_)
  obtain ⟨F2, s2, E2, l2⟩ := E1.share l1
  refine ⟨F2, ρ1, r.d, E2, l2, ?_⟩
  cases q : asgTg t r.d ρ1 with
  | ok u ρ2 =>
    rw [bind_ok q] at c1
    exact fun σ' E' _ _ => c1 σ' F2 H1 s2 E'
  | err e ρ2 => 
    rw [bind_err q] at c1
    exact (asgTg_noerr t r.d ρ1 e ρ2 q).elim
  | bad => rw [bind_bad q] at c1; exact c1.elim
end
end PL
/-! PLStmt2: statements: targets, stores, tests, loops. -/
namespace PL
open PySem L2 PySem.Spec PyProof.Rows
section
variable {X : Cx} {Z : Fx} {Γ : Gm} {lev : Nat} {T : Tab} {pos p : Pos}
/-- target = value, the value no written tuple -/
def ntup : PySem.Expr → Bool
  | .Tuple .. => false
  | _ => true
theorem nswapped {t e : PySem.Expr} {env : PySem.Env} (h : ntup e = true) : swappedStores [t] e env = pure none := by
  unfold swappedStores
  cases t <;> cases e <;> first | rfl | cases h
theorem tup_swapSole {ts : List PySem.Expr} {k l : Nat} {p : Pos} {e : PySem.Expr} {env : PySem.Env} : swapsWithSole [.Tuple ts k p] e l env = pure false := by
  show swapsWith e (some (.Tuple ts k p)) l env = pure false
  cases e <;> rfl
theorem snd_asgT {ts : List Tg} {e : E} {as : List PySem.Expr} {k : Nat} {p2 : Pos} {a : PySem.Expr} (hw : swappedStores [.Tuple as k p2] a X.env = pure none) (ha : PE X a (rdE Z (evE Γ e))) (hg : PG X (.Tuple as k p2) (rdG Z (Tg.slots (.tup ts)) (asgTg (.tup ts)))) :
    PS X (.Assign [.Tuple as k p2] a pos) (rdS Z (evS Γ (.asgT (.tup ts) e))) :=
  ps_mono (ps_asg ha hg tup_swapSole hw rfl) fun D σ H h => by
    rw [evS] at h
    exact asgT_key (fun _ _ _ q => q) D σ H h
/-- values side by side: what is owned lies apart -/
structure ResL (K : PySem.W.Frag) (F G H : Hp) (σ : L2.St) (ρ : Env) (vs : List V) (rs : List Vl) : Prop where
  len : vs.length = rs.length
  res : ∀ (i : Nat) (v : V) (r : Vl), vs[i]? = some v → rs[i]? = some r → Res K F G H σ ρ v r
  dist : ∀ (i j : Nat) (v w : V) (r q : Vl), i ≠ j → vs[i]? = some v → rs[i]? = some r → r.own = true → vs[j]? = some w → rs[j]? = some q → q.own = true → v ≠ w
abbrev lVs (Z : Fx) : Lie (List V) (List Vl) := fun F H σ ρ vs rs => ResL Z.K F Z.G H σ ρ vs rs
theorem ResL.nil {K : PySem.W.Frag} {F G H : Hp} {σ : L2.St} {ρ : Env} : ResL K F G H σ ρ [] [] := ⟨rfl, fun i v r h => by simp at h, fun i j v w r q _ h => by simp at h⟩
/-- of fewer foreign objects -/
theorem EnvOk.less {K : PySem.W.Frag} {pa : PaT} {F G G' H : Hp} {σ : L2.St} {ρ : Env} (E : EnvOk K pa F G' H σ ρ) (g : Same G G') : EnvOk K pa F G H σ ρ where
  fh := E.fh
  gh := fun a u q => E.gh a u (g a u q)
  fg := fun a o q => g.free (E.fg a o q)
  len := E.len
  shr := E.shr
  own := fun i f d q n => by
    obtain ⟨a, h1, h2, h3, h4⟩ := E.own i f d q n
    exact ⟨a, h1, h2, g.free h3, h4⟩
  pin := E.pin
  dist := E.dist
  tb := ⟨E.tb.tabs, E.tb.nt, fun n a ps q => E.tb.gt n a ps (g a _ q)⟩
theorem Res.less {K : PySem.W.Frag} {F G G' H : Hp} {σ : L2.St} {ρ : Env} {v : V} {r : Vl} (h : Res K F G' H σ ρ v r) (g : Same G G') : Res K F G H σ ρ v r := by
  obtain ⟨o, d⟩ := r
  cases o with
  | false => exact h
  | true =>
    obtain ⟨a, h1, ⟨h2, h3, h4⟩, h5⟩ := h
    exact ⟨a, h1, ⟨h2, g.free h3, h4⟩, h5⟩
/-- an owned value set aside -/
theorem EnvOk.aside {K : PySem.W.Frag} {pa : PaT} {F G H : Hp} {σ : L2.St} {ρ : Env} {a : Addr} {o : HO} (nto : notTab o) (E : EnvOk K pa F G H σ ρ) (hF : F a = none) (hG : G a = none) (hH : H a = some o) (no : NotOwn σ ρ a) : EnvOk K pa F (upd G a o) H σ ρ where
  fh := E.fh
  gh := fun b u q => by
    by_cases hb : b = a
    · subst hb; rw [upd_same] at q; cases q; exact hH
    · rw [upd_ne hb] at q; exact E.gh b u q
  fg := fun b u q => by
    have hb : b ≠ a := fun z => by subst z; rw [hF] at q; cases q
    rw [upd_ne hb]; exact E.fg b u q
  len := E.len
  shr := E.shr
  own := fun i f d q n => by
    obtain ⟨b, h1, h2, h3, h4⟩ := E.own i f d q n
    have hb : b ≠ a := fun z => by subst z; exact no i f d q n h1
    exact ⟨b, h1, h2, by rw [upd_ne hb]; exact h3, h4⟩
  pin := E.pin
  dist := E.dist
  tb := ⟨E.tb.tabs, E.tb.nt, fun n b ps q => by
    by_cases hb : b = a
    · subst hb; rw [upd_same] at q; cases q; exact nto
    · rw [upd_ne hb] at q; exact E.tb.gt n b ps q⟩
theorem snd_evV_nil : PA X [] (Rd Z (lVs Z) (evV Γ [])) := pa_mono pa_nil fun σ H Q ⟨F, ρ, E, c⟩ => c [] F H (Same.refl F) E ResL.nil
theorem snd_evV_cons {e : E} {es : List E} {a : PySem.Expr} {as : List PySem.Expr} (he : PE X a (rdE Z (evE Γ e))) (hs : ∀ G : Hp, PA X as (Rd { Z with G := G } (lVs { Z with G := G }) (evV Γ es))) (hn : nst a = true) : PA X (a :: as) (Rd Z (lVs Z) (evV Γ (e :: es))) := by
  have hs2 : PA X as (fun σ H Q => ∃ G : Hp, Rd { Z with G := G } (lVs { Z with G := G }) (evV Γ es) σ H Q) := ⟨fun p pins s σ H Q I ⟨G, q⟩ => (hs G).run p pins s σ H Q I q⟩
  refine pa_mono (pa_cons he hs2 (star_cons hn)) fun σ H Q ⟨F, ρ, E, c⟩ => ?_
  have c' : Cont Z (lVs Z) σ F ((evE Γ e >>= fun v => evV Γ es >>= fun vs => pure (v :: vs)) ρ) Q := c
  refine (Cont.bind E c').imp fun v H1 ⟨r, F1, ρ1, s1, E1, l1, c1⟩ => ?_
  obtain ⟨o, d⟩ := r
  cases o with
  | false =>
    have l1' : Rp Z.K F1 v d := l1
    refine ⟨Z.G, F1, ρ1, E1, ?_⟩
    cases q : evV Γ es ρ1 with
    | ok rs ρ2 =>
      rw [bind_ok q] at c1
      intro vs F2 H2 s2 E2 l2
      refine c1 (v :: vs) F2 H2 s2 E2 ⟨by simp [l2.len], fun i w r h1 h2 => ?_, fun i j w u r q n h1 h2 h3 h4 h5 h6 => ?_⟩
      · cases i with
        | zero =>
          simp at h1 h2
          subst h1 h2
          exact l1'.mono s2
        | succ i => exact l2.res i w r (by simpa using h1) (by simpa using h2)
      · cases i with
        | zero => simp at h2; subst h2; cases h3
        | succ i =>
          cases j with
          | zero => simp at h5; subst h5; cases h6
          | succ j => exact l2.dist i j w u r q (fun z => n (by rw [z])) (by simpa using h1) (by simpa using h2) h3 (by simpa using h4) (by simpa using h5) h6
    | err x ρ2 =>
      rw [bind_err q] at c1
      exact c1
    | bad =>
      rw [bind_bad q] at c1
      exact c1.elim
  | true =>
    obtain ⟨p, rfl, ⟨o1, o2, o3⟩, no⟩ := l1
    cases d with
    | lst ds =>
      obtain ⟨xs, hx, rx⟩ := o3
      have g0 : Same Z.G (upd Z.G p (.lst xs)) := upd_same_of o2
      refine ⟨upd Z.G p (.lst xs), F1, ρ1, E1.aside True.intro o1 o2 hx no, ?_⟩
      cases q : evV Γ es ρ1 with
      | ok rs ρ2 =>
        rw [bind_ok q] at c1
        intro vs F2 H2 s2 E2 l2
        have E2' : EnvOk Z.K Z.pa F2 (upd Z.G p (.lst xs)) H2 σ ρ2 := E2
        have f2 : F2 p = none := by
          cases z : F2 p with
          | none => rfl
          | some u =>
            have := E2'.fg p u z
            rw [upd_same] at this
            cases this
        have no2 : NotOwn σ ρ2 p := fun i g d z n w => by
          obtain ⟨b, h1, h2, h3, h4⟩ := E2'.own i g d z n
          rw [w] at h1
          cases h1
          rw [upd_same] at h3
          cases h3
        have other : ∀ (j : Nat) (w : V) (q : Vl), vs[j]? = some w → rs[j]? = some q → q.own = true → w ≠ .ref p := fun j w q h1 h2 h3 z => by
          have r2 := l2.res j w q h1 h2
          obtain ⟨o, d⟩ := q
          cases h3
          obtain ⟨b, h4, ⟨_, h5, _⟩, _⟩ := r2
          rw [z] at h4
          cases h4
          have h5' : (upd Z.G p (.lst xs)) p = none := h5
          rw [upd_same] at h5'
          cases h5'
        refine c1 (.ref p :: vs) F2 H2 s2 (E2'.less g0) ⟨by simp [l2.len], fun i w r h1 h2 => ?_, fun i j w u r q n h1 h2 h3 h4 h5 h6 => ?_⟩
        · cases i with
          | zero =>
            simp at h1 h2
            subst h1 h2
            exact ⟨p, rfl, ⟨f2, o2, xs, E2'.gh p _ upd_same, rx.mono s2⟩, no2⟩
          | succ i => exact Res.less (l2.res i w r (by simpa using h1) (by simpa using h2)) g0
        · cases i with
          | zero =>
            cases j with
            | zero => exact absurd rfl n
            | succ j =>
              simp at h1
              subst h1
              exact fun z => other j u q (by simpa using h4) (by simpa using h5) h6 z.symm
          | succ i =>
            cases j with
            | zero =>
              simp at h4
              subst h4
              exact other i w r (by simpa using h1) (by simpa using h2) h3
            | succ j => exact l2.dist i j w u r q (fun z => n (by rw [z])) (by simpa using h1) (by simpa using h2) h3 (by simpa using h4) (by simpa using h5) h6
      | err x ρ2 =>
        rw [bind_err q] at c1
        intro F2 H2 cl dd s2 E2 rx2
        exact c1 F2 H2 cl dd s2 (EnvOk.less (G' := upd Z.G p (.lst xs)) E2 g0) rx2
      | bad =>
        rw [bind_bad q] at c1
        exact c1.elim
    | _ => exact o3.elim
/-- two or three plain local names from two or three values -/
theorem par_key {is : List Nat} {vs : List V} {rs : List Vl} {F H : Hp} {σ : L2.St} {ρ : Env} {D : Ends} (E : EnvOk Z.K Z.pa F Z.G H σ ρ) (r : ResL Z.K F Z.G H σ ρ vs rs) (c : SCont Z F D ((putAll is rs >>= fun _ => pure .nx) ρ)) :
    vs.length = is.length ∧ D.nx ((is.zip vs).foldl (fun σ p => σ.set p.1 (some p.2)) σ) H := by
  induction is generalizing vs rs σ ρ with
  | nil =>
    cases rs with
    | nil =>
      have : vs = [] := List.length_eq_zero_iff.mp r.len
      subst this
      refine ⟨rfl, ?_⟩
      rw [putAll] at c
      exact c σ F H (Same.refl F) E
    | cons r1 rs =>
      rw [putAll] at c
      · exact c.elim
      all_goals (intros; simp_all)
  | cons i is ih =>
    cases rs with
    | nil =>
      rw [putAll] at c
      · exact c.elim
      all_goals (intros; simp_all)
    | cons q rs =>
      cases vs with
      | nil => have := r.len; simp at this
      | cons v vs =>
        rw [putAll, bind_assoc] at c
        have r0 := r.res 0 v q rfl rfl
        cases z : put i q ρ with
        | ok u ρ1 =>
          rw [bind_ok z] at c
          have E1 := E.put (r := q) r0 z
          have e1 : ρ1 = ρ.set i (some (if q.own then .own else .shr, q.d)) ∧ i < ρ.length := by
            unfold put at z
            split at z
            · cases z
            · rename_i s h
              cases z
              exact ⟨rfl, (List.getElem?_eq_some_iff.mp h).1⟩
            · cases z
          have rest : ResL Z.K F Z.G H (σ.set i (some v)) ρ1 vs rs := by
            refine ⟨by have := r.len; simpa using this, fun j w q2 h1 h2 => ?_, fun j k w u q1 q2 n h1 h2 h3 h4 h5 h6 => r.dist (j + 1) (k + 1) w u q1 q2 (by omega) (by simpa using h1) (by simpa using h2) h3 (by simpa using h4) (by simpa using h5) h6⟩
            have rr := r.res (j + 1) w q2 (by simpa using h1) (by simpa using h2)
            obtain ⟨o, d⟩ := q2
            cases o with
            | false => exact rr
            | true =>
              obtain ⟨b, rfl, ob, no⟩ := rr
              refine ⟨b, rfl, ob, fun l g d2 z1 n1 z2 => ?_⟩
              by_cases hl : i = l
              · subst hl
                rw [e1.1, List.getElem?_set_self e1.2] at z1
                have hi : i < σ.length := by rw [← E.len]; exact e1.2
                rw [List.getElem?_set_self hi] at z2
                simp only [Option.some.injEq, Prod.mk.injEq] at z1 z2
                have ho : q.own = true := by
                  cases ho : q.own with
                  | true => rfl
                  | false =>
                    rw [ho] at z1
                    exact absurd z1.1.symm n1
                exact r.dist 0 (j + 1) v (.ref b) q _ (by omega) rfl rfl ho (by simpa using h1) (by simpa using h2) rfl z2
              · rw [e1.1, List.getElem?_set_ne hl] at z1
                rw [List.getElem?_set_ne hl] at z2
                exact no l g d2 z1 n1 z2
          obtain ⟨h1, h2⟩ := ih E1 rest c
          exact ⟨by simp [h1], h2⟩
        | err e ρ1 => exact (put_noerr z).elim
        | bad => rw [bind_bad z] at c; exact c.elim
theorem snd_par2 {i j : Nat} {es : List E} {x y : Str} {a b : PySem.Expr} {px py pt : Pos} {kt k2 : Nat} {pt2 : Pos} (hc : X.calm = true) (hN : X.N.Nodup) (hi : X.N[i]? = some x) (hj : X.N[j]? = some y) (hij : i ≠ j)
    (hx : X.env.scope.names.lookup x = some .local) (hy : X.env.scope.names.lookup y = some .local) (hw : swappedStores [.Tuple [.Name x px, .Name y py] kt pt] (.Tuple [a, b] k2 pt2) X.env = pure (some [x, y]))
    (ha : PA X [a, b] (Rd Z (lVs Z) (evV Γ es))) : PS X (.Assign [.Tuple [.Name x px, .Name y py] kt pt] (.Tuple [a, b] k2 pt2) pos) (rdS Z (evS Γ (.par [i, j] es))) :=
  ps_mono (ps_par hc hN hi hj hij hx hy ha hw tup_swapSole) fun D σ H ⟨F, ρ, E, c⟩ => by
    rw [evS] at c
    refine (SCont.bind E c).imp fun vs H1 ⟨ds, F1, ρ1, s1, E1, l1, c1⟩ => ?_
    obtain ⟨h1, h2⟩ := par_key (is := [i, j]) E1 l1 c1
    match vs, h1 with
    | [v, w], _ => exact ⟨v, w, rfl, h2⟩
theorem snd_par3 {i j l : Nat} {es : List E} {x y z : Str} {a b d : PySem.Expr} {px py pz pt : Pos} {kt k2 : Nat} {pt2 : Pos} (hc : X.calm = true) (hN : X.N.Nodup) (hi : X.N[i]? = some x) (hj : X.N[j]? = some y) (hl : X.N[l]? = some z) (hij : i ≠ j) (hil : i ≠ l) (hjl : j ≠ l)
    (hx : X.env.scope.names.lookup x = some .local) (hy : X.env.scope.names.lookup y = some .local) (hz : X.env.scope.names.lookup z = some .local)
    (hw : swappedStores [.Tuple [.Name x px, .Name y py, .Name z pz] kt pt] (.Tuple [a, b, d] k2 pt2) X.env = pure (some [x, y, z]))
    (ha : PA X [a, b, d] (Rd Z (lVs Z) (evV Γ es))) : PS X (.Assign [.Tuple [.Name x px, .Name y py, .Name z pz] kt pt] (.Tuple [a, b, d] k2 pt2) pos) (rdS Z (evS Γ (.par [i, j, l] es))) :=
  ps_mono (ps_par3 hc hN hi hj hl hij hil hjl hx hy hz ha hw tup_swapSole) fun D σ H ⟨F, ρ, E, c⟩ => by
    rw [evS] at c
    refine (SCont.bind E c).imp fun vs H1 ⟨ds, F1, ρ1, s1, E1, l1, c1⟩ => ?_
    obtain ⟨h1, h2⟩ := par_key (is := [i, j, l]) E1 l1 c1
    match vs, h1 with
    | [v, w, u], _ => exact ⟨v, w, u, rfl, h2⟩
/-- an owned slot's list, changed -/
theorem change_ok {i : Nat} {f : D → Option D} {F G H : Hp} {K : PySem.W.Frag} {pa : PaT} {σ : L2.St} {ρ ρ' : Env} (E : EnvOk K pa F G H σ ρ) (q : change i f ρ = .ok () ρ') :
    ∃ a xs ds d', σ[i]? = some (some (V.ref a)) ∧ H a = some (.lst xs) ∧ Rps K F xs ds ∧ f (.lst ds) = some d' ∧ ∀ ys es, d' = .lst es → Rps K F ys es → EnvOk K pa F G (upd H a (.lst ys)) σ ρ' := by
  unfold change at q
  split at q
  · cases q
  · rename_i g d ng e
    have ng' : g ≠ Fg.shr := fun z => ng z
    split at q
    · rename_i d' hf
      cases q
      obtain ⟨a, ea, h1, h2, h3⟩ := E.own i g d e ng'
      cases d with
      | lst ds =>
        obtain ⟨xs, e3, r⟩ := h3
        refine ⟨a, xs, ds, d', ea, e3, r, hf, fun ys es hd ry => ?_⟩
        subst hd
        have hi : i < ρ.length := (List.getElem?_eq_some_iff.mp e).1
        have nf : ∀ b u, F b = some u → b ≠ a := fun b u q z => by subst z; rw [h1] at q; cases q
        have ngg : ∀ b u, G b = some u → b ≠ a := fun b u q z => by subst z; rw [h2] at q; cases q
        refine ⟨fun b u q => by rw [upd_ne (nf b u q)]; exact E.fh b u q, fun b u q => by rw [upd_ne (ngg b u q)]; exact E.gh b u q, E.fg, by rw [List.length_set]; exact E.len, fun j d z => ?_, fun j g2 d z nz => ?_, fun j d z => ?_, fun j k g1 g2 d1 d2 b ne z nz z' nz' eb => ?_, E.tb.chg e3⟩
        · by_cases hj : i = j
          · subst hj; rw [List.getElem?_set_self hi] at z; cases z; exact absurd rfl ng'
          · rw [List.getElem?_set_ne hj] at z; exact E.shr j d z
        · by_cases hj : i = j
          · subst hj; rw [List.getElem?_set_self hi] at z; cases z
            exact ⟨a, ea, h1, h2, ys, upd_same, ry⟩
          · rw [List.getElem?_set_ne hj] at z
            obtain ⟨b, eb, k1, k2, k3⟩ := E.own j g2 d z nz
            have nb : b ≠ a := by
              rintro rfl
              exact E.dist i j g g2 _ d b hj e ng' z nz ea eb
            refine ⟨b, eb, k1, k2, ?_⟩
            cases d with
            | lst d2 => obtain ⟨zs, e5, r5⟩ := k3; exact ⟨zs, by rw [upd_ne nb]; exact e5, r5⟩
            | _ => exact k3
        · by_cases hj : i = j
          · subst hj; rw [List.getElem?_set_self hi] at z; cases z
            exact E.pin i _ e
          · rw [List.getElem?_set_ne hj] at z; exact E.pin j d z
        · have old : ∀ {j : Nat} {g2 : Fg} {d : D}, (ρ.set i (some (g, .lst es)))[j]? = some (some (g2, d)) → ∃ d0, ρ[j]? = some (some (g2, d0)) := fun {j g2 d} z => by
            by_cases hj : i = j
            · subst hj; rw [List.getElem?_set_self hi] at z; cases z; exact ⟨_, e⟩
            · rw [List.getElem?_set_ne hj] at z; exact ⟨d, z⟩
          obtain ⟨d3, z3⟩ := old z
          obtain ⟨d4, z4⟩ := old z'
          exact E.dist j k g1 g2 d3 d4 b ne z3 nz z4 nz' eb
      | _ => exact h3.elim
    · cases q
  · cases q
theorem change_noerr {i : Nat} {f : D → Option D} {ρ ρ' : Env} {e : Ex} : change i f ρ ≠ .err e ρ' := by
  unfold change
  split
  · intro h; cases h
  · split <;> (intro h; cases h)
  · intro h; cases h
theorem snd_app {i : Nat} {x : Str} {e : E} {a : PySem.Expr} {p1 p2 : Pos} (hx : PE X (.Name x p1) (tVar i)) (hn : nst a = true) (hl : (p2.endLine == p.line) = true) (ha : PE X a (rdE Z (evE Γ e))) :
    PS X (.Expr (.Call (.Attribute (.Name x p1) "append" p2) [a] [] p) pos) (rdS Z (evS Γ (.app i e))) := by
  have few : ((backTo p (starEach [a] X.env)).all (fun x => !x.1) && (backToKw p (keywordEach [] X.env)).all (fun x => x.1.isSome)
      && decide (([a] : List PySem.Expr).length + ([] : List Keyword).length + (if ([] : List Keyword).isEmpty then 0 else 1) < 30)) = true := by
    rw [star_cons hn]; rfl
  refine ps_mono (ps_expr (pe_bm PySem.F.plainAttrs_list PySem.F.slot_list_append PySem.F.type_list_append mt_append hx (pa_cons ha pa_nil (star_cons hn)) rfl few hl (star_cons hn) rfl) (nswap rfl)) fun D σ H ⟨F, ρ, E, c⟩ => ?_
  rw [evS] at c
  cases q : slotd i ρ with
  | ok d ρ0 =>
    rw [bind_ok q] at c
    have there : ∃ a, σ[i]? = some (some (V.ref a)) := by
      unfold slotd at q
      split at q
      · rename_i f d' z
        split at q
        · cases q
        · rename_i nf
          obtain ⟨a, ea, _⟩ := E.own i f d' z nf
          exact ⟨a, ea⟩
      · cases q
    obtain ⟨aa, ea⟩ := there
    obtain ⟨rfl, sd⟩ := E.slotd q ea
    cases d with
    | lst ds =>
      obtain ⟨a2, xs, e2, sx, _⟩ := seen_lst E.fh sd
      cases e2
      refine ⟨.ref aa, ea, Or.inl ⟨rfl, _, SqL.of sx⟩, ?_⟩
      refine (SCont.bind (Z := Z) E (show SCont Z F D ((evE Γ e >>= fun v => change i (appd v.d) >>= fun _ => pure .nx) ρ0) from c)).imp fun v H1 ⟨r, F1, ρ1, s1, E1, l1, c1⟩ => ?_
      obtain ⟨F2, s2, E2, l2⟩ := E1.share l1
      cases q2 : change i (appd r.d) ρ1 with
      | ok u ρ2 =>
        rw [bind_ok q2] at c1
        obtain ⟨b, ys, es, d', eb, hb, rb, hf, fin⟩ := change_ok E2 q2
        rw [ea] at eb
        cases eb
        unfold appd at hf
        simp only at hf
        split at hf
        · rename_i hlt
          cases hf
          exact ⟨aa, ys, v, rfl, rfl, hb, by rw [rb.length, ← szL_eq]; exact hlt, c1 σ F2 _ s2 (fin _ _ rfl (rb.append (.cons l2 .nil)))⟩
        · cases hf
      | err e2 ρ2 => exact (change_noerr q2).elim
      | bad => rw [bind_bad q2] at c1; exact c1.elim
    | _ => exact c.elim
  | err e2 ρ0 =>
    unfold slotd at q
    split at q <;> (try split at q) <;> cases q
  | bad => rw [bind_bad q] at c; exact c.elim
theorem ix_rps {n : Nat} {i : Int} {j : Nat} (h : ixOf n i = some j) : ixN n i = some j := by
  unfold ixOf at h
  by_cases h0 : 0 ≤ i
  · rw [if_pos h0] at h
    by_cases h1 : i < (n : Int)
    · rw [if_pos h1] at h
      cases h
      unfold ixN
      first
        | rw [if_pos (by omega), if_pos (by omega)]
        | (split <;> first | omega | (congr 1) | (split <;> first | omega | congr 1))
    · rw [if_neg h1] at h; cases h
  · rw [if_neg h0] at h
    by_cases h1 : -(n : Int) ≤ i
    · rw [if_pos h1] at h
      cases h
      unfold ixN
      first
        | rw [if_neg (by omega), if_pos (by omega)]
        | (split <;> first | omega | (congr 1) | (split <;> first | omega | congr 1))
    · rw [if_neg h1] at h; cases h
theorem snd_setix {i : Nat} {x : Str} {e k : E} {a b : PySem.Expr} {p1 p2 : Pos} (hs : nslice b = true) (hx : PE X (.Name x p1) (tVar i)) (ha : PE X a (rdE Z (evE Γ e))) (hb : PE X b (rdE Z (evE Γ k))) :
    PS X (.Assign [.Subscript (.Name x p1) b p2] a pos) (rdS Z (evS Γ (.setix i k e))) := by
  refine ps_mono (ps_asg ha (pg_sub hx hb set_list (by intro _; cases b <;> first | rfl | cases hs)) sub_swap (by unfold swappedStores; cases a <;> rfl) rfl) fun D σ H ⟨F, ρ, E, c⟩ => ?_
  rw [evS] at c
  refine (SCont.bind E c).imp fun v H1 ⟨r, F1, ρ1, s1, E1, l1, c1⟩ => ?_
  obtain ⟨F2, s2, E2, l2⟩ := E1.share l1
  have c2 := c1.mono s2
  cases q : see i ρ1 with
  | ok z ρ2 =>
    rw [bind_ok q] at c2
    have there : ρ2 = ρ1 ∧ ∃ a, σ[i]? = some (some (V.ref a)) := by
      unfold see at q
      split at q
      · rename_i f d' z
        split at q
        · cases q
        · rename_i nf
          cases q
          obtain ⟨a, ea, _⟩ := E2.own i f d' z nf
          exact ⟨rfl, a, ea⟩
      · cases q
    obtain ⟨rfl, aa, ea⟩ := there
    refine ⟨.ref aa, ea, (SCont.bind E2 c2).imp fun w H3 ⟨r', F3, ρ3, s3, E3, l3, c3⟩ => ?_⟩
    obtain ⟨F4, s4, E4, l4⟩ := E3.share l3
    have c4 := c3.mono s4
    cases q2 : change i (setd r'.d r.d) ρ3 with
    | ok u ρ4 =>
      rw [bind_ok q2] at c4
      obtain ⟨b, ys, es, d', eb, hb, rb, hf, fin⟩ := change_ok E4 q2
      rw [ea] at eb
      cases eb
      unfold setd at hf
      simp only at hf
      split at hf
      · rename_i n hn
        obtain ⟨j, hj, rfl⟩ := Option.map_eq_some_iff.mp hf
        rw [hn] at l4
        cases l4
        exact ⟨aa, ys, n, j, rfl, rfl, hb, by rw [rb.length]; exact ix_rps hj, c4 σ F4 _ (Same.refl F4) (fin _ _ rfl (rb.set j (l2.mono (s3.trans s4))))⟩
      · cases hf
    | err e2 ρ4 => exact (change_noerr q2).elim
    | bad => rw [bind_bad q2] at c4; exact c4.elim
  | err e2 ρ2 =>
    unfold see at q
    split at q <;> (try split at q) <;> cases q
  | bad => rw [bind_bad q] at c2; exact c2.elim
/-! ### tests, loops, ends -/
theorem SCont.blT {m : M Vl} {g : Bool → M Fl} {σ : L2.St} {F H : Hp} {ρ : Env} {D : Ends} (E : EnvOk Z.K Z.pa F Z.G H σ ρ) (c : SCont Z F D ((m >>= fun v => asBl v >>= g) ρ)) :
    rdB Z (m >>= asBl) σ H fun b H1 => ∃ F1 ρ1, Same F F1 ∧ EnvOk Z.K Z.pa F1 Z.G H1 σ ρ1 ∧ SCont Z F1 D (g b ρ1) := by
  rw [← bind_assoc] at c
  refine (SCont.bind E c).imp fun b H1 ⟨ra, F1, ρ1, s1, E1, l1, c1⟩ => ?_
  cases (show ra = b from l1)
  exact ⟨F1, ρ1, s1, E1, c1⟩
theorem snd_ife {c : E} {a b : List S} {x : PySem.Expr} {as bs : List Stmt} (hc : PT X x (rdB Z (evE Γ c >>= asBl))) (ha : PSs X as (rdS Z (evSs Γ a))) (hb : PSs X bs (rdS Z (evSs Γ b))) : PS X (.If x as bs pos) (rdS Z (evS Γ (.ife c a b))) :=
  ps_mono (ps_if hc ha hb) fun D σ H ⟨F, ρ, E, cc⟩ => by
    rw [evS] at cc
    refine (SCont.blT E cc).imp fun k H1 ⟨F1, ρ1, _, E1, c1⟩ => ?_
    cases k with
    | true => exact iteT ⟨F1, ρ1, E1, c1⟩
    | false => exact iteF ⟨F1, ρ1, E1, c1⟩
theorem snd_ret {e : E} {a : PySem.Expr} (ha : PE X a (rdE Z (evE Γ e))) : PS X (.Return (some a) pos) (rdS Z (evS Γ (.ret e))) :=
  ps_mono (ps_ret ha) fun D σ H ⟨F, ρ, E, c⟩ => by
    rw [evS] at c
    exact (SCont.bind E c).imp fun x H1 ⟨r, F1, ρ1, s1, E1, l1, c1⟩ => c1 x σ F1 H1 (Same.refl F1) E1 l1
theorem snd_retN : PS X (.Return none pos) (rdS Z (evS Γ .retN)) :=
  ps_mono ps_retN fun D σ H ⟨F, ρ, E, c⟩ => by
    rw [evS] at c
    exact c .non σ F H (Same.refl F) E .non
theorem snd_ex {e : E} {a : PySem.Expr} (hn : ncomp a = true) (ha : PE X a (rdE Z (evE Γ e))) : PS X (.Expr a pos) (rdS Z (evS Γ (.ex e))) :=
  ps_mono (ps_expr ha (nswap hn)) fun D σ H ⟨F, ρ, E, c⟩ => by
    rw [evS] at c
    exact (SCont.bind E c).imp fun x H1 ⟨r, F1, ρ1, s1, E1, l1, c1⟩ => c1 σ F1 H1 (Same.refl F1) E1
theorem snd_pass : PS X (.Pass pos) (rdS Z (evS Γ .pass)) :=
  ps_mono ps_pass fun D σ H ⟨F, ρ, E, c⟩ => by
    rw [evS] at c
    exact c σ F H (Same.refl F) E
theorem snd_for {t : Tg} {sk : Nat} {s1 : E} {s2 : Option E} {body : List S} {tg iter : PySem.Expr} {bs : List Stmt} (hp : PassesOwn (model X.prog X.w) X.A X.env X.xe) (hc : X.calm = true) (hn : nset iter = true) (hi : PI X tg iter (rdI Z (evSrc Γ sk s1 s2))) (hg : PG X tg (rdG Z t.slots (asgTg t))) (hb : PSs X bs (rdS Z (evSs Γ body))) :
    PS X (.For tg iter bs [] pos) (rdS Z (evS Γ (.forIn t sk s1 s2 body))) := by
  refine ps_mono (ps_for hp hc hi hg hb (nfold hn)) fun D σ H ⟨F, ρ, E, c⟩ => ?_
  rw [evS] at c
  refine (SCont.bind E c).imp fun J H1 ⟨items, F1, ρ1, s1, E1, y, c1⟩ => ?_
  refine ⟨fun i m σ H => m = items.length - i ∧ i ≤ items.length ∧ ∃ Fi ρi, Same F1 Fi ∧ EnvOk Z.K Z.pa Fi Z.G H σ ρi ∧ SCont Z Fi D (loopL (fun x => asgTg t x >>= fun _ => evSs Γ body) (items.drop i) ρi), ⟨items.length, by simp, Nat.zero_le _, F1, ρ1, Same.refl _, E1, c1⟩, ?_⟩
  rintro i m σ2 H2 ⟨rfl, hi2, Fi, ρi, s, Ei, ci⟩
  by_cases hlt : i < items.length
  · refine .inr ⟨y.go i H2 Fi s Ei.fh hlt, fun σ' H' => i + 1 ≤ items.length ∧ ∃ Fi ρi, Same F1 Fi ∧ EnvOk Z.K Z.pa Fi Z.G H' σ' ρi ∧ SCont Z Fi D (loopL (fun x => asgTg t x >>= fun _ => evSs Γ body) (items.drop (i + 1)) ρi), fun σ' H' h => ⟨items.length - (i + 1), by omega, rfl, h⟩, fun x H' hy => ?_⟩
    rw [List.drop_eq_getElem_cons hlt, loopL] at ci
    obtain ⟨F', s', E', rx, _⟩ := y.step s Ei (List.getElem?_eq_getElem hlt) hy
    refine ⟨F', ρi, items[i], E', rx, ?_⟩
    rw [bind_assoc] at ci
    cases q : asgTg t items[i] ρi with
    | ok u ρa =>
      rw [bind_ok q] at ci
      intro σ3 E3 _ _
      refine ⟨F', ρa, E3, ?_⟩
      have c2 := (SCont.mono s' (show SCont Z Fi D (thenS (evSs Γ body) (loopL (fun x => asgTg t x >>= fun _ => evSs Γ body) (items.drop (i + 1))) ρa) from ci)).split
      cases q2 : evSs Γ body ρa with
      | ok f ρb =>
        rw [q2] at c2
        cases f with
        | nx =>
          intro σ4 F4 H4 s4 E4
          obtain ⟨F5, ρ5, s5, E5, c5⟩ := c2 σ4 F4 H4 s4 E4
          exact ⟨by omega, F5, ρ5, s.trans (s'.trans s5), E5, c5⟩
        | rt v => exact c2
      | err e ρb => rw [q2] at c2; exact c2
      | bad => rw [q2] at c2; exact c2
    | err e ρa => exact (asgTg_noerr _ _ _ _ _ q).elim
    | bad => rw [bind_bad q] at ci; exact ci.elim
  · have ei : i = items.length := by omega
    subst ei
    rw [List.drop_length, loopL] at ci
    exact .inl ⟨y.stop H2 Fi s Ei.fh, ci σ2 Fi H2 (Same.refl Fi) Ei⟩
theorem snd_whl {fuel : Nat} {c : E} {body : List S} {x : PySem.Expr} {bs : List Stmt} (hp : PassesOwn (model X.prog X.w) X.A X.env X.xe) (hc : PT X x (rdB Z (evE Γ c >>= asBl))) (hb : PSs X bs (rdS Z (evSs Γ body))) :
    PS X (.While x bs [] pos) (rdS Z (evS Γ (.whl fuel c body))) := by
  refine ps_mono (ps_while hp hc hb) fun D σ H ⟨F, ρ, E, cc⟩ => ?_
  rw [evS] at cc
  refine ⟨fun m σ H => ∃ Fi ρi, EnvOk Z.K Z.pa Fi Z.G H σ ρi ∧ SCont Z Fi D (whileL (evE Γ c >>= asBl) (evSs Γ body) m ρi), ⟨fuel, F, ρ, E, cc⟩, ?_⟩
  rintro m σ2 H2 ⟨Fi, ρi, Ei, ci⟩
  cases m with
  | zero => rw [whileL] at ci; exact ci.elim
  | succ m =>
    rw [whileL] at ci
    refine (SCont.bind Ei ci).imp fun b H3 ⟨r, F3, ρ3, s3, E3, l3, c3⟩ => ?_
    cases (show r = b from l3)
    cases b with
    | false => exact iteF (c3 σ2 F3 H3 (Same.refl F3) E3)
    | true =>
      refine iteT ⟨fun σ' H' => ∃ Fi ρi, EnvOk Z.K Z.pa Fi Z.G H' σ' ρi ∧ SCont Z Fi D (whileL (evE Γ c >>= asBl) (evSs Γ body) m ρi), fun σ' H' h => ⟨m, Nat.lt_succ_self m, h⟩, F3, ρ3, E3, ?_⟩
      have c2 := (show SCont Z F3 D (thenS (evSs Γ body) (whileL (evE Γ c >>= asBl) (evSs Γ body) m) ρ3) from c3).split
      cases q2 : evSs Γ body ρ3 with
      | ok f ρb =>
        rw [q2] at c2
        cases f with
        | nx =>
          intro σ4 F4 H4 s4 E4
          obtain ⟨F5, ρ5, s5, E5, c5⟩ := c2 σ4 F4 H4 s4 E4
          exact ⟨F5, ρ5, E5, c5⟩
        | rt v => exact c2
      | err e ρb => rw [q2] at c2; exact c2
      | bad => rw [q2] at c2; exact c2
end
end PL
/-! PLRev: xs[::-1] of a tuple. -/
namespace PL
open PySem L2 PySem.Spec PyProof.Rows
section
variable {prog : Program} {w : World} {A : Around} {E : Value → Shared → Prop} {s : Shared}
theorem adjust_rev (n : Nat) : Builtin.Slice.sliceAdjust none none (-1) (n : Int) = ((n : Int) - 1, -1) := by
  unfold Builtin.Slice.sliceAdjust
  rfl
theorem places_rev (n : Nat) : Builtin.Slice.slicePlaces ((n : Int) - 1) (-1) (-1) = n := by
  unfold Builtin.Slice.slicePlaces
  simp
  omega
theorem sliceApplied_rev {sl : Addr} {vl vu vs : Value} {n : Nat} {Q : Int × Int × Nat → Shared → Prop} (hs : s.heap.IsSliceOf sl vl vu vs) (pl : IsPart vl none) (pu : IsPart vu none) (ps : IsPart vs (some (-1)))
    (h : Q ((n : Int) - 1, -1, n) s) : wpAny (model prog w) A (Builtin.Slice.sliceApplied (.ref sl) (pure (n : Int))) Q E s := by
  obtain ⟨os, hos, hcs, hds⟩ := id hs
  unfold Builtin.Slice.sliceApplied Builtin.Slice.sliceFields
  refine wpAny_bind (wpAny_bind (wpAny_field hos hds (x := vl) rfl (wpAny_bind (wpAny_field hos hds (x := vu) rfl (wpAny_bind (wpAny_field hos hds (x := vs) rfl (wpAny_pure ?_)))))))
  refine wpAny_bind (HT.slicePart_ ps ?_)
  show wpAny _ _ (if ((-1 : Int) == 0) = true then _ else _) _ _ s
  rw [if_neg (by decide)]
  refine wpAny_bind (HT.slicePart_ pl (wpAny_bind (HT.slicePart_ pu (wpAny_bind (wpAny_pure ?_)))))
  show wpAny _ _ (match Builtin.Slice.sliceAdjust none none (-1) (n : Int) with | (lo, hi) => pure (lo, (-1 : Int), Builtin.Slice.slicePlaces lo hi (-1))) _ _ s
  rw [adjust_rev n]
  show wpAny _ _ (pure ((n : Int) - 1, (-1 : Int), Builtin.Slice.slicePlaces ((n : Int) - 1) (-1) (-1))) _ _ s
  rw [places_rev]
  exact wpAny_pure h
theorem fmap_congr {α β : Type} {f g : α → Option β} : ∀ {l : List α}, (∀ x ∈ l, f x = g x) → l.filterMap f = l.filterMap g
  | [], _ => rfl
  | x :: l, h => by
    rw [List.filterMap_cons, List.filterMap_cons, h x (by simp), fmap_congr fun y hy => h y (by simp [hy])]
theorem pick_rev (xs : Array Value) : ((List.range xs.size).filterMap fun (m : Nat) => xs[((xs.size : Int) - 1 + (m : Int) * (-1)).toNat]?).toArray = xs.toList.reverse.toArray := by
  congr 1
  have e : ∀ m ∈ List.range xs.size, xs[((xs.size : Int) - 1 + (m : Int) * (-1)).toNat]? = (xs.toList.reverse)[m]? := by
    intro m hm
    have hm' := List.mem_range.mp hm
    rw [List.getElem?_reverse (by simpa using hm')]
    rw [show ((xs.size : Int) - 1 + (m : Int) * (-1)).toNat = xs.toList.length - 1 - m by rw [Array.length_toList]; omega]
    simp
  rw [fmap_congr e]
  have key : ∀ l : List Value, (List.range l.length).filterMap (fun m => l[m]?) = l := by
    intro l
    induction l with
    | nil => rfl
    | cons x l ih =>
      rw [List.length_cons, List.range_succ_eq_map, List.filterMap_cons]
      simp only [List.getElem?_cons_zero, List.filterMap_map]
      congr 1
  have k2 := key xs.toList.reverse
  rwa [List.length_reverse, Array.length_toList] at k2
theorem getItem_tuple_rev {t sl : Addr} {items : Array Value} {vl vu vs : Value} {Q : Value → Shared → Prop} (ht : IsTup s.heap t items) (hs : s.heap.IsSliceOf sl vl vu vs) (pl : IsPart vl none) (pu : IsPart vu none) (ps : IsPart vs (some (-1)))
    (h : Q (.ref s.heap.objs.size) { s with heap := s.heap.push { cls := .type "tuple", data := .seq items.toList.reverse.toArray } })
    (hsz : items.size ≤ sizeLine) : wpAny (model prog w) A (getItem (.ref t) (.ref sl)) Q E s := by
  have htake : sizeOk (.seq items.toList.reverse.toArray) := by
    show items.toList.reverse.toArray.size ≤ sizeLine
    rw [List.size_toArray, List.length_reverse, Array.length_toList]
    omega
  obtain ⟨os, hos, hcs, hds⟩ := id hs
  have hTs : s.TypeIs (.ref sl) "slice" := ⟨os, hos, hcs⟩
  unfold getItem
  try with_reducible refine wpAny_holding ?_
  first | refine wpAny_bind (wpAny_pure ?_) | skip
  refine wpAny_bind (wpAny_sequenceKey ht.typeIs (by decide) ?_)
  refine wpAny_bind (wpAny_callSpecial?_slot (name := Str.ofString "__getitem__") ht.typeIs PyProof.Rows.slot_tuple_getitem
    (wpAny_call_entry PyProof.Rows.slot_tuple_getitem ht.typeIs entry_tuple_getitem ?_ (args_tuple_getitem _ _)))
  show wpAny _ _ (Builtin.Tuple.tupleItemsOf (.ref t) >>= _) _ _ s
  refine wpAny_bind (tupleItemsOf_ ht ?_)
  refine wpAny_bind (wpAny_typeOf hTs ?_)
  rw [if_pos (by decide)]
  refine wpAny_bind (sliceApplied_rev hs pl pu ps ?_)
  have hno : ¬ ((((items.size : Int) - 1) == 0 && (-1 : Int) == 1 && items.size == items.size) = true) := by
    intro q
    rw [Bool.and_eq_true, Bool.and_eq_true] at q
    exact absurd q.1.2 (by decide)
  show wpAny _ _ (if (((items.size : Int) - 1) == 0 && (-1 : Int) == 1 && items.size == items.size) = true then _ else _) _ _ s
  rw [if_neg hno, pick_rev]
  first
    | exact wpAny_bind (m := Builtin.Tuple.tupleExact _) (wpAny_newObj_type (wpAny_pure ⟨_, rfl, wpAny_pure h⟩) htake)
    | exact wpAny_bind (m := Builtin.Tuple.tupleExact _) (wpAny_newObj_type (wpAny_bind (wpAny_pure (wpAny_pure ⟨_, rfl, wpAny_pure h⟩))) htake)
    | exact wpAny_bind (wpAny_bind (m := Builtin.Tuple.tupleExact _) (wpAny_newObj_type (wpAny_pure (wpAny_pure ⟨_, rfl, wpAny_pure h⟩)) htake))
    | exact wpAny_bind (wpAny_bind (m := Builtin.Tuple.tupleExact _) (wpAny_newObj_type (wpAny_pure ⟨_, rfl, wpAny_pure h⟩) htake))
end
section
variable {X : Cx} {Z : Fx} {Γ : Gm} {pos : Pos}
/-- xs[::-1] of a list, of a tuple -/
theorem pe_revD {e : Expr} {te : TE} {k : Nat} {p1 p2 p3 : Pos} (he : PE X e te) : PE X (.Subscript e (.Slice none none (some (.UnaryOp .USub (.Constant (.int 1) k p1) p2)) p3) pos) (fun σ H Q => te σ H fun x H1 => (∃ a xs, x = .ref a ∧ SqL X.K H1 a xs ∧ ∀ p, H1 p = none → Q (.ref p) (upd H1 p (.lst xs.reverse))) ∨ ∃ a xs, x = .ref a ∧ SqT X.K H1 a xs ∧ ∀ p, H1 p = none → Q (.ref p) (upd H1 p (.tup xs.reverse))) := by
  refine ⟨fun pins s σ H Q I h => ?_⟩
  refine Subscript_ (thn (he.run pins s σ H _ I h) fun v s1 ⟨x, H1, I1, r1, q1⟩ => ?_)
  have hst : PO X (some (.UnaryOp .USub (.Constant (.int 1) k p1) p2)) (tPart (tUn (rU fun i => .int (-i)) (tC (.int 1)))) := po_some (pe_un un_neg pe_int)
  refine wpAny_Slice (thn (po_none.run pins s1 σ H1 (fun o H2 => o = none ∧ H2 = H1) I1 ⟨rfl, rfl⟩) fun vl s2 ⟨l, H2, I2, pl, el, e2⟩ => ?_)
  subst el e2
  refine thn (po_none.run pins s2 σ H2 (fun o H3 => o = none ∧ H3 = H2) I2 ⟨rfl, rfl⟩) fun vu s3 ⟨u, H3, I3, pu, eu, e3⟩ => ?_
  subst eu e3
  refine thn (hst.run pins s3 σ H3 (fun o H4 => o = some (-1) ∧ H4 = H3) I3 ⟨1, rfl, -1, rfl, rfl, rfl⟩) fun vs s4 ⟨o, H4, I4, ps, eo, e4⟩ => ?_
  subst eo e4
  have I5 : Inv X pins σ H4 { s4 with heap := s4.heap.push { cls := .type "slice", data := .fields #[vl, vu, vs] } } := I4.kept (t' := s4.toks) fun b ob q => Heap.get?_push_of_some _ q
  rcases q1 with ⟨a, xs, ex, hx, q⟩ | ⟨a, xs, ex, hx, q⟩
  · subst ex
    cases r1
    obtain ⟨its, r, ht, hz⟩ := I5.list hx
    have hlen := r.length
    show wpAny (model X.prog X.w) X.A (subscriptTail e (.Slice none none (some (.UnaryOp .USub (.Constant (.int 1) k p1) p2)) p3) (.ref a) (.ref s4.heap.objs.size)) (EP X pins σ Q) X.xe { s4 with heap := s4.heap.push { cls := .type "slice", data := .fields #[vl, vu, vs] } }
    refine tail_any (ops := [.ref a, .ref s4.heap.objs.size]) ht.isList.typeIs (PySem.slot_list_getitem.lookup) ?_ (by with_unfolding_all rfl)
    refine wpAny_getItem_list_slice ht.isList (Heap.IsSliceOf.new _ vl vu vs) pl pu ps (by decide) ?_ (by rw [List.size_toArray]; omega)
    rw [PySem.W.krv_pick]
    refine ⟨.ref _, _, I5.laid (t' := s4.toks) (o := .lst xs.reverse) (fun b ob q => Heap.get?_push_of_some _ q) (Nat.le_refl _) ?_, rfl, q _ (I5.hok.fresh (Nat.le_refl _))⟩
    exact ⟨by rw [List.length_reverse]; exact hz, _, 0, r.reverse, Heap.get?_push_size _ rfl⟩
  · subst ex
    cases r1
    obtain ⟨its, r, ht, hz⟩ := I5.tuple hx
    have hlen := r.length
    show wpAny (model X.prog X.w) X.A (subscriptTail e (.Slice none none (some (.UnaryOp .USub (.Constant (.int 1) k p1) p2)) p3) (.ref a) (.ref s4.heap.objs.size)) (EP X pins σ Q) X.xe { s4 with heap := s4.heap.push { cls := .type "slice", data := .fields #[vl, vu, vs] } }
    refine tail_any (ops := [.ref a, .ref s4.heap.objs.size]) ht.typeIs PyProof.Rows.slot_tuple_getitem.lookup ?_ (by with_unfolding_all rfl)
    refine getItem_tuple_rev ht (Heap.IsSliceOf.new _ vl vu vs) pl pu ps ?_ (by rw [List.size_toArray]; omega)
    refine ⟨.ref _, _, I5.laid (t' := s4.toks) (o := .tup xs.reverse) (fun b ob q => Heap.get?_push_of_some _ q) (Nat.le_refl _) ?_, rfl, q _ (I5.hok.fresh (Nat.le_refl _))⟩
    exact ⟨by rw [List.length_reverse]; exact hz, _, r.reverse, IsTup.new _ _⟩
theorem snd_rev {a : E} {x : PySem.Expr} {k : Nat} {p1 p2 p3 : Pos} (hK : X.K = Z.K) (ha : PE X x (rdR Z (opnd a (evE Γ a)))) : PE X (.Subscript x (.Slice none none (some (.UnaryOp .USub (.Constant (.int 1) k p1) p2)) p3) pos) (rdE Z (evE Γ (.rev a))) :=
  pe_mono (pe_revD ha) fun σ H Q ⟨F, ρ, E, c⟩ => by
    rw [evE] at c
    refine (Cont.bind E c).imp fun v H1 ⟨r, F1, ρ1, s1, E1, l1, c1⟩ => ?_
    obtain ⟨d, sd, c4⟩ := deref_seen E1 l1 c1
    rw [hK]
    cases d with
    | lst l =>
      obtain ⟨a, xs, rfl, sx, r1⟩ := seen_lst E1.fh sd
      exact .inl ⟨a, xs, rfl, SqL.of sx, cont_lst c4 E1 r1.reverse⟩
    | tup l =>
      obtain ⟨a, xs, rfl, sx, r1⟩ := seen_tup E1.fh sd
      exact .inr ⟨a, xs, rfl, sx, cont_tup c4 E1 r1.reverse⟩
    | _ => exact c4.elim
end
end PL
/-! PLTry: an error raised, an error caught. -/
namespace PL
open PySem L2 PySem.Spec PyProof.Rows
section
variable {X : Cx} {Z : Fx} {Γ : Gm} {lev : Nat} {T : Tab} {pos p : Pos}
theorem snd_raise {x m : Str} {j : Nat} {p2 pos' : Pos} (ft : Fit X Z lev T Γ) (hT : x ∈ T.exc) (hg : Gl X x) (hd : (x == ("__debug__" : Str)) = false) : PS X (.Raise (some (.Call (.Name x p) [.Constant (.str m) j p2] [] pos)) none pos') (rdS Z (evS Γ (.raise x none))) := by
  obtain ⟨C, h1, h2, h3, h4, h5⟩ := ft.good.exc x hT
  refine ps_mono (ps_raise ft.calm ft.takes (pmk_own PySem.F.excBase_ValueError h2 h1 h3 (raises_own h4 h5) hg hd)) fun D σ H ⟨F, ρ, E, c⟩ => ?_
  rw [evS] at c
  exact c σ F H (.ref C) none (Same.refl F) E ⟨by rw [← ft.hmg]; exact h1, rfl⟩
/-- a suite that calls nothing: x = "w", xs.append("w"), return x -/
inductive Calm : List S → Prop
  | asg (i : Nat) (s : Str) : Calm [.asg i (.str s)]
  | app (i : Nat) (s : Str) : Calm [.app i (.str s)]
  | ret (i : Nat) : Calm [.ret (.var i)]
/-- the clauses' suites, as the clauses stand -/
inductive Hds (X : Cx) (Z : Fx) (Γ : Gm) (known : List Str) : List (Str × List S) → List ExceptHandler → Prop
  | nil : Hds X Z Γ known [] []
  | cons {x : Str} {ss : List S} {b₀ : Stmt} {suite : List Stmt} {np pos' : Pos} {l : List (Str × List S)} {hds : List ExceptHandler} (hk : x ∈ known) (hg : Gl X x) (hd : (x == ("__debug__" : Str)) = false)
      (hs : ∀ (a : Addr) (pn : List (Addr × Obj)), PSs (X.suite a pn) (b₀ :: suite) (rdS Z (evSs Γ ss))) (r : Hds X Z Γ known l hds) : Hds X Z Γ known ((x, ss) :: l) (.ExceptHandler (some (.Name x np)) none (b₀ :: suite) pos' :: hds)
theorem hds_snd {known : List Str} {l : List (Str × List S)} {hds : List ExceptHandler} (ft : Fit X Z lev T Γ) (hk : ∀ x ∈ known, x ∈ T.known) (h : Hds X Z Γ known l hds) : ∃ l2 : List (Value × (Addr → Value → Option Addr → TS)), HdsOk X hds l2 ∧
    ∀ (D : Ends) (σ : L2.St) (H : Hp) (F : Hp) (ρ : Env) (e : Ex) (c : Value) (d : Option Addr), e.cls ∈ known → EnvOk Z.K Z.pa F Z.G H σ ρ → ExR Z.K Z.mg F c d e → SCont Z F D (match evH Γ l e with
      | some m => m ρ
      | none => .err e ρ) → wMany X.K Z.W D l2 c d σ H := by
  induction h with
  | nil => exact ⟨[], .nil, fun D σ H F ρ e c d _ E r q => q σ F H c d (Same.refl F) E r⟩
  | @cons x ss b₀ suite np pos' l hds hx hg hd hs r ih =>
    obtain ⟨l2, h1, h2⟩ := ih
    obtain ⟨_, cy, _, m2, _⟩ := ft.good.exm x (hk x hx) x (hk x hx)
    refine ⟨(cy, fun _ _ _ => rdS Z (evSs Γ ss)) :: l2, .cons ⟨hg, hd, .inl m2⟩ (fun a oe cls d pn _ _ => hs a _) h1, fun D σ H F ρ e c d he E r q => ?_⟩
    obtain ⟨cx, cy2, n1, n2, n3⟩ := ft.good.exm e.cls (hk _ he) x (hk x hx)
    rw [m2] at n2
    cases n2
    have ec : cx = c := by
      have := r.1
      rw [← ft.hmg, n1] at this
      exact Option.some.inj this
    subst ec
    refine ⟨decide (e.cls = x), n3, fun b a ha => ?_, fun b => ?_⟩
    · have b' : e.cls = x := of_decide_eq_true b
      refine ⟨F, ρ, E, ?_⟩
      rw [evH, if_pos b'] at q
      exact q
    · have b' : ¬ e.cls = x := of_decide_eq_false b
      rw [evH, if_neg b'] at q
      exact h2 D σ H F ρ e cx d he E r q
theorem snd_tryN {known : List Str} {ss : List S} {l : List (Str × List S)} {body : List Stmt} {h₀ : ExceptHandler} {hds : List ExceptHandler} (ft : Fit X Z lev T Γ) (hk : ∀ x ∈ known, x ∈ T.known) (hs : X.stack = X.env :: X.outer) (hf : X.env.frame = some X.env.locals)
    (hb : ∀ (W : WX) (pn : List (Addr × Obj)) (xe : Value → Shared → Prop), Takes (X.tr pn xe) W → PassesOwn (model X.prog X.w) X.A X.env xe → PSs (X.tr pn xe) body (rdS { Z with W := W } (evSs Γ ss)))
    (hh : Hds X Z Γ known l (h₀ :: hds)) : PS X (.Try body (h₀ :: hds) [] [] pos) (rdS Z (evS Γ (.tryN known ss l))) := by
  obtain ⟨l2, h1, h2⟩ := hds_snd ft hk hh
  refine ps_mono (ps_try_many hs hf ft.takes hb h1) fun D σ H ⟨F, ρ, E, c⟩ => ?_
  rw [evS] at c
  refine ⟨F, ρ, E, ?_⟩
  unfold tryL at c
  cases q : evSs Γ ss ρ with
  | ok f ρ1 =>
    rw [q] at c
    cases f with
    | nx => exact c
    | rt v => exact c
  | bad =>
    rw [q] at c
    exact c
  | err e ρ1 =>
    rw [q] at c
    intro σ' F' H' cl d s E' r
    by_cases he : e.cls ∈ known
    · simp only [if_pos he] at c
      exact h2 D σ' H' F' ρ1 e cl d he E' r (c.mono s)
    · simp only [if_neg he] at c
      exact c.elim
/-- a suite's statements need no calm -/
theorem calm_asg {i : Nat} {x s : Str} {k : Nat} {p2 p3 : Pos} (hN : X.N.Nodup) (hi : X.N[i]? = some x) (hx : Loc X.env.scope x) (hf : X.fn x = true ∨ X.env.scope.names.lookup x = some .local) : PSs X [.Assign [.Name x p2] (.Constant (.str s) k p3) pos] (rdS Z (evSs Γ [.asg i (.str s)])) :=
  sndSs_cons (snd_asg hN hi hx hf rfl (snd_const (by rw [evE]) (fun F => .str _) pe_str)) sndSs_nil
theorem calm_app {i : Nat} {x s : Str} {k : Nat} {p1 p2 p3 : Pos} (hx : PE X (.Name x p1) (tVar i)) (hl : (p2.endLine == p.line) = true) : PSs X [.Expr (.Call (.Attribute (.Name x p1) "append" p2) [.Constant (.str s) k p3] [] p) pos] (rdS Z (evSs Γ [.app i (.str s)])) :=
  sndSs_cons (snd_app hx rfl hl (snd_const (by rw [evE]) (fun F => .str _) pe_str)) sndSs_nil
theorem calm_ret {i : Nat} {a : PySem.Expr} (hx : PE X a (tVar i)) : PSs X [.Return (some a) pos] (rdS Z (evSs Γ [.ret (.var i)])) :=
  sndSs_cons (snd_ret (pe_mono hx fun σ H Q q => rd_var σ H Q (by rw [evE] at q; exact q))) sndSs_nil
end
end PL
/-! PLExc: errors with a field, raised and caught. -/
namespace PL
open PySem L2 PySem.Spec PyProof.Rows
section
variable {X : Cx} {Z : Fx} {Γ : Gm} {lev : Nat} {T : Tab} {pos p : Pos}
theorem passes_none : Passes (L2.CX X.prog X.w) X (fun _ _ _ => False) := fun pins σ H s u s' I h => by
  obtain ⟨_, _, _, _, _, _, _, _, _, _, _, _, z⟩ := h
  exact z.elim
theorem snd_raiseF {x fld : Str} {a : PySem.Expr} {e : E} {pos' : Pos} (ft : Fit X Z lev T Γ) (hx : ∃ lv, lv + 1 ≤ lev ∧ ExcO X.prog X.w X.K X.mg X.base lv x fld) (hg : Gl X x) (hd : (x == ("__debug__" : Str)) = false) (hn : nst a = true) (ha : PE X a (rdE Z (evE Γ e))) :
    PS X (.Raise (some (.Call (.Name x p) [a] [] pos)) none pos') (rdS Z (evS Γ (.raise x (some (fld, e))))) := by
  obtain ⟨lv, hlv, C, fI, fd, ps, m1, oc, i1, t1, F1, b1, xf, no1⟩ := hx
  have pa : PA X [a] (tCons (rdE Z (evE Γ e)) tNil) := pa_cons ha pa_nil (star_cons hn)
  refine ps_mono (ps_raise ft.calm ft.takes (pmk_oex oc i1 t1 F1 (ft.room.mono hlv) b1 .nil passes_none hg m1 pa hd (star_cons hn) rfl)) fun D σ H ⟨F, ρ, E, c⟩ => ?_
  rw [evS] at c
  refine (SCont.bind E c).imp fun v H1 ⟨r, F1', ρ1, s1, E1, l1, c1⟩ => ?_
  refine ⟨by simp, fun a' ha' => ?_⟩
  obtain ⟨F2, s2, E2, r2⟩ := E1.share l1
  refine ⟨a', v, rfl, upd_same, fun dx h1 h2 => ⟨rfl, dx, [(fld, v)], upd_same, by rw [upd_ne h2, upd_same], by rw [upd_ne h2] at h1; exact h1, ?_⟩⟩
  have hdx : H1 dx = none := by rw [upd_ne h2] at h1; exact h1
  have hh : upd (del (upd (upd (upd H1 a' (exo a' C none)) dx (exd dx [(fld, v)])) a' (exo a' C (some dx))) a') dx (.xd [(fld, v)]) = upd H1 dx (.xd [(fld, v)]) := by
    funext b
    by_cases hb : b = dx
    · rw [hb, upd_same, upd_same]
    · rw [upd_ne hb, upd_ne hb]
      by_cases ha2 : b = a'
      · rw [ha2, del_same, ha']
      · rw [del_ne ha2, upd_ne ha2, upd_ne hb, upd_ne ha2]
  rw [hh]
  have en := E2.new (o := .xd [(fld, v)]) hdx
  refine c1 σ _ _ (.ref C) (some dx) (s2.trans en.1) en.2 ⟨by rw [← ft.hmg]; exact m1, dx, v, rfl, upd_same, r2.mono en.1⟩
/-- a slot that is not read -/
theorem EnvOk.setNone {K : PySem.W.Frag} {pa : PaT} {F G H : Hp} {σ : L2.St} {ρ : Env} (E : EnvOk K pa F G H σ ρ) {i : Nat} (h : ρ[i]? = some none) (o : Option V) : EnvOk K pa F G H (σ.set i o) ρ := by
  have ne : ∀ (j : Nat) (g : Fg) (d : D), ρ[j]? = some (some (g, d)) → i ≠ j := fun j g d q z => by
    subst z
    rw [h] at q
    cases q
  refine ⟨E.fh, E.gh, E.fg, by rw [List.length_set]; exact E.len, fun j d q => ?_, fun j g d q n => ?_, fun j d q => ?_, fun j k g g' d d' a n q1 n1 q2 n2 => ?_, E.tb⟩
  · rw [List.getElem?_set_ne (ne _ _ _ q)]; exact E.shr j d q
  · rw [List.getElem?_set_ne (ne _ _ _ q)]; exact E.own j g d q n
  · rw [List.getElem?_set_ne (ne _ _ _ q)]; exact E.pin j d q
  · rw [List.getElem?_set_ne (ne _ _ _ q1), List.getElem?_set_ne (ne _ _ _ q2)]
    exact E.dist j k g g' d d' a n q1 n1 q2 n2
/-- except cls as n: x = (w, n.f) -/
theorem snd_tryAs {known : List Str} {ss : List S} {cls n x w fld : Str} {i j : Nat} {body : List Stmt} {np pos' p2 p3 p5 p6 p7 : Pos} {k k2 : Nat} (ft : Fit X Z lev T Γ) (hk : ∀ x ∈ known, x ∈ T.known) (hcl : cls ∈ known) (hx : ∃ lv, lv + 1 ≤ lev ∧ ExcO X.prog X.w X.K X.mg X.base lv cls fld)
    (hs : X.stack = X.env :: X.outer) (hf : X.env.frame = some X.env.locals) (hg : Gl X cls) (hd : (cls == ("__debug__" : Str)) = false) (hi : X.N[i]? = some n) (hln : X.env.kindOf n = some .local) (hnd : (n == ("__debug__" : Str)) = false) (hnc : (n == ("__classdict__" : Str)) = false)
    (hj : X.N[j]? = some x) (hlj : Loc X.env.scope x) (hfj : X.fn x = true ∨ X.env.scope.names.lookup x = some .local) (hij : i ≠ j)
    (hb : ∀ (W : WX) (pn : List (Addr × Obj)) (xe : Value → Shared → Prop), Takes (X.tr pn xe) W → PassesOwn (model X.prog X.w) X.A X.env xe → PSs (X.tr pn xe) body (rdS { Z with W := W } (evSs Γ ss))) :
    PS X (.Try body [.ExceptHandler (some (.Name cls np)) (some n) [.Assign [.Name x p2] (.Tuple [.Constant (.str w) k p3, .Attribute (.Name n p5) fld p6] k2 p7) pos'] pos] [] [] p) (rdS Z (evS Γ (.tryAs known ss cls i j 0 w fld))) := by
  obtain ⟨lv, hlv, C, fI, fd, ps, m1, oc, i1, t1, F1, b1, xf, no1⟩ := hx
  have suite : ∀ (a : Addr) (oe : Obj) (cl : Value) (d : Option Addr) (pn : List (Addr × Obj)), Zc cl d oe → (∃ vs, oe.data = .fields vs) → PSs (X.suite a ((a, oe) :: pn)) [.Assign [.Name x p2] (.Tuple [.Constant (.str w) k p3, .Attribute (.Name n p5) fld p6] k2 p7) pos'] (tSeq (tAsg (tTup (tCons (tC (.str w)) (tCons (tXf a cl d C fld (tVar i)) tNil))) (gName j)) tNext) := fun a oe cl d pn hz ho => by
    have nv : PE (X.suite a ((a, oe) :: pn)) (.Name n p5) (tVar i) := pe_var hi (.inl hln) hnd hnc
    have at_ : PE (X.suite a ((a, oe) :: pn)) (.Attribute (.Name n p5) fld p6) (tXf a cl d C fld (tVar i)) := pe_xf xf no1 hz ho nv (by rfl)
    exact pss_cons (ps_set ft.nd hj hlj (pe_tup (pa_cons pe_str (pa_cons at_ pa_nil))) (by rfl) hfj) pss_nil
  refine ps_mono (ps_try_as hs hf ft.nd hi hln ⟨hg, hd, .inl m1⟩ ft.takes hb suite) fun D σ H ⟨F, ρ, E, c⟩ => ?_
  rw [evS] at c
  refine ⟨F, ρ, E, ?_⟩
  unfold tryL at c
  cases q : evSs Γ ss ρ with
  | ok f ρ1 =>
    rw [q] at c
    cases f with
    | nx => exact c
    | rt v => exact c
  | bad =>
    rw [q] at c
    exact c
  | err e ρ1 =>
    rw [q] at c
    intro σ' F' H' cl d s E' r
    by_cases he : e.cls ∈ known
    · simp only [if_pos he] at c
      obtain ⟨cx, cy2, n1, n2, n3⟩ := ft.good.exm e.cls (hk _ he) cls (hk _ hcl)
      rw [m1] at n2
      cases n2
      have ec : cx = cl := by
        have := r.1
        rw [← ft.hmg, n1] at this
        exact Option.some.inj this
      subst ec
      refine ⟨decide (e.cls = cls), n3, fun b a ha => ?_, fun b => ?_⟩
      · have b' : e.cls = cls := of_decide_eq_true b
        simp only [if_pos b'] at c
        unfold asSuite at c
        split at c
        · rename_i q1 f0 d0 q2 q3
          by_cases hff : f0 = fld
          · rw [if_pos hff] at c
            subst hff
            have c2 : SCont Z F D ((put j (sh (.tup [.str w, d0])) >>= fun _ => pure .nx) ρ1) := c
            have r2 := r.2
            rw [q3] at r2
            obtain ⟨da, v, rfl, hF, rv⟩ := r2
            have hC : cx = .ref C := by
              have := r.1
              rw [b', ← ft.hmg, m1] at this
              exact (Option.some.inj this).symm
            have il : i < σ'.length := by rw [← E'.len]; exact (List.getElem?_eq_some_iff.mp q2).1
            refine ⟨.ref a, by rw [List.getElem?_set_self il], rfl, hC, da, [(f0, v)], v, rfl, E'.fh _ _ hF, by simp [List.lookup], ?_⟩
            refine ⟨by show 2 ≤ sizeLine; rw [sizeLine_eq]; omega, fun p hp => ?_⟩
            cases z : put j (sh (.tup [.str w, d0])) ρ1 with
            | bad => rw [bind_bad z] at c2; exact c2.elim
            | err e2 ρ2 => exact (put_noerr z).elim
            | ok u ρ2 =>
              rw [bind_ok z] at c2
              have en := E'.new (o := .tup [.str w, v]) hp
              have rt : Rp Z.K (upd F' p (.tup [.str w, v])) (.ref p) (.tup [.str w, d0]) := .tup (SqT.of upd_same) (.cons (.str w) (.cons (rv.mono en.1) .nil))
              have E2 := (en.2.setNone q2 (some (.ref a))).put (r := sh (.tup [.str w, d0])) rt z
              have e2 : ρ2[i]? = some none := by
                unfold put at z
                split at z
                · cases z
                · rename_i s0 h0
                  cases z
                  rw [List.getElem?_set_ne (Ne.symm hij)]
                  exact q2
                · cases z
              exact c2 _ _ _ (s.trans en.1) (E2.setNone e2 none)
          · rw [if_neg hff] at c
            exact c.elim
        · exact c.elim
      · have b' : ¬ e.cls = cls := of_decide_eq_false b
        simp only [if_neg b'] at c
        exact c σ' F' H' cx d s E' r
    · simp only [if_neg he] at c
      exact c.elim
end
end PL
/-! PLLam: a lambda without parameters handed to a def that tells a word. -/
namespace PL
open PySem L2 PySem.Spec PyProof.Rows
/-- the word that the clauses tell of an error -/
def wordsW (K : PySem.W.Frag) (mg : Str → Option Value) : List (Str × Str) → Value → (Str → Prop) → Prop
  | [], _, _ => False
  | (C, w) :: r, cls, P => ∃ c b, mg C = some c ∧ PySem.W.exmOne K cls c = some b ∧ (b = true → P w) ∧ (b = false → wordsW K mg r cls P)
/-- what such a def makes of what it gets -/
def TWord (K : PySem.W.Frag) (mg : Str → Option Value) (d : Str) (hs : List (Str × Str)) : (XK → Hp → VK → Prop) → Hp → VK → Prop := fun tl H Q =>
  tl (fun cls _ H' => wordsW K mg hs cls fun w => Q (.str w) H') H fun _ H' => Q (.str d) H'
/-- the clauses, as they stand -/
theorem hdsW_ok {X : Cx} {sg : Scope} {f : Str} (nd : X.N.Nodup) (hi : X.N[1]? = some f) (hl : Loc X.env.scope f) (hf : ∀ a pn, (X.suite a pn).fn f = true) (hsg : X.env.scope = sg) : ∀ (hs : List (Str × Str)) (hds : List ExceptHandler), hdsWB sg f hs hds = true → (∀ p ∈ hs, ∃ c, X.mg p.1 = some c) →
    ∃ l : List (Value × (Addr → Value → Option Addr → TS)), HdsOk X hds l ∧ ∀ (W : WX) (D : Ends) (σ : L2.St) (H : Hp) (cls : Value) (d : Option Addr), 1 < σ.length → wordsW X.K X.mg hs cls (fun w => D.nx (σ.set 1 (some (.str w))) H) → wMany X.K W D l cls d σ H
  | [], [], _, _ => ⟨[], .nil, fun _ _ _ _ _ _ _ h => h.elim⟩
  | [], h :: hds, hb, _ => by simp [hdsWB] at hb
  | (x, w) :: l, [], hb, _ => by simp [hdsWB] at hb
  | (x, w) :: l, h0 :: hds, hb, hm => by
    unfold hdsWB at hb
    split at hb
    · rename_i heq1 heq2
      cases heq1
    · rename_i x' w' l' y p1 f' p2 w2 k p3 p4 p5 hds' heq1 heq2
      cases heq1
      cases heq2
      simp only [Bool.and_eq_true, decide_eq_true_eq, Bool.not_eq_true'] at hb
      obtain ⟨⟨⟨⟨⟨rfl, rfl⟩, rfl⟩, hg⟩, hd⟩, hr⟩ := hb
      obtain ⟨l2, h1, h2⟩ := hdsW_ok nd hi hl hf hsg l hds hr fun p hp => hm p (List.mem_cons_of_mem _ hp)
      obtain ⟨c, mc⟩ := hm (x, w2) List.mem_cons_self
      have hgl : Gl X x := by
        show X.env.scope.names.lookup x = _
        rw [hsg]; exact hg
      refine ⟨(c, fun _ _ _ => tSeq (tAsg (tC (.str w2)) (gName 1)) tNext) :: l2, .cons ⟨hgl, hd, .inl mc⟩ (fun a oe cls d pn _ _ => pss_cons (ps_set (X := X.suite a ((a, oe) :: pn)) nd hi hl pe_str (by rfl) (.inl (hf a _))) pss_nil) h1, fun W D σ H cls d hl hw => ?_⟩
      obtain ⟨c', b, e1, e2, e3, e4⟩ := hw
      rw [mc] at e1
      cases e1
      exact ⟨b, e2, fun hb a ha => e3 hb, fun hb => h2 W D σ H cls d hl (e4 hb)⟩
    · cases hb
theorem loc_ofB {sc : Scope} {x : Str} (h : locB sc x = true) : L2.Loc sc x := by
  unfold locB at h
  unfold L2.Loc
  split at h <;> simp_all
theorem vis_ofL {sc : Scope} {x : Str} (h : locB sc x = true) : Vis sc x := by
  unfold locB at h
  unfold Vis
  split at h <;> simp_all
theorem word_gives {X : Cx} {x a f q d : Str} {sg : Scope} {g : Addr} {cdg : Value} {bg : List Stmt} {hs : List (Str × Str)} (wf : wordB sg a f d hs bg = true) (hm : ∀ p ∈ hs, ∃ c, X.mg p.1 = some c) : LamX.GivesTo X [a, f] x sg g cdg bg a q (TWord X.K X.mg d hs) := by
  unfold wordB at wf
  split at wf
  · rename_i f1 p1 d' k p2 p3 a' p4 p5 p6 h hds p7 f2 p8 p9
    simp only [Bool.and_eq_true, decide_eq_true_eq, Bool.not_eq_true'] at wf
    obtain ⟨⟨⟨⟨⟨⟨⟨⟨⟨⟨⟨rfl, rfl⟩, rfl⟩, rfl⟩, hne⟩, hlf⟩, hla⟩, hd1⟩, hd2⟩, hd3⟩, hd4⟩, hh⟩ := wf
    intro fl c' s H Q tl act hc ht
    have nd : ([a', f2] : List Str).Nodup := by simp [hne]
    obtain ⟨l, h1, h2⟩ := hdsW_ok (X := (cxOf C8.CX0 X.prog X.w X.K X.mg X.base [a', f2] x sg g cdg X.A X.stack s H C8.E0).nox) (f := f2) nd rfl (loc_ofB hlf) (fun _ _ => rfl) rfl hs (h :: hds) hh hm
    have s1 : PS (cxOf C8.CX0 X.prog X.w X.K X.mg X.base [a', f2] x sg g cdg X.A X.stack s H C8.E0).nox (.Assign [.Name f2 p1] (.Constant (.str d') k p2) p3) (tAsg (tC (.str d')) (gName 1)) := ps_set nd rfl (loc_ofB hlf) pe_str (by rfl) (.inl rfl)
    have s3 : PS (cxOf C8.CX0 X.prog X.w X.K X.mg X.base [a', f2] x sg g cdg X.A X.stack s H C8.E0).nox (.Return (some (.Name f2 p8)) p9) (tRet (tVar 1)) := ps_ret (pe_var rfl (vis_ofL hlf) hd1 hd2)
    refine ⟨_, pss_cons s1 (pss_cons (ps_try_many (X := (cxOf C8.CX0 X.prog X.w X.K X.mg X.base [a', f2] x sg g cdg X.A X.stack s H C8.E0).nox)
      (tb := fun W D σ H => ∃ Ech : XK, (∀ cls d σ' H', Ech cls d H' → σ'.length = 2 → W cls d σ' H') ∧ σ[0]? = some (some (.ref fl)) ∧ H c' = some (LamX.CodeO c' q) ∧ tl Ech H fun _ H' => D.nx σ H')
      rfl rfl LamX.takes0 (fun W pn xe tk _ => ?_) h1) (pss_cons s3 pss_nil)), ?_⟩
    · refine ⟨fun pins s' σ H' D I h' => ?_⟩
      obtain ⟨Ech, hW, g1, g2, g3⟩ := h'
      have tk2 : Takes ((cxOf C8.CX0 X.prog X.w X.K X.mg X.base [a', f2] x sg g cdg X.A X.stack s H C8.E0).tr pn xe) (fun cls d σ' H' => σ'.length = 2 → W cls d σ' H') := fun u s' ⟨a, B, sI, pins, σ, H, cls, d, e, I, nb, up, sky, na, os, ag, w⟩ =>
        tk u s' ⟨a, B, sI, pins, σ, H, cls, d, e, I, nb, up, sky, na, os, ag, w I.len⟩
      have hp := act (fun cls d σ' H' => σ'.length = 2 → W cls d σ' H') pn xe Ech p4 p5 tk2 hW
      exact (pss_one (ps_expr (pos := p6) hp (by rfl))).run pins s' σ H' D I ⟨g1, g2, g3⟩
    · refine ⟨fun cls _ H' => wordsW X.K X.mg hs cls fun w => Q (.str w) H', fun cls d σ' H' hw hl => ?_, rfl, hc, ?_⟩
      · refine h2 _ _ σ' H' cls d (by omega) ?_
        have e : (fun w => ({ ({ nx := fun _ H' => Q .non H', rt := Q } : Ends) with nx := tSeq (tRet (tVar 1)) tNext { nx := fun _ H' => Q .non H', rt := Q } } : Ends).nx (σ'.set 1 (some (.str w))) H') = fun w => Q (.str w) H' := by
          funext w
          refine propext ⟨fun ⟨v, e1, e2⟩ => ?_, fun z => ⟨.str w, ?_, z⟩⟩
          · rw [List.getElem?_set_self (by omega)] at e1
            cases e1
            exact e2
          · rw [List.getElem?_set_self (by omega)]
        first
          | exact e ▸ hw
          | (rw [e]; exact hw)
      · have e : (fun (_ : V) (H' : Hp) => ({ ({ nx := fun _ H' => Q .non H', rt := Q } : Ends) with nx := tSeq (tRet (tVar 1)) tNext { nx := fun _ H' => Q .non H', rt := Q } } : Ends).nx ((L2.start [a', f2] [V.ref fl]).set 1 (some (.str d'))) H') = fun _ H' => Q (.str d') H' := by
          funext _ H'
          refine propext ⟨fun ⟨v, e1, e2⟩ => ?_, fun z => ⟨.str d', rfl, z⟩⟩
          have e1' : some (some (V.str d')) = some (some v) := e1
          cases e1'
          exact e2
        have ht' : tl (fun cls _ H' => wordsW X.K X.mg hs cls fun w => Q (.str w) H') H (fun _ H' => Q (.str d') H') := ht
        rw [← e] at ht'
        exact ht'
  · cases wf
/-- the heap as a lambda's body finds it: all of it stays -/
def lamG (F H : Hp) : Hp := fun a => if (F a).isSome then none else H a
theorem hide_get {ρ : Env} {i : Nat} {x : Fg × D} (h : (hide ρ)[i]? = some (some x)) : x.1 = .shr ∧ ρ[i]? = some (some x) := by
  unfold hide at h
  rw [List.getElem?_map] at h
  cases q : ρ[i]? with
  | none => rw [q] at h; simp at h
  | some s =>
    rw [q] at h
    simp at h
    split at h
    · cases h; exact ⟨rfl, rfl⟩
    · cases h
theorem hide_length (ρ : Env) : (hide ρ).length = ρ.length := by unfold hide; rw [List.length_map]
section
variable {K : PySem.W.Frag} {pa : PaT} {F F2 G H H1 H2 : Hp} {σ : L2.St} {ρ ρ' : Env}
theorem EnvOk.lamIn (E : EnvOk K pa F G H σ ρ) (eN : LamX.ExtN H H1) : EnvOk K ⟨fun _ => none, []⟩ F (lamG F H1) H1 σ (hide ρ) := by
  have fh : Same F H1 := fun a o q => eN a o (E.fh a o q) fun ps z => by subst z; exact E.tb.nt a _ q
  refine ⟨fh, fun a o q => ?_, fun a o q => ?_, by rw [hide_length]; exact E.len, fun i d q => E.shr i d (hide_get q).2, fun i g d q ng => absurd (hide_get q).1 ng, fun i d q => ?_, fun i j g g' d d' a ne q ng => absurd (hide_get q).1 ng, ⟨fun p hp => (by cases hp), E.tb.nt, fun n => absurd rfl n⟩⟩
  · unfold lamG at q
    split at q
    · cases q
    · exact q
  · unfold lamG
    rw [if_pos (by simp [q])]
  · have := (hide_get q).1
    cases this
theorem EnvOk.lamOut (E : EnvOk K pa F G H σ ρ) (hn : pa.t ≠ []) (eN : LamX.ExtN H H1) (T1 : LamX.Tabs pa.t H1) (s : Same F F2) (E' : EnvOk K ⟨fun _ => none, []⟩ F2 (lamG F H1) H2 σ ρ') : EnvOk K pa F2 G H2 σ ρ := by
  have stay : ∀ a o, F a = none → H1 a = some o → H2 a = some o := fun a o hF h => E'.gh a o (by unfold lamG; rw [hF]; exact h)
  have gG : ∀ a o, G a = some o → F a = none ∧ H1 a = some o := fun a o q => by
    refine ⟨?_, eN a o (E.gh a o q) fun ps z => by subst z; exact E.tb.gt hn a ps q⟩
    cases z : F a with
    | none => rfl
    | some u => rw [E.fg a u z] at q; cases q
  refine ⟨E'.fh, fun a o q => stay a o (gG a o q).1 (gG a o q).2, fun a o q => ?_, E.len, fun i d q => ?_, fun i g d q ng => ?_, E.pin, E.dist, ⟨fun p hp => ?_, E'.tb.nt, E.tb.gt⟩⟩
  · cases z : G a with
    | none => rfl
    | some u =>
      obtain ⟨h1, h2⟩ := gG a u z
      have := E'.fg a o q
      unfold lamG at this
      rw [h1] at this
      simp at this
      rw [h2] at this
      cases this
  · obtain ⟨v, e, r⟩ := E.shr i d q
    exact ⟨v, e, r.mono s⟩
  · obtain ⟨a, e, h1, h2, h3⟩ := E.own i g d q ng
    cases d with
    | lst ds =>
      obtain ⟨xs, e3, r⟩ := h3
      have e4 : H1 a = some (.lst xs) := eN a _ e3 fun ps z => by cases z
      refine ⟨a, e, ?_, h2, xs, stay a _ h1 e4, r.mono s⟩
      cases z : F2 a with
      | none => rfl
      | some u =>
        have := E'.fg a u z
        unfold lamG at this
        rw [h1] at this
        simp at this
        rw [e4] at this
        cases this
    | _ => exact h3.elim
  · obtain ⟨ps, h1, h2, h3⟩ := T1 p hp
    have nF : ∀ a o, H1 a = some o → ¬ notTab o → F a = none := fun a o h n => by
      cases z : F a with
      | none => rfl
      | some u =>
        have e := eN a u (E.fh a u z) fun ps q => by subst q; exact E.tb.nt a _ z
        rw [h] at e
        cases e
        exact absurd (E.tb.nt a _ z) n
    refine ⟨ps, stay _ _ (nF _ _ h1 fun z => z) h1, h2, fun pos cv hc => ?_⟩
    obtain ⟨c, e1, e2⟩ := h3 pos cv hc
    exact ⟨c, e1, stay _ _ (nF _ _ e2 fun z => by unfold LamX.CodeO at z; exact z) e2⟩
theorem wordsW_of {mg : Str → Option Value} {known : List Str} (hk : ∀ x ∈ known, ∀ y ∈ known, ExmF K mg x y) {e : Str} {cl : Value} {w : Str} {P : Str → Prop} (he : e ∈ known) (m : mg e = some cl) (p : P w) : ∀ {hs : List (Str × Str)}, (∀ q ∈ hs, q.1 ∈ known) → hs.lookup e = some w → wordsW K mg hs cl P
  | [], _, h => by cases h
  | (C, w2) :: r, hs, h => by
    obtain ⟨cx, cy, m1, m2, m3⟩ := hk e he C (hs (C, w2) List.mem_cons_self)
    rw [m] at m1
    cases m1
    refine ⟨cy, decide (e = C), m2, m3, fun b => ?_, fun b => ?_⟩
    · have b' : e = C := of_decide_eq_true b
      subst b'
      rw [List.lookup_cons_self] at h
      cases h
      exact p
    · have b' : ¬ e = C := of_decide_eq_false b
      rw [List.lookup_cons, show (e == C) = false from by simpa using b'] at h
      exact wordsW_of hk he m p (fun q hq => hs q (List.mem_cons_of_mem _ hq)) h
end
theorem noPar_bind {params : Arguments} (h : (match params with
  | ⟨[], [], none, [], [], none, []⟩ => true
  | _ => false) = true) : params = ⟨[], [], none, [], [], none, []⟩ := by
  split at h
  · rfl
  · cases h
/-- x(lambda: body) -/
theorem snd_lamc {X : Cx} {Z : Fx} {Γ : Gm} {lev : Nat} {T : Tab} {x d : Str} {known : List Str} {hs : List (Str × Str)} {body : E} {lb : PySem.Expr} {scope : Scope} {p lpos pos : Pos} (ft : Fit X Z lev T Γ) (hT : (x, d, known, hs) ∈ T.words) (hg : Gl X x) (hdb : (x == ("__debug__" : Str)) = false)
    (hL : LamX.lamSB X.env.scope scope = true) (hk : ∀ y ∈ known, y ∈ T.known) (hks : ∀ q ∈ hs, q.1 ∈ known)
    (hb : ∀ (X' : Cx) (Z' : Fx), Fit X' Z' lev { T with words := [] } Γ → X'.env.scope = scope → X'.N = X.N → X'.fn = (fun _ => false) → PE X' lb (rdE Z' (evE Γ body))) :
    PE X (.Call (.Name x p) [.Lambda ⟨[], [], none, [], [], none, []⟩ lb scope lpos] [] pos) (rdE Z (evE Γ (.lamc d known hs body))) := by
  have hne : T.words ≠ [] := fun z => by rw [z] at hT; cases hT
  obtain ⟨c, P, room, hcode, TB, ht, hw⟩ := ft.lam hne
  obtain ⟨g, fd, params, bg, sg, a, f, FD, hm, hbd, Sg, wf⟩ := hw _ hT
  obtain ⟨oc, od, dV, kV, doc, pm, an, cdv, ct, osl, rfl, lk, hcd, _, _⟩ := FD.ex
  have wl : locB sg a = true ∧ (a == ("__debug__" : Str)) = false ∧ (a == ("__classdict__" : Str)) = false := by
    have wf := wf
    unfold wordB at wf
    split at wf
    · simp only [Bool.and_eq_true, decide_eq_true_eq, Bool.not_eq_true'] at wf
      obtain ⟨⟨⟨⟨⟨⟨⟨⟨⟨⟨⟨_, _⟩, _⟩, _⟩, _⟩, _⟩, w1⟩, _⟩, _⟩, w2⟩, w3⟩, _⟩ := wf
      exact ⟨w1, w2, w3⟩
    · cases wf
  have hmk : ∀ q ∈ hs, ∃ c, X.mg q.1 = some c := fun q hq => by
    obtain ⟨cx, cy, m1, _⟩ := ft.good.exm q.1 (hk _ (hks q hq)) q.1 (hk _ (hks q hq))
    exact ⟨cx, m1⟩
  have L := LamX.lamS_by hL
  have body_ok : ∀ (A : Around) (outer : List PySem.Env) (s : Shared) (H : Hp) (E : XK) (f c' : Addr), Room lev (A.deeper (LamX.lamEnv X scope s.heap.objs.size f c')) →
      PE (LamX.lamCx X A outer s H E scope f c') lb (fun σ H Q => ∃ G : Hp, rdE ⟨X.K, X.mg, ⟨fun _ => none, []⟩, G, fun c d _ H => E c d H⟩ (evE Γ body) σ H Q) := fun A outer s H E f c' r =>
    pe_any fun G => hb _ _ ⟨rfl, rfl, rfl, ft.nd, r, ft.one, L.kind, takes_of rfl rfl rfl rfl, ⟨ft.good.fns, ft.good.cons, ft.good.blt, ft.good.exc, ft.good.exm, ft.good.excf⟩, fun n => absurd rfl n⟩ rfl rfl rfl
  refine pe_mono (LamX.pe_lamcall (k := lev) (T := Z.pa.t) hg hm FD.kp lk hcd hbd Sg rfl (vis_ofL wl.1) (word_gives wf hmk) TB hcode (by rw [ht]; exact List.mem_cons_self) (fun q hq _ => by
      rw [ht] at hq
      cases List.mem_singleton.mp hq
      rfl) room L (by rfl) (fun _ _ _ _ _ => rfl) body_ok hdb wl.2.1 wl.2.2) fun σ H Q ⟨F, ρ, E, c⟩ => ?_
  have hn : Z.pa.t ≠ [] := by rw [ht]; exact List.cons_ne_nil _ _
  refine ⟨E.tb.tabs, fun H1 eN T1 => ⟨lamG F H1, F, hide ρ, by rw [ft.hK]; exact E.lamIn eN, ?_⟩⟩
  have cR : Cont Z (lV Z) σ F (match evE Γ body (hide ρ) with
    | .ok _ _ => .ok (sh (.str d)) ρ
    | .err e _ => if e.cls ∈ known then (match hs.lookup e.cls with
      | some w => .ok (sh (.str w)) ρ
      | none => .bad) else .bad
    | .bad => .bad) Q := by
    rw [evE] at c
    exact c
  rw [ft.hK, ft.hmg]
  cases q : evE Γ body (hide ρ) with
  | ok v ρ' =>
    rw [q] at cR
    intro v F2 H2 s E2 l
    exact cR (.str d) F2 H2 s (E.lamOut hn eN T1 s E2) (.str d)
  | bad =>
    rw [q] at cR
    exact cR.elim
  | err e ρ' =>
    rw [q] at cR
    intro F2 H2 cl xx s E2 r
    simp only at cR
    split at cR
    · rename_i he
      split at cR
      · rename_i w hw2
        refine wordsW_of (known := known) (fun y hy z hz => ?_) he r.1 (cR (.str w) F2 H2 s (E.lamOut hn eN T1 s E2) (.str w)) hks hw2
        have := ft.good.exm y (hk y hy) z (hk z hz)
        rw [ft.hK, ft.hmg] at this
        exact this
      · exact cR.elim
    · exact cR.elim
end PL
/-! PLDict: xs.count(n); a written dict asked at once. -/
namespace PL
open PySem L2 PySem.Spec PyProof.Rows
section
variable {X : Cx} {Z : Fx} {Γ : Gm} {lev : Nat} {T : Tab} {pos p apos : Pos}
theorem countD_of {d x : D} {n : Int} (h : countD d x = some n) : ∃ l k ns, d = .lst l ∧ x = .int k ∧ isInts l = some ns ∧ n = ((ns.count k : Nat) : Int) := by
  cases d with
  | lst l =>
    cases x with
    | int k =>
      obtain ⟨ns, e1, e2⟩ := Option.map_eq_some_iff.mp (show (isInts l).map (fun ns => ((ns.count k : Nat) : Int)) = some n from h)
      exact ⟨l, k, ns, rfl, rfl, e1, e2.symm⟩
    | _ => cases h
  | _ => cases h
theorem snd_count {a b : E} {x y : PySem.Expr} (ft : Fit X Z lev T Γ) (hn : nst y = true) (hb : ncall0 x = true) (hl : (apos.endLine == pos.line) = true) (ha : PE X x (rdR Z (opnd a (evE Γ a)))) (hy : PE X y (rdE Z (evE Γ b))) :
    PE X (.Call (.Attribute x "count" apos) [y] [] pos) (rdE Z (evE Γ (.count a b))) := by
  have few : ((backTo pos (starEach [y] X.env)).all (fun x => !x.1) && (backToKw pos (keywordEach [] X.env)).all (fun x => x.1.isSome)
      && decide (([y] : List PySem.Expr).length + ([] : List Keyword).length + (if ([] : List Keyword).isEmpty then 0 else 1) < 30)) = true := by
    rw [star_cons hn]; rfl
  refine pe_mono (pe_bm PySem.F.plainAttrs_list PySem.F.slot_list_count PySem.F.type_list_count (mt_lcount (X := X)) ha (pa_cons hy pa_nil (star_cons hn)) (nbase hb) few hl (star_cons hn) rfl) fun σ H Q ⟨F, ρ, E, c⟩ => ?_
  have hK := ft.hK
  obtain ⟨K, mg, pa, G, W⟩ := Z
  cases hK
  rw [evE] at c
  refine (Cont.bind E c).imp fun u H1 ⟨r, F1, ρ1, s1, E1, l1, c1⟩ => ?_
  obtain ⟨d, sd, c2⟩ := deref_seen E1 l1 c1
  obtain ⟨ds, rfl, c3⟩ := asLst_bind c2
  obtain ⟨aa, xs, rfl, sx, r1⟩ := seen_lst E1.fh sd
  refine ⟨Or.inl ⟨rfl, _, SqL.of sx⟩, (Cont.bind E1 c3).imp fun w H3 ⟨r', F3, ρ3, s3, E3, l3, c4⟩ => ?_⟩
  obtain ⟨F4, s4, E4, l4⟩ := E3.share l3
  obtain ⟨d2, sd2, c5⟩ := deref_seen E4 (RefR.mono (s3.trans s4) l1) (c4.mono s4)
  replace c5 := cont_opt c5
  obtain ⟨v, e, c6⟩ := c5
  obtain ⟨n, e1, e2⟩ := Option.map_eq_some_iff.mp e
  subst e2
  clear e
  obtain ⟨l, k, ns, rfl, hk, hi, rfl⟩ := countD_of e1
  obtain ⟨a2, ys, e3, sy, r2⟩ := seen_lst E4.fh sd2
  cases e3
  rw [hk] at l4
  cases l4
  obtain rfl := r2.ints hi
  exact ⟨aa, ns, k, rfl, rfl, SqL.of sy, cont_val c6 E4 (.int _)⟩
/-! ### a written dict asked at once -/
def keysB : List Str → List (Option PySem.Expr) → Bool
  | [], [] => true
  | k :: r, e :: kr => decide (keyAt e = some k) && keysB r kr
  | _, _ => false
theorem keysB_len : ∀ {ks : List Str} {keys : List (Option PySem.Expr)}, keysB ks keys = true → keys.length = ks.length ∧ keys.all (·.isSome) = true
  | [], [], _ => ⟨rfl, rfl⟩
  | [], _ :: _, h => by simp [keysB] at h
  | _ :: _, [], h => by simp [keysB] at h
  | k :: r, e :: kr, h => by
    simp only [keysB, Bool.and_eq_true, decide_eq_true_eq] at h
    obtain ⟨_, _, rfl⟩ := keyAt_of h.1
    obtain ⟨h1, h2⟩ := keysB_len h.2
    exact ⟨by simp [h1], by simpa using h2⟩
/-- the pairs' readings, whatever others hold -/
def trsE (Z : Fx) (Γ : Gm) : List Str → List E → List (TE × TE)
  | k :: ks, e :: es => (tC (.str k), fun σ H Q => ∃ G : Hp, rdE { Z with G := G } (evE Γ e) σ H Q) :: trsE Z Γ ks es
  | _, _ => []
theorem tPairs_vals {G : Hp} {σ : L2.St} : ∀ {ks : List Str} {vs : List E} {H : Hp} {Q' : List V → Hp → Prop} {Q : List (V × V) → Hp → Prop}, ks.length = vs.length → Rd { Z with G := G } (lDs { Z with G := G }) (evL Γ vs) σ H Q' → (∀ xs H', Q' xs H' → Q ((ks.map V.str).zip xs) H') → tPairs (trsE Z Γ ks vs) σ H Q
  | [], [], H, Q', Q, _, ⟨F, ρ, E, c⟩, h => by
    rw [evL] at c
    exact h [] H (c [] F H (Same.refl F) E .nil)
  | [], _ :: _, _, _, _, hl, _, _ => by simp at hl
  | _ :: _, [], _, _, _, hl, _, _ => by simp at hl
  | k :: ks, e :: vs, H, Q', Q, hl, ⟨F, ρ, E, c⟩, h => by
    rw [evL] at c
    show ∃ G0 : Hp, rdE { Z with G := G0 } (evE Γ e) σ H fun y H2 => tPairs (trsE Z Γ ks vs) σ H2 fun ps H3 => Q ((V.str k, y) :: ps) H3
    refine ⟨G, (Cont.bind E c).imp fun y H2 ⟨r, F1, ρ1, s1, E1, l1, c1⟩ => ?_⟩
    obtain ⟨F2, s2, E2, l2⟩ := E1.share l1
    refine tPairs_vals (Q' := fun xs H' => Q' (y :: xs) H') (by simpa using hl) ((Cont.bind E2 (c1.mono s2)).imp fun xs H3 ⟨ds, F3, ρ3, s3, E3, l3, c3⟩ => ?_) fun xs H' q => h (y :: xs) H' q
    exact c3 (y :: xs) F3 H3 (Same.refl F3) E3 (.cons (l2.mono s3) l3)
theorem zip_kV : ∀ {ks : List Str} {xs : List V}, ((ks.map V.str).zip xs) = ((ks.map fun k => (Sum.inr k : Key)).zip xs).map fun kv => (kV kv.1, kv.2)
  | [], xs => by simp
  | k :: ks, [] => by simp
  | k :: ks, x :: xs => by
    simp only [List.map_cons, List.zip_cons_cons, zip_kV (ks := ks) (xs := xs)]
    rfl
theorem val_lookupE {K : PySem.W.Frag} {F : Hp} {x : Str} : ∀ {ks : List Str} {xs : List V} {ds : List D}, Rps K F xs ds → match (ks.zip ds).lookup x with
    | some d => ∃ v, valV ((ks.map fun k => (Sum.inr k : Key)).zip xs) (.inr x) = some v ∧ Rp K F v d
    | none => valV ((ks.map fun k => (Sum.inr k : Key)).zip xs) (.inr x) = none
  | [], xs, ds, _ => by simp [valV]
  | k :: ks, _, _, .nil => by simp [valV]
  | k :: ks, v :: xs, d :: ds, .cons h r => by
    have ih := val_lookupE (x := x) (ks := ks) r
    unfold valV at ih ⊢
    rw [List.zip_cons_cons, List.map_cons, List.zip_cons_cons, List.find?_cons, List.lookup_cons]
    by_cases e : x = k
    · subst e
      simp
      exact h
    · have e2 : (x == k) = false := by simpa using e
      rw [e2]
      have e3 : decide ((Sum.inr k : Key) = Sum.inr x) = false := decide_eq_false fun q => e (Sum.inr.inj q).symm
      simp only [e3]
      exact ih
theorem fst_zip_sub {α β : Type} : ∀ (l : List α) (m : List β), List.Sublist ((l.zip m).map (·.1)) l
  | [], m => by simp
  | a :: l, [] => by simp
  | a :: l, b :: m => by
    rw [List.zip_cons_cons, List.map_cons]
    exact (fst_zip_sub l m).cons_cons a
/-- an object that is being built -/
theorem EnvOk.build {K : PySem.W.Frag} {pa : PaT} {F G H : Hp} {σ : L2.St} {ρ : Env} {p : Addr} {o : HO} (E : EnvOk K pa F G H σ ρ) (hp : H p = none) (n : notTab o) : EnvOk K pa F (upd G p o) (upd H p o) σ ρ := by
  have hF := E.fnone hp
  have hG := E.gnone hp
  have s := upd_same_of (o := o) hp
  refine ⟨E.fh.trans s, fun b u q => ?_, fun b u q => ?_, E.len, E.shr, fun i g d q ng => ?_, E.pin, E.dist, ⟨E.tb.tabs.ext s, E.tb.nt, fun n2 b ps q => ?_⟩⟩
  · by_cases hb : b = p
    · subst hb; rw [upd_same] at q; rw [upd_same]; exact q
    · rw [upd_ne hb] at q; rw [upd_ne hb]; exact E.gh b u q
  · have hb : b ≠ p := fun z => by subst z; rw [hF] at q; cases q
    rw [upd_ne hb]; exact E.fg b u q
  · obtain ⟨a, e, h1, h2, h3⟩ := E.own i g d q ng
    cases d with
    | lst ds =>
      obtain ⟨xs, e3, r⟩ := h3
      have ne := ne_of_none e3 hp
      exact ⟨a, e, h1, by rw [upd_ne ne]; exact h2, xs, by rw [upd_ne ne]; exact e3, r⟩
    | _ => exact h3.elim
  · by_cases hb : b = p
    · subst hb; rw [upd_same] at q; cases q; exact n
    · rw [upd_ne hb] at q; exact E.tb.gt n2 b ps q
/-- .. and stands -/
theorem EnvOk.built {K : PySem.W.Frag} {pa : PaT} {F G H : Hp} {σ : L2.St} {ρ : Env} {p : Addr} {kvs : List (Key × V)} {o : HO} (E : EnvOk K pa F (upd G p (.dK kvs)) H σ ρ) (hG : G p = none) (n : notTab o) : Same F (upd F p o) ∧ EnvOk K pa (upd F p o) G (upd H p o) σ ρ := by
  have hF : F p = none := by
    cases z : F p with
    | none => rfl
    | some u => have := E.fg p u z; rw [upd_same] at this; cases this
  have hH : H p = some (.dK kvs) := E.gh p _ upd_same
  have gp : ∀ b u, G b = some u → upd G p (.dK kvs) b = some u := fun b u q => by
    have hb : b ≠ p := fun z => by subst z; rw [hG] at q; cases q
    rw [upd_ne hb]; exact q
  have gn : ∀ b, upd G p (.dK kvs) b = none → G b = none ∧ b ≠ p := fun b q => by
    have hb : b ≠ p := fun z => by subst z; rw [upd_same] at q; cases q
    exact ⟨by rw [upd_ne hb] at q; exact q, hb⟩
  have s := upd_same_of (o := o) hF
  refine ⟨s, fun b u q => ?_, fun b u q => ?_, fun b u q => ?_, E.len, fun i d q => ?_, fun i g d q ng => ?_, E.pin, E.dist, ⟨fun q hq => ?_, fun b u q => ?_, fun n2 b ps q => E.tb.gt n2 b ps (gp b _ q)⟩⟩
  · by_cases hb : b = p
    · subst hb; rw [upd_same] at q ⊢; exact q
    · rw [upd_ne hb] at q ⊢; exact E.fh b u q
  · have hb : b ≠ p := fun z => by subst z; rw [hG] at q; cases q
    rw [upd_ne hb]; exact E.gh b u (gp b u q)
  · by_cases hb : b = p
    · subst hb; exact hG
    · rw [upd_ne hb] at q; exact (gn b (E.fg b u q)).1
  · obtain ⟨v, e, r⟩ := E.shr i d q
    exact ⟨v, e, r.mono s⟩
  · obtain ⟨a, e, h1, h2, h3⟩ := E.own i g d q ng
    obtain ⟨g1, ne⟩ := gn a h2
    cases d with
    | lst ds =>
      obtain ⟨xs, e3, r⟩ := h3
      exact ⟨a, e, by rw [upd_ne ne]; exact h1, g1, xs, by rw [upd_ne ne]; exact e3, r.mono s⟩
    | _ => exact h3.elim
  · obtain ⟨ps, h1, h2, h3⟩ := E.tb.tabs q hq
    refine ⟨ps, by rw [upd_ne (fun z => by rw [z, hH] at h1; cases h1)]; exact h1, h2, fun pos cv hc => ?_⟩
    obtain ⟨c, e1, e2⟩ := h3 pos cv hc
    exact ⟨c, e1, by rw [upd_ne (fun z => by rw [z, hH] at e2; unfold LamX.CodeO at e2; cases e2)]; exact e2⟩
  · by_cases hb : b = p
    · subst hb; rw [upd_same] at q; cases q; exact n
    · rw [upd_ne hb] at q; exact E.tb.nt b u q
theorem rd_gen {G : Hp} {f : M (List D)} {σ : L2.St} {H : Hp} {Q : List V → Hp → Prop} (h : Rd { Z with G := G } (lDs { Z with G := G }) f σ H Q) : ∃ F ρ, EnvOk Z.K Z.pa F G H σ ρ ∧ Cont { Z with G := G } (lDs { Z with G := G }) σ F (f ρ) Q := h
theorem snd_strGetE {ks : List Str} {vs : List E} {a dflt : E} {keys : List (Option PySem.Expr)} {values : List PySem.Expr} {x y : PySem.Expr} {p2 : Pos} (ft : Fit X Z lev T Γ) (hk : keysB ks keys = true) (hd : ks.Nodup) (h0 : ks ≠ []) (h15 : ks.length ≤ 15) (hv : ks.length = vs.length) (hvl : keys.length = values.length)
    (hl : (apos.endLine == pos.line) = true) (hn : nst x = true) (hn2 : nst y = true) (hp : PPs X p2 keys values (trsE Z Γ ks vs)) (ha : PE X x (rdE Z (evE Γ a))) (hy : PE X y (rdE Z (evE Γ dflt))) :
    PE X (.Call (.Attribute (.Dict keys values p2) "get" apos) [x, y] [] pos) (rdE Z (evE Γ (.strGetE ks vs a dflt))) := by
  obtain ⟨i1, i2⟩ := keysB_len hk
  have m : M2 X (.Dict keys values p2) "get" apos x y pos := ⟨rfl, by rw [star_cons hn, star_cons hn2] <;> rfl, hl, by rw [star_cons hn, star_cons hn2] <;> rfl⟩
  refine pe_mono (pe_dget2 (hu_of ft.room) (pe_disp hp i2 hvl (by intro e; rw [e] at i1; exact h0 (List.eq_nil_of_length_eq_zero i1.symm)) (by omega)) ha hy m) fun σ H Q ⟨F, ρ, E, c⟩ => ?_
  rw [evE] at c
  intro p hp
  have hG := E.gnone hp
  have E0 := E.build (o := .dK []) hp True.intro
  -- the values
  have c' : Cont Z (lV Z) σ F ((evL Γ vs >>= fun ds => evE Γ a >>= fun v => asStr v.d >>= fun x => evE Γ dflt >>= fun w => pure (sh (getD2 ks ds x w.d))) ρ) Q := c
  have vals : Rd { Z with G := upd Z.G p (.dK []) } (lDs { Z with G := upd Z.G p (.dK []) }) (evL Γ vs) σ (upd H p (.dK [])) (fun xs H1 => ∃ ds F1 ρ1, Same F F1 ∧ EnvOk Z.K Z.pa F1 (upd Z.G p (.dK [])) H1 σ ρ1 ∧ Rps Z.K F1 xs ds ∧ Cont Z (lV Z) σ F1 ((evE Γ a >>= fun v => asStr v.d >>= fun x => evE Γ dflt >>= fun w => pure (sh (getD2 ks ds x w.d))) ρ1) Q) := by
    refine ⟨F, ρ, E0, ?_⟩
    cases q : evL Γ vs ρ with
    | ok ds ρ1 =>
      rw [bind_ok q] at c'
      exact fun xs F1 H1 s E1 l => ⟨ds, F1, ρ1, s, E1, l, c'.mono s⟩
    | err e ρ1 =>
      rw [bind_err q] at c'
      intro F1 H1 cl d s E1 l
      exact c' F1 H1 cl d s (EnvOk.less E1 (upd_same_of hG)) l
    | bad => rw [bind_bad q] at c'; exact c'.elim
  refine tPairs_vals hv vals fun xs H1 ⟨ds, F1, ρ1, s1, E1, l1, c1⟩ => ?_
  have hlen : xs.length = ds.length := l1.length
  refine ⟨E1.gh p _ upd_same, (ks.map fun k => (Sum.inr k : Key)).zip xs, zip_kV, by rw [List.length_zip, List.length_map]; omega, ?_⟩
  obtain ⟨s0, E2⟩ := E1.built (o := .dK (mergeK [] ((ks.map fun k => (Sum.inr k : Key)).zip xs))) hG True.intro
  refine ⟨p, rfl, .inl ⟨_, .inl upd_same⟩, (Cont.bind E2 (c1.mono s0)).imp fun w H3 ⟨r', F3, ρ3, s3, E3, l3, c3⟩ => ?_⟩
  obtain ⟨F4, s4, E4, l4⟩ := E3.share l3
  obtain ⟨z, ez, c4⟩ := asStr_bind c3
  rw [ez] at l4
  cases l4
  refine (Cont.bind E4 (c4.mono s4)).imp fun w2 H5 ⟨r5, F5, ρ5, s5, E5, l5, c5⟩ => ?_
  obtain ⟨F6, s6, E6, l6⟩ := E5.share l5
  have hH : H5 p = some (.dK (mergeK [] ((ks.map fun k => (Sum.inr k : Key)).zip xs))) := E6.fh p _ (s6 _ _ (s5 _ _ (s4 _ _ (s3 _ _ upd_same))))
  refine ⟨_, DGet.k (k := .inr z) hH, ?_⟩
  have nd : ((([] : List (Key × V)) ++ (ks.map fun k => (Sum.inr k : Key)).zip xs).map (·.1)).Nodup := by
    rw [List.nil_append]
    have sub : List.Sublist (((ks.map fun k => (Sum.inr k : Key)).zip xs).map (·.1)) (ks.map fun k => (Sum.inr k : Key)) := by
      exact fst_zip_sub _ _
    refine List.Nodup.sublist sub ?_
    exact List.Pairwise.map _ (fun a b ne q => ne (Sum.inr.inj q)) hd
  rw [merge_fresh nd, List.nil_append]
  have l1' : Rps Z.K F6 xs ds := (((((l1.mono s0).mono s3).mono s4).mono s5).mono s6)
  have key := val_lookupE (x := z) (ks := ks) l1'
  have q := fun (v : V) (h : Rp Z.K F6 v (getD2 ks ds z r5.d)) => cont_val (c5.mono s6) E6 h
  unfold getD2 at q
  cases e : (ks.zip ds).lookup z with
  | none =>
    rw [e] at q key
    rw [key]
    exact q _ l6
  | some d =>
    rw [e] at q key
    obtain ⟨v, k1, k2⟩ := key
    rw [k1]
    exact q _ k2
end
end PL
/-! PLChk: the text against what is written in E and S. -/
namespace PL
open PySem L2 PySem.Spec PyProof.Rows
structure Ck where
  N : List Str
  T : Tab
  sc : Scope
  raw : Option Scope
def Ck.fnB (c : Ck) (x : Str) : Bool := match c.raw with
  | none => true
  | some s => s.names.lookup x == some .cell
/-- the checker's context is the body's -/
structure FitC (c : Ck) (X : Cx) : Prop where
  n : X.N = c.N
  sc : X.env.scope = c.sc
  fn : X.fn = c.fnB
def visB (sc : Scope) (x : Str) : Bool := match sc.names.lookup x with
  | some .local => true
  | some .cell => true
  | some .free => true
  | _ => false
def ndb2 (x : Str) : Bool := !(x == ("__debug__" : Str)) && !(x == ("__classdict__" : Str))
def isNm : PySem.Expr → Option Str
  | .Name x _ => some x
  | _ => none
def nameAt (c : Ck) (i : Nat) (a : PySem.Expr) : Bool := match isNm a with
  | some x => decide (c.N[i]? = some x) && visB c.sc x && ndb2 x
  | none => false
def globB (c : Ck) (x : Str) : Bool := decide (c.sc.names.lookup x = some .globalImplicit)
def bltB (c : Ck) (x : Str) : Bool := globB c x && decide (x ∈ c.T.blt)
def storB (c : Ck) (i : Nat) (x : Str) : Bool := decide (c.N[i]? = some x) && locB c.sc x && (c.fnB x || decide (c.sc.names.lookup x = some .local))
def Ck.blk (c : Ck) (s : Scope) : Ck := ⟨c.N, c.T, relS s c.sc, some s⟩
def ownOf (c : Ck) (own : List Nat) : List (Str × Nat) := own.map fun i => (c.N.getD i "", i)
def plainB (t : Bool) (a : PySem.Expr) : Bool := !t || plainT a
def isTup : PySem.Expr → Bool
  | .Tuple .. => true
  | _ => false
mutual
def chkTg (c : Ck) : Tg → PySem.Expr → Bool
  | .nm i, a => match a with
    | .Name x _ => storB c i x
    | _ => false
  | .tup ts, a => match a with
    | .Tuple as _ _ => decide (ts.length = as.length) && chkTgs c ts as
    | _ => false
def chkTgs (c : Ck) : List Tg → List PySem.Expr → Bool
  | [], [] => true
  | t :: ts, a :: as => nst a && chkTg c t a && chkTgs c ts as
  | _, _ => false
end
def noPar : Arguments → Bool
  | ⟨[], [], none, [], [], none, []⟩ => true
  | _ => false
/-- a loop's source, from the checks of its parts -/
def chkSrc (c : Ck) (f1 f2 : PySem.Expr → Bool) (no : Bool) (sk : Nat) (a : PySem.Expr) (tp : Bool) : Bool := match sk with
  | 0 => no && f1 a
  | 1 => (match a with
    | .Call (.Name x _) [y] [] _ => no && decide (x = ("range" : Str)) && bltB c x && nst y && f1 y
    | _ => false)
  | 2 => (match a with
    | .Call (.Name x _) [y, z] [] _ => decide (x = ("range" : Str)) && bltB c x && nst y && nst z && f1 y && f2 z
    | _ => false)
  | 3 => (match a with
    | .Call (.Name x _) [y] [] _ => tp && no && decide (x = ("enumerate" : Str)) && bltB c x && nst y && f1 y
    | _ => false)
  | 4 => (match a with
    | .Call (.Name x _) [y, z] [] _ => tp && decide (x = ("zip" : Str)) && bltB c x && nst y && nst z && f1 y && f2 z
    | _ => false)
  | _ => false
mutual
def chk (c : Ck) (t : Bool) : E → PySem.Expr → Bool
  | .var i, a => plainB t a && nameAt c i a
  | .mov i, a => plainB t a && nameAt c i a
  | .pk i, a => !t && nameAt c i a
  | .io i, a => !t && nameAt c i a
  | .int i, a => !t && match a with
    | .Constant (.int j) _ _ => decide (i = j)
    | _ => false
  | .str x, a => !t && match a with
    | .Constant (.str y) _ _ => decide (x = y)
    | _ => false
  | .bl b, a => plainB t a && match a with
    | .Constant (.bool k) _ _ => decide (b = k)
    | _ => false
  | .non, a => !t && match a with
    | .Constant .none _ _ => true
    | _ => false
  | .con g, a => plainB t a && match a with
    | .Name x _ => decide (c.T.cons[g]? = some x) && globB c x && ndb2 x
    | _ => false
  | .tup es, a => !t && match a with
    | .Tuple as _ _ => chkL c es as
    | _ => false
  | .lst es, a => !t && match a with
    | .List as _ => chkL c es as
    | _ => false
  | .bin op p q, a => !t && match a with
    | .BinOp x o y _ => decide (o = opB op) && chk c false p x && chk c false q y
    | _ => false
  | .neg p, a => !t && match a with
    | .UnaryOp o x _ => decide (o = .USub) && chk c false p x
    | _ => false
  | .cmp op p q, a => match a with
    | .Compare x [o] [y] _ => decide (o = opC op) && chk c false p x && chk c false q y
    | _ => false
  | .chain op op' p q r, a => match a with
    | .Compare x [o, o'] [y, z] _ => decide (o = opC op) && decide (o' = opC op') && chk c false p x && chk c false q y && chk c false r z
    | _ => false
  | .isN n p, a => match a with
    | .Compare x [o] [.Constant .none _ _] _ => decide (o = if n then .IsNot else .Is) && chk c false p x
    | _ => false
  | .isB n p q, a => match a with
    | .Compare x [o] [y] _ => decide (o = if n then .IsNot else .Is) && nset y && chk c false p x && chk c false q y
    | _ => false
  | .mem n p q, a => match a with
    | .Compare x [o] [y] _ => decide (o = if n then .NotIn else .In) && nset y && chk c false p x && chk c false q y
    | _ => false
  | .and p q, a => match a with
    | .BoolOp .And (x :: y :: r) pos => chk c t p x && (match r with
      | [] => chk c t q y
      | z :: r => chk c t q (.BoolOp .And (y :: z :: r) pos))
    | _ => false
  | .or p q, a => match a with
    | .BoolOp .Or (x :: y :: r) pos => chk c t p x && (match r with
      | [] => chk c t q y
      | z :: r => chk c t q (.BoolOp .Or (y :: z :: r) pos))
    | _ => false
  | .not p, a => match a with
    | .UnaryOp .Not x _ => chk c t p x
    | _ => false
  | .ite k p q, a => !t && match a with
    | .IfExp x y z _ => chk c true k x && chk c false p y && chk c false q z
    | _ => false
  | .ix p i, a => match a with
    | .Subscript x y _ => nslice y && chk c false p x && chk c false i y
    | _ => false
  | .cut p lo hi, a => match a with
    | .Subscript x (.Slice xl xh none _) _ => chk c false p x && chkO c lo xl && chkO c hi xh
    | _ => false
  | .rev p, a => match a with
    | .Subscript x (.Slice none none (some (.UnaryOp .USub (.Constant (.int 1) _ _) _)) _) _ => chk c false p x
    | _ => false
  | .call f es, a => match a with
    | .Call (.Name x _) (y :: ys) [] _ => (match c.T.fns[f]? with
      | some (x', mask) => decide (x = x') && decide (es.map E.ioB = mask) && globB c x && !(x == ("__debug__" : Str)) && (y :: ys).all nst && chkA c es (y :: ys)
      | none => false)
    | _ => false
  | .lamc d known hs body, a => !t && match a with
    | .Call (.Name x _) [.Lambda params lb scope _] [] _ => decide ((x, d, known, hs) ∈ c.T.words) && globB c x && !(x == ("__debug__" : Str)) && noPar params && LamX.lamSB c.sc scope && known.all (fun y => decide (y ∈ c.T.known)) && hs.all (fun p => decide (p.1 ∈ known)) && chk ⟨c.N, { c.T with words := [] }, scope, some scope⟩ false body lb
    | _ => false
  | .callV i tbl es, a => match a with
    | .Call (.Name x _) (y :: ys) [] _ => decide (c.N[i]? = some x) && visB c.sc x && ndb2 x && (tbl.all fun p => match c.T.fns[p.2]? with
        | some (x', mask) => decide (p.1 = x') && decide (es.map E.ioB = mask)
        | none => false) && (y :: ys).all nst && chkA c es (y :: ys)
    | _ => false
  | .b1 b p, a => match a with
    | .Call (.Name x _) [y] [] _ => decide (x = nmB1 b) && bltB c x && nst y && chk c false p y
    | _ => false
  | .b2 b p q, a => match a with
    | .Call (.Name x _) [y, z] [] _ => decide (x = nmB2 b) && bltB c x && nst y && nst z && chk c false p y && chk c false q z
    | _ => false
  | .max3 p q r, a => match a with
    | .Call (.Name x _) [y, z, w] [] _ => decide (x = ("max" : Str)) && bltB c x && nst y && nst z && nst w && chk c false p y && chk c false q z && chk c false r w
    | _ => false
  | .isi ty p, a => match a with
    | .Call (.Name x _) [y, .Name z _] [] _ => decide (x = ("isinstance" : Str)) && decide (z = nmTyS ty) && bltB c x && bltB c z && nst y && chk c false p y
    | _ => false
  | .rng p, a => !t && match a with
    | .Call (.Name x _) [.Call (.Name z _) [y] [] _] [] _ => decide (x = ("list" : Str)) && decide (z = ("range" : Str)) && bltB c x && bltB c z && nst y && chk c false p y
    | _ => false
  | .rngT _, _ => false
  | .comp own tg sk s1 s2 cnd elt, a => !t && match a with
    | .ListComp y [⟨tgA, iter, ifs, 0⟩] scope _ => blkC c.N c.sc scope (ownOf c own) && nset iter && tg.slots.all (fun i => decide (i ∈ own)) && chkSrc c (fun z => chk c false s1 z) (fun z => chkO c s2 (some z)) s2.isNone sk iter (isTup tgA) && chkTg (c.blk scope) tg tgA && chkC (c.blk scope) cnd ifs && chk (c.blk scope) false elt y
    | _ => false
  | .comp2 .., _ => false
  | .join p q, a => !t && match a with
    | .Call (.Attribute x f apos) [y] [] pos => decide (f = ("join" : Str)) && (apos.endLine == pos.line) && nst y && ncall0 x && chk c false p x && chk c false q y
    | _ => false
  | .split p q, a => !t && match a with
    | .Call (.Attribute x f apos) [y] [] pos => decide (f = ("split" : Str)) && (apos.endLine == pos.line) && nst y && ncall0 x && chk c false p x && chk c false q y
    | _ => false
  | .index p q, a => !t && match a with
    | .Call (.Attribute x f apos) [y] [] pos => decide (f = ("index" : Str)) && (apos.endLine == pos.line) && nst y && ncall0 x && chk c false p x && chk c false q y
    | _ => false
  | .count p q, a => !t && match a with
    | .Call (.Attribute x f apos) [y] [] pos => decide (f = ("count" : Str)) && (apos.endLine == pos.line) && nst y && ncall0 x && chk c false p x && chk c false q y
    | _ => false
  | .strGetE ks vs p dflt, a => !t && match a with
    | .Call (.Attribute (.Dict keys values _) f apos) [x, y] [] pos => decide (f = ("get" : Str)) && keysB ks keys && decide (ks.Nodup) && !ks.isEmpty && decide (ks.length ≤ 15) && decide (ks.length = vs.length) && decide (keys.length = values.length) && (apos.endLine == pos.line) && nst x && nst y && chkL c vs values && chk c false p x && chk c false dflt y
    | _ => false
  | .strGet ks p dflt, a => !t && match a with
    | .Call (.Attribute (.Dict keys values _) f apos) [x, .Constant (.int d) _ _] [] pos => decide (f = ("get" : Str)) && decide (d = dflt) && keysOk ks keys values && decide ((ks.map (·.1)).Nodup) && !ks.isEmpty && decide (ks.length ≤ 15) && (apos.endLine == pos.line) && nst x && chk c false p x
    | _ => false
def chkL (c : Ck) : List E → List PySem.Expr → Bool
  | [], as => as.isEmpty
  | e :: es, as => match as with
    | a :: as => nst a && chk c false e a && chkL c es as
    | [] => false
def chkO (c : Ck) : Option E → Option PySem.Expr → Bool
  | none, o => o.isNone
  | some e, o => match o with
    | some a => chk c false e a
    | none => false
def chkC (c : Ck) : Option E → List PySem.Expr → Bool
  | none, as => as.isEmpty
  | some e, as => match as with
    | [a] => chk c true e a
    | _ => false
def chkA (c : Ck) : List E → List PySem.Expr → Bool
  | [], as => as.isEmpty
  | e :: es, as => match as with
    | a :: as => nst a && chk c false e a && chkA c es as
    | [] => false
end
end PL
/-! PLChk2: the check is sound, of what is computed. -/
namespace PL
open PySem L2 PySem.Spec PyProof.Rows
def PXt (X : Cx) (a : PySem.Expr) (t : TT) : Prop := match a with
  | .BoolOp .. => PW X a t
  | _ => PT X a t
theorem PXt.pt {X : Cx} {a : PySem.Expr} {t : TT} (h : PXt X a t) : PT X a t := by
  cases a <;> first | exact h | exact PW.pt h
def Snd (X : Cx) (Z : Fx) (Γ : Gm) (t : Bool) (e : E) (a : PySem.Expr) : Prop := match t with
  | false => PE X a (rdE Z (evE Γ e))
  | true => PXt X a (rdB Z (evE Γ e >>= asBl))
section
variable {X : Cx} {Z : Fx} {Γ : Gm} {lev : Nat} {T : Tab} {pos p : Pos} {c : Ck} {t : Bool}
theorem snd_plain {e : E} {a : PySem.Expr} (h : PE X a (rdE Z (evE Γ e))) (hp : plainB t a = true) : Snd X Z Γ t e a := by
  cases t with
  | false => exact h
  | true =>
    have hp' : plainT a = true := by simpa [plainB] using hp
    have q := pt_plain h hp'
    show PXt X a _
    cases a <;> first | exact q | cases hp'
theorem not_t {t : Bool} (h : (!t) = true) : t = false := by simpa using h
theorem ndb2_of {x : Str} (h : ndb2 x = true) : (x == ("__debug__" : Str)) = false ∧ (x == ("__classdict__" : Str)) = false := by
  unfold ndb2 at h
  simpa [Bool.and_eq_true] using h
theorem vis_of {sc : Scope} {x : Str} (h : visB sc x = true) : Vis sc x := by
  unfold visB at h
  unfold Vis
  split at h <;> simp_all
theorem loc_of {sc : Scope} {x : Str} (h : locB sc x = true) : L2.Loc sc x := by
  unfold locB at h
  unfold L2.Loc
  split at h <;> simp_all
theorem nameAt_snd {i : Nat} {a : PySem.Expr} (fc : FitC c X) (h : nameAt c i a = true) : PE X a (tVar i) := by
  unfold nameAt at h
  split at h
  · rename_i x hx
    unfold isNm at hx
    split at hx
    · cases hx
      simp only [Bool.and_eq_true, decide_eq_true_eq] at h
      obtain ⟨⟨h1, h2⟩, h3⟩ := h
      obtain ⟨d1, d2⟩ := ndb2_of h3
      exact pe_var (by rw [fc.n]; exact h1) (by rw [fc.sc]; exact vis_of h2) d1 d2
    · cases hx
  · cases h
theorem glob_of {x : Str} (fc : FitC c X) (h : globB c x = true) : Gl X x := by
  unfold globB at h
  show X.env.scope.names.lookup x = _
  rw [fc.sc]
  exact of_decide_eq_true h
theorem blt_of {x : Str} (ft : Fit X Z lev c.T Γ) (fc : FitC c X) (h : bltB c x = true) : Gl X x ∧ X.mg x = none := by
  unfold bltB at h
  simp only [Bool.and_eq_true, decide_eq_true_eq] at h
  exact ⟨glob_of fc h.1, ft.good.blt x h.2⟩
theorem stor_of {i : Nat} {x : Str} (fc : FitC c X) (h : storB c i x = true) : X.N[i]? = some x ∧ L2.Loc X.env.scope x ∧ (X.fn x = true ∨ X.env.scope.names.lookup x = some .local) := by
  unfold storB at h
  simp only [Bool.and_eq_true, decide_eq_true_eq, Bool.or_eq_true] at h
  rw [fc.n, fc.sc, fc.fn]
  exact ⟨h.1.1, loc_of h.1.2, h.2⟩
theorem opnd_chk {a : E} {x : PySem.Expr} (fc : FitC c X) (h : chk c false a x = true) (ih : PE X x (rdE Z (evE Γ a))) : PE X x (rdR Z (opnd a (evE Γ a))) :=
  opnd_snd (fun i q => by
    cases a with
    | pk j =>
      cases q
      rw [chk] at h
      simp only [Bool.and_eq_true] at h
      exact nameAt_snd fc h.2
    | _ => cases q) fun _ => ih
theorem sndT_cmp {op : Cop} {a b : E} {x y : PySem.Expr} (ft : Fit X Z lev T Γ) (ha : PE X x (rdR Z (opnd a (evE Γ a)))) (hb : PE X y (rdR Z (opnd b (evE Γ b)))) : PT X (.Compare x [opC op] [y] pos) (rdB Z (evE Γ (.cmp op a b) >>= asBl)) :=
  pt_cmpv (op_cmpD ft.hK ft.units op) ha hb (by cases op <;> exact nomark _) fun σ H Q h => by
    rw [evE] at h
    exact two_opnds σ H Q h
theorem sndT_mem {n : Bool} {a b : E} {x y : PySem.Expr} (ft : Fit X Z lev T Γ) (hn : nset y = true) (ha : PE X x (rdE Z (evE Γ a))) (hb : PE X y (rdR Z (opnd b (evE Γ b)))) : PT X (.Compare x [if n then .NotIn else .In] [y] pos) (rdB Z (evE Γ (.mem n a b) >>= asBl)) :=
  pt_cmpv (op_memD ft.hK ft.units n) ha hb (nmark hn) fun σ H Q h => by
    rw [evE] at h
    exact val_opnd (f := fun x d => M.opt ((memv x d).map fun b => sh (.bl (b != n)))) σ H Q h
theorem sndT_isN {n : Bool} {a : E} {x : PySem.Expr} {k : Nat} {p2 : Pos} (hK : X.K = Z.K) (ha : PE X x (rdR Z (opnd a (evE Γ a)))) : PT X (.Compare x [if n then .IsNot else .Is] [.Constant .none k p2] pos) (rdB Z (evE Γ (.isN n a) >>= asBl)) :=
  pt_cmpv (op_isND hK n) ha pe_non rfl fun σ H Q h => by
    rw [evE] at h
    refine (one_opnd (f := fun d => pure (sh (.bl (match d with
      | .non => !n
      | _ => n)))) σ H Q h).imp fun x H1 q => ?_
    exact ⟨rfl, q⟩
theorem sndT_isB {n : Bool} {a b : E} {x y : PySem.Expr} (hn : nset y = true) (ha : PE X x (rdE Z (evE Γ a))) (hb : PE X y (rdE Z (evE Γ b))) : PT X (.Compare x [if n then .IsNot else .Is] [y] pos) (rdB Z (evE Γ (.isB n a b) >>= asBl)) :=
  pt_cmpv (op_isBD n) ha hb (nmark hn) fun σ H Q h => by
    rw [evE] at h
    exact two_vals (f := fun x y => asBl (sh x) >>= fun p => asBl (sh y) >>= fun q => pure (sh (.bl ((p == q) != n)))) σ H Q h
theorem snd_max3 {a b d : E} {x y z : PySem.Expr} (ft : Fit X Z lev T Γ) (hg : Gl X "max") (hm : X.mg "max" = none) (hn : nst x = true) (hn2 : nst y = true) (hn3 : nst z = true) (ha : PE X x (rdE Z (evE Γ a))) (hb : PE X y (rdE Z (evE Γ b))) (hd : PE X z (rdE Z (evE Γ d))) :
    PE X (.Call (.Name "max" p) [x, y, z] [] pos) (rdE Z (evE Γ (.max3 a b d))) := by
  have pa := pa_cons ha (pa_cons hb (pa_cons hd pa_nil (star_cons (es := []) hn3)) (star_cons hn2)) (star_cons hn)
  have st : (backTo pos (starEach [y, z] X.env)).any (·.1) = false := star_any (es := [y, z]) (by simp [hn2, hn3])
  refine pe_mono (pe_callB (id := "max") (call_max3Nu ft.calm) hg hm (boot_B2 .max) pa (by decide) (by decide) (star_cons hn) st) fun σ H Q ⟨F, ρ, E, c⟩ => ?_
  rw [evE] at c
  refine (Cont.bind E c).imp fun v H1 ⟨r1, F1, ρ1, s1, E1, l1, c1⟩ => ?_
  refine (Cont.bind E1 c1).imp fun u H2 ⟨r2, F2, ρ2, s2, E2, l2, c2⟩ => ?_
  refine (Cont.bind E2 c2).imp fun t H3 ⟨r3, F3, ρ3, s3, E3, l3, c3⟩ => ?_
  obtain ⟨q, e, c4⟩ := cont_opt c3
  have nat : ∀ {r : Vl} {v : V} {F G H : Hp} {ρ : Env} {i : Int}, Res Z.K F G H σ ρ v r → r.d = .int i → v = .int i := fun {r v F G H ρ i} l e => by
    obtain ⟨o, d⟩ := r
    cases e
    cases o with
    | false =>
      have l' : Rp Z.K F v (.int i) := l
      cases l'; rfl
    | true =>
      obtain ⟨a, _, ⟨_, _, z⟩, _⟩ := l
      exact z.elim
  unfold max3 at e
  split at e
  · rename_i i j k h1 h2 h3
    cases e
    cases nat l1 h1
    cases nat l2 h2
    cases nat l3 h3
    refine ⟨.int i, .int j, .int k, .int (max (max i j) k), rfl, ?_, cont_val c4 E3 (.int _)⟩
    show ((some (decide (i < j))).map fun c => if c = true then V.int j else V.int i).bind (fun m => nuMax2 m (.int k)) = _
    have e1 : (if decide (i < j) = true then V.int j else V.int i) = V.int (max i j) := by
      by_cases h : i < j
      · rw [if_pos (decide_eq_true h), show max i j = j by omega]
      · rw [if_neg (by simpa using h), show max i j = i by omega]
    show nuMax2 (if decide (i < j) = true then V.int j else V.int i) (.int k) = _
    rw [e1]
    show some (if decide (max i j < k) = true then V.int k else V.int (max i j)) = _
    by_cases h : max i j < k
    · rw [if_pos (decide_eq_true h), show max (max i j) k = k by omega]
    · rw [if_neg (by simpa using h), show max (max i j) k = max i j by omega]
  · cases e
mutual
theorem chkTg_snd : ∀ (tg : Tg) (c : Ck) (a : PySem.Expr) (X : Cx) (Z : Fx), X.N.Nodup → X.K = Z.K → X.calm = true → FitC c X → chkTg c tg a = true → PG X a (rdG Z tg.slots (asgTg tg))
  | .nm i, c, a, X, Z, nd, hK, hc, fc, h => by
    unfold chkTg at h
    try dsimp only at h
    split at h
    · obtain ⟨h1, h2, h3⟩ := stor_of fc h
      exact sndG_nm nd h1 h2 h3
    · cases h
  | .tup ts, c, a, X, Z, nd, hK, hc, fc, h => by
    unfold chkTg at h
    try dsimp only at h
    split at h
    · simp only [Bool.and_eq_true, decide_eq_true_eq] at h
      obtain ⟨h1, h2⟩ := h
      obtain ⟨q, r⟩ := chkTgs_snd ts c _ X Z nd hK hc fc h2
      exact sndG_tup hK hc h1 r q
    · cases h
theorem chkTgs_snd : ∀ (ts : List Tg) (c : Ck) (as : List PySem.Expr) (X : Cx) (Z : Fx), X.N.Nodup → X.K = Z.K → X.calm = true → FitC c X → chkTgs c ts as = true → PGs X as (rdGs Z (slotsTg ts) (asgTgs ts)) ∧ as.all nst = true
  | [], c, [], X, Z, nd, hK, hc, fc, h => ⟨sndGs_nil, rfl⟩
  | [], c, _ :: _, X, Z, nd, hK, hc, fc, h => by simp [chkTgs] at h
  | _ :: _, c, [], X, Z, nd, hK, hc, fc, h => by simp [chkTgs] at h
  | t :: ts, c, a :: as, X, Z, nd, hK, hc, fc, h => by
    rw [chkTgs] at h
    simp only [Bool.and_eq_true] at h
    obtain ⟨⟨h1, h2⟩, h3⟩ := h
    obtain ⟨q, r⟩ := chkTgs_snd ts c as X Z nd hK hc fc h3
    exact ⟨sndGs_cons h1 (chkTg_snd t c a X Z nd hK hc fc h2) q, by rw [List.all_cons, h1, r]; rfl⟩
end
theorem bindO {a : E} : (evO Γ (some a)) = (evE Γ a >>= fun v => pure (some v.d)) := by rw [evO]
theorem chkSrc_snd {sk : Nat} {s1 : E} {s2 : Option E} {a tgA : PySem.Expr} {f1 f2 : PySem.Expr → Bool} (ft : Fit X Z lev c.T Γ) (fc : FitC c X) (h : chkSrc c f1 f2 s2.isNone sk a (isTup tgA) = true)
    (h1 : ∀ z, f1 z = true → PE X z (rdE Z (evE Γ s1))) (h2 : ∀ z, f2 z = true → ∃ b, s2 = some b ∧ PE X z (rdE Z (evE Γ b))) : PI X tgA a (rdI Z (evSrc Γ sk s1 s2)) := by
  unfold chkSrc at h
  split at h
  · simp only [Bool.and_eq_true, Option.isNone_iff_eq_none] at h
    obtain ⟨rfl, h⟩ := h
    exact sndI_seq ft.hK (h1 _ h)
  · split at h
    · simp only [Bool.and_eq_true, Option.isNone_iff_eq_none, decide_eq_true_eq] at h
      obtain ⟨⟨⟨⟨rfl, rfl⟩, hb⟩, hn⟩, h⟩ := h
      obtain ⟨g, m⟩ := blt_of ft fc hb
      exact sndI_rng1 g m hn (h1 _ h)
    · cases h
  · split at h
    · simp only [Bool.and_eq_true, decide_eq_true_eq] at h
      obtain ⟨⟨⟨⟨⟨rfl, hb⟩, hn⟩, hn2⟩, h⟩, k⟩ := h
      obtain ⟨g, m⟩ := blt_of ft fc hb
      obtain ⟨b, rfl, kb⟩ := h2 _ k
      exact sndI_rng2 g m hn hn2 (h1 _ h) kb
    · cases h
  · split at h
    · simp only [Bool.and_eq_true, Option.isNone_iff_eq_none, decide_eq_true_eq] at h
      obtain ⟨⟨⟨⟨⟨ht, rfl⟩, rfl⟩, hb⟩, hn⟩, h⟩ := h
      obtain ⟨g, m⟩ := blt_of ft fc hb
      cases tgA with
      | Tuple es k tp => exact sndI_enum ft.hK g m hn (h1 _ h)
      | _ => cases ht
    · cases h
  · split at h
    · simp only [Bool.and_eq_true, decide_eq_true_eq] at h
      obtain ⟨⟨⟨⟨⟨⟨ht, rfl⟩, hb⟩, hn⟩, hn2⟩, h⟩, k⟩ := h
      obtain ⟨g, m⟩ := blt_of ft fc hb
      obtain ⟨b, rfl, kb⟩ := h2 _ k
      cases tgA with
      | Tuple es k tp => exact sndI_zip ft.hK g m hn hn2 (h1 _ h) kb
      | _ => cases ht
    · cases h
  · cases h
theorem FitC.blk (fc : FitC c X) {scope : Scope} {s : Shared} {H : Hp} {C : Addr} {cl : List (Str × Addr)} {fp : List Addr} : FitC (c.blk scope) (X.blk s H scope (compEnvC scope cl C X.env) fp) where
  n := fc.n
  sc := by
    show relabel scope X.env = relS scope c.sc
    rw [← fc.sc]
    rfl
  fn := rfl
theorem ownOf_snd (own : List Nat) : (ownOf c own).map (·.2) = own := by
  unfold ownOf
  rw [List.map_map]
  exact List.map_id _
/-- an item list, an argument list -/
theorem isNone_io {e : E} {i : Nat} (h : e.isIo = some i) : e = .io i ∧ e.peek = none := by
  cases e with
  | io j => cases h; exact ⟨rfl, rfl⟩
  | _ => cases h
theorem isPk {e : E} {i : Nat} (h : e.peek = some i) : e = .pk i := by
  cases e with
  | pk j => cases h; rfl
  | _ => cases h
end
section
variable {Γ : Gm} {lev : Nat}
mutual
theorem chk_snd : ∀ (e : E) (c : Ck) (t : Bool) (a : PySem.Expr) (X : Cx) (Z : Fx), Fit X Z lev c.T Γ → FitC c X → chk c t e a = true → Snd X Z Γ t e a
  | .var i, c, t, a, X, Z, ft, fc, h => by
    unfold chk at h
    try dsimp only at h
    rw [Bool.and_eq_true] at h
    exact snd_plain (pe_mono (nameAt_snd fc h.2) fun σ H Q q => rd_var σ H Q (by rw [evE] at q; exact q)) h.1
  | .mov i, c, t, a, X, Z, ft, fc, h => by
    unfold chk at h
    try dsimp only at h
    rw [Bool.and_eq_true] at h
    exact snd_plain (pe_mono (nameAt_snd fc h.2) fun σ H Q q => rd_mov σ H Q (by rw [evE] at q; exact q)) h.1
  | .pk i, c, t, a, X, Z, ft, fc, h => by
    unfold chk at h
    try dsimp only at h
    rw [Bool.and_eq_true] at h
    cases not_t h.1
    exact pe_mono (nameAt_snd fc h.2) fun σ H Q ⟨F, ρ, E, q⟩ => by
      rw [evE] at q
      exact q.elim
  | .io i, c, t, a, X, Z, ft, fc, h => by
    unfold chk at h
    try dsimp only at h
    rw [Bool.and_eq_true] at h
    cases not_t h.1
    exact pe_mono (nameAt_snd fc h.2) fun σ H Q ⟨F, ρ, E, q⟩ => by
      rw [evE] at q
      exact q.elim
  | .int i, c, t, a, X, Z, ft, fc, h => by
    unfold chk at h
    try dsimp only at h
    rw [Bool.and_eq_true] at h
    cases not_t h.1
    replace h := h.2
    split at h
    · cases of_decide_eq_true h
      exact snd_const (by rw [evE]) (fun F => .int _) pe_int
    · cases h
  | .str x, c, t, a, X, Z, ft, fc, h => by
    unfold chk at h
    try dsimp only at h
    rw [Bool.and_eq_true] at h
    cases not_t h.1
    replace h := h.2
    split at h
    · cases of_decide_eq_true h
      exact snd_const (by rw [evE]) (fun F => .str _) pe_str
    · cases h
  | .bl b, c, t, a, X, Z, ft, fc, h => by
    unfold chk at h
    try dsimp only at h
    rw [Bool.and_eq_true] at h
    obtain ⟨hp, h⟩ := h
    split at h
    · cases of_decide_eq_true h
      exact snd_plain (snd_const (by rw [evE]) (fun F => .bl _) pe_bl) hp
    · cases h
  | .non, c, t, a, X, Z, ft, fc, h => by
    unfold chk at h
    try dsimp only at h
    rw [Bool.and_eq_true] at h
    cases not_t h.1
    replace h := h.2
    split at h
    · exact snd_const (by rw [evE]) (fun F => .non) pe_non
    · cases h
  | .con g, c, t, a, X, Z, ft, fc, h => by
    unfold chk at h
    try dsimp only at h
    rw [Bool.and_eq_true] at h
    obtain ⟨hp, h⟩ := h
    split at h
    · simp only [Bool.and_eq_true, decide_eq_true_eq] at h
      obtain ⟨⟨h1, h2⟩, h3⟩ := h
      obtain ⟨u, v, m, r, q⟩ := ft.good.cons _ _ h1
      exact snd_plain (snd_const (by rw [evE]) (fun F => by rw [← ft.hK]; exact q F) (pe_glob (glob_of fc h2) m r (ndb2_of h3).1)) hp
    · cases h
  | .tup es, c, t, a, X, Z, ft, fc, h => by
    unfold chk at h
    try dsimp only at h
    rw [Bool.and_eq_true] at h
    cases not_t h.1
    replace h := h.2
    split at h
    · exact snd_tup (chkL_snd es c _ X Z ft fc h)
    · cases h
  | .lst es, c, t, a, X, Z, ft, fc, h => by
    unfold chk at h
    try dsimp only at h
    rw [Bool.and_eq_true] at h
    cases not_t h.1
    replace h := h.2
    split at h
    · exact snd_lst (chkL_snd es c _ X Z ft fc h)
    · cases h
  | .bin op p q, c, t, a, X, Z, ft, fc, h => by
    unfold chk at h
    try dsimp only at h
    rw [Bool.and_eq_true] at h
    cases not_t h.1
    replace h := h.2
    split at h
    · simp only [Bool.and_eq_true, decide_eq_true_eq] at h
      obtain ⟨⟨rfl, h1⟩, h2⟩ := h
      exact snd_bin ft.hK (opnd_chk fc h1 (chk_snd p c false _ X Z ft fc h1)) (opnd_chk fc h2 (chk_snd q c false _ X Z ft fc h2))
    · cases h
  | .neg p, c, t, a, X, Z, ft, fc, h => by
    unfold chk at h
    try dsimp only at h
    rw [Bool.and_eq_true] at h
    cases not_t h.1
    replace h := h.2
    split at h
    · simp only [Bool.and_eq_true, decide_eq_true_eq] at h
      obtain ⟨rfl, h1⟩ := h
      exact snd_neg (chk_snd p c false _ X Z ft fc h1)
    · cases h
  | .cmp op p q, c, t, a, X, Z, ft, fc, h => by
    unfold chk at h
    try dsimp only at h
    split at h
    · simp only [Bool.and_eq_true, decide_eq_true_eq] at h
      obtain ⟨⟨rfl, h1⟩, h2⟩ := h
      have a1 := opnd_chk fc h1 (chk_snd p c false _ X Z ft fc h1)
      have a2 := opnd_chk fc h2 (chk_snd q c false _ X Z ft fc h2)
      cases t with
      | false => exact snd_cmp ft a1 a2
      | true => exact sndT_cmp ft a1 a2
    · cases h
  | .chain op op' p q r, c, t, a, X, Z, ft, fc, h => by
    unfold chk at h
    try dsimp only at h
    split at h
    · rename_i pos
      simp only [Bool.and_eq_true, decide_eq_true_eq] at h
      obtain ⟨⟨⟨⟨rfl, rfl⟩, h1⟩, h2⟩, h3⟩ := h
      have k := snd_chain (pos := pos) (o := op) (o' := op') ft (chk_snd p c false _ X Z ft fc h1) (chk_snd q c false _ X Z ft fc h2) (chk_snd r c false _ X Z ft fc h3)
      cases t with
      | false => exact k.1
      | true => exact k.2
    · cases h
  | .isN n p, c, t, a, X, Z, ft, fc, h => by
    unfold chk at h
    try dsimp only at h
    split at h
    · simp only [Bool.and_eq_true, decide_eq_true_eq] at h
      obtain ⟨rfl, h1⟩ := h
      have a1 := opnd_chk fc h1 (chk_snd p c false _ X Z ft fc h1)
      cases t with
      | false => exact snd_isN ft.hK a1
      | true => exact sndT_isN ft.hK a1
    · cases h
  | .isB n p q, c, t, a, X, Z, ft, fc, h => by
    unfold chk at h
    try dsimp only at h
    split at h
    · simp only [Bool.and_eq_true, decide_eq_true_eq] at h
      obtain ⟨⟨⟨rfl, hn⟩, h1⟩, h2⟩ := h
      have a1 := chk_snd p c false _ X Z ft fc h1
      have a2 := chk_snd q c false _ X Z ft fc h2
      cases t with
      | false => exact snd_isB hn a1 a2
      | true => exact sndT_isB hn a1 a2
    · cases h
  | .mem n p q, c, t, a, X, Z, ft, fc, h => by
    unfold chk at h
    try dsimp only at h
    split at h
    · simp only [Bool.and_eq_true, decide_eq_true_eq] at h
      obtain ⟨⟨⟨rfl, hn⟩, h1⟩, h2⟩ := h
      have a1 := chk_snd p c false _ X Z ft fc h1
      have a2 := opnd_chk fc h2 (chk_snd q c false _ X Z ft fc h2)
      cases t with
      | false => exact snd_mem ft hn a1 a2
      | true => exact sndT_mem ft hn a1 a2
    · cases h
  | .and p q, c, t, a, X, Z, ft, fc, h => by
    unfold chk at h
    try dsimp only at h
    split at h
    · rename_i x y r pos
      rw [Bool.and_eq_true] at h
      obtain ⟨h1, h2⟩ := h
      have a1 := chk_snd p c t _ X Z ft fc h1
      cases t with
      | false =>
        cases r with
        | nil => exact snd_and a1 (pe_one (chk_snd q c false _ X Z ft fc h2))
        | cons z r => exact snd_and a1 (chk_snd q c false _ X Z ft fc h2)
      | true =>
        cases r with
        | nil => exact sndT_and (PXt.pt a1) (pw_one (PXt.pt (chk_snd q c true _ X Z ft fc h2)))
        | cons z r => exact sndT_and (PXt.pt a1) (chk_snd q c true _ X Z ft fc h2)
    · cases h
  | .or p q, c, t, a, X, Z, ft, fc, h => by
    unfold chk at h
    try dsimp only at h
    split at h
    · rename_i x y r pos
      rw [Bool.and_eq_true] at h
      obtain ⟨h1, h2⟩ := h
      have a1 := chk_snd p c t _ X Z ft fc h1
      cases t with
      | false =>
        cases r with
        | nil => exact snd_or a1 (pe_one (chk_snd q c false _ X Z ft fc h2))
        | cons z r => exact snd_or a1 (chk_snd q c false _ X Z ft fc h2)
      | true =>
        cases r with
        | nil => exact sndT_or (PXt.pt a1) (pw_one (PXt.pt (chk_snd q c true _ X Z ft fc h2)))
        | cons z r => exact sndT_or (PXt.pt a1) (chk_snd q c true _ X Z ft fc h2)
    · cases h
  | .not p, c, t, a, X, Z, ft, fc, h => by
    unfold chk at h
    try dsimp only at h
    split at h
    · have a1 := chk_snd p c t _ X Z ft fc h
      cases t with
      | false => exact snd_not a1
      | true => exact sndT_not (PXt.pt a1)
    · cases h
  | .ite k p q, c, t, a, X, Z, ft, fc, h => by
    unfold chk at h
    try dsimp only at h
    rw [Bool.and_eq_true] at h
    cases not_t h.1
    replace h := h.2
    split at h
    · simp only [Bool.and_eq_true] at h
      obtain ⟨⟨h1, h2⟩, h3⟩ := h
      exact snd_ite (PXt.pt (chk_snd k c true _ X Z ft fc h1)) (chk_snd p c false _ X Z ft fc h2) (chk_snd q c false _ X Z ft fc h3)
    · cases h
  | .ix p i, c, t, a, X, Z, ft, fc, h => by
    unfold chk at h
    try dsimp only at h
    split at h
    · simp only [Bool.and_eq_true] at h
      obtain ⟨⟨hn, h1⟩, h2⟩ := h
      exact snd_plain (snd_ix ft.hK hn (opnd_chk fc h1 (chk_snd p c false _ X Z ft fc h1)) (chk_snd i c false _ X Z ft fc h2)) (by simp [plainB, plainT])
    · cases h
  | .cut p lo hi, c, t, a, X, Z, ft, fc, h => by
    unfold chk at h
    try dsimp only at h
    split at h
    · simp only [Bool.and_eq_true] at h
      obtain ⟨⟨h1, h2⟩, h3⟩ := h
      exact snd_plain (snd_cut ft.hK (opnd_chk fc h1 (chk_snd p c false _ X Z ft fc h1)) (chkO_snd lo c _ X Z ft fc h2) (chkO_snd hi c _ X Z ft fc h3)) (by simp [plainB, plainT])
    · cases h
  | .rev p, c, t, a, X, Z, ft, fc, h => by
    unfold chk at h
    try dsimp only at h
    split at h
    · exact snd_plain (snd_rev ft.hK (opnd_chk fc h (chk_snd p c false _ X Z ft fc h))) (by simp [plainB, plainT])
    · cases h
  | .call f es, c, t, a, X, Z, ft, fc, h => by
    unfold chk at h
    try dsimp only at h
    split at h
    · split at h
      · rename_i x' mask hT
        simp only [Bool.and_eq_true, decide_eq_true_eq, Bool.not_eq_true'] at h
        obtain ⟨⟨⟨⟨⟨rfl, hk⟩, hg⟩, hd⟩, hn⟩, h1⟩ := h
        exact snd_plain (snd_call ft hT hk (glob_of fc hg) hd hn (chkA_snd es c _ X Z ft fc h1)) (by simp [plainB, plainT])
      · cases h
    · cases h
  | .callV i tbl es, c, t, a, X, Z, ft, fc, h => by
    unfold chk at h
    try dsimp only at h
    split at h
    · simp only [Bool.and_eq_true, decide_eq_true_eq] at h
      obtain ⟨⟨⟨⟨⟨hN, hv⟩, hd⟩, ht⟩, hn⟩, h1⟩ := h
      obtain ⟨hd1, hd2⟩ := ndb2_of hd
      refine snd_plain (snd_callV ft (fun p hp => ?_) (by rw [fc.n]; exact hN) (vis_of (by rw [fc.sc]; exact hv)) hd1 hd2 hn (chkA_snd es c _ X Z ft fc h1)) (by simp [plainB, plainT])
      have q := List.all_eq_true.mp ht p hp
      split at q
      · rename_i x' mask e
        rw [Bool.and_eq_true, decide_eq_true_eq, decide_eq_true_eq] at q
        exact ⟨mask, by rw [e, q.1], q.2⟩
      · cases q
    · cases h
  | .lamc d known hs body, c, t, a, X, Z, ft, fc, h => by
    unfold chk at h
    simp only [Bool.and_eq_true] at h
    obtain ⟨ht, h⟩ := h
    cases not_t ht
    split at h
    · rename_i x p1 params lb scope lpos pos
      simp only [Bool.and_eq_true, decide_eq_true_eq, Bool.not_eq_true'] at h
      obtain ⟨⟨⟨⟨⟨⟨⟨hw, hg⟩, hd⟩, hp⟩, hL⟩, hk⟩, hks⟩, hb⟩ := h
      have ep : params = ⟨[], [], none, [], [], none, []⟩ := by
        unfold noPar at hp
        split at hp
        · rfl
        · cases hp
      subst ep
      refine snd_lamc ft hw (glob_of fc hg) hd (by rw [fc.sc]; exact hL) (fun y hy => of_decide_eq_true (List.all_eq_true.mp hk y hy)) (fun q hq => of_decide_eq_true (List.all_eq_true.mp hks q hq)) fun X' Z' ft' hs hn hf => ?_
      refine chk_snd body ⟨c.N, { c.T with words := [] }, scope, some scope⟩ false lb X' Z' ft' ⟨by rw [hn]; exact fc.n, hs, ?_⟩ hb
      rw [hf]
      funext y
      have L := LamX.lamS_by hL
      show false = (scope.names.lookup y == some .cell)
      symm
      rw [beq_eq_false_iff_ne]
      intro z
      exact (L.own _ (PySem.mem_of_lookup z)).2 rfl
    · cases h
  | .b1 b p, c, t, a, X, Z, ft, fc, h => by
    unfold chk at h
    try dsimp only at h
    split at h
    · simp only [Bool.and_eq_true, decide_eq_true_eq] at h
      obtain ⟨⟨⟨rfl, hb⟩, hn⟩, h1⟩ := h
      obtain ⟨g, m⟩ := blt_of ft fc hb
      exact snd_plain (snd_b1 ft g m hn (opnd_chk fc h1 (chk_snd p c false _ X Z ft fc h1))) (by simp [plainB, plainT])
    · cases h
  | .b2 b p q, c, t, a, X, Z, ft, fc, h => by
    unfold chk at h
    try dsimp only at h
    split at h
    · simp only [Bool.and_eq_true, decide_eq_true_eq] at h
      obtain ⟨⟨⟨⟨⟨rfl, hb⟩, hn⟩, hn2⟩, h1⟩, h2⟩ := h
      obtain ⟨g, m⟩ := blt_of ft fc hb
      exact snd_plain (snd_b2 ft g m hn hn2 (chk_snd p c false _ X Z ft fc h1) (chk_snd q c false _ X Z ft fc h2)) (by simp [plainB, plainT])
    · cases h
  | .max3 p q r, c, t, a, X, Z, ft, fc, h => by
    unfold chk at h
    split at h
    · simp only [Bool.and_eq_true, decide_eq_true_eq] at h
      obtain ⟨⟨⟨⟨⟨⟨⟨rfl, hb⟩, hn⟩, hn2⟩, hn3⟩, h1⟩, h2⟩, h3⟩ := h
      obtain ⟨g, m⟩ := blt_of ft fc hb
      exact snd_plain (snd_max3 ft g m hn hn2 hn3 (chk_snd p c false _ X Z ft fc h1) (chk_snd q c false _ X Z ft fc h2) (chk_snd r c false _ X Z ft fc h3)) (by simp [plainB, plainT])
    · cases h
  | .isi ty p, c, t, a, X, Z, ft, fc, h => by
    unfold chk at h
    try dsimp only at h
    split at h
    · simp only [Bool.and_eq_true, decide_eq_true_eq] at h
      obtain ⟨⟨⟨⟨⟨rfl, rfl⟩, hb⟩, hb2⟩, hn⟩, h1⟩ := h
      obtain ⟨g, m⟩ := blt_of ft fc hb
      obtain ⟨g2, m2⟩ := blt_of ft fc hb2
      exact snd_plain (snd_isi ft g m g2 m2 hn (chk_snd p c false _ X Z ft fc h1)) (by simp [plainB, plainT])
    · cases h
  | .rng p, c, t, a, X, Z, ft, fc, h => by
    unfold chk at h
    try dsimp only at h
    rw [Bool.and_eq_true] at h
    cases not_t h.1
    replace h := h.2
    split at h
    · simp only [Bool.and_eq_true, decide_eq_true_eq] at h
      obtain ⟨⟨⟨⟨⟨rfl, rfl⟩, hb⟩, hb2⟩, hn⟩, h1⟩ := h
      obtain ⟨g, m⟩ := blt_of ft fc hb
      obtain ⟨g2, m2⟩ := blt_of ft fc hb2
      exact snd_rng ft.calm g m g2 m2 hn (chk_snd p c false _ X Z ft fc h1)
    · cases h
  | .rngT _, c, t, a, X, Z, ft, fc, h => by
    unfold chk at h
    cases h
  | .comp own tg sk s1 s2 cnd elt, c, t, a, X, Z, ft, fc, h => by
    unfold chk at h
    try dsimp only at h
    rw [Bool.and_eq_true] at h
    cases not_t h.1
    replace h := h.2
    split at h
    · rename_i y tgA iter ifs scope pos
      simp only [Bool.and_eq_true, List.all_eq_true, decide_eq_true_eq] at h
      obtain ⟨⟨⟨⟨⟨⟨hb, hn⟩, hs⟩, hi⟩, hg⟩, hc⟩, he⟩ := h
      have ok := blkOk_by (by rw [← fc.n, ← fc.sc] at hb; exact hb)
      exact (snd_comp ft (ownOf_snd own) ok hn hs
        (chkSrc_snd ft fc hi (fun z q => chk_snd s1 c false z X Z ft fc q) fun z q => by
          cases s2 with
          | none => simp [chkO] at q
          | some b =>
            refine ⟨b, rfl, chk_snd b c false z X Z ft fc ?_⟩
            unfold chkO at q
            exact q)
        (fun G s H C cl fp => chkTg_snd tg _ _ _ _ ft.nd ft.hK ft.calm fc.blk hg)
        (fun G s H C cl fp => chkC_snd cnd (c.blk scope) _ _ _ (ft.blk G s H ok.kind C cl fp) fc.blk hc)
        (fun G s H C cl fp => chk_snd elt (c.blk scope) false _ _ _ (ft.blk G s H ok.kind C cl fp) fc.blk he)).2
    · cases h
  | .comp2 .., c, t, a, X, Z, ft, fc, h => by
    unfold chk at h
    cases h
  | .join p q, c, t, a, X, Z, ft, fc, h => by
    unfold chk at h
    try dsimp only at h
    rw [Bool.and_eq_true] at h
    cases not_t h.1
    replace h := h.2
    split at h
    · simp only [Bool.and_eq_true, decide_eq_true_eq] at h
      obtain ⟨⟨⟨⟨⟨rfl, hl⟩, hn⟩, hb⟩, h1⟩, h2⟩ := h
      exact snd_join hn hb hl (chk_snd p c false _ X Z ft fc h1) (opnd_chk fc h2 (chk_snd q c false _ X Z ft fc h2))
    · cases h
  | .split p q, c, t, a, X, Z, ft, fc, h => by
    unfold chk at h
    try dsimp only at h
    rw [Bool.and_eq_true] at h
    cases not_t h.1
    replace h := h.2
    split at h
    · simp only [Bool.and_eq_true, decide_eq_true_eq] at h
      obtain ⟨⟨⟨⟨⟨rfl, hl⟩, hn⟩, hb⟩, h1⟩, h2⟩ := h
      exact snd_split hn hb hl (chk_snd p c false _ X Z ft fc h1) (chk_snd q c false _ X Z ft fc h2)
    · cases h
  | .index p q, c, t, a, X, Z, ft, fc, h => by
    unfold chk at h
    try dsimp only at h
    rw [Bool.and_eq_true] at h
    cases not_t h.1
    replace h := h.2
    split at h
    · simp only [Bool.and_eq_true, decide_eq_true_eq] at h
      obtain ⟨⟨⟨⟨⟨rfl, hl⟩, hn⟩, hb⟩, h1⟩, h2⟩ := h
      exact snd_index ft hn hb hl (opnd_chk fc h1 (chk_snd p c false _ X Z ft fc h1)) (chk_snd q c false _ X Z ft fc h2)
    · cases h
  | .count p q, c, t, a, X, Z, ft, fc, h => by
    unfold chk at h
    try dsimp only at h
    rw [Bool.and_eq_true] at h
    cases not_t h.1
    replace h := h.2
    split at h
    · simp only [Bool.and_eq_true, decide_eq_true_eq] at h
      obtain ⟨⟨⟨⟨⟨rfl, hl⟩, hn⟩, hb⟩, h1⟩, h2⟩ := h
      exact snd_count ft hn hb hl (opnd_chk fc h1 (chk_snd p c false _ X Z ft fc h1)) (chk_snd q c false _ X Z ft fc h2)
    · cases h
  | .strGetE ks vs p dflt, c, t, a, X, Z, ft, fc, h => by
    unfold chk at h
    try dsimp only at h
    rw [Bool.and_eq_true] at h
    cases not_t h.1
    replace h := h.2
    split at h
    · simp only [Bool.and_eq_true, decide_eq_true_eq] at h
      obtain ⟨⟨⟨⟨⟨⟨⟨⟨⟨⟨⟨⟨rfl, hk⟩, hd⟩, h0⟩, h15⟩, hv⟩, hvl⟩, hl⟩, hn⟩, hn2⟩, hvs⟩, h1⟩, h2⟩ := h
      refine snd_strGetE ft hk hd (by intro z; rw [z] at h0; simp at h0) h15 hv hvl hl hn hn2 (chkP_snd vs c _ X Z ft fc hvs ks _ hk hv) (chk_snd p c false _ X Z ft fc h1) (chk_snd dflt c false _ X Z ft fc h2)
    · cases h
  | .strGet ks p dflt, c, t, a, X, Z, ft, fc, h => by
    unfold chk at h
    try dsimp only at h
    rw [Bool.and_eq_true] at h
    cases not_t h.1
    replace h := h.2
    split at h
    · simp only [Bool.and_eq_true, decide_eq_true_eq, Bool.not_eq_true', List.isEmpty_eq_false_iff] at h
      obtain ⟨⟨⟨⟨⟨⟨⟨⟨rfl, rfl⟩, hk⟩, hd⟩, h0⟩, h15⟩, hl⟩, hn⟩, h1⟩ := h
      exact snd_strGet ft hk hd h0 h15 hl hn (chk_snd p c false _ X Z ft fc h1)
    · cases h
theorem chkL_snd : ∀ (es : List E) (c : Ck) (as : List PySem.Expr) (X : Cx) (Z : Fx), Fit X Z lev c.T Γ → FitC c X → chkL c es as = true → PA X as (Rd Z (lDs Z) (evL Γ es))
  | [], c, as, X, Z, ft, fc, h => by
    unfold chkL at h
    cases List.isEmpty_iff.mp h
    exact snd_nil
  | e :: es, c, as, X, Z, ft, fc, h => by
    unfold chkL at h
    try dsimp only at h
    split at h
    · simp only [Bool.and_eq_true] at h
      obtain ⟨⟨hn, h1⟩, h2⟩ := h
      exact snd_cons (chk_snd e c false _ X Z ft fc h1) (chkL_snd es c _ X Z ft fc h2) hn
    · cases h
theorem chkP_snd : ∀ (es : List E) (c : Ck) (as : List PySem.Expr) (X : Cx) (Z : Fx), Fit X Z lev c.T Γ → FitC c X → chkL c es as = true → ∀ (ks : List Str) (keys : List (Option PySem.Expr)), keysB ks keys = true → ks.length = es.length → ∀ {p2 : Pos}, PPs X p2 keys as (trsE Z Γ ks es)
  | [], c, as, X, Z, ft, fc, h, ks, keys, hk, hl, p2 => by
    unfold chkL at h
    cases List.isEmpty_iff.mp h
    cases ks with
    | nil =>
      cases keys with
      | nil => exact pps_nil
      | cons _ _ => simp [keysB] at hk
    | cons _ _ => simp at hl
  | e :: es, c, as, X, Z, ft, fc, h, ks, keys, hk, hl, p2 => by
    unfold chkL at h
    try dsimp only at h
    split at h
    · simp only [Bool.and_eq_true] at h
      obtain ⟨⟨hn, h1⟩, h2⟩ := h
      cases ks with
      | nil => simp at hl
      | cons k ks =>
        cases keys with
        | nil => simp [keysB] at hk
        | cons key keys =>
          simp only [keysB, Bool.and_eq_true, decide_eq_true_eq] at hk
          obtain ⟨_, _, rfl⟩ := keyAt_of hk.1
          exact pps_cons pe_str (pe_any fun G => chk_snd e c false _ X { Z with G := G } ⟨ft.hK, ft.hmg, ft.calm, ft.nd, ft.room, ft.one, ft.kind, ft.takes, ft.good, ft.lam⟩ fc h1) (chkP_snd es c _ X Z ft fc h2 ks keys hk.2 (by simpa using hl))
    · cases h
theorem chkO_snd : ∀ (o : Option E) (c : Ck) (a : Option PySem.Expr) (X : Cx) (Z : Fx), Fit X Z lev c.T Γ → FitC c X → chkO c o a = true → PO X a (Rd Z (fun _ _ _ _ v d => d = v) (evO Γ o >>= asPart))
  | none, c, a, X, Z, ft, fc, h => by
    unfold chkO at h
    try dsimp only at h
    rw [Option.isNone_iff_eq_none] at h
    subst h
    exact sndO_none
  | some e, c, a, X, Z, ft, fc, h => by
    unfold chkO at h
    try dsimp only at h
    split at h
    · exact sndO_some (chk_snd e c false _ X Z ft fc h)
    · cases h
theorem chkC_snd : ∀ (o : Option E) (c : Ck) (as : List PySem.Expr) (X : Cx) (Z : Fx), Fit X Z lev c.T Γ → FitC c X → chkC c o as = true → PTs X as (rdB Z (evC Γ o))
  | none, c, as, X, Z, ft, fc, h => by
    unfold chkC at h
    try dsimp only at h
    cases List.isEmpty_iff.mp h
    exact sndC_none
  | some e, c, as, X, Z, ft, fc, h => by
    unfold chkC at h
    try dsimp only at h
    split at h
    · exact sndC_some (PXt.pt (chk_snd e c true _ X Z ft fc h))
    · cases h
theorem chkA_snd : ∀ (es : List E) (c : Ck) (as : List PySem.Expr) (X : Cx) (Z : Fx), Fit X Z lev c.T Γ → FitC c X → chkA c es as = true → PA X as (Rd Z (lAs Z es) (evA Γ es))
  | [], c, as, X, Z, ft, fc, h => by
    unfold chkA at h
    cases List.isEmpty_iff.mp h
    exact sndA_nil
  | e :: es, c, as, X, Z, ft, fc, h => by
    unfold chkA at h
    try dsimp only at h
    split at h
    · simp only [Bool.and_eq_true] at h
      obtain ⟨⟨hn, h1⟩, h2⟩ := h
      have ih := chkA_snd es c _ X Z ft fc h2
      cases q : e.peek with
      | some i =>
        cases isPk q
        unfold chk at h1
        try dsimp only at h1
        rw [Bool.and_eq_true] at h1
        exact sndA_bor rfl (nameAt_snd fc h1.2) ih hn
      | none =>
        cases q2 : e.isIo with
        | some i =>
          cases (isNone_io q2).1
          unfold chk at h1
          try dsimp only at h1
          rw [Bool.and_eq_true] at h1
          exact sndA_io rfl rfl (nameAt_snd fc h1.2) ih hn
        | none => exact sndA_val q q2 (chk_snd e c false _ X Z ft fc h1) ih hn
    · cases h
end
end
end PL
/-! PLChk3: the check of statements, and that it is sound. -/
namespace PL
open PySem L2 PySem.Spec PyProof.Rows
def E.isComp : E → Bool
  | .comp .. => true
  | _ => false
/-- swapsWith, computed -/
def swapV (sc : Scope) (a : PySem.Expr) (x : Str) (p2 : Pos) : Bool := match a with
  | .ListComp _ _ s pos => (sc.names.lookup x == some .local) && (p2.line == pos.line) && !(s.names.any fun q => q.1 == x && (q.2 == .local || q.2 == .cell))
  | _ => false
/-- a comprehension of one clause may stand behind =, and what is no comprehension -/
def asgB (sc : Scope) (e : E) (a : PySem.Expr) : Bool := match a with
  | .ListComp _ [⟨_, _, _, 0⟩] _ _ => e.isComp
  | .SetComp .. => false
  | .DictComp .. => false
  | .ListComp .. => false
  | _ => true
def isStar : PySem.Expr → Bool
  | .Starred .. => true
  | _ => false
def line0 (ts : List PySem.Expr) : Nat := (ts.head?.map (·.pos.line)).getD 0
def namesAt (sc : Scope) (line : Nat) (ts : List PySem.Expr) : List Str := ts.filterMap fun
  | .Name id pos => if sc.names.lookup id == some .local && pos.line == line then some id else none
  | _ => none
/-- swappedStores, computed: none where it refuses -/
def swapT (sc : Scope) (ts : List PySem.Expr) (a : PySem.Expr) : Option (Option (List Str)) := match a with
  | .Tuple vs _ _ =>
    if !(ts.length == 2 || ts.length == 3) || vs.length != ts.length then some none
    else if vs.any isStar then some none
    else if (namesAt sc (line0 ts) ts).length != ts.length || (namesAt sc (line0 ts) ts).eraseDups.length != (namesAt sc (line0 ts) ts).length then some none
    else if vs.all (foldedForSure 8) then some none
    else if vs.all (constantsAlone 8) then none
    else some (some (namesAt sc (line0 ts) ts))
  | _ => some none
def parB (c : Ck) : List Nat → List PySem.Expr → PySem.Expr → Bool
  | [i, j], [.Name x px, .Name y py], a => decide (c.N[i]? = some x) && decide (c.N[j]? = some y) && decide (i ≠ j) && decide (c.sc.names.lookup x = some .local) && decide (c.sc.names.lookup y = some .local) &&
      decide (swapT c.sc [.Name x px, .Name y py] a = some (some [x, y]))
  | [i, j, l], [.Name x px, .Name y py, .Name z pz], a => decide (c.N[i]? = some x) && decide (c.N[j]? = some y) && decide (c.N[l]? = some z) && decide (i ≠ j) && decide (i ≠ l) && decide (j ≠ l) &&
      decide (c.sc.names.lookup x = some .local) && decide (c.sc.names.lookup y = some .local) && decide (c.sc.names.lookup z = some .local) && decide (swapT c.sc [.Name x px, .Name y py, .Name z pz] a = some (some [x, y, z]))
  | _, _, _ => false
/-- a clause's suite: x = "w", xs.append("w"), return x -/
def calmB (c : Ck) : List S → List Stmt → Bool
  | [.asg i (.str s)], [.Assign [.Name x _] (.Constant (.str s') _ _) _] => decide (s = s') && storB c i x
  | [.app i (.str s)], [.Expr (.Call (.Attribute (.Name x p1) f p2) [.Constant (.str s') _ _] [] p) _] => decide (f = ("append" : Str)) && decide (s = s') && nameAt c i (.Name x p1) && (p2.endLine == p.line)
  | [.ret (.var i)], [.Return (some a) _] => nameAt c i a
  | _, _ => false
def hdsB (c : Ck) (known : List Str) : List (Str × List S) → List ExceptHandler → Bool
  | [], [] => true
  | (x, ss) :: l, .ExceptHandler (some (.Name y _)) none (b :: bs) _ :: hds => decide (x = y) && decide (x ∈ known) && globB c x && !(x == ("__debug__" : Str)) && calmB c ss (b :: bs) && hdsB c known l hds
  | _, _ => false
mutual
def chkS (c : Ck) : S → Stmt → Bool
  | .asg i e, s => match s with
    | .Assign [.Name x p2] a pos => storB c i x && asgB c.sc e a && chk c false e a
    | _ => false
  | .asgT tg e, s => match s with
    | .Assign [.Tuple ts k p2] a pos => (match tg with
      | .tup _ => decide (swapT c.sc ts a = some none) && chkTg c tg (.Tuple ts k p2) && chk c false e a
      | _ => false)
    | _ => false
  | .par is es, s => match s with
    | .Assign [.Tuple ts kt pt] (.Tuple vs k2 pt2) pos => parB c is ts (.Tuple vs k2 pt2) && (vs.length == ts.length) && chkL c es vs
    | _ => false
  | .app i e, s => match s with
    | .Expr (.Call (.Attribute (.Name x p1) f p2) [a] [] p) pos => decide (f = ("append" : Str)) && nameAt c i (.Name x p1) && nst a && (p2.endLine == p.line) && chk c false e a
    | _ => false
  | .setix i k e, s => match s with
    | .Assign [.Subscript (.Name x p1) b p2] a pos => nslice b && nameAt c i (.Name x p1) && chk c false e a && chk c false k b
    | _ => false
  | .ife k p q, s => match s with
    | .If x as bs _ => chk c true k x && chkSs c p as && chkSs c q bs
    | _ => false
  | .forIn tg sk s1 s2 body, s => match s with
    | .For tgA iter bs [] _ => nset iter && chkSrc c (fun z => chk c false s1 z) (fun z => chkO c s2 (some z)) s2.isNone sk iter (isTup tgA) && chkTg c tg tgA && chkSs c body bs
    | _ => false
  | .whl _ k body, s => match s with
    | .While x bs [] _ => chk c true k x && chkSs c body bs
    | _ => false
  | .ret e, s => match s with
    | .Return (some a) _ => chk c false e a
    | _ => false
  | .retN, s => match s with
    | .Return none _ => true
    | _ => false
  | .ex e, s => match s with
    | .Expr a _ => ncomp a && chk c false e a
    | _ => false
  | .pass, s => match s with
    | .Pass _ => true
    | _ => false
  | .bad, _ => true
  | .raise x none, s => match s with
    | .Raise (some (.Call (.Name y _) [.Constant (.str _) _ _] [] _)) none _ => decide (x = y) && decide (x ∈ c.T.exc) && globB c x && !(x == ("__debug__" : Str))
    | _ => false
  | .raise x (some (f, e)), s => match s with
    | .Raise (some (.Call (.Name y _) [a] [] _)) none _ => decide (x = y) && decide ((x, f) ∈ c.T.excf) && globB c x && !(x == ("__debug__" : Str)) && nst a && chk c false e a
    | _ => false
  | .tryAs known ss cls i j kind w f, s => match s with
    | .Try body [.ExceptHandler (some (.Name y _)) (some n) [.Assign [.Name x _] (.Tuple [.Constant (.str w') _ _, .Attribute (.Name n' _) f' _] _ _) _] _] [] [] _ => decide (kind = 0) && decide (y = cls) && decide (w' = w) && decide (f' = f) && decide (n' = n) && decide ((cls, f) ∈ c.T.excf) &&
        (known.all fun x => decide (x ∈ c.T.known)) && decide (cls ∈ known) && globB c cls && !(cls == ("__debug__" : Str)) && decide (c.N[i]? = some n) && decide (c.sc.names.lookup n = some .local) && ndb2 n && storB c j x && decide (i ≠ j) && chkSs c ss body
    | _ => false
  | .tryN known ss l, s => match s with
    | .Try body (h :: hds) [] [] _ => (known.all fun x => decide (x ∈ c.T.known)) && chkSs c ss body && hdsB c known l (h :: hds)
    | _ => false
def chkSs (c : Ck) : List S → List Stmt → Bool
  | [], as => as.isEmpty
  | s :: ss, as => match as with
    | a :: as => chkS c s a && chkSs c ss as
    | [] => false
end
section
variable {X : Cx} {Z : Fx} {Γ : Gm} {lev : Nat} {T : Tab} {pos p : Pos} {c : Ck} {t : Bool}
theorem blockFn (hk : X.env.scope.kind = .function) : X.env.blockKind = .function := by
  unfold Env.blockKind
  rw [hk]
  rfl
theorem swapV_eq {a : PySem.Expr} {x : Str} {p2 : Pos} {e : E} {l : Nat} (hk : X.env.scope.kind = .function) (h : asgB X.env.scope e a = true) : swapsWith a (some (.Name x p2)) l X.env = pure (swapV X.env.scope a x p2) := by
  cases a with
  | ListComp y g s pos =>
    unfold swapsWith swapV
    simp only [blockFn hk]
    rfl
  | SetComp => cases h
  | DictComp => cases h
  | _ => rfl
theorem sw_unf {ts vs : List PySem.Expr} {k k2 : Nat} {p2 pt2 : Pos} : swappedStores [.Tuple ts k p2] (.Tuple vs k2 pt2) X.env =
    if (!(ts.length == 2 || ts.length == 3) || vs.length != ts.length || X.env.blockKind != .function) = true then pure none
    else if (vs.any isStar) = true then pure none
    else if ((namesAt X.env.scope (line0 ts) ts).length != ts.length || (namesAt X.env.scope (line0 ts) ts).eraseDups.length != (namesAt X.env.scope (line0 ts) ts).length) = true then pure none
    else if (vs.all (foldedForSure 8)) = true then pure none
    else if (vs.all (constantsAlone 8)) = true then (do unsupported "assign.tuple-of-constant-expressions:order-of-the-stores"; pure (some (namesAt X.env.scope (line0 ts) ts)))
    else pure (some (namesAt X.env.scope (line0 ts) ts)) := by
  have star : (vs.any fun | .Starred .. => true | _ => false) = vs.any isStar := by
    congr 1
  rw [← star]
  rfl
theorem swapT_eq {ts : List PySem.Expr} {k : Nat} {p2 : Pos} {a : PySem.Expr} {r : Option (List Str)} (hk : X.env.scope.kind = .function) (h : swapT X.env.scope ts a = some r) : swappedStores [.Tuple ts k p2] a X.env = pure r := by
  cases a with
  | Tuple vs k2 pt2 =>
    unfold swapT at h
    rw [sw_unf, blockFn hk]
    simp only [bne_self_eq_false, Bool.or_false]
    dsimp only at h
    by_cases c0 : (!(ts.length == 2 || ts.length == 3) || vs.length != ts.length) = true
    · rw [if_pos c0] at h ⊢
      cases h; rfl
    rw [if_neg c0] at h ⊢
    by_cases c1 : (vs.any isStar) = true
    · rw [if_pos c1] at h ⊢
      cases h; rfl
    rw [if_neg c1] at h ⊢
    by_cases c2 : ((namesAt X.env.scope (line0 ts) ts).length != ts.length || (namesAt X.env.scope (line0 ts) ts).eraseDups.length != (namesAt X.env.scope (line0 ts) ts).length) = true
    · rw [if_pos c2] at h ⊢
      cases h; rfl
    rw [if_neg c2] at h ⊢
    by_cases c3 : (vs.all (foldedForSure 8)) = true
    · rw [if_pos c3] at h ⊢
      cases h; rfl
    rw [if_neg c3] at h ⊢
    by_cases c9 : (vs.all (constantsAlone 8)) = true
    · rw [if_pos c9] at h; cases h
    rw [if_neg c9] at h ⊢
    cases h; rfl
  | _ =>
    unfold swapT at h
    cases h
    rfl
/-- a comprehension's two readings -/
theorem comp_pair {own : List Nat} {tg : Tg} {sk : Nat} {s1 : E} {s2 cnd : Option E} {elt : E} {y tgA iter : PySem.Expr} {ifs : List PySem.Expr} {scope : Scope} (ft : Fit X Z lev c.T Γ) (fc : FitC c X)
    (h : chk c false (.comp own tg sk s1 s2 cnd elt) (.ListComp y [⟨tgA, iter, ifs, 0⟩] scope pos) = true) {i : Nat} {x : Str} {p2 spos : Pos} (hi : X.N[i]? = some x) (hl : X.env.scope.names.lookup x = some .local)
    (hw : swapsWith (.ListComp y [⟨tgA, iter, ifs, 0⟩] scope pos) (some (.Name x p2)) spos.line X.env = pure true) :
    PS X (.Assign [.Name x p2] (.ListComp y [⟨tgA, iter, ifs, 0⟩] scope pos) spos) (rdS Z (evS Γ (.asg i (.comp own tg sk s1 s2 cnd elt)))) := by
  unfold chk at h
  rw [Bool.and_eq_true] at h
  replace h := h.2
  simp only [Bool.and_eq_true, List.all_eq_true, decide_eq_true_eq] at h
  obtain ⟨⟨⟨⟨⟨⟨hb, hn⟩, hs⟩, hsrc⟩, hg⟩, hc⟩, he⟩ := h
  have ok := blkOk_by (by rw [← fc.n, ← fc.sc] at hb; exact hb)
  have a1 := chkSrc_snd ft fc hsrc (fun z q => chk_snd s1 c false z X Z ft fc q) fun z q => by
    cases s2 with
    | none => simp [chkO] at q
    | some b =>
      refine ⟨b, rfl, chk_snd b c false z X Z ft fc ?_⟩
      unfold chkO at q
      exact q
  have a2 := fun (G : Hp) (s : Shared) (H : Hp) (C : Addr) (cl : List (Str × Addr)) (fp : List Addr) => chkTg_snd tg (c.blk scope) tgA (X.blk s H scope (compEnvC scope cl C X.env) fp) (Z.blk G) ft.nd ft.hK ft.calm fc.blk hg
  have a3 := fun (G : Hp) (s : Shared) (H : Hp) (C : Addr) (cl : List (Str × Addr)) (fp : List Addr) => chkC_snd cnd (c.blk scope) ifs (X.blk s H scope (compEnvC scope cl C X.env) fp) (Z.blk G) (ft.blk G s H ok.kind C cl fp) fc.blk hc
  have a4 := fun (G : Hp) (s : Shared) (H : Hp) (C : Addr) (cl : List (Str × Addr)) (fp : List Addr) => chk_snd elt (c.blk scope) false y (X.blk s H scope (compEnvC scope cl C X.env) fp) (Z.blk G) (ft.blk G s H ok.kind C cl fp) fc.blk he
  have pr := snd_comp (pos := pos) ft (ownOf_snd own) ok hn hs a1 a2 a3 a4
  refine ps_mono (ps_setLc ft.calm ft.nd hi hl hw a1 ok (fun s H C cl fp => pg_any fun G => a2 G s H C cl fp) (fun s H C cl fp => pts_any fun G => a3 G s H C cl fp) (fun s H C cl fp => pe_any fun G => a4 G s H C cl fp) (nfold hn)) fun D σ H q => ?_
  rw [evS] at q
  exact asg_key pr.1 D σ H q
theorem asg_snd {i : Nat} {e : E} {x : Str} {p2 : Pos} {a : PySem.Expr} (ft : Fit X Z lev c.T Γ) (fc : FitC c X) (hs : storB c i x = true) (hb : asgB c.sc e a = true) (h : chk c false e a = true) : PS X (.Assign [.Name x p2] a pos) (rdS Z (evS Γ (.asg i e))) := by
  obtain ⟨h1, h2, h3⟩ := stor_of fc hs
  rw [← fc.sc] at hb
  have w := swapV_eq (x := x) (p2 := p2) (l := pos.line) ft.kind hb
  cases v : swapV X.env.scope a x p2 with
  | false =>
    rw [v] at w
    exact snd_asg ft.nd h1 h2 h3 w (chk_snd e c false a X Z ft fc h)
  | true =>
    rw [v] at w
    cases a with
    | ListComp y gs scope cpos =>
      have hl : X.env.scope.names.lookup x = some .local := by
        unfold swapV at v
        simp only [Bool.and_eq_true, beq_iff_eq] at v
        exact v.1.1
      unfold asgB at hb
      split at hb
      · rename_i heq
        cases heq
        cases e with
        | comp own tg sk s1 s2 cnd elt => exact comp_pair ft fc h h1 hl w
        | _ => cases hb
      · cases hb
      · cases hb
      · cases hb
      · rename_i n1 n2 n3 n4
        exact absurd rfl (n4 _ _ _ _)
    | _ => cases v
end
section
variable {Γ : Gm} {lev : Nat}
theorem Fit.ofG {X : Cx} {Z : Fx} {T : Tab} (ft : Fit X Z lev T Γ) (G : Hp) : Fit X { Z with G := G } lev T Γ := ⟨ft.hK, ft.hmg, ft.calm, ft.nd, ft.room, ft.one, ft.kind, ft.takes, ft.good, ft.lam⟩
theorem chkV_snd : ∀ (es : List E) (c : Ck) (as : List PySem.Expr) (X : Cx) (Z : Fx), Fit X Z lev c.T Γ → FitC c X → chkL c es as = true → PA X as (Rd Z (lVs Z) (evV Γ es))
  | [], c, as, X, Z, ft, fc, h => by
    unfold chkL at h
    cases List.isEmpty_iff.mp h
    exact snd_evV_nil
  | e :: es, c, as, X, Z, ft, fc, h => by
    unfold chkL at h
    try dsimp only at h
    split at h
    · simp only [Bool.and_eq_true] at h
      obtain ⟨⟨hn, h1⟩, h2⟩ := h
      exact snd_evV_cons (chk_snd e c false _ X Z ft fc h1) (fun G => chkV_snd es c _ X { Z with G := G } (ft.ofG G) fc h2) hn
    · cases h
/-- a def's own body: not a part that stands for itself -/
def OwnX (X : Cx) : Prop := PassesOwn (model X.prog X.w) X.A X.env X.xe ∧ X.stack = X.env :: X.outer ∧ X.env.frame = some X.env.locals
section
variable {X : Cx} {Z : Fx}
theorem calmB_snd {c : Ck} {ss : List S} {as : List Stmt} (ft : Fit X Z lev c.T Γ) (fc : FitC c X) (h : calmB c ss as = true) (a : Addr) (pn : List (Addr × Obj)) : PSs (X.suite a pn) as (rdS Z (evSs Γ ss)) := by
  have fc' : FitC c (X.suite a pn) := ⟨fc.n, fc.sc, fc.fn⟩
  unfold calmB at h
  split at h
  · rw [Bool.and_eq_true, decide_eq_true_eq] at h
    obtain ⟨rfl, h2⟩ := h
    obtain ⟨q1, q2, q3⟩ := stor_of fc' h2
    exact calm_asg ft.nd q1 q2 q3
  · simp only [Bool.and_eq_true, decide_eq_true_eq] at h
    obtain ⟨⟨⟨rfl, rfl⟩, h3⟩, h4⟩ := h
    exact calm_app (nameAt_snd fc' h3) h4
  · exact calm_ret (nameAt_snd fc' h)
  · cases h
theorem hdsB_snd {c : Ck} {known : List Str} (ft : Fit X Z lev c.T Γ) (fc : FitC c X) : ∀ {l : List (Str × List S)} {hds : List ExceptHandler}, hdsB c known l hds = true → Hds X Z Γ known l hds
  | [], [], h => .nil
  | [], hd :: tl, h => by simp [hdsB] at h
  | (x, ss) :: l, hds, h => by
    unfold hdsB at h
    split at h
    · rename_i e
      cases e
    · rename_i x' ss' l' y p b bs p2 hds' e
      cases e
      simp only [Bool.and_eq_true, decide_eq_true_eq, Bool.not_eq_true'] at h
      obtain ⟨⟨⟨⟨⟨rfl, h2⟩, h3⟩, h4⟩, h5⟩, h6⟩ := h
      exact .cons h2 (glob_of fc h3) h4 (calmB_snd ft fc h5) (hdsB_snd ft fc h6)
    · cases h
end
mutual
theorem chkS_snd : ∀ (s : S) (c : Ck) (a : Stmt) (X : Cx) (Z : Fx), Fit X Z lev c.T Γ → FitC c X → OwnX X → chkS c s a = true → PS X a (rdS Z (evS Γ s))
  | .asg i e, c, a, X, Z, ft, fc, hp, h => by
    unfold chkS at h
    split at h
    · simp only [Bool.and_eq_true] at h
      exact asg_snd ft fc h.1.1 h.1.2 h.2
    · cases h
  | .asgT tg e, c, a, X, Z, ft, fc, hp, h => by
    unfold chkS at h
    split at h
    · cases tg with
      | nm i => cases h
      | tup ts =>
        simp only [Bool.and_eq_true, decide_eq_true_eq] at h
        obtain ⟨⟨h1, h2⟩, h3⟩ := h
        exact snd_asgT (swapT_eq ft.kind (by rw [fc.sc]; exact h1)) (chk_snd e c false _ X Z ft fc h3) (chkTg_snd _ c _ X Z ft.nd ft.hK ft.calm fc h2)
    · cases h
  | .par is es, c, a, X, Z, ft, fc, hp, h => by
    unfold chkS at h
    split at h
    · rename_i ts kt pt vs k2 pt2 pos
      simp only [Bool.and_eq_true, beq_iff_eq] at h
      obtain ⟨⟨h1, h2⟩, h3⟩ := h
      have pa := chkV_snd es c vs X Z ft fc h3
      unfold parB at h1
      split at h1
      · simp only [Bool.and_eq_true, decide_eq_true_eq] at h1
        obtain ⟨⟨⟨⟨⟨i1, i2⟩, n1⟩, l1⟩, l2⟩, sw⟩ := h1
        match vs, h2 with
        | [u, v], _ => exact snd_par2 ft.calm ft.nd (by rw [fc.n]; exact i1) (by rw [fc.n]; exact i2) n1 (by rw [fc.sc]; exact l1) (by rw [fc.sc]; exact l2) (swapT_eq ft.kind (by rw [fc.sc]; exact sw)) pa
      · simp only [Bool.and_eq_true, decide_eq_true_eq] at h1
        obtain ⟨⟨⟨⟨⟨⟨⟨⟨⟨i1, i2⟩, i3⟩, n1⟩, n2⟩, n3⟩, l1⟩, l2⟩, l3⟩, sw⟩ := h1
        match vs, h2 with
        | [u, v, w], _ => exact snd_par3 ft.calm ft.nd (by rw [fc.n]; exact i1) (by rw [fc.n]; exact i2) (by rw [fc.n]; exact i3) n1 n2 n3 (by rw [fc.sc]; exact l1) (by rw [fc.sc]; exact l2) (by rw [fc.sc]; exact l3) (swapT_eq ft.kind (by rw [fc.sc]; exact sw)) pa
      · cases h1
    · cases h
  | .app i e, c, a, X, Z, ft, fc, hp, h => by
    unfold chkS at h
    split at h
    · simp only [Bool.and_eq_true, decide_eq_true_eq] at h
      obtain ⟨⟨⟨⟨rfl, h1⟩, h2⟩, h3⟩, h4⟩ := h
      exact snd_app (nameAt_snd fc h1) h2 h3 (chk_snd e c false _ X Z ft fc h4)
    · cases h
  | .setix i k e, c, a, X, Z, ft, fc, hp, h => by
    unfold chkS at h
    split at h
    · simp only [Bool.and_eq_true] at h
      obtain ⟨⟨⟨h1, h2⟩, h3⟩, h4⟩ := h
      exact snd_setix h1 (nameAt_snd fc h2) (chk_snd e c false _ X Z ft fc h3) (chk_snd k c false _ X Z ft fc h4)
    · cases h
  | .ife k p q, c, a, X, Z, ft, fc, hp, h => by
    unfold chkS at h
    split at h
    · simp only [Bool.and_eq_true] at h
      obtain ⟨⟨h1, h2⟩, h3⟩ := h
      exact snd_ife (PXt.pt (chk_snd k c true _ X Z ft fc h1)) (chkSs_snd p c _ X Z ft fc hp h2) (chkSs_snd q c _ X Z ft fc hp h3)
    · cases h
  | .forIn tg sk s1 s2 body, c, a, X, Z, ft, fc, hp, h => by
    unfold chkS at h
    split at h
    · simp only [Bool.and_eq_true] at h
      obtain ⟨⟨⟨hn, hsrc⟩, hg⟩, hb⟩ := h
      exact snd_for hp.1 ft.calm hn (chkSrc_snd ft fc hsrc (fun z q => chk_snd s1 c false z X Z ft fc q) fun z q => by
        cases s2 with
        | none => simp [chkO] at q
        | some b =>
          refine ⟨b, rfl, chk_snd b c false z X Z ft fc ?_⟩
          unfold chkO at q
          exact q) (chkTg_snd tg c _ X Z ft.nd ft.hK ft.calm fc hg) (chkSs_snd body c _ X Z ft fc hp hb)
    · cases h
  | .whl f k body, c, a, X, Z, ft, fc, hp, h => by
    unfold chkS at h
    split at h
    · simp only [Bool.and_eq_true] at h
      exact snd_whl hp.1 (PXt.pt (chk_snd k c true _ X Z ft fc h.1)) (chkSs_snd body c _ X Z ft fc hp h.2)
    · cases h
  | .ret e, c, a, X, Z, ft, fc, hp, h => by
    unfold chkS at h
    split at h
    · exact snd_ret (chk_snd e c false _ X Z ft fc h)
    · cases h
  | .retN, c, a, X, Z, ft, fc, hp, h => by
    unfold chkS at h
    split at h
    · exact snd_retN
    · cases h
  | .ex e, c, a, X, Z, ft, fc, hp, h => by
    unfold chkS at h
    split at h
    · rw [Bool.and_eq_true] at h
      exact snd_ex h.1 (chk_snd e c false _ X Z ft fc h.2)
    · cases h
  | .pass, c, a, X, Z, ft, fc, hp, h => by
    unfold chkS at h
    split at h
    · exact snd_pass
    · cases h
  | .bad, c, a, X, Z, ft, fc, hp, h => ⟨fun pins s σ H D I ⟨F, ρ, E, q⟩ => by
    rw [evS] at q
    exact q.elim⟩
  | .raise x none, c, a, X, Z, ft, fc, hp, h => by
    unfold chkS at h
    split at h
    · simp only [Bool.and_eq_true, decide_eq_true_eq, Bool.not_eq_true'] at h
      obtain ⟨⟨⟨rfl, h2⟩, h3⟩, h4⟩ := h
      exact snd_raise ft h2 (glob_of fc h3) h4
    · cases h
  | .raise x (some (f, e)), c, a, X, Z, ft, fc, hp, h => by
    unfold chkS at h
    split at h
    · simp only [Bool.and_eq_true, decide_eq_true_eq, Bool.not_eq_true'] at h
      obtain ⟨⟨⟨⟨⟨rfl, h2⟩, h3⟩, h4⟩, h5⟩, h6⟩ := h
      exact snd_raiseF ft (ft.good.excf _ h2) (glob_of fc h3) h4 h5 (chk_snd e c false _ X Z ft fc h6)
    · cases h
  | .tryAs known ss cls i j kind w f, c, a, X, Z, ft, fc, hp, h => by
    unfold chkS at h
    split at h
    · rename_i body y p1 n x p2 w' k1 p3 n' p4 f' p5 k2 p6 p7 p8 p9
      simp only [Bool.and_eq_true, decide_eq_true_eq, Bool.not_eq_true'] at h
      obtain ⟨⟨⟨⟨⟨⟨⟨⟨⟨⟨⟨⟨⟨⟨⟨rfl, rfl⟩, rfl⟩, rfl⟩, rfl⟩, hx⟩, hk⟩, hc⟩, hg⟩, hd⟩, hi⟩, hl⟩, hn⟩, hst⟩, hij⟩, hbd⟩ := h
      obtain ⟨q1, q2, q3⟩ := stor_of fc hst
      obtain ⟨d1, d2⟩ := ndb2_of hn
      exact snd_tryAs ft (fun x hx => of_decide_eq_true (List.all_eq_true.mp hk x hx)) hc (ft.good.excf _ hx) hp.2.1 hp.2.2 (glob_of fc hg) hd (by rw [fc.n]; exact hi) (show X.env.scope.names.lookup _ = _ by rw [fc.sc]; exact hl) d1 d2 q1 q2 q3 hij
        (fun W pn xe tk po => chkSs_snd ss c body (X.tr pn xe) { Z with W := W } ⟨ft.hK, ft.hmg, ft.calm, ft.nd, ft.room, ft.one, ft.kind, tk, ft.good, ft.lam⟩ ⟨fc.n, fc.sc, fc.fn⟩ ⟨po, hp.2⟩ hbd)
    · cases h
  | .tryN known ss l, c, a, X, Z, ft, fc, hp, h => by
    unfold chkS at h
    split at h
    · rename_i body hd hds _
      simp only [Bool.and_eq_true] at h
      obtain ⟨⟨h1, h2⟩, h3⟩ := h
      exact snd_tryN ft (fun x hx => of_decide_eq_true (List.all_eq_true.mp h1 x hx)) hp.2.1 hp.2.2
        (fun W pn xe tk po => chkSs_snd ss c body (X.tr pn xe) { Z with W := W } ⟨ft.hK, ft.hmg, ft.calm, ft.nd, ft.room, ft.one, ft.kind, tk, ft.good, ft.lam⟩ ⟨fc.n, fc.sc, fc.fn⟩ ⟨po, hp.2⟩ h2) (hdsB_snd ft fc h3)
    · cases h
theorem chkSs_snd : ∀ (ss : List S) (c : Ck) (as : List Stmt) (X : Cx) (Z : Fx), Fit X Z lev c.T Γ → FitC c X → OwnX X → chkSs c ss as = true → PSs X as (rdS Z (evSs Γ ss))
  | [], c, as, X, Z, ft, fc, hp, h => by
    unfold chkSs at h
    cases List.isEmpty_iff.mp h
    exact sndSs_nil
  | s :: ss, c, as, X, Z, ft, fc, hp, h => by
    unfold chkSs at h
    split at h
    · rw [Bool.and_eq_true] at h
      exact sndSs_cons (chkS_snd s c _ X Z ft fc hp h.1) (chkSs_snd ss c _ X Z ft fc hp h.2)
    · cases h
end
end
end PL
/-! PLDef: a def's promise. -/
namespace PL
open PySem L2 PySem.Spec PyProof.Rows
/-! ### slots that stand free behind the parameters -/
section
variable {K : PySem.W.Frag} {pa : PaT} {F G H : Hp} {σ : L2.St} {ρ : Env}
theorem pad_get {α : Type} {l : List (Option α)} {n i : Nat} {x : α} (h : (l ++ List.replicate n none)[i]? = some (some x)) : l[i]? = some (some x) := by
  by_cases hi : i < l.length
  · rw [List.getElem?_append_left hi] at h; exact h
  · rw [List.getElem?_append_right (Nat.le_of_not_lt hi)] at h
    rw [List.getElem?_replicate] at h
    split at h <;> cases h
theorem pad_of {α : Type} {l : List (Option α)} {n i : Nat} {x : α} (h : l[i]? = some (some x)) : (l ++ List.replicate n none)[i]? = some (some x) := by
  rw [List.getElem?_append_left (List.getElem?_eq_some_iff.mp h).1]
  exact h
theorem EnvOk.pad (E : EnvOk K pa F G H σ ρ) (n : Nat) : EnvOk K pa F G H (σ ++ List.replicate n none) (ρ ++ List.replicate n none) where
  fh := E.fh
  gh := E.gh
  fg := E.fg
  len := by rw [List.length_append, List.length_append, E.len, List.length_replicate, List.length_replicate]
  shr := fun i d h => by
    obtain ⟨v, e, r⟩ := E.shr i d (pad_get h)
    exact ⟨v, pad_of e, r⟩
  own := fun i g d h ng => by
    obtain ⟨a, e, r⟩ := E.own i g d (pad_get h) ng
    exact ⟨a, pad_of e, r⟩
  pin := fun i d h => by
    obtain ⟨a, e, r⟩ := E.pin i d (pad_get h)
    exact ⟨a, e, pad_of r⟩
  dist := fun i j g g' d d' a ne h1 n1 h2 n2 e1 e2 => E.dist i j g g' d d' a ne (pad_get h1) n1 (pad_get h2) n2 (pad_get e1) (pad_get e2)
  tb := E.tb
end
/-! ### by place -/
theorem init_get : ∀ {mask : List Bool} {ds : List D} {i : Nat}, ds.length = mask.length → mask[i]? = some true → ∃ d, (init mask ds)[i]? = some (some (Fg.pin, d))
  | [], ds, i, hl, h => by simp at h
  | m :: ms, [], i, hl, h => by simp at hl
  | m :: ms, d :: ds, 0, hl, h => by
    simp at h
    subst h
    exact ⟨d, by simp [init]⟩
  | m :: ms, d :: ds, i + 1, hl, h => by
    obtain ⟨d', e⟩ := init_get (mask := ms) (ds := ds) (i := i) (by simpa using hl) (by simpa using h)
    exact ⟨d', by simpa [init] using e⟩
theorem outEnv_get : ∀ {mask : List Bool} {outs : List D} {i : Nat} {g : Fg} {d : D}, (outEnv mask outs)[i]? = some (some (g, d)) → mask[i]? = some true ∧ g = .pin ∧ outs[i]? = some d
  | [], outs, i, g, d, h => by cases outs <;> simp [outEnv] at h
  | m :: ms, [], i, g, d, h => by cases m <;> simp [outEnv] at h
  | true :: ms, x :: outs, 0, g, d, h => by
    simp [outEnv] at h
    obtain ⟨rfl, rfl⟩ := h
    exact ⟨rfl, rfl, rfl⟩
  | false :: ms, x :: outs, 0, g, d, h => by simp [outEnv] at h
  | true :: ms, x :: outs, i + 1, g, d, h => by
    obtain ⟨a, b, c⟩ := outEnv_get (mask := ms) (outs := outs) (i := i) (g := g) (d := d) (by simpa [outEnv] using h)
    exact ⟨by simpa using a, b, by simpa using c⟩
  | false :: ms, x :: outs, i + 1, g, d, h => by
    obtain ⟨a, b, c⟩ := outEnv_get (mask := ms) (outs := outs) (i := i) (g := g) (d := d) (by simpa [outEnv] using h)
    exact ⟨by simpa using a, b, by simpa using c⟩
theorem outEnv_len : ∀ {mask : List Bool} {outs : List D}, outs.length = mask.length → (outEnv mask outs).length = mask.length
  | [], [], _ => rfl
  | [], _ :: _, h => by simp at h
  | _ :: _, [], h => by simp at h
  | true :: ms, _ :: outs, h => by simp [outEnv, outEnv_len (mask := ms) (outs := outs) (by simpa using h)]
  | false :: ms, _ :: outs, h => by simp [outEnv, outEnv_len (mask := ms) (outs := outs) (by simpa using h)]
theorem outsAt_get : ∀ {mask : List Bool} {ρ : Env} {outs : List D}, outsAt mask ρ = some outs → outs.length = mask.length ∧ ∀ (i : Nat) (d : D), mask[i]? = some true → outs[i]? = some d → ρ[i]? = some (some (Fg.pin, d))
  | [], ρ, outs, h => by
    simp [outsAt] at h
    subst h
    exact ⟨rfl, fun i d h => by simp at h⟩
  | true :: ms, some (.pin, d) :: ρ, outs, h => by
    simp only [outsAt, Option.map_eq_some_iff] at h
    obtain ⟨os, e, rfl⟩ := h
    obtain ⟨h1, h2⟩ := outsAt_get e
    refine ⟨by simp [h1], fun i d' hm ho => ?_⟩
    cases i with
    | zero => simp at ho; subst ho; rfl
    | succ i => simpa using h2 i d' (by simpa using hm) (by simpa using ho)
  | true :: ms, [], outs, h => by simp [outsAt] at h
  | true :: ms, none :: ρ, outs, h => by simp [outsAt] at h
  | true :: ms, some (.shr, d) :: ρ, outs, h => by simp [outsAt] at h
  | true :: ms, some (.own, d) :: ρ, outs, h => by simp [outsAt] at h
  | false :: ms, x :: ρ, outs, h => by
    simp only [outsAt, Option.map_eq_some_iff] at h
    obtain ⟨os, e, rfl⟩ := h
    obtain ⟨h1, h2⟩ := outsAt_get e
    refine ⟨by simp [h1], fun i d' hm ho => ?_⟩
    cases i with
    | zero => simp at hm
    | succ i => simpa using h2 i d' (by simpa using hm) (by simpa using ho)
  | false :: ms, [], outs, h => by simp [outsAt] at h
/-- behind the body: what the caller sees in the parameters' slots -/
theorem EnvOk.out {K : PySem.W.Frag} {pa : PaT} {F0 F G H0 H : Hp} {σ : L2.St} {ρ : Env} {vs : List V} {ds outs : List D} {mask : List Bool} (E0 : EnvOk K pa F0 G H0 (vs.map some) (init mask ds)) (hd : ds.length = mask.length) (hv : vs.length = mask.length)
    (E : EnvOk K pa F G H σ ρ) (ho : outsAt mask ρ = some outs) : EnvOk K pa F G H (vs.map some) (outEnv mask outs) ∧ (∀ r x, Res K F G H σ ρ x r → Res K F G H (vs.map some) (outEnv mask outs) x r) ∧ outs.length = mask.length := by
  obtain ⟨h1, h2⟩ := outsAt_get ho
  have key : ∀ (i : Nat) (g : Fg) (d : D), (outEnv mask outs)[i]? = some (some (g, d)) → g = .pin ∧ ρ[i]? = some (some (Fg.pin, d)) ∧ ∃ a, pa.f i = some a ∧ (vs.map some)[i]? = some (some (V.ref a)) ∧ σ[i]? = some (some (V.ref a)) := fun i g d q => by
    obtain ⟨m, rfl, o⟩ := outEnv_get q
    obtain ⟨d0, e0⟩ := init_get hd m
    obtain ⟨a, p, s⟩ := E0.pin i d0 e0
    have e1 := h2 i d m o
    obtain ⟨b, p2, s2⟩ := E.pin i d e1
    rw [p] at p2
    cases p2
    exact ⟨rfl, e1, a, p, s, s2⟩
  refine ⟨⟨E.fh, E.gh, E.fg, by rw [outEnv_len h1, List.length_map, hv], fun i d q => ?_, fun i g d q ng => ?_, fun i d q => ?_, fun i j g g' d d' a ne q1 n1 q2 n2 s1 s2 => ?_, E.tb⟩, fun r x hr => ?_, h1⟩
  · exact absurd (key i _ d q).1 (by decide)
  · obtain ⟨rfl, e1, a, p, s, s2⟩ := key i g d q
    obtain ⟨b, e2, o⟩ := E.own i _ d e1 (by decide)
    rw [s2] at e2
    cases e2
    exact ⟨a, s, o⟩
  · obtain ⟨_, e1, a, p, s, s2⟩ := key i _ d q
    exact ⟨a, p, s⟩
  · obtain ⟨rfl, e1, b, p, t, t2⟩ := key i g d q1
    obtain ⟨rfl, e1', b', p', t', t2'⟩ := key j g' d' q2
    rw [t] at s1; cases s1
    rw [t'] at s2; cases s2
    exact E.dist i j _ _ d d' _ ne e1 (by decide) e1' (by decide) t2 t2'
  · obtain ⟨ow, d⟩ := r
    cases ow with
    | false => exact hr
    | true =>
      obtain ⟨a, e, o, no⟩ := hr
      refine ⟨a, e, o, fun i g d q ng z => ?_⟩
      obtain ⟨rfl, e1, b, p, t, t2⟩ := key i g d q
      rw [t] at z; cases z
      exact no i _ d e1 (by decide) t2
section
variable {P : Program} {w : World} {K : PySem.W.Frag} {mg : Str → Option Value} {base : Heap} {k : Nat} {T : Tab} {Γ : Gm}
theorem len_sp {mask : List Bool} {F : Fn} {ps : List Str} (hm : mask.length = ps.length) (vs : List V) (H : Hp) (Q : VK) (E : XK) (h : spOf K mg mask F vs H Q E) : vs.length = ps.length := by
  obtain ⟨_, _, _, _, _, h, _⟩ := h
  rw [h, hm]
/-- THE RULE for a def: the check, and what it means -/
theorem def_ok {x qual : Str} {params : Arguments} {body : List Stmt} {scope : Scope} {f : Addr} {fd : FuncData} (D : FunD K x qual params body scope [] [] f fd) {N ps : List Str} (sc : FnScope N ps scope) {mask : List Bool} (hm : mask.length = ps.length) (G : Good P w K mg base k T Γ) (hk : 1 ≤ k)
    {ss : List S} (hc : chkSs ⟨N, T, scope, none⟩ ss body = true) (hw : T.words = [] := by rfl) : FnOk P w K mg base (L2.CX P w) (k + 1) f fd ps (spOf K mg mask (semD mask N.length (evSs Γ ss))) := by
  refine D.ok sc (len_sp hm) fun cdv A outer s H vs Q E hr h => ?_
  obtain ⟨pa, F, Go, ds, E0, hv, hd, h⟩ := h
  have hpl : ps.length ≤ N.length := by
    have := congrArg List.length sc.pre
    rw [List.length_take] at this
    omega
  let X := cxOf (L2.CX P w) P w K mg base N qual scope f cdv A outer s H E
  let Z : Fx := ⟨K, mg, pa, Go, fun c d _ H => E c d H⟩
  have ft : Fit X Z k T Γ := ⟨rfl, rfl, rfl, sc.nd, hr, hk, sc.kind, takes_of rfl rfl rfl rfl, G, fun n => absurd hw n⟩
  have fc : FitC ⟨N, T, scope, none⟩ X := ⟨rfl, rfl, rfl⟩
  refine ⟨rdS Z (evSs Γ ss), chkSs_snd ss ⟨N, T, scope, none⟩ body X Z ft fc ⟨passes_of rfl, rfl, rfl⟩ hc, F, init mask ds ++ List.replicate (N.length - mask.length) none, ?_, ?_⟩
  · unfold L2.start
    rw [hv]
    exact E0.pad _
  · unfold semD at h
    rw [if_pos hd] at h
    cases q : evSs Γ ss (init mask ds ++ List.replicate (N.length - mask.length) none) with
    | ok fl ρ =>
      rw [q] at h
      dsimp only at h
      cases q2 : outsAt mask ρ with
      | none => rw [q2] at h; exact h.elim
      | some outs =>
        rw [q2] at h
        dsimp only at h
        cases fl with
        | nx =>
          intro σ' F' H' s' E'
          obtain ⟨e1, e2, e3⟩ := EnvOk.out E0 hd hv E' q2
          exact h .non F' H' s' e1 (e2 (sh .non) .non Rp.non)
        | rt v =>
          intro x σ' F' H' s' E' r
          obtain ⟨e1, e2, e3⟩ := EnvOk.out E0 hd hv E' q2
          exact h x F' H' s' e1 (e2 v x r)
    | err e ρ =>
      rw [q] at h
      dsimp only at h
      cases q2 : outsAt mask ρ with
      | none => rw [q2] at h; exact h.elim
      | some outs =>
        rw [q2] at h
        dsimp only at h
        intro σ' F' H' c x s' E' r
        obtain ⟨e1, e2, e3⟩ := EnvOk.out E0 hd hv E' q2
        exact h F' H' c x s' e1 r
    | bad => rw [q] at h; exact h.elim
/-- a promise by a plainer function -/
theorem sp_imp {mask : List Bool} {F F' : Fn} (h : ∀ ds, ds.length = mask.length → F' ds = .bad ∨ F ds = F' ds) : ∀ (vs : List V) (H : Hp) (Q : VK) (E : XK), spOf K mg mask F' vs H Q E → spOf K mg mask F vs H Q E := by
  rintro vs H Q E ⟨pa, Fz, G, ds, E0, hv, hd, q⟩
  refine ⟨pa, Fz, G, ds, E0, hv, hd, ?_⟩
  rcases h ds hd with z | z
  · rw [z] at q; exact q.elim
  · rw [z]; exact q
theorem fn_bad {f : Addr} {fd : FuncData} {ps : List Str} {mask : List Bool} (hm : mask.length = ps.length) : FnOk P w K mg base (L2.CX P w) k f fd ps (spOf K mg mask fun _ => .bad) :=
  ⟨len_sp hm, fun _ _ _ _ _ _ _ _ _ _ _ _ _ h => by
    obtain ⟨_, _, _, _, _, _, _, z⟩ := h
    exact z.elim⟩
/-- a function under its name, its promise -/
def FnFact (P : Program) (w : World) (K : PySem.W.Frag) (mg : Str → Option Value) (base : Heap) (k : Nat) (x : Str) (mask : List Bool) (F : Fn) : Prop :=
  ∃ (f : Addr) (fd : FuncData) (ps : List Str), mg x = some (.ref f) ∧ f = gaK K x ∧ PySem.W.keepIn K (.ref f) = true ∧ Binds K fd ps [] ∧ ps.length = mask.length ∧ FnOk P w K mg base (L2.CX P w) k f fd ps (spOf K mg mask F)
theorem FnFact.mono {j : Nat} {x : Str} {mask : List Bool} {F : Fn} (h : FnFact P w K mg base j x mask F) (le : j ≤ k) : FnFact P w K mg base k x mask F := by
  obtain ⟨f, fd, ps, h1, h0, h2, h3, h4, h5⟩ := h
  exact ⟨f, fd, ps, h1, h0, h2, h3, h4, h5.mono le⟩
theorem FnFact.imp {x : Str} {mask : List Bool} {F F' : Fn} (h : FnFact P w K mg base k x mask F) (i : ∀ ds, ds.length = mask.length → F' ds = .bad ∨ F ds = F' ds) : FnFact P w K mg base k x mask F' := by
  obtain ⟨f, fd, ps, h1, h0, h2, h3, h4, h5⟩ := h
  exact ⟨f, fd, ps, h1, h0, h2, h3, h4, h5.imp (sp_imp i)⟩
inductive FnFacts (P : Program) (w : World) (K : PySem.W.Frag) (mg : Str → Option Value) (base : Heap) (k : Nat) : List (Str × List Bool) → List Fn → Prop
  | nil : FnFacts P w K mg base k [] []
  | cons {x : Str} {mask : List Bool} {F : Fn} {l : List (Str × List Bool)} {fs : List Fn} : FnFact P w K mg base k x mask F → FnFacts P w K mg base k l fs → FnFacts P w K mg base k ((x, mask) :: l) (F :: fs)
theorem FnFacts.mono {j : Nat} {l : List (Str × List Bool)} {fs : List Fn} (h : FnFacts P w K mg base j l fs) (le : j ≤ k) : FnFacts P w K mg base k l fs := by
  induction h with
  | nil => exact .nil
  | cons a _ ih => exact .cons (a.mono le) ih
def ConFact (K : PySem.W.Frag) (mg : Str → Option Value) (x : Str) (d : D) : Prop := ∃ u v, mg x = some u ∧ RelV v u ∧ ∀ F, Rp K F v d
inductive ConFacts (K : PySem.W.Frag) (mg : Str → Option Value) : List Str → List D → Prop
  | nil : ConFacts K mg [] []
  | cons {x : Str} {d : D} {l : List Str} {ds : List D} : ConFact K mg x d → ConFacts K mg l ds → ConFacts K mg (x :: l) (d :: ds)
def mkG (fs : List Fn) (cs : List D) : Gm := ⟨fun j => fs.getD j fun _ => .bad, fun j => cs.getD j .non⟩
theorem FnFacts.at_ {l : List (Str × List Bool)} {fs : List Fn} (h : FnFacts P w K mg base k l fs) : ∀ {j : Nat} {x : Str} {mask : List Bool}, l[j]? = some (x, mask) → FnFact P w K mg base k x mask (fs.getD j fun _ => .bad) := by
  induction h with
  | nil => intro j x mask e; simp at e
  | cons a _ ih =>
    intro j x mask e
    cases j with
    | zero => simp at e; obtain ⟨rfl, rfl⟩ := e; exact a
    | succ j => exact ih (by simpa using e)
theorem ConFacts.at_ {l : List Str} {ds : List D} (h : ConFacts K mg l ds) : ∀ {j : Nat} {x : Str}, l[j]? = some x → ConFact K mg x (ds.getD j .non) := by
  induction h with
  | nil => intro j x e; simp at e
  | cons a _ ih =>
    intro j x e
    cases j with
    | zero => simp at e; subst e; exact a
    | succ j => exact ih (by simpa using e)
theorem good_of {fns : List (Str × List Bool)} {fs : List Fn} {cons : List Str} {cs : List D} {blt : List Str} (h1 : FnFacts P w K mg base k fns fs) (h2 : ConFacts K mg cons cs) (h3 : ∀ x ∈ blt, mg x = none) {exc known : List Str} (h4 : ∀ x ∈ exc, ExcF K mg x) (h5 : ∀ x ∈ known, ∀ y ∈ known, ExmF K mg x y) {excf : List (Str × Str)} (h6 : ∀ p ∈ excf, ∃ lv, lv + 1 ≤ k ∧ ExcO P w K mg base lv p.1 p.2) {ws : List WordT} : Good P w K mg base k ⟨fns, cons, blt, exc, known, excf, ws⟩ (mkG fs cs) where
  fns := fun j x mask e => h1.at_ e
  cons := fun j x e => h2.at_ e
  blt := h3
  exc := h4
  exm := h5
  excf := h6
/-- a def, by name -/
structure DefF (K : PySem.W.Frag) (mg : Str → Option Value) (x : Str) (params : Arguments) (body : List Stmt) (scope : Scope) (ps : List Str) : Prop where
  ex : ∃ (f : Addr) (fd : FuncData), FunD K x x params body scope [] [] f fd ∧ mg x = some (.ref f) ∧ f = gaK K x ∧ Binds K fd ps []
theorem DefF.ok {x : Str} {params : Arguments} {body : List Stmt} {scope : Scope} {ps : List Str} (D : DefF K mg x params body scope ps) {N : List Str} (sc : FnScope N ps scope) {mask : List Bool} (hm : mask.length = ps.length) (G : Good P w K mg base k T Γ) (hk : 1 ≤ k)
    {ss : List S} (hc : chkSs ⟨N, T, scope, none⟩ ss body = true) (hw : T.words = [] := by rfl) : FnFact P w K mg base (k + 1) x mask (semD mask N.length (evSs Γ ss)) := by
  obtain ⟨f, fd, F, m, g, b⟩ := D.ex
  exact ⟨f, fd, ps, m, g, F.kp, b, hm.symm, def_ok F sc hm G hk hc hw⟩
/-- a def of which nothing is told -/
theorem DefF.stub {x : Str} {params : Arguments} {body : List Stmt} {scope : Scope} {ps : List Str} (D : DefF K mg x params body scope ps) {mask : List Bool} (hm : mask.length = ps.length) : FnFact P w K mg base k x mask fun _ => .bad := by
  obtain ⟨f, fd, F, m, g, b⟩ := D.ex
  exact ⟨f, fd, ps, m, g, F.kp, b, hm.symm, fn_bad hm⟩
theorem DefF.word {x a f d : Str} {params : Arguments} {body : List Stmt} {scope : Scope} {known : List Str} {hs : List (Str × Str)} (D : DefF K mg x params body scope [a]) (sc : FnScope [a, f] [a] scope) (wf : wordB scope a f d hs body = true) : WordF K mg (x, d, known, hs) := by
  obtain ⟨g, fd, F, m, _, b⟩ := D.ex
  exact ⟨g, fd, params, body, scope, a, f, F, m, b, sc, wf⟩
/-- a promise whose caller keeps these tables of code objects -/
def spOfT (K : PySem.W.Frag) (mg : Str → Option Value) (t : List (Addr × Str)) (mask : List Bool) (F : Fn) : Sp := fun vs H Q E => ∃ pa Fz G ds, pa.t = t ∧ EnvOk K pa Fz G H (vs.map some) (init mask ds) ∧ vs.length = mask.length ∧ ds.length = mask.length ∧ match F ds with
  | .ok r outs => ∀ x F' H', Same Fz F' → EnvOk K pa F' G H' (vs.map some) (outEnv mask outs) → Res K F' G H' (vs.map some) (outEnv mask outs) x r → Q x H'
  | .err e outs => ∀ F' H' c x, Same Fz F' → EnvOk K pa F' G H' (vs.map some) (outEnv mask outs) → ExR K mg F' c x e → E c x H'
  | .bad => False
theorem len_spT {mask : List Bool} {F : Fn} {ps : List Str} {t : List (Addr × Str)} (hm : mask.length = ps.length) (vs : List V) (H : Hp) (Q : VK) (E : XK) (h : spOfT K mg t mask F vs H Q E) : vs.length = ps.length := by
  obtain ⟨_, _, _, _, _, _, h, _⟩ := h
  rw [h, hm]
/-- THE RULE for a def that makes lambdas -/
theorem def_okT {x qual : Str} {params : Arguments} {body : List Stmt} {scope : Scope} {f c Pt : Addr} {fd : FuncData} (D : FunD K x qual params body scope [] [] f fd) (hcode : fd.code = .ref c) {N ps : List Str} (sc : FnScope N ps scope) {mask : List Bool} (hm : mask.length = ps.length) (G : Good P w K mg base k T Γ) (hk : 1 ≤ k)
    (TB : LamX.TabB base mg c Pt) (hw : ∀ q ∈ T.words, WordF K mg q) {ss : List S} (hc : chkSs ⟨N, T, scope, none⟩ ss body = true) : FnOk P w K mg base (L2.CX P w) (k + 3) f fd ps (spOfT K mg [(Pt, (qual ++ ".<locals>." ++ ("<lambda>" : Str) : Str))] mask (semD mask N.length (evSs Γ ss))) := by
  obtain ⟨oc, od, dV, kV, doc, pm, an, cdv, ct, osl, rfl, lk, hcd, _, _⟩ := D.ex
  have ec : cdv = .ref c := hcode
  refine fn_of (k := k + 2) lk hcd sc (len_spT hm) fun A outer s H vs Q E hr h => ?_
  obtain ⟨pa, F, Go, ds, et, E0, hv, hd, h⟩ := h
  have hpl : ps.length ≤ N.length := by
    have := congrArg List.length sc.pre
    rw [List.length_take] at this
    omega
  let X := cxOf (L2.CX P w) P w K mg base N qual scope f cdv A outer s H E
  let Z : Fx := ⟨K, mg, pa, Go, fun c d _ H => E c d H⟩
  have r1 : Room (k + 2) X.A := hr
  have r2 : Room k X.A := r1.mono (Nat.le_add_right k 2)
  have e1 : X.env.code = .ref c := ec
  have eq : X.env.qual = qual ++ ".<locals>." := rfl
  have e2 : Z.pa.t = [(Pt, X.env.qual ++ ("<lambda>" : Str))] := by rw [eq]; exact et
  have lf : LamFit X Z k T Γ := ⟨c, Pt, r1, e1, TB, e2, hw⟩
  have ft : Fit X Z k T Γ := ⟨rfl, rfl, rfl, sc.nd, r2, hk, sc.kind, takes_of rfl rfl rfl rfl, G, fun _ => lf⟩
  have fc : FitC ⟨N, T, scope, none⟩ X := ⟨rfl, rfl, rfl⟩
  refine ⟨rdS Z (evSs Γ ss), chkSs_snd ss ⟨N, T, scope, none⟩ body X Z ft fc ⟨passes_of rfl, rfl, rfl⟩ hc, F, init mask ds ++ List.replicate (N.length - mask.length) none, ?_, ?_⟩
  · unfold L2.start
    rw [hv]
    exact E0.pad _
  · unfold semD at h
    rw [if_pos hd] at h
    cases q : evSs Γ ss (init mask ds ++ List.replicate (N.length - mask.length) none) with
    | ok fl ρ =>
      rw [q] at h
      dsimp only at h
      cases q2 : outsAt mask ρ with
      | none => rw [q2] at h; exact h.elim
      | some outs =>
        rw [q2] at h
        dsimp only at h
        cases fl with
        | nx =>
          intro σ' F' H' s' E'
          obtain ⟨e1, e2, e3⟩ := EnvOk.out E0 hd hv E' q2
          exact h .non F' H' s' e1 (e2 (sh .non) .non Rp.non)
        | rt v =>
          intro x σ' F' H' s' E' r
          obtain ⟨e1, e2, e3⟩ := EnvOk.out E0 hd hv E' q2
          exact h x F' H' s' e1 (e2 v x r)
    | err e ρ =>
      rw [q] at h
      dsimp only at h
      cases q2 : outsAt mask ρ with
      | none => rw [q2] at h; exact h.elim
      | some outs =>
        rw [q2] at h
        dsimp only at h
        intro σ' F' H' c x s' E' r
        obtain ⟨e1, e2, e3⟩ := EnvOk.out E0 hd hv E' q2
        exact h F' H' c x s' e1 r
    | bad => rw [q] at h; exact h.elim
/-- what a def that calls itself does, so many calls deep -/
def recF (mask : List Bool) (n : Nat) (Γ : Fn → Gm) (ss : List S) : Nat → Fn
  | 0 => fun _ => .bad
  | d + 1 => semD mask n (evSs (Γ (recF mask n Γ ss d)) ss)
/-- its own promise stands first in the table -/
theorem DefF.recur {x : Str} {params : Arguments} {body : List Stmt} {scope : Scope} {ps : List Str} (D : DefF K mg x params body scope ps) {N : List Str} (sc : FnScope N ps scope) {mask : List Bool} (hm : mask.length = ps.length) {fns : List (Str × List Bool)} {fs : List Fn} {cons : List Str} {cs : List PL.D} {blt : List Str}
    (h1 : FnFacts P w K mg base k fns fs) (h2 : ConFacts K mg cons cs) (h3 : ∀ x ∈ blt, mg x = none) {exc known : List Str} (h4 : ∀ x ∈ exc, ExcF K mg x) (h5 : ∀ x ∈ known, ∀ y ∈ known, ExmF K mg x y) {excf : List (Str × Str)} (h6 : ∀ p ∈ excf, ∃ lv, lv + 1 ≤ k ∧ ExcO P w K mg base lv p.1 p.2) (hk : 1 ≤ k) {ss : List S} (hc : chkSs ⟨N, ⟨(x, mask) :: fns, cons, blt, exc, known, excf, []⟩, scope, none⟩ ss body = true) :
    ∀ d : Nat, FnFact P w K mg base (k + d) x mask (recF mask N.length (fun F => mkG (F :: fs) cs) ss d)
  | 0 => by
    obtain ⟨f, fd, F, m, g, b⟩ := D.ex
    exact ⟨f, fd, ps, m, g, F.kp, b, hm.symm, fn_bad hm⟩
  | d + 1 => D.ok sc hm (good_of (.cons (DefF.recur D sc hm h1 h2 h3 h4 h5 h6 hk hc d) (h1.mono (Nat.le_add_right k d))) h2 h3 h4 h5 fun p hp => by
      obtain ⟨lv, l1, l2⟩ := h6 p hp
      exact ⟨lv, Nat.le_trans l1 (Nat.le_add_right k d), l2⟩) (Nat.le_trans hk (Nat.le_add_right k d)) hc
end
end PL
/-! PLHead: from the top's facts to the promises, from the law's promise to the law. -/
namespace PL
open PySem L2 PySem.Spec PyProof.Rows
/-- a global tuple of texts -/
def tupB (K : PySem.W.Frag) (x : Str) (ss : List Str) : Bool := match PySem.W.nsIn K mainGlobals x with
  | some (some (.ref a)) => (match K.lookup a with
    | some ⟨c, _, .seq its _, _⟩ => decide (c = .type "tuple") && decide (its.size ≤ 100) && He.relAll (ss.map V.str) its.toList
    | _ => false)
  | _ => false
section
variable {P : Program} {w : World} {K : PySem.W.Frag} {mg : Str → Option Value} {base h : Heap}
theorem rps_strsD {K : PySem.W.Frag} {F : Hp} : ∀ ss : List Str, Rps K F (ss.map V.str) (ss.map D.str)
  | [] => .nil
  | s :: ss => .cons (.str s) (rps_strsD ss)
theorem con_strs {x : Str} {ss : List Str} (X : K.In h) (G : h.Ns mainGlobals mg) (c : tupB K x ss = true) : ConFact K mg x (.tup (ss.map D.str)) := by
  unfold tupB at c
  split at c
  · rename_i a e
    split at c
    · rename_i cl dc its n sl lk
      simp only [Bool.and_eq_true, decide_eq_true_eq] at c
      obtain ⟨⟨h1, h2⟩, h3⟩ := c
      refine ⟨.ref a, .ref a, PySem.W.mg_of X G e, rfl, fun F => .tup (.inr ⟨_, its, n, lk, h1, rfl, by rw [sizeLine_eq]; omega, He.relAll_ok h3⟩) (rps_strsD ss)⟩
    · cases c
  · cases c
theorem con_int {x : Str} {i : Int} (X : K.In h) (G : h.Ns mainGlobals mg) (c : (He.Fa.int x i).ok K = true) : ConFact K mg x (.int i) := by
  obtain ⟨t, e⟩ := He.int_ok X G c
  exact ⟨_, .int i, e, ⟨t, rfl⟩, fun F => .int i⟩
theorem def_of {x : Str} {params : Arguments} {body : List Stmt} {scope : Scope} {ps : List Str} {fd : FuncData} (X : K.In h) (G : h.Ns mainGlobals mg) (c : (He.Fa.glo x).ok K = true) (F : FunD K x x params body scope [] [] (He.ga K x) fd)
    (b : ∀ (kV doc pm : Value) (an : Option Addr) (cdv ct : Value) (us : List Value), us.length = ps.length → bindArgs (PySem.W.fnOf x x params body scope .none kV doc pm an cdv ct) ⟨us, []⟩ = pure (ps.zip us)) : DefF K mg x params body scope ps :=
  ⟨He.ga K x, fd, F, He.glo_ok X G c, rfl, F.bindsN b⟩
/-- a class of errors, two told apart -/
def excB (K : PySem.W.Frag) (x : Str) : Bool := decide (PySem.W.nsIn K mainGlobals x = some (some (.ref (gaK K x)))) && (PySem.W.excIn K (gaK K x) veL "ValueError.__new__" && (PySem.W.keepIn K (.ref (gaK K x)) && (decide (PySem.W.subIn K (.ref (gaK K x)) (.type "BaseException") = some true) && decide (PySem.W.typeIn K (.ref (gaK K x)) = some (.type "type")))))
def kmB (K : PySem.W.Frag) (l : List Str) : Bool := l.all fun x => decide (PySem.W.nsIn K mainGlobals x = some (some (.ref (gaK K x)))) && l.all fun y => decide (PySem.W.exmOne K (.ref (gaK K x)) (.ref (gaK K y)) = some (decide (x = y)))
theorem exc_of {x : Str} (X : K.In h) (G : h.Ns mainGlobals mg) (c : excB K x = true) : ExcF K mg x := by
  unfold excB at c
  simp only [Bool.and_eq_true, decide_eq_true_eq] at c
  obtain ⟨c1, c2, c3, c4, c5⟩ := c
  exact ⟨_, PySem.W.mg_of X G c1, c2, c3, c4, c5⟩
theorem km_of {l : List Str} (X : K.In h) (G : h.Ns mainGlobals mg) (c : kmB K l = true) : ∀ x ∈ l, ∀ y ∈ l, ExmF K mg x y := by
  intro x hx y hy
  unfold kmB at c
  have h1 := List.all_eq_true.mp c x hx
  have h2 := List.all_eq_true.mp c y hy
  rw [Bool.and_eq_true, decide_eq_true_eq] at h1 h2
  exact ⟨_, _, PySem.W.mg_of X G h1.1, PySem.W.mg_of X G h2.1, of_decide_eq_true (List.all_eq_true.mp h1.2 y hy)⟩
/-! ### a Hook that looks at the table of the interpreter's statics too -/
structure SaysP (fa : List He.Fa) (fn : List He.DefD) (tf : List He.Defn) (ex : PySem.W.Frag → Bool) (w : World) (h : Heap) (K : PySem.W.Frag) : Prop where
  t : He.SaysT fa fn [] w K
  more : ex K = true
  hd : ∀ p ∈ tf, PySem.W.codeHdIn K (He.cT K p).1 (He.cT K p).2 = true
  out : ∀ p ∈ tf, K.lookup (He.cT K p).2 = none
  empty : ∀ p ∈ tf, h.get? (He.cT K p).2 = some { cls := .none, data := .fields #[] }
abbrev AlP : Type := He.AlT × Bool
/-- what the law's own names reach: the defs and their code, the classes to their methods' code -/
def refsG (g : Addr → Option Obj) (as : List Addr) : List Addr := as.flatMap fun a => match g a with
  | some o => He.refsO o
  | none => []
def adK (ns cs : List Str) (g : Addr → Option Obj) : List Addr :=
  (fun K0 : PySem.W.Frag => (fun fs ks : List Addr => (fun c1 => (fun c2 => mainGlobals :: cStatics :: (fs ++ refsG g fs ++ ks ++ c1 ++ c2 ++ refsG g c2)) (refsG g c1)) (refsG g ks)) (ns.map (He.ga K0)) (cs.map (He.ga K0))) (He.frG g [mainGlobals])
def frP (g : Addr → Option Obj) (n : List Str × List Str) : PySem.W.Frag := He.frT g (adK n.1 n.2 g)
def obsP (n : List Str × List Str) (fa : List He.Fa) (fn : List He.DefD) (tf : List He.Defn) (ex : PySem.W.Frag → Bool) (g : Addr → Option Obj) : AlP := (He.obsT fa fn [] (frP g n), ex (frP g n) && He.tabsB g tf (frP g n))
theorem saysP_of {n : List Str × List Str} {fa : List He.Fa} {fn : List He.DefD} {tf : List He.Defn} {ex : PySem.W.Frag → Bool} {w : World} {h : Heap} (e : obsP n fa fn tf ex h.get? = (He.valT fn [] w, true)) : SaysP fa fn tf ex w h (frP h.get? n) := by
  have e1 : He.obsT fa fn [] (frP h.get? n) = He.valT fn [] w := congrArg (fun z : AlP => z.1) e
  have e2 : (ex (frP h.get? n) && He.tabsB h.get? tf (frP h.get? n)) = true := congrArg (fun z : AlP => z.2) e
  obtain ⟨h1, h2⟩ := He.ba e2
  have key : ∀ p ∈ tf, PySem.W.codeHdIn (frP h.get? n) (He.cT (frP h.get? n) p).1 (He.cT (frP h.get? n) p).2 = true ∧ ∃ o, h.get? (He.cT (frP h.get? n) p).2 = some o ∧ He.emptyTab o = true := fun p hp => by
    obtain ⟨h3, h4⟩ := He.ba (List.all_eq_true.mp h2 p hp)
    refine ⟨h3, ?_⟩
    cases q : h.get? (He.cT (frP h.get? n) p).2 with
    | none =>
      rw [q] at h4
      cases h4
    | some o =>
      rw [q] at h4
      exact ⟨o, rfl, h4⟩
  exact ⟨e1, h1, fun p hp => (key p hp).1, fun p hp => by
    obtain ⟨_, o, q, z⟩ := key p hp
    exact He.frT_none q z, fun p hp => by
    obtain ⟨_, o, q, z⟩ := key p hp
    rw [q, He.emptyTab_eq z]⟩
def hookP (n : List Str × List Str) (fa : List He.Fa) (fn : List He.DefD) (tf : List He.Defn) (ex : PySem.W.Frag → Bool) : PySem.W.Hook where
  α := AlP
  obs := fun s => obsP n fa fn tf ex s.heap.get?
  val := fun w => (He.valT fn [] w, true)
  says := fun w h => ∃ K : PySem.W.Frag, K.In h ∧ SaysP fa fn tf ex w h K
  of := fun _ _ e => ⟨_, He.frT_in, saysP_of e⟩
  keeps := fun _ _ _ ⟨K, hK, c⟩ k => ⟨K, PySem.W.Frag.In.keeps hK k, ⟨c.t, c.more, c.hd, c.out, fun p hp => k _ _ (c.empty p hp)⟩⟩
theorem obsP_eq {n : List Str × List Str} {fa : List He.Fa} {fn : List He.DefD} {tf : List He.Defn} {ex : PySem.W.Frag → Bool} {g : Addr → Option Obj} {s : Shared} (h : ∀ a, g a = s.heap.get? a) : obsP n fa fn tf ex g = (hookP n fa fn tf ex).obs s := by
  have e : g = s.heap.get? := funext h
  rw [e] <;> rfl
/-- a def in a class's body -/
def clsDef (s : Stmt) (i : Nat) : Stmt := match s with
  | .ClassDef _ _ _ b _ _ _ _ _ _ _ => b.getD i (.Pass ⟨0, 0, 0, 0⟩)
  | _ => .Pass ⟨0, 0, 0, 0⟩
/-- a class of errors with a field, from its own __init__ -/
def exoB (K : PySem.W.Frag) (x fld B : Str) : Bool := decide (PySem.W.nsIn K mainGlobals x = some (some (.ref (gaK K x)))) && (decide (PySem.W.nsIn K mainGlobals B = some (some (.ref (gaK K B)))) && (oexB K (gaK K x) && (baseB K (gaK K B) && (L2.xfB K (gaK K x) && (decide (PySem.W.findIn K (.ref (gaK K x)) fld = some none) && (He.Fa.meth x "__init__").ok K)))))
theorem exo_of {x fld B n0 n1 qual : Str} {params : Arguments} {body : List Stmt} {scope : Scope} {fd : FuncData} (X : K.In h) (G : h.Ns mainGlobals mg) (c : exoB K x fld B = true) (F : FunD K "__init__" qual params body scope [] [] (He.ma K (He.ga K x) "__init__") fd)
    (sc : FnScope [n0, n1] [n0, n1] scope) (hc : initB scope n0 n1 B fld body = true)
    (b : ∀ (kV doc pm : Value) (an : Option Addr) (cdv ct : Value) (us : List Value), us.length = [n0, n1].length → bindArgs (PySem.W.fnOf "__init__" qual params body scope .none kV doc pm an cdv ct) ⟨us, []⟩ = pure ([n0, n1].zip us)) (P : Program) (w : World) (base : Heap) : ExcO P w K mg base 1 x fld := by
  unfold exoB at c
  rw [Bool.and_eq_true] at c
  obtain ⟨c1, c⟩ := c
  rw [Bool.and_eq_true] at c
  obtain ⟨c2, c⟩ := c
  rw [Bool.and_eq_true] at c
  obtain ⟨c3, c⟩ := c
  rw [Bool.and_eq_true] at c
  obtain ⟨c4, c⟩ := c
  rw [Bool.and_eq_true] at c
  obtain ⟨c5, c⟩ := c
  rw [Bool.and_eq_true] at c
  obtain ⟨c6, c7⟩ := c
  have M := He.meth_ok c7
  have mC := PySem.W.mg_of X G (of_decide_eq_true c1)
  have mB := PySem.W.mg_of X G (of_decide_eq_true c2)
  exact ⟨gaK K x, _, fd, [n0, n1], mC, oexB_ok c3, M.at_, eq_of_beq M.fn, init_ok F sc hc mB c4 (oexB_ok c3) (of_decide_eq_true c6), F.bindsN b, L2.xfB_ok c5, of_decide_eq_true c6⟩
theorem con_fn {x : Str} (m : mg x = some (.ref (He.ga K x))) : ConFact K mg x (.fn x) := ⟨_, .ref (gaK K x), m, rfl, fun F => .fn x⟩
/-! ### the law -/
/-- the law's def answers true at every script -/
def LawOk (n : Nat) (F : Fn) : Prop := ∀ ns : List Int, ns.length ≤ n → ∃ outs, F [.ro (ns.map D.int)] = .ok (sh (.bl true)) outs
theorem rps_ints {K : PySem.W.Frag} {F : Hp} : ∀ ns : List Int, Rps K F (ns.map V.int) (ns.map D.int)
  | [] => .nil
  | s :: ss => .cons (.int s) (rps_ints ss)
/-- what is known of the caller's heap: no tables -/
def noT (H : Hp) : Hp := fun a => match H a with
  | some (.tbl _) => none
  | some (.ext _) => none
  | o => o
theorem noT_at {H : Hp} {a : Addr} {o : HO} (h : noT H a = some o) : H a = some o ∧ notTab o := by
  unfold noT at h
  split at h
  · cases h
  · cases h
  · rename_i n1 n2
    refine ⟨h, ?_⟩
    cases o with
    | tbl ps => exact n1 ps h
    | ext p => exact n2 p h
    | _ => exact True.intro
theorem noT_of {H : Hp} {a : Addr} {o : HO} (h : H a = some o) (n : notTab o) : noT H a = some o := by
  unfold noT
  rw [h]
  cases o with
  | tbl ps => exact n.elim
  | ext p => exact n.elim
  | _ => rfl
theorem noT_seq {H : Hp} {a : Addr} {xs : List V} (h : SqL K H a xs) : SqL K (noT H) a xs := by
  rcases h with (h | ⟨o, h⟩) | h
  · exact .inl (.inl (noT_of h True.intro))
  · exact .inl (.inr ⟨o, noT_of h True.intro⟩)
  · exact .inr h
theorem env_law {t : List (Addr × Str)} (H : Hp) (a : Addr) (ns : List Int) (hS : SqL K H a (ns.map V.int)) (hT : LamX.Tabs t H) : EnvOk K ⟨fun _ => none, t⟩ (noT H) (fun _ => none) H (([.ref a] : List V).map some) (init [false] [.ro (ns.map D.int)]) := by
  refine ⟨fun b u q => (noT_at q).1, fun b u q => (by cases q), fun _ _ _ => rfl, rfl, fun i d q => ?_, fun i g d q ng => ?_, fun i d q => ?_, fun i j g g' d d' b ne q ng q' ng' => ?_, ⟨hT, fun b o q => (noT_at q).2, fun _ b ps q => (by cases q)⟩⟩
  · match i, q with
    | 0, q =>
      cases q
      exact ⟨.ref a, rfl, .ro (noT_seq hS) (rps_ints ns)⟩
    | i + 1, q => simp [init] at q
  · match i, q with
    | 0, q => cases q; exact absurd rfl ng
    | i + 1, q => simp [init] at q
  · match i, q with
    | 0, q => cases q
    | i + 1, q => simp [init] at q
  · match i, q with
    | 0, q => cases q; exact absurd rfl ng
    | i + 1, q => simp [init] at q
theorem sp_law {n : Nat} {F : Fn} (h : LawOk n F) (H : Hp) (a : Addr) (ns : List Int) (hl : ns.length ≤ n) (hS : SqL K H a (ns.map V.int)) : spOf K mg [false] F [.ref a] H (fun v _ => v = .bl true) fun _ _ _ => False := by
  obtain ⟨outs, e⟩ := h ns hl
  refine ⟨⟨fun _ => none, []⟩, noT H, fun _ => none, [.ro (ns.map D.int)], env_law H a ns hS (fun p hp => by cases hp), rfl, rfl, ?_⟩
  rw [e]
  intro x F' H' s E r
  have r' : Rp K F' x (.bl true) := r
  cases r'
  rfl
theorem sp_lawT {n : Nat} {F : Fn} {t : List (Addr × Str)} (h : LawOk n F) (H : Hp) (a : Addr) (ns : List Int) (hl : ns.length ≤ n) (hS : SqL K H a (ns.map V.int)) (hT : LamX.Tabs t H) : spOfT K mg t [false] F [.ref a] H (fun v _ => v = .bl true) fun _ _ _ => False := by
  obtain ⟨outs, e⟩ := h ns hl
  refine ⟨⟨fun _ => none, t⟩, noT H, fun _ => none, [.ro (ns.map D.int)], rfl, env_law H a ns hS hT, rfl, rfl, ?_⟩
  rw [e]
  intro x F' H' s E r
  have r' : Rp K F' x (.bl true) := r
  cases r'
  rfl
/-- from the law's promise to the row's walk -/
theorem walk_pl {l : PySem.W.OpenLaw} {n k : Nat} {q : Program} {loose : List Str} {XP : (Str → Option Value) → Heap → Prop} {YP : World → Heap → Prop} {d : DefRec} {x : Str} {F : Fn}
    (most : l.most = some n) (le : n ≤ sizeLine) (nodef : d.params.defaults = []) (room : Room k callerA) (law : LawOk n F)
    (got : ∀ (w : World) (mg : Str → Option Value) (fa : Addr) (h : Heap), YP w h → h.Ns mainGlobals mg → mg d.name = some (.ref fa) →
      ∃ (K : PySem.W.Frag) (fd : FuncData), K.In h ∧ (∀ (s : Shared) (u : Value), BindsTo s fd ⟨[u], []⟩ [(x, u)]) ∧ ∀ base : Heap, FnOk l.prog w K mg base (L2.CX l.prog w) k fa fd [x] (spOf K mg [false] F)) :
    PySem.W.WalkO q loose XP YP l.row.toRowW d [] (fun f vs => PySem.call f vs) := by
  refine Att.attach_call most nodef fun w sA sB mg mb fa o pm cd doc a vs ns G Y ho hd hcd hmg hobj hi hl hg => ?_
  obtain ⟨K, fd, inK, bd, ok⟩ := got w mg fa _ Y G.T.g hmg
  refine law_call inK G.T.g G.T.b G.T.builtins G.T.nolimit hg hobj hi (Nat.le_trans hl le) room (fun base _ _ => ok base) bd (fun H _ hS => sp_law law H a ns hl hS) fun H e s' hc => ?_
  obtain ⟨_, _, _, _, _, _, _, _, _, _, _, _, z⟩ := hc
  exact z
/-- a def's code object, by name -/
theorem code_of {x qual : Str} {p : He.Defn} {params : Arguments} {body : List Stmt} {scope : Scope} {fd : FuncData} (F : FunD K x qual params body scope [] [] (He.fAd K p) fd) : fd.code = .ref (He.cT K p).1 := by
  obtain ⟨oc, od, dV, kV, doc, pm, an, cdv, ct, osl, rfl, lk, hcd, _, _⟩ := F.ex
  obtain ⟨c0, rfl⟩ := He.codeIn_ref hcd
  have e := He.codeOf_eq (p := p) lk rfl
  show Value.ref c0 = .ref (He.codeOf K p)
  rw [e]
/-- the same with the law's table of code objects -/
theorem walk_plT {l : PySem.W.OpenLaw} {n k : Nat} {q : Program} {loose : List Str} {XP : (Str → Option Value) → Heap → Prop} {YP : World → Heap → Prop} {d : DefRec} {x : Str} {F : Fn} {qual : Str}
    (most : l.most = some n) (le : n ≤ sizeLine) (nodef : d.params.defaults = []) (room : Room k callerA) (law : LawOk n F)
    (got : ∀ (w : World) (mg : Str → Option Value) (fa : Addr) (h : Heap), YP w h → h.Ns mainGlobals mg → mg d.name = some (.ref fa) →
      ∃ (K : PySem.W.Frag) (fd : FuncData) (c Pt : Addr), K.In h ∧ h.get? Pt = some { cls := .none, data := .fields #[] } ∧ K.lookup Pt = none ∧ PySem.W.CodeHd h c Pt ∧ (∀ (s : Shared) (u : Value), BindsTo s fd ⟨[u], []⟩ [(x, u)]) ∧
        ∀ base : Heap, LamX.TabB base mg c Pt → FnOk l.prog w K mg base (L2.CX l.prog w) k fa fd [x] (spOfT K mg [(Pt, qual)] [false] F)) :
    PySem.W.WalkO q loose XP YP l.row.toRowW d [] (fun f vs => PySem.call f vs) := by
  refine LamX.walk_ofTsE (CX := fun w => L2.CX l.prog w) (x := x) most le nodef room (fun w mg fa h Y G hmg => ?_) fun w H s e s' hc => ?_
  · obtain ⟨K, fd, c, Pt, inK, hT, nT, C, bd, ok⟩ := got w mg fa h Y G hmg
    refine ⟨K, inK, fd, [(c, Pt)], spOfT K mg [(Pt, qual)] [false] F, fun p hp => ?_, fun p hp => ?_, fun p hp => ?_, bd, fun H a ns hl hb hH hS => sp_lawT law H a ns hl hS fun p hp => ?_, fun base _ _ TB => ok base (TB (c, Pt) List.mem_cons_self)⟩
    · cases List.mem_singleton.mp hp; exact hT
    · cases List.mem_singleton.mp hp; exact nT
    · cases List.mem_singleton.mp hp; exact C
    · cases List.mem_singleton.mp hp
      exact LamX.TabS.nil (hH (c, Pt) List.mem_cons_self)
  · obtain ⟨_, _, _, _, _, _, _, _, _, _, _, _, z⟩ := hc
    exact z
end
end PL
/-! terms and checks, printed by gen_law.py -/
namespace KT
open PySem L2 PySem.Spec PyProof.Rows PL
def top (i : Nat) : Stmt := PySem.Challenge.pw_anynesting_k14_nestings_written_and_read.main.body.getD i (.Pass ⟨0, 0, 0, 0⟩)
abbrev b__law_word : Stmt := top 31
def P__law_word : List Str := ["call"]
theorem fw__law_word : FnScope ["call", "found"] ["call"] (defScope b__law_word) := C8.fnScope_by (by decide +kernel)
theorem wf__law_word : wordB (defScope b__law_word) "call" "found" "" [("InvalidNumber", "number"), ("InvalidNesting", "nesting")] (defBody b__law_word) = true := by decide +kernel
def N_is_from : List Str := ["value", "low", "high"]
def P_is_from : List Str := ["value", "low", "high"]
def fns_is_from : List (Str × List Bool) := []
def T_is_from : Tab := ⟨fns_is_from, [], ["isinstance", "int", "bool"], [], [], [], []⟩
def s_is_from : List S := [.ret (.and (.isi .int (.var 0)) (.and (.not (.isi .bool (.var 0))) (.chain .le .le (.var 1) (.var 0) (.var 2))))]
abbrev b_is_from : Stmt := top 8
theorem c_is_from : chkSs ⟨N_is_from, T_is_from, defScope b_is_from, none⟩ s_is_from (defBody b_is_from) = true := by decide +kernel
theorem f_is_from : FnScope N_is_from P_is_from (defScope b_is_from) := C8.fnScope_by (by decide +kernel)
def N_is_tuple : List Str := ["value", "low", "high"]
def P_is_tuple : List Str := ["value", "low", "high"]
def fns_is_tuple : List (Str × List Bool) := []
def T_is_tuple : Tab := ⟨fns_is_tuple, [], ["isinstance", "tuple", "len"], [], [], [], []⟩
def s_is_tuple : List S := [.ret (.and (.isi .tuple (.var 0)) (.chain .le .le (.var 1) (.b1 .len (.var 0)) (.var 2)))]
abbrev b_is_tuple : Stmt := top 9
theorem c_is_tuple : chkSs ⟨N_is_tuple, T_is_tuple, defScope b_is_tuple, none⟩ s_is_tuple (defBody b_is_tuple) = true := by decide +kernel
theorem f_is_tuple : FnScope N_is_tuple P_is_tuple (defScope b_is_tuple) := C8.fnScope_by (by decide +kernel)
def N_is_kept : List Str := ["many", "value", "deep", "box"]
def P_is_kept : List Str := ["many", "value", "deep"]
def fns_is_kept : List (Str × List Bool) := [("is_kept", [false, false, false]), ("is_tuple", [false, false, false]), ("is_from", [false, false, false])]
def T_is_kept : Tab := ⟨fns_is_kept, ["MOST_BOXES"], ["isinstance", "tuple", "len"], [], [], [], []⟩
def s_is_kept : List S := [.ife (.or (.not (.isi .tuple (.var 1))) (.or (.cmp .gt (.b1 .len (.var 1)) (.con 0)) (.and (.cmp .ne (.var 1) (.tup [])) (.cmp .eq (.var 2) (.int 0))))) [.ret (.bl false)] [],
  .forIn (.nm 3) 0 (.var 1) none [.ife (.or (.not (.call 1 [.var 3, .int 2, .int 2])) (.or (.not (.call 2 [.ix (.var 3) (.int 0), .int 0, .bin .sub (.var 0) (.int 1)])) (.not (.call 0 [.var 0, .ix (.var 3) (.int 1), .bin .sub (.var 2) (.int 1)])))) [.ret (.bl false)] []],
  .ret (.bl true)]
abbrev b_is_kept : Stmt := top 10
theorem c_is_kept : chkSs ⟨N_is_kept, T_is_kept, defScope b_is_kept, none⟩ s_is_kept (defBody b_is_kept) = true := by decide +kernel
theorem f_is_kept : FnScope N_is_kept P_is_kept (defScope b_is_kept) := C8.fnScope_by (by decide +kernel)
def N_boxes_of : List Str := ["row", "stand", "inner"]
def P_boxes_of : List Str := ["row"]
def fns_boxes_of : List (Str × List Bool) := [("boxes_of", [false])]
def T_boxes_of : Tab := ⟨fns_boxes_of, [], ["sum"], [], [], [], []⟩
def s_boxes_of : List S := [.ret (.b1 .sum (.comp [1, 2] (.tup [.nm 1, .nm 2]) 0 (.var 0) none none (.bin .add (.int 1) (.call 0 [.var 2]))))]
abbrev b_boxes_of : Stmt := top 11
theorem c_boxes_of : chkSs ⟨N_boxes_of, T_boxes_of, defScope b_boxes_of, none⟩ s_boxes_of (defBody b_boxes_of) = true := by decide +kernel
theorem f_boxes_of : FnScope N_boxes_of P_boxes_of (defScope b_boxes_of) := C8.fnScope_by (by decide +kernel)
def N_has_nesting : List Str := ["many", "value"]
def P_has_nesting : List Str := ["many", "value"]
def fns_has_nesting : List (Str × List Bool) := [("is_kept", [false, false, false]), ("boxes_of", [false])]
def T_has_nesting : Tab := ⟨fns_has_nesting, ["MOST_DEEP", "MOST_BOXES"], [], [], [], [], []⟩
def s_has_nesting : List S := [.ret (.and (.call 0 [.var 0, .var 1, .con 0]) (.cmp .le (.call 1 [.var 1]) (.con 1)))]
abbrev b_has_nesting : Stmt := top 12
theorem c_has_nesting : chkSs ⟨N_has_nesting, T_has_nesting, defScope b_has_nesting, none⟩ s_has_nesting (defBody b_has_nesting) = true := by decide +kernel
theorem f_has_nesting : FnScope N_has_nesting P_has_nesting (defScope b_has_nesting) := C8.fnScope_by (by decide +kernel)
def N_need_nesting : List Str := ["many", "value"]
def P_need_nesting : List Str := ["many", "value"]
def fns_need_nesting : List (Str × List Bool) := [("has_nesting", [false, false])]
def T_need_nesting : Tab := ⟨fns_need_nesting, [], [], ["InvalidNesting"], [], [], []⟩
def s_need_nesting : List S := [.ife (.not (.call 0 [.var 0, .var 1])) [.raise "InvalidNesting" none] []]
abbrev b_need_nesting : Stmt := top 13
theorem c_need_nesting : chkSs ⟨N_need_nesting, T_need_nesting, defScope b_need_nesting, none⟩ s_need_nesting (defBody b_need_nesting) = true := by decide +kernel
theorem f_need_nesting : FnScope N_need_nesting P_need_nesting (defScope b_need_nesting) := C8.fnScope_by (by decide +kernel)
def N_number_of : List Str := ["word", "words", "number"]
def P_number_of : List Str := ["word"]
def fns_number_of : List (Str × List Bool) := []
def T_number_of : Tab := ⟨fns_number_of, [], ["range", "str"], [], [], [], []⟩
def s_number_of : List S := [.asg 1 (.comp [2] (.nm 2) 1 (.int 10) none none (.b1 .str (.var 2))),
  .ret (.ite (.mem false (.var 0) (.var 1)) (.index (.var 1) (.var 0)) (.non))]
abbrev b_number_of : Stmt := top 15
theorem c_number_of : chkSs ⟨N_number_of, T_number_of, defScope b_number_of, none⟩ s_number_of (defBody b_number_of) = true := by decide +kernel
theorem f_number_of : FnScope N_number_of P_number_of (defScope b_number_of) := C8.fnScope_by (by decide +kernel)
def N_nesting_lines : List Str := ["row", "deep", "found", "stand", "inner"]
def P_nesting_lines : List Str := ["row", "deep"]
def fns_nesting_lines : List (Str × List Bool) := [("nesting_lines", [false, false])]
def T_nesting_lines : Tab := ⟨fns_nesting_lines, [], ["str"], [], [], [], []⟩
def s_nesting_lines : List S := [.asg 2 (.lst []),
  .forIn (.tup [.nm 3, .nm 4]) 0 (.var 0) none [.asg 2 (.bin .add (.bin .add (.var 2) (.lst [.bin .add (.bin .mul (.str ".") (.var 1)) (.b1 .str (.var 3))])) (.call 0 [.var 4, .bin .add (.var 1) (.int 1)]))],
  .ret (.var 2)]
abbrev b_nesting_lines : Stmt := top 16
theorem c_nesting_lines : chkSs ⟨N_nesting_lines, T_nesting_lines, defScope b_nesting_lines, none⟩ s_nesting_lines (defBody b_nesting_lines) = true := by decide +kernel
theorem f_nesting_lines : FnScope N_nesting_lines P_nesting_lines (defScope b_nesting_lines) := C8.fnScope_by (by decide +kernel)
def N_need_many : List Str := ["value"]
def P_need_many : List Str := ["value"]
def fns_need_many : List (Str × List Bool) := [("is_from", [false, false, false])]
def T_need_many : Tab := ⟨fns_need_many, [], [], ["InvalidNumber"], [], [], []⟩
def s_need_many : List S := [.ife (.not (.call 0 [.var 0, .int 2, .int 3])) [.raise "InvalidNumber" none] []]
abbrev b_need_many : Stmt := top 17
theorem c_need_many : chkSs ⟨N_need_many, T_need_many, defScope b_need_many, none⟩ s_need_many (defBody b_need_many) = true := by decide +kernel
theorem f_need_many : FnScope N_need_many P_need_many (defScope b_need_many) := C8.fnScope_by (by decide +kernel)
def N_nesting_text : List Str := ["many", "nesting"]
def P_nesting_text : List Str := ["many", "nesting"]
def fns_nesting_text : List (Str × List Bool) := [("need_many", [false]), ("need_nesting", [false, false]), ("nesting_lines", [false, false])]
def T_nesting_text : Tab := ⟨fns_nesting_text, [], [], [], [], [], []⟩
def s_nesting_text : List S := [.ex (.call 0 [.var 0]),
  .ex (.call 1 [.var 0, .var 1]),
  .ret (.join (.str "\n") (.call 2 [.var 1, .int 0]))]
abbrev b_nesting_text : Stmt := top 18
theorem c_nesting_text : chkSs ⟨N_nesting_text, T_nesting_text, defScope b_nesting_text, none⟩ s_nesting_text (defBody b_nesting_text) = true := by decide +kernel
theorem f_nesting_text : FnScope N_nesting_text P_nesting_text (defScope b_nesting_text) := C8.fnScope_by (by decide +kernel)
def N_put_in : List Str := ["row", "deep", "stand", "inner"]
def P_put_in : List Str := ["row", "deep", "stand"]
def fns_put_in : List (Str × List Bool) := [("put_in", [false, false, false])]
def T_put_in : Tab := ⟨fns_put_in, [], [], [], [], [], []⟩
def s_put_in : List S := [.ife (.cmp .eq (.var 1) (.int 0)) [.ret (.bin .add (.var 0) (.tup [.tup [.var 2, .tup []]]))] [],
  .ife (.cmp .eq (.var 0) (.tup [])) [.ret (.non)] [],
  .asg 3 (.call 0 [.ix (.ix (.var 0) (.neg (.int 1))) (.int 1), .bin .sub (.var 1) (.int 1), .var 2]),
  .ret (.ite (.isN false (.var 3)) (.non) (.bin .add (.cut (.var 0) none (some (.neg (.int 1)))) (.tup [.tup [.ix (.ix (.var 0) (.neg (.int 1))) (.int 0), .var 3]])))]
abbrev b_put_in : Stmt := top 19
theorem c_put_in : chkSs ⟨N_put_in, T_put_in, defScope b_put_in, none⟩ s_put_in (defBody b_put_in) = true := by decide +kernel
theorem f_put_in : FnScope N_put_in P_put_in (defScope b_put_in) := C8.fnScope_by (by decide +kernel)
def N_read_nesting : List Str := ["many", "value", "row", "lines", "at", "line", "deep", "stand", "later"]
def P_read_nesting : List Str := ["many", "value"]
def fns_read_nesting : List (Str × List Bool) := [("need_many", [false]), ("number_of", [false]), ("is_from", [false, false, false]), ("put_in", [false, false, false]), ("has_nesting", [false, false])]
def T_read_nesting : Tab := ⟨fns_read_nesting, [], ["isinstance", "str", "enumerate", "len"], [], [], [("InvalidText", "line")], []⟩
def s_read_nesting : List S := [.ex (.call 0 [.var 0]),
  .ife (.not (.isi .str (.var 1))) [.raise "InvalidText" (some ("line", .int 0))] [],
  .asg 2 (.tup []),
  .asg 3 (.ite (.cmp .ne (.var 1) (.str "")) (.split (.var 1) (.str "\n")) (.lst [])),
  .forIn (.tup [.nm 4, .nm 5]) 3 (.var 3) none [.asg 6 (.bin .sub (.b1 .len (.var 5)) (.int 1)), .asg 7 (.call 1 [.cut (.var 5) (some (.neg (.int 1))) none]), .ife (.or (.cmp .ne (.cut (.var 5) none (some (.neg (.int 1)))) (.bin .mul (.str ".") (.var 6))) (.not (.call 2 [.var 7, .int 0, .bin .sub (.var 0) (.int 1)]))) [.raise "InvalidText" (some ("line", .bin .add (.var 4) (.int 1)))] [], .asg 8 (.call 3 [.var 2, .var 6, .var 7]), .ife (.or (.isN false (.var 8)) (.not (.call 4 [.var 0, .var 8]))) [.raise "InvalidText" (some ("line", .bin .add (.var 4) (.int 1)))] [], .asg 2 (.var 8)],
  .ret (.var 2)]
abbrev b_read_nesting : Stmt := top 20
theorem c_read_nesting : chkSs ⟨N_read_nesting, T_read_nesting, defScope b_read_nesting, none⟩ s_read_nesting (defBody b_read_nesting) = true := by decide +kernel
theorem f_read_nesting : FnScope N_read_nesting P_read_nesting (defScope b_read_nesting) := C8.fnScope_by (by decide +kernel)
def N__law_source : List Str := ["script", "k", "cell"]
def P__law_source : List Str := ["script", "k"]
def fns__law_source : List (Str × List Bool) := []
def T__law_source : Tab := ⟨fns__law_source, [], ["len", "abs", "int"], [], [], [], []⟩
def s__law_source : List S := [.asg 2 (.ite (.cmp .lt (.var 1) (.b1 .len (.var 0))) (.b1 .abs (.b1 .int (.ix (.var 0) (.var 1)))) (.bin .add (.bin .mul (.int 73) (.var 1)) (.int 19))),
  .ret (.lst [.ite (.cmp .gt (.var 2) (.bin .pow (.int 10) (.int 17))) (.var 2) (.int 0), .bin .mod (.b1 .int (.bin .add (.bin .add (.bin .mul (.var 2) (.int 16807)) (.bin .mul (.int 6007) (.var 1))) (.int 41))) (.int 2147483237)])]
abbrev b__law_source : Stmt := top 22
theorem c__law_source : chkSs ⟨N__law_source, T__law_source, defScope b__law_source, none⟩ s__law_source (defBody b__law_source) = true := by decide +kernel
theorem f__law_source : FnScope N__law_source P__law_source (defScope b__law_source) := C8.fnScope_by (by decide +kernel)
def N__law_draw : List Str := ["source", "many", "rest", "wide"]
def P__law_draw : List Str := ["source", "many"]
def fns__law_draw : List (Str × List Bool) := []
def T__law_draw : Tab := ⟨fns__law_draw, [], ["int"], [], [], [], []⟩
def s__law_draw : List S := [.ife (.cmp .gt (.ix (.pk 0) (.int 0)) (.int 0)) [.asg 2 (.bin .mod (.b1 .int (.ix (.pk 0) (.int 0))) (.var 1)), .setix 0 (.int 0) (.bin .fdiv (.ix (.pk 0) (.int 0)) (.var 1)), .ret (.var 2)] [],
  .setix 0 (.int 1) (.bin .mod (.b1 .int (.bin .add (.bin .mul (.ix (.pk 0) (.int 1)) (.int 48271)) (.int 83))) (.int 2147483237)),
  .asg 3 (.bin .mod (.b1 .int (.bin .mul (.ix (.pk 0) (.int 1)) (.bin .add (.bin .fdiv (.ix (.pk 0) (.int 1)) (.int 23)) (.int 14)))) (.int 2147483179)),
  .ret (.bin .mod (.b1 .int (.bin .fdiv (.var 3) (.int 32))) (.var 1))]
abbrev b__law_draw : Stmt := top 23
theorem c__law_draw : chkSs ⟨N__law_draw, T__law_draw, defScope b__law_draw, none⟩ s__law_draw (defBody b__law_draw) = true := by decide +kernel
theorem f__law_draw : FnScope N__law_draw P__law_draw (defScope b__law_draw) := C8.fnScope_by (by decide +kernel)
def N__law_choice : List Str := ["source", "some"]
def P__law_choice : List Str := ["source", "some"]
def fns__law_choice : List (Str × List Bool) := [("_law_draw", [true, false])]
def T__law_choice : Tab := ⟨fns__law_choice, [], ["len"], [], [], [], []⟩
def s__law_choice : List S := [.ret (.ix (.var 1) (.call 0 [.io 0, .b1 .len (.var 1)]))]
abbrev b__law_choice : Stmt := top 24
theorem c__law_choice : chkSs ⟨N__law_choice, T__law_choice, defScope b__law_choice, none⟩ s__law_choice (defBody b__law_choice) = true := by decide +kernel
theorem f__law_choice : FnScope N__law_choice P__law_choice (defScope b__law_choice) := C8.fnScope_by (by decide +kernel)
def N__law_nesting : List Str := ["source", "many", "most", "row", "turn", "deep"]
def P__law_nesting : List Str := ["source", "many", "most"]
def fns__law_nesting : List (Str × List Bool) := [("_law_draw", [true, false]), ("_law_put", [false, false, false])]
def T__law_nesting : Tab := ⟨fns__law_nesting, [], ["range"], [], [], [], []⟩
def s__law_nesting : List S := [.asg 3 (.tup []),
  .forIn (.nm 4) 1 (.call 0 [.io 0, .bin .add (.var 2) (.int 1)]) none [.asg 5 (.call 0 [.io 0, .ite (.cmp .gt (.call 0 [.io 0, .int 4]) (.int 0)) (.int 7) (.int 2)]), .asg 3 (.call 1 [.var 3, .var 5, .call 0 [.io 0, .var 1]])],
  .ret (.var 3)]
abbrev b__law_nesting : Stmt := top 25
theorem c__law_nesting : chkSs ⟨N__law_nesting, T__law_nesting, defScope b__law_nesting, none⟩ s__law_nesting (defBody b__law_nesting) = true := by decide +kernel
theorem f__law_nesting : FnScope N__law_nesting P__law_nesting (defScope b__law_nesting) := C8.fnScope_by (by decide +kernel)
def N__law_put : List Str := ["row", "deep", "stand"]
def P__law_put : List Str := ["row", "deep", "stand"]
def fns__law_put : List (Str × List Bool) := [("_law_put", [false, false, false])]
def T__law_put : Tab := ⟨fns__law_put, [], [], [], [], [], []⟩
def s__law_put : List S := [.ife (.or (.cmp .eq (.var 1) (.int 0)) (.cmp .eq (.var 0) (.tup []))) [.ret (.bin .add (.var 0) (.tup [.tup [.var 2, .tup []]]))] [],
  .ret (.bin .add (.cut (.var 0) none (some (.neg (.int 1)))) (.tup [.tup [.ix (.ix (.var 0) (.neg (.int 1))) (.int 0), .call 0 [.ix (.ix (.var 0) (.neg (.int 1))) (.int 1), .bin .sub (.var 1) (.int 1), .var 2]]]))]
abbrev b__law_put : Stmt := top 26
theorem c__law_put : chkSs ⟨N__law_put, T__law_put, defScope b__law_put, none⟩ s__law_put (defBody b__law_put) = true := by decide +kernel
theorem f__law_put : FnScope N__law_put P__law_put (defScope b__law_put) := C8.fnScope_by (by decide +kernel)
def N__law_text_lines : List Str := ["row", "deep", "found", "stand", "inner"]
def P__law_text_lines : List Str := ["row", "deep"]
def fns__law_text_lines : List (Str × List Bool) := [("_law_text_lines", [false, false])]
def T__law_text_lines : Tab := ⟨fns__law_text_lines, [], ["str"], [], [], [], []⟩
def s__law_text_lines : List S := [.asg 2 (.lst []),
  .forIn (.tup [.nm 3, .nm 4]) 0 (.var 0) none [.app 2 (.bin .add (.bin .mul (.str ".") (.var 1)) (.b1 .str (.var 3))), .asg 2 (.bin .add (.pk 2) (.call 0 [.var 4, .bin .add (.var 1) (.int 1)]))],
  .ret (.mov 2)]
abbrev b__law_text_lines : Stmt := top 27
theorem c__law_text_lines : chkSs ⟨N__law_text_lines, T__law_text_lines, defScope b__law_text_lines, none⟩ s__law_text_lines (defBody b__law_text_lines) = true := by decide +kernel
theorem f__law_text_lines : FnScope N__law_text_lines P__law_text_lines (defScope b__law_text_lines) := C8.fnScope_by (by decide +kernel)
def N__law_bent : List Str := ["source", "text", "signs", "at", "lines", "here", "some"]
def P__law_bent : List Str := ["source", "text"]
def fns__law_bent : List (Str × List Bool) := [("_law_draw", [true, false]), ("_law_choice", [true, false])]
def T__law_bent : Tab := ⟨fns__law_bent, [], ["len"], [], [], [], []⟩
def s__law_bent : List S := [.asg 2 (.lst [.str ".", .str "0", .str "1", .str "2", .str "", .str "\n", .str ".0", .str "\n.1", .str " ", .str "\n..1", .str "\n0"]),
  .asg 3 (.call 0 [.io 0, .bin .add (.b1 .len (.var 1)) (.int 1)]),
  .asg 1 (.bin .add (.bin .add (.cut (.var 1) none (some (.var 3))) (.call 1 [.io 0, .var 2])) (.cut (.var 1) (some (.bin .add (.var 3) (.call 0 [.io 0, .int 3]))) none)),
  .asg 4 (.split (.var 1) (.str "\n")),
  .asg 5 (.call 0 [.io 0, .b1 .len (.var 4)]),
  .asg 6 (.lst [.var 1, .var 1, .join (.str "\n") (.bin .add (.cut (.var 4) none (some (.var 5))) (.cut (.var 4) (some (.bin .add (.var 5) (.int 1))) none)), .join (.str "\n") (.bin .add (.cut (.var 4) none (some (.bin .add (.var 5) (.int 1)))) (.cut (.var 4) (some (.var 5)) none))]),
  .ret (.call 1 [.io 0, .bin .add (.var 6) (.lst [.join (.str "\n") (.bin .add (.cut (.var 4) (some (.var 5)) none) (.cut (.var 4) none (some (.var 5))))])])]
abbrev b__law_bent : Stmt := top 28
theorem c__law_bent : chkSs ⟨N__law_bent, T__law_bent, defScope b__law_bent, none⟩ s__law_bent (defBody b__law_bent) = true := by decide +kernel
theorem f__law_bent : FnScope N__law_bent P__law_bent (defScope b__law_bent) := C8.fnScope_by (by decide +kernel)
def N__law_wrong : List Str := ["many", "text", "last", "lines", "at", "line", "deep"]
def P__law_wrong : List Str := ["many", "text"]
def fns__law_wrong : List (Str × List Bool) := []
def T__law_wrong : Tab := ⟨fns__law_wrong, [], ["enumerate", "len"], [], [], [], []⟩
def s__law_wrong : List S := [.par [2, 3] [.neg (.int 1), .ite (.cmp .ne (.var 1) (.str "")) (.split (.var 1) (.str "\n")) (.lst [])],
  .forIn (.tup [.nm 4, .nm 5]) 3 (.var 3) none [.asg 6 (.bin .sub (.b1 .len (.var 5)) (.int 1)), .ife (.or (.cmp .eq (.var 5) (.str "")) (.or (.cmp .ne (.cut (.var 5) none (some (.neg (.int 1)))) (.bin .mul (.str ".") (.var 6))) (.mem true (.ix (.var 5) (.neg (.int 1))) (.cut (.lst [.str "0", .str "1", .str "2"]) none (some (.var 0)))))) [.ret (.bin .add (.var 4) (.int 1))] [], .ife (.or (.cmp .gt (.var 6) (.bin .add (.var 2) (.int 1))) (.or (.cmp .gt (.var 6) (.int 7)) (.cmp .gt (.var 4) (.int 39)))) [.ret (.bin .add (.var 4) (.int 1))] [], .asg 2 (.var 6)],
  .ret (.int 0)]
abbrev b__law_wrong : Stmt := top 29
theorem c__law_wrong : chkSs ⟨N__law_wrong, T__law_wrong, defScope b__law_wrong, none⟩ s__law_wrong (defBody b__law_wrong) = true := by decide +kernel
theorem f__law_wrong : FnScope N__law_wrong P__law_wrong (defScope b__law_wrong) := C8.fnScope_by (by decide +kernel)
def N__law_tried : List Str := ["many", "value", "found", "e"]
def P__law_tried : List Str := ["many", "value"]
def fns__law_tried : List (Str × List Bool) := [("read_nesting", [false, false])]
def T__law_tried : Tab := ⟨fns__law_tried, [], [], [], ["InvalidNesting", "InvalidNumber", "InvalidText"], [("InvalidText", "line")], []⟩
def s__law_tried : List S := [.asg 2 (.non),
  .tryAs ["InvalidNesting", "InvalidNumber", "InvalidText"] [.asg 2 (.tup [.str "read", .call 0 [.var 0, .var 1]])] "InvalidText" 3 2 0 "line" "line",
  .ret (.var 2)]
abbrev b__law_tried : Stmt := top 30
theorem c__law_tried : chkSs ⟨N__law_tried, T__law_tried, defScope b__law_tried, none⟩ s__law_tried (defBody b__law_tried) = true := by decide +kernel
theorem f__law_tried : FnScope N__law_tried P__law_tried (defScope b__law_tried) := C8.fnScope_by (by decide +kernel)
def N_law : List Str := ["script", "k", "source", "many", "row", "text", "turn", "odd", "wrong", "word", "found", "deep", "at", "rows", "line"]
def P_law : List Str := ["script"]
def fns_law : List (Str × List Bool) := [("_law_source", [false, false]), ("_law_choice", [true, false]), ("_law_nesting", [true, false, false]), ("_law_text_lines", [false, false]), ("nesting_text", [false, false]), ("_law_tried", [false, false]), ("_law_bent", [true, false]), ("_law_wrong", [false, false]), ("read_nesting", [false, false])]
def T_law : Tab := ⟨fns_law, [], ["range", "min", "len"], [], ["InvalidNesting", "InvalidNumber", "InvalidText"], [], [("_law_word", "", ["InvalidNesting", "InvalidNumber", "InvalidText"], [("InvalidNumber", "number"), ("InvalidNesting", "nesting")])]⟩
def s_law : List S := [.forIn (.nm 1) 1 (.bin .add (.int 1) (.b2 .min (.b1 .len (.var 0)) (.int 8))) none [.asg 2 (.call 0 [.var 0, .var 1]), .asg 3 (.call 1 [.io 2, .lst [.int 2, .int 3]]), .asg 4 (.call 2 [.io 2, .var 3, .int 40]), .asg 5 (.join (.str "\n") (.call 3 [.var 4, .int 0])), .ife (.or (.cmp .ne (.call 4 [.var 3, .var 4]) (.var 5)) (.cmp .ne (.call 5 [.var 3, .var 5]) (.tup [.str "read", .var 4]))) [.ret (.bl false)] [], .forIn (.nm 6) 1 (.int 16) none [.asg 5 (.call 6 [.io 2, .ite (.cmp .eq (.bin .mod (.var 6) (.int 3)) (.int 0)) (.call 4 [.var 3, .var 4]) (.var 5)]), .asgT (.tup [.nm 9, .nm 10]) (.call 5 [.var 3, .var 5]), .asg 8 (.call 7 [.var 3, .var 5]), .ife (.or (.cmp .ne (.cmp .eq (.var 9) (.str "read")) (.cmp .eq (.var 8) (.int 0))) (.and (.cmp .eq (.var 9) (.str "line")) (.cmp .ne (.var 10) (.var 8)))) [.ret (.bl false)] [], .ife (.and (.cmp .eq (.var 9) (.str "read")) (.cmp .ne (.join (.str "\n") (.call 3 [.var 10, .int 0])) (.var 5))) [.ret (.bl false)] []], .forIn (.nm 7) 0 (.lst [.non, .int 5, .tup [.var 5], .lst [.var 5], .bl true, .var 4]) none [.ife (.cmp .ne (.call 5 [.var 3, .var 7]) (.tup [.str "line", .int 0])) [.ret (.bl false)] []], .forIn (.nm 7) 0 (.lst [.non, .int 1, .int 4, .str "2", .bl true]) none [.ife (.cmp .ne (.lamc "" ["InvalidNesting", "InvalidNumber", "InvalidText"] [("InvalidNumber", "number"), ("InvalidNesting", "nesting")] (.call 4 [.var 7, .non])) (.str "number")) [.ret (.bl false)] [], .ife (.cmp .ne (.lamc "" ["InvalidNesting", "InvalidNumber", "InvalidText"] [("InvalidNumber", "number"), ("InvalidNesting", "nesting")] (.call 8 [.var 7, .non])) (.str "number")) [.ret (.bl false)] []], .ife (.cmp .ne (.lamc "" ["InvalidNesting", "InvalidNumber", "InvalidText"] [("InvalidNumber", "number"), ("InvalidNesting", "nesting")] (.call 4 [.var 3, .tup [.tup [.var 3, .tup []]]])) (.str "nesting")) [.ret (.bl false)] []],
  .ife (.cmp .ne (.call 4 [.int 2, .tup [.tup [.int 0, .tup [.tup [.int 1, .tup []]]], .tup [.int 1, .tup []]]]) (.str "0\n.1\n1")) [.ret (.bl false)] [],
  .asg 11 (.join (.str "\n") (.comp [12] (.nm 12) 1 (.int 9) none none (.bin .add (.bin .mul (.str ".") (.var 12)) (.str "1")))),
  .asg 13 (.lst [.str ".0", .str "0\n..1", .str "0\n", .str "0 1", .str "3", .str "-1", .join (.str "\n") (.bin .mul (.lst [.str "0"]) (.int 41)), .var 11, .str "0\n.\n1", .str "..", .str "00"]),
  .ife (.cmp .ne (.comp [4] (.nm 4) 0 (.var 13) none none (.call 5 [.int 3, .var 4])) (.comp [14] (.nm 14) 0 (.lst [.int 1, .int 2, .int 2, .int 1, .int 1, .int 1, .int 41, .int 9, .int 2, .int 1, .int 1]) none none (.tup [.str "line", .var 14]))) [.ret (.bl false)] [],
  .ife (.cmp .ne (.call 5 [.int 2, .str "0\n.1\n..0\n.0\n1"]) (.tup [.str "read", .tup [.tup [.int 0, .tup [.tup [.int 1, .tup [.tup [.int 0, .tup []]]], .tup [.int 0, .tup []]]], .tup [.int 1, .tup []]]])) [.ret (.bl false)] [],
  .ret (.cmp .eq (.call 5 [.int 2, .str ""]) (.tup [.str "read", .tup []]))]
abbrev b_law : Stmt := top 32
theorem c_law : chkSs ⟨N_law, T_law, defScope b_law, none⟩ s_law (defBody b_law) = true := by decide +kernel
theorem f_law : FnScope N_law P_law (defScope b_law) := C8.fnScope_by (by decide +kernel)
end KT
section
namespace KT
open PySem L2 PySem.Spec PyProof.Rows PL
def cs_is_from : List PL.D := []
def fs_is_from : List Fn := []
def F_is_from : Fn := semD [false, false, false] N_is_from.length (evSs (mkG fs_is_from cs_is_from) s_is_from)
def cs_is_tuple : List PL.D := []
def fs_is_tuple : List Fn := []
def F_is_tuple : Fn := semD [false, false, false] N_is_tuple.length (evSs (mkG fs_is_tuple cs_is_tuple) s_is_tuple)
def cs_is_kept : List PL.D := [.int 40]
def fs_is_kept : List Fn := [F_is_tuple, F_is_from]
def R_is_kept : Nat → Fn := recF [false, false, false] N_is_kept.length (fun F => mkG (F :: fs_is_kept) cs_is_kept) s_is_kept
def F_is_kept : Fn := R_is_kept 64
def cs_boxes_of : List PL.D := []
def fs_boxes_of : List Fn := []
def R_boxes_of : Nat → Fn := recF [false] N_boxes_of.length (fun F => mkG (F :: fs_boxes_of) cs_boxes_of) s_boxes_of
def F_boxes_of : Fn := R_boxes_of 64
def cs_has_nesting : List PL.D := [.int 8, .int 40]
def fs_has_nesting : List Fn := [F_is_kept, F_boxes_of]
def F_has_nesting : Fn := semD [false, false] N_has_nesting.length (evSs (mkG fs_has_nesting cs_has_nesting) s_has_nesting)
def cs_need_nesting : List PL.D := []
def fs_need_nesting : List Fn := [F_has_nesting]
def F_need_nesting : Fn := semD [false, false] N_need_nesting.length (evSs (mkG fs_need_nesting cs_need_nesting) s_need_nesting)
def cs_number_of : List PL.D := []
def fs_number_of : List Fn := []
def F_number_of : Fn := semD [false] N_number_of.length (evSs (mkG fs_number_of cs_number_of) s_number_of)
def cs_nesting_lines : List PL.D := []
def fs_nesting_lines : List Fn := []
def R_nesting_lines : Nat → Fn := recF [false, false] N_nesting_lines.length (fun F => mkG (F :: fs_nesting_lines) cs_nesting_lines) s_nesting_lines
def F_nesting_lines : Fn := R_nesting_lines 64
def cs_need_many : List PL.D := []
def fs_need_many : List Fn := [F_is_from]
def F_need_many : Fn := semD [false] N_need_many.length (evSs (mkG fs_need_many cs_need_many) s_need_many)
def cs_nesting_text : List PL.D := []
def fs_nesting_text : List Fn := [F_need_many, F_need_nesting, F_nesting_lines]
def F_nesting_text : Fn := semD [false, false] N_nesting_text.length (evSs (mkG fs_nesting_text cs_nesting_text) s_nesting_text)
def cs_put_in : List PL.D := []
def fs_put_in : List Fn := []
def R_put_in : Nat → Fn := recF [false, false, false] N_put_in.length (fun F => mkG (F :: fs_put_in) cs_put_in) s_put_in
def F_put_in : Fn := R_put_in 64
def cs_read_nesting : List PL.D := []
def fs_read_nesting : List Fn := [F_need_many, F_number_of, F_is_from, F_put_in, F_has_nesting]
def F_read_nesting : Fn := semD [false, false] N_read_nesting.length (evSs (mkG fs_read_nesting cs_read_nesting) s_read_nesting)
def cs__law_source : List PL.D := []
def fs__law_source : List Fn := []
def F__law_source : Fn := semD [false, false] N__law_source.length (evSs (mkG fs__law_source cs__law_source) s__law_source)
def cs__law_draw : List PL.D := []
def fs__law_draw : List Fn := []
def F__law_draw : Fn := semD [true, false] N__law_draw.length (evSs (mkG fs__law_draw cs__law_draw) s__law_draw)
def cs__law_choice : List PL.D := []
def fs__law_choice : List Fn := [F__law_draw]
def F__law_choice : Fn := semD [true, false] N__law_choice.length (evSs (mkG fs__law_choice cs__law_choice) s__law_choice)
def cs__law_put : List PL.D := []
def fs__law_put : List Fn := []
def R__law_put : Nat → Fn := recF [false, false, false] N__law_put.length (fun F => mkG (F :: fs__law_put) cs__law_put) s__law_put
def F__law_put : Fn := R__law_put 64
def cs__law_nesting : List PL.D := []
def fs__law_nesting : List Fn := [F__law_draw, F__law_put]
def F__law_nesting : Fn := semD [true, false, false] N__law_nesting.length (evSs (mkG fs__law_nesting cs__law_nesting) s__law_nesting)
def cs__law_text_lines : List PL.D := []
def fs__law_text_lines : List Fn := []
def R__law_text_lines : Nat → Fn := recF [false, false] N__law_text_lines.length (fun F => mkG (F :: fs__law_text_lines) cs__law_text_lines) s__law_text_lines
def F__law_text_lines : Fn := R__law_text_lines 64
def cs__law_bent : List PL.D := []
def fs__law_bent : List Fn := [F__law_draw, F__law_choice]
def F__law_bent : Fn := semD [true, false] N__law_bent.length (evSs (mkG fs__law_bent cs__law_bent) s__law_bent)
def cs__law_wrong : List PL.D := []
def fs__law_wrong : List Fn := []
def F__law_wrong : Fn := semD [false, false] N__law_wrong.length (evSs (mkG fs__law_wrong cs__law_wrong) s__law_wrong)
def cs__law_tried : List PL.D := []
def fs__law_tried : List Fn := [F_read_nesting]
def F__law_tried : Fn := semD [false, false] N__law_tried.length (evSs (mkG fs__law_tried cs__law_tried) s__law_tried)
def cs_law : List PL.D := []
def fs_law : List Fn := [F__law_source, F__law_choice, F__law_nesting, F__law_text_lines, F_nesting_text, F__law_tried, F__law_bent, F__law_wrong, F_read_nesting]
def F_law : Fn := semD [false] N_law.length (evSs (mkG fs_law cs_law) s_law)
end KT
/-! what each def does; the head; printed by gen_head.py -/
namespace KT
open PySem L2 PySem.Spec PyProof.Rows PL
structure TopF (K : PySem.W.Frag) (mg : Str → Option Value) : Prop where
  d_is_from : DefF K mg "is_from" (defArgs b_is_from) (defBody b_is_from) (defScope b_is_from) P_is_from
  d_is_tuple : DefF K mg "is_tuple" (defArgs b_is_tuple) (defBody b_is_tuple) (defScope b_is_tuple) P_is_tuple
  d_is_kept : DefF K mg "is_kept" (defArgs b_is_kept) (defBody b_is_kept) (defScope b_is_kept) P_is_kept
  d_boxes_of : DefF K mg "boxes_of" (defArgs b_boxes_of) (defBody b_boxes_of) (defScope b_boxes_of) P_boxes_of
  d_has_nesting : DefF K mg "has_nesting" (defArgs b_has_nesting) (defBody b_has_nesting) (defScope b_has_nesting) P_has_nesting
  d_need_nesting : DefF K mg "need_nesting" (defArgs b_need_nesting) (defBody b_need_nesting) (defScope b_need_nesting) P_need_nesting
  d_number_of : DefF K mg "number_of" (defArgs b_number_of) (defBody b_number_of) (defScope b_number_of) P_number_of
  d_nesting_lines : DefF K mg "nesting_lines" (defArgs b_nesting_lines) (defBody b_nesting_lines) (defScope b_nesting_lines) P_nesting_lines
  d_need_many : DefF K mg "need_many" (defArgs b_need_many) (defBody b_need_many) (defScope b_need_many) P_need_many
  d_nesting_text : DefF K mg "nesting_text" (defArgs b_nesting_text) (defBody b_nesting_text) (defScope b_nesting_text) P_nesting_text
  d_put_in : DefF K mg "put_in" (defArgs b_put_in) (defBody b_put_in) (defScope b_put_in) P_put_in
  d_read_nesting : DefF K mg "read_nesting" (defArgs b_read_nesting) (defBody b_read_nesting) (defScope b_read_nesting) P_read_nesting
  d__law_source : DefF K mg "_law_source" (defArgs b__law_source) (defBody b__law_source) (defScope b__law_source) P__law_source
  d__law_draw : DefF K mg "_law_draw" (defArgs b__law_draw) (defBody b__law_draw) (defScope b__law_draw) P__law_draw
  d__law_choice : DefF K mg "_law_choice" (defArgs b__law_choice) (defBody b__law_choice) (defScope b__law_choice) P__law_choice
  d__law_put : DefF K mg "_law_put" (defArgs b__law_put) (defBody b__law_put) (defScope b__law_put) P__law_put
  d__law_nesting : DefF K mg "_law_nesting" (defArgs b__law_nesting) (defBody b__law_nesting) (defScope b__law_nesting) P__law_nesting
  d__law_text_lines : DefF K mg "_law_text_lines" (defArgs b__law_text_lines) (defBody b__law_text_lines) (defScope b__law_text_lines) P__law_text_lines
  d__law_bent : DefF K mg "_law_bent" (defArgs b__law_bent) (defBody b__law_bent) (defScope b__law_bent) P__law_bent
  d__law_wrong : DefF K mg "_law_wrong" (defArgs b__law_wrong) (defBody b__law_wrong) (defScope b__law_wrong) P__law_wrong
  d__law_tried : DefF K mg "_law_tried" (defArgs b__law_tried) (defBody b__law_tried) (defScope b__law_tried) P__law_tried
  d_law : DefF K mg "law" (defArgs b_law) (defBody b_law) (defScope b_law) P_law
  d__law_word : DefF K mg "_law_word" (defArgs b__law_word) (defBody b__law_word) (defScope b__law_word) P__law_word
  n_MOST_BOXES : ConFact K mg "MOST_BOXES" (.int 40)
  n_MOST_DEEP : ConFact K mg "MOST_DEEP" (.int 8)
  z_isinstance : mg "isinstance" = none
  z_int : mg "int" = none
  z_bool : mg "bool" = none
  z_tuple : mg "tuple" = none
  z_len : mg "len" = none
  z_sum : mg "sum" = none
  z_range : mg "range" = none
  z_str : mg "str" = none
  z_enumerate : mg "enumerate" = none
  z_abs : mg "abs" = none
  z_min : mg "min" = none
  e_InvalidNesting : ExcF K mg "InvalidNesting"
  e_InvalidNumber : ExcF K mg "InvalidNumber"
  o_InvalidText : ∀ (P : Program) (w : World) (base : Heap), ExcO P w K mg base 1 "InvalidText" "line"
  km : ∀ x ∈ (["InvalidNesting", "InvalidNumber", "InvalidText"] : List Str), ∀ y ∈ (["InvalidNesting", "InvalidNumber", "InvalidText"] : List Str), ExmF K mg x y
section
variable {P : Program} {w : World} {K : PySem.W.Frag} {mg : Str → Option Value} {base : Heap}
theorem ff_is_from (T : TopF K mg) : FnFact P w K mg base 2 "is_from" [false, false, false] F_is_from := by
  have h1 : FnFacts P w K mg base 1 [] fs_is_from := FnFacts.nil
  have h2 : ConFacts K mg [] cs_is_from := ConFacts.nil
  have h3 : ∀ x ∈ (["isinstance", "int", "bool"] : List Str), mg x = none := (by simp [T.z_isinstance, T.z_int, T.z_bool])
  have h4 : ∀ x ∈ ([] : List Str), ExcF K mg x := (by simp)
  have h5 : ∀ x ∈ ([] : List Str), ∀ y ∈ ([] : List Str), ExmF K mg x y := (by simp)
  have h6 : ∀ p ∈ ([] : List (Str × Str)), ∃ lv, lv + 1 ≤ 1 ∧ ExcO P w K mg base lv p.1 p.2 := (by simp)
  exact DefF.ok T.d_is_from f_is_from rfl (good_of h1 h2 h3 h4 h5 h6) (by decide) c_is_from
theorem ff_is_tuple (T : TopF K mg) : FnFact P w K mg base 2 "is_tuple" [false, false, false] F_is_tuple := by
  have h1 : FnFacts P w K mg base 1 [] fs_is_tuple := FnFacts.nil
  have h2 : ConFacts K mg [] cs_is_tuple := ConFacts.nil
  have h3 : ∀ x ∈ (["isinstance", "tuple", "len"] : List Str), mg x = none := (by simp [T.z_isinstance, T.z_tuple, T.z_len])
  have h4 : ∀ x ∈ ([] : List Str), ExcF K mg x := (by simp)
  have h5 : ∀ x ∈ ([] : List Str), ∀ y ∈ ([] : List Str), ExmF K mg x y := (by simp)
  have h6 : ∀ p ∈ ([] : List (Str × Str)), ∃ lv, lv + 1 ≤ 1 ∧ ExcO P w K mg base lv p.1 p.2 := (by simp)
  exact DefF.ok T.d_is_tuple f_is_tuple rfl (good_of h1 h2 h3 h4 h5 h6) (by decide) c_is_tuple
theorem ff_is_kept (T : TopF K mg) : FnFact P w K mg base 66 "is_kept" [false, false, false] F_is_kept := by
  have h1 : FnFacts P w K mg base 2 [("is_tuple", [false, false, false]), ("is_from", [false, false, false])] fs_is_kept := (.cons ((ff_is_tuple T).mono (by decide)) (.cons ((ff_is_from T).mono (by decide)) FnFacts.nil))
  have h2 : ConFacts K mg ["MOST_BOXES"] cs_is_kept := (.cons T.n_MOST_BOXES ConFacts.nil)
  have h3 : ∀ x ∈ (["isinstance", "tuple", "len"] : List Str), mg x = none := (by simp [T.z_isinstance, T.z_tuple, T.z_len])
  have h4 : ∀ x ∈ ([] : List Str), ExcF K mg x := (by simp)
  have h5 : ∀ x ∈ ([] : List Str), ∀ y ∈ ([] : List Str), ExmF K mg x y := (by simp)
  have h6 : ∀ p ∈ ([] : List (Str × Str)), ∃ lv, lv + 1 ≤ 2 ∧ ExcO P w K mg base lv p.1 p.2 := (by simp)
  exact DefF.recur T.d_is_kept f_is_kept rfl h1 h2 h3 h4 h5 h6 (by decide) c_is_kept 64
theorem ff_boxes_of (T : TopF K mg) : FnFact P w K mg base 65 "boxes_of" [false] F_boxes_of := by
  have h1 : FnFacts P w K mg base 1 [] fs_boxes_of := FnFacts.nil
  have h2 : ConFacts K mg [] cs_boxes_of := ConFacts.nil
  have h3 : ∀ x ∈ (["sum"] : List Str), mg x = none := (by simp [T.z_sum])
  have h4 : ∀ x ∈ ([] : List Str), ExcF K mg x := (by simp)
  have h5 : ∀ x ∈ ([] : List Str), ∀ y ∈ ([] : List Str), ExmF K mg x y := (by simp)
  have h6 : ∀ p ∈ ([] : List (Str × Str)), ∃ lv, lv + 1 ≤ 1 ∧ ExcO P w K mg base lv p.1 p.2 := (by simp)
  exact DefF.recur T.d_boxes_of f_boxes_of rfl h1 h2 h3 h4 h5 h6 (by decide) c_boxes_of 64
theorem ff_has_nesting (T : TopF K mg) : FnFact P w K mg base 67 "has_nesting" [false, false] F_has_nesting := by
  have h1 : FnFacts P w K mg base 66 [("is_kept", [false, false, false]), ("boxes_of", [false])] fs_has_nesting := (.cons ((ff_is_kept T).mono (by decide)) (.cons ((ff_boxes_of T).mono (by decide)) FnFacts.nil))
  have h2 : ConFacts K mg ["MOST_DEEP", "MOST_BOXES"] cs_has_nesting := (.cons T.n_MOST_DEEP (.cons T.n_MOST_BOXES ConFacts.nil))
  have h3 : ∀ x ∈ ([] : List Str), mg x = none := (by simp)
  have h4 : ∀ x ∈ ([] : List Str), ExcF K mg x := (by simp)
  have h5 : ∀ x ∈ ([] : List Str), ∀ y ∈ ([] : List Str), ExmF K mg x y := (by simp)
  have h6 : ∀ p ∈ ([] : List (Str × Str)), ∃ lv, lv + 1 ≤ 66 ∧ ExcO P w K mg base lv p.1 p.2 := (by simp)
  exact DefF.ok T.d_has_nesting f_has_nesting rfl (good_of h1 h2 h3 h4 h5 h6) (by decide) c_has_nesting
theorem ff_need_nesting (T : TopF K mg) : FnFact P w K mg base 68 "need_nesting" [false, false] F_need_nesting := by
  have h1 : FnFacts P w K mg base 67 [("has_nesting", [false, false])] fs_need_nesting := (.cons ((ff_has_nesting T).mono (by decide)) FnFacts.nil)
  have h2 : ConFacts K mg [] cs_need_nesting := ConFacts.nil
  have h3 : ∀ x ∈ ([] : List Str), mg x = none := (by simp)
  have h4 : ∀ x ∈ (["InvalidNesting"] : List Str), ExcF K mg x := (by simp [T.e_InvalidNesting])
  have h5 : ∀ x ∈ ([] : List Str), ∀ y ∈ ([] : List Str), ExmF K mg x y := (by simp)
  have h6 : ∀ p ∈ ([] : List (Str × Str)), ∃ lv, lv + 1 ≤ 67 ∧ ExcO P w K mg base lv p.1 p.2 := (by simp)
  exact DefF.ok T.d_need_nesting f_need_nesting rfl (good_of h1 h2 h3 h4 h5 h6) (by decide) c_need_nesting
theorem ff_number_of (T : TopF K mg) : FnFact P w K mg base 2 "number_of" [false] F_number_of := by
  have h1 : FnFacts P w K mg base 1 [] fs_number_of := FnFacts.nil
  have h2 : ConFacts K mg [] cs_number_of := ConFacts.nil
  have h3 : ∀ x ∈ (["range", "str"] : List Str), mg x = none := (by simp [T.z_range, T.z_str])
  have h4 : ∀ x ∈ ([] : List Str), ExcF K mg x := (by simp)
  have h5 : ∀ x ∈ ([] : List Str), ∀ y ∈ ([] : List Str), ExmF K mg x y := (by simp)
  have h6 : ∀ p ∈ ([] : List (Str × Str)), ∃ lv, lv + 1 ≤ 1 ∧ ExcO P w K mg base lv p.1 p.2 := (by simp)
  exact DefF.ok T.d_number_of f_number_of rfl (good_of h1 h2 h3 h4 h5 h6) (by decide) c_number_of
theorem ff_nesting_lines (T : TopF K mg) : FnFact P w K mg base 65 "nesting_lines" [false, false] F_nesting_lines := by
  have h1 : FnFacts P w K mg base 1 [] fs_nesting_lines := FnFacts.nil
  have h2 : ConFacts K mg [] cs_nesting_lines := ConFacts.nil
  have h3 : ∀ x ∈ (["str"] : List Str), mg x = none := (by simp [T.z_str])
  have h4 : ∀ x ∈ ([] : List Str), ExcF K mg x := (by simp)
  have h5 : ∀ x ∈ ([] : List Str), ∀ y ∈ ([] : List Str), ExmF K mg x y := (by simp)
  have h6 : ∀ p ∈ ([] : List (Str × Str)), ∃ lv, lv + 1 ≤ 1 ∧ ExcO P w K mg base lv p.1 p.2 := (by simp)
  exact DefF.recur T.d_nesting_lines f_nesting_lines rfl h1 h2 h3 h4 h5 h6 (by decide) c_nesting_lines 64
theorem ff_need_many (T : TopF K mg) : FnFact P w K mg base 3 "need_many" [false] F_need_many := by
  have h1 : FnFacts P w K mg base 2 [("is_from", [false, false, false])] fs_need_many := (.cons ((ff_is_from T).mono (by decide)) FnFacts.nil)
  have h2 : ConFacts K mg [] cs_need_many := ConFacts.nil
  have h3 : ∀ x ∈ ([] : List Str), mg x = none := (by simp)
  have h4 : ∀ x ∈ (["InvalidNumber"] : List Str), ExcF K mg x := (by simp [T.e_InvalidNumber])
  have h5 : ∀ x ∈ ([] : List Str), ∀ y ∈ ([] : List Str), ExmF K mg x y := (by simp)
  have h6 : ∀ p ∈ ([] : List (Str × Str)), ∃ lv, lv + 1 ≤ 2 ∧ ExcO P w K mg base lv p.1 p.2 := (by simp)
  exact DefF.ok T.d_need_many f_need_many rfl (good_of h1 h2 h3 h4 h5 h6) (by decide) c_need_many
theorem ff_nesting_text (T : TopF K mg) : FnFact P w K mg base 69 "nesting_text" [false, false] F_nesting_text := by
  have h1 : FnFacts P w K mg base 68 [("need_many", [false]), ("need_nesting", [false, false]), ("nesting_lines", [false, false])] fs_nesting_text := (.cons ((ff_need_many T).mono (by decide)) (.cons ((ff_need_nesting T).mono (by decide)) (.cons ((ff_nesting_lines T).mono (by decide)) FnFacts.nil)))
  have h2 : ConFacts K mg [] cs_nesting_text := ConFacts.nil
  have h3 : ∀ x ∈ ([] : List Str), mg x = none := (by simp)
  have h4 : ∀ x ∈ ([] : List Str), ExcF K mg x := (by simp)
  have h5 : ∀ x ∈ ([] : List Str), ∀ y ∈ ([] : List Str), ExmF K mg x y := (by simp)
  have h6 : ∀ p ∈ ([] : List (Str × Str)), ∃ lv, lv + 1 ≤ 68 ∧ ExcO P w K mg base lv p.1 p.2 := (by simp)
  exact DefF.ok T.d_nesting_text f_nesting_text rfl (good_of h1 h2 h3 h4 h5 h6) (by decide) c_nesting_text
theorem ff_put_in (T : TopF K mg) : FnFact P w K mg base 65 "put_in" [false, false, false] F_put_in := by
  have h1 : FnFacts P w K mg base 1 [] fs_put_in := FnFacts.nil
  have h2 : ConFacts K mg [] cs_put_in := ConFacts.nil
  have h3 : ∀ x ∈ ([] : List Str), mg x = none := (by simp)
  have h4 : ∀ x ∈ ([] : List Str), ExcF K mg x := (by simp)
  have h5 : ∀ x ∈ ([] : List Str), ∀ y ∈ ([] : List Str), ExmF K mg x y := (by simp)
  have h6 : ∀ p ∈ ([] : List (Str × Str)), ∃ lv, lv + 1 ≤ 1 ∧ ExcO P w K mg base lv p.1 p.2 := (by simp)
  exact DefF.recur T.d_put_in f_put_in rfl h1 h2 h3 h4 h5 h6 (by decide) c_put_in 64
theorem ff_read_nesting (T : TopF K mg) : FnFact P w K mg base 68 "read_nesting" [false, false] F_read_nesting := by
  have h1 : FnFacts P w K mg base 67 [("need_many", [false]), ("number_of", [false]), ("is_from", [false, false, false]), ("put_in", [false, false, false]), ("has_nesting", [false, false])] fs_read_nesting := (.cons ((ff_need_many T).mono (by decide)) (.cons ((ff_number_of T).mono (by decide)) (.cons ((ff_is_from T).mono (by decide)) (.cons ((ff_put_in T).mono (by decide)) (.cons ((ff_has_nesting T).mono (by decide)) FnFacts.nil)))))
  have h2 : ConFacts K mg [] cs_read_nesting := ConFacts.nil
  have h3 : ∀ x ∈ (["isinstance", "str", "enumerate", "len"] : List Str), mg x = none := (by simp [T.z_isinstance, T.z_str, T.z_enumerate, T.z_len])
  have h4 : ∀ x ∈ ([] : List Str), ExcF K mg x := (by simp)
  have h5 : ∀ x ∈ ([] : List Str), ∀ y ∈ ([] : List Str), ExmF K mg x y := (by simp)
  have h6 : ∀ p ∈ ([("InvalidText", "line")] : List (Str × Str)), ∃ lv, lv + 1 ≤ 67 ∧ ExcO P w K mg base lv p.1 p.2 := fun p hp => by
    simp only [List.mem_cons, List.mem_singleton, List.mem_cons, List.not_mem_nil, or_false] at hp
    rcases hp with rfl
    · exact ⟨1, by decide, T.o_InvalidText _ _ _⟩
  exact DefF.ok T.d_read_nesting f_read_nesting rfl (good_of h1 h2 h3 h4 h5 h6) (by decide) c_read_nesting
theorem ff__law_source (T : TopF K mg) : FnFact P w K mg base 2 "_law_source" [false, false] F__law_source := by
  have h1 : FnFacts P w K mg base 1 [] fs__law_source := FnFacts.nil
  have h2 : ConFacts K mg [] cs__law_source := ConFacts.nil
  have h3 : ∀ x ∈ (["len", "abs", "int"] : List Str), mg x = none := (by simp [T.z_len, T.z_abs, T.z_int])
  have h4 : ∀ x ∈ ([] : List Str), ExcF K mg x := (by simp)
  have h5 : ∀ x ∈ ([] : List Str), ∀ y ∈ ([] : List Str), ExmF K mg x y := (by simp)
  have h6 : ∀ p ∈ ([] : List (Str × Str)), ∃ lv, lv + 1 ≤ 1 ∧ ExcO P w K mg base lv p.1 p.2 := (by simp)
  exact DefF.ok T.d__law_source f__law_source rfl (good_of h1 h2 h3 h4 h5 h6) (by decide) c__law_source
theorem ff__law_draw (T : TopF K mg) : FnFact P w K mg base 2 "_law_draw" [true, false] F__law_draw := by
  have h1 : FnFacts P w K mg base 1 [] fs__law_draw := FnFacts.nil
  have h2 : ConFacts K mg [] cs__law_draw := ConFacts.nil
  have h3 : ∀ x ∈ (["int"] : List Str), mg x = none := (by simp [T.z_int])
  have h4 : ∀ x ∈ ([] : List Str), ExcF K mg x := (by simp)
  have h5 : ∀ x ∈ ([] : List Str), ∀ y ∈ ([] : List Str), ExmF K mg x y := (by simp)
  have h6 : ∀ p ∈ ([] : List (Str × Str)), ∃ lv, lv + 1 ≤ 1 ∧ ExcO P w K mg base lv p.1 p.2 := (by simp)
  exact DefF.ok T.d__law_draw f__law_draw rfl (good_of h1 h2 h3 h4 h5 h6) (by decide) c__law_draw
theorem ff__law_choice (T : TopF K mg) : FnFact P w K mg base 3 "_law_choice" [true, false] F__law_choice := by
  have h1 : FnFacts P w K mg base 2 [("_law_draw", [true, false])] fs__law_choice := (.cons ((ff__law_draw T).mono (by decide)) FnFacts.nil)
  have h2 : ConFacts K mg [] cs__law_choice := ConFacts.nil
  have h3 : ∀ x ∈ (["len"] : List Str), mg x = none := (by simp [T.z_len])
  have h4 : ∀ x ∈ ([] : List Str), ExcF K mg x := (by simp)
  have h5 : ∀ x ∈ ([] : List Str), ∀ y ∈ ([] : List Str), ExmF K mg x y := (by simp)
  have h6 : ∀ p ∈ ([] : List (Str × Str)), ∃ lv, lv + 1 ≤ 2 ∧ ExcO P w K mg base lv p.1 p.2 := (by simp)
  exact DefF.ok T.d__law_choice f__law_choice rfl (good_of h1 h2 h3 h4 h5 h6) (by decide) c__law_choice
theorem ff__law_put (T : TopF K mg) : FnFact P w K mg base 65 "_law_put" [false, false, false] F__law_put := by
  have h1 : FnFacts P w K mg base 1 [] fs__law_put := FnFacts.nil
  have h2 : ConFacts K mg [] cs__law_put := ConFacts.nil
  have h3 : ∀ x ∈ ([] : List Str), mg x = none := (by simp)
  have h4 : ∀ x ∈ ([] : List Str), ExcF K mg x := (by simp)
  have h5 : ∀ x ∈ ([] : List Str), ∀ y ∈ ([] : List Str), ExmF K mg x y := (by simp)
  have h6 : ∀ p ∈ ([] : List (Str × Str)), ∃ lv, lv + 1 ≤ 1 ∧ ExcO P w K mg base lv p.1 p.2 := (by simp)
  exact DefF.recur T.d__law_put f__law_put rfl h1 h2 h3 h4 h5 h6 (by decide) c__law_put 64
theorem ff__law_nesting (T : TopF K mg) : FnFact P w K mg base 66 "_law_nesting" [true, false, false] F__law_nesting := by
  have h1 : FnFacts P w K mg base 65 [("_law_draw", [true, false]), ("_law_put", [false, false, false])] fs__law_nesting := (.cons ((ff__law_draw T).mono (by decide)) (.cons ((ff__law_put T).mono (by decide)) FnFacts.nil))
  have h2 : ConFacts K mg [] cs__law_nesting := ConFacts.nil
  have h3 : ∀ x ∈ (["range"] : List Str), mg x = none := (by simp [T.z_range])
  have h4 : ∀ x ∈ ([] : List Str), ExcF K mg x := (by simp)
  have h5 : ∀ x ∈ ([] : List Str), ∀ y ∈ ([] : List Str), ExmF K mg x y := (by simp)
  have h6 : ∀ p ∈ ([] : List (Str × Str)), ∃ lv, lv + 1 ≤ 65 ∧ ExcO P w K mg base lv p.1 p.2 := (by simp)
  exact DefF.ok T.d__law_nesting f__law_nesting rfl (good_of h1 h2 h3 h4 h5 h6) (by decide) c__law_nesting
theorem ff__law_text_lines (T : TopF K mg) : FnFact P w K mg base 65 "_law_text_lines" [false, false] F__law_text_lines := by
  have h1 : FnFacts P w K mg base 1 [] fs__law_text_lines := FnFacts.nil
  have h2 : ConFacts K mg [] cs__law_text_lines := ConFacts.nil
  have h3 : ∀ x ∈ (["str"] : List Str), mg x = none := (by simp [T.z_str])
  have h4 : ∀ x ∈ ([] : List Str), ExcF K mg x := (by simp)
  have h5 : ∀ x ∈ ([] : List Str), ∀ y ∈ ([] : List Str), ExmF K mg x y := (by simp)
  have h6 : ∀ p ∈ ([] : List (Str × Str)), ∃ lv, lv + 1 ≤ 1 ∧ ExcO P w K mg base lv p.1 p.2 := (by simp)
  exact DefF.recur T.d__law_text_lines f__law_text_lines rfl h1 h2 h3 h4 h5 h6 (by decide) c__law_text_lines 64
theorem ff__law_bent (T : TopF K mg) : FnFact P w K mg base 4 "_law_bent" [true, false] F__law_bent := by
  have h1 : FnFacts P w K mg base 3 [("_law_draw", [true, false]), ("_law_choice", [true, false])] fs__law_bent := (.cons ((ff__law_draw T).mono (by decide)) (.cons ((ff__law_choice T).mono (by decide)) FnFacts.nil))
  have h2 : ConFacts K mg [] cs__law_bent := ConFacts.nil
  have h3 : ∀ x ∈ (["len"] : List Str), mg x = none := (by simp [T.z_len])
  have h4 : ∀ x ∈ ([] : List Str), ExcF K mg x := (by simp)
  have h5 : ∀ x ∈ ([] : List Str), ∀ y ∈ ([] : List Str), ExmF K mg x y := (by simp)
  have h6 : ∀ p ∈ ([] : List (Str × Str)), ∃ lv, lv + 1 ≤ 3 ∧ ExcO P w K mg base lv p.1 p.2 := (by simp)
  exact DefF.ok T.d__law_bent f__law_bent rfl (good_of h1 h2 h3 h4 h5 h6) (by decide) c__law_bent
theorem ff__law_wrong (T : TopF K mg) : FnFact P w K mg base 2 "_law_wrong" [false, false] F__law_wrong := by
  have h1 : FnFacts P w K mg base 1 [] fs__law_wrong := FnFacts.nil
  have h2 : ConFacts K mg [] cs__law_wrong := ConFacts.nil
  have h3 : ∀ x ∈ (["enumerate", "len"] : List Str), mg x = none := (by simp [T.z_enumerate, T.z_len])
  have h4 : ∀ x ∈ ([] : List Str), ExcF K mg x := (by simp)
  have h5 : ∀ x ∈ ([] : List Str), ∀ y ∈ ([] : List Str), ExmF K mg x y := (by simp)
  have h6 : ∀ p ∈ ([] : List (Str × Str)), ∃ lv, lv + 1 ≤ 1 ∧ ExcO P w K mg base lv p.1 p.2 := (by simp)
  exact DefF.ok T.d__law_wrong f__law_wrong rfl (good_of h1 h2 h3 h4 h5 h6) (by decide) c__law_wrong
theorem ff__law_tried (T : TopF K mg) : FnFact P w K mg base 69 "_law_tried" [false, false] F__law_tried := by
  have h1 : FnFacts P w K mg base 68 [("read_nesting", [false, false])] fs__law_tried := (.cons ((ff_read_nesting T).mono (by decide)) FnFacts.nil)
  have h2 : ConFacts K mg [] cs__law_tried := ConFacts.nil
  have h3 : ∀ x ∈ ([] : List Str), mg x = none := (by simp)
  have h4 : ∀ x ∈ ([] : List Str), ExcF K mg x := (by simp)
  have h5 : ∀ x ∈ (["InvalidNesting", "InvalidNumber", "InvalidText"] : List Str), ∀ y ∈ (["InvalidNesting", "InvalidNumber", "InvalidText"] : List Str), ExmF K mg x y := T.km
  have h6 : ∀ p ∈ ([("InvalidText", "line")] : List (Str × Str)), ∃ lv, lv + 1 ≤ 68 ∧ ExcO P w K mg base lv p.1 p.2 := fun p hp => by
    simp only [List.mem_cons, List.mem_singleton, List.mem_cons, List.not_mem_nil, or_false] at hp
    rcases hp with rfl
    · exact ⟨1, by decide, T.o_InvalidText _ _ _⟩
  exact DefF.ok T.d__law_tried f__law_tried rfl (good_of h1 h2 h3 h4 h5 h6) (by decide) c__law_tried
theorem ok_law (T : TopF K mg) {f c Pt : Addr} {fd : FuncData} (F : FunD K "law" "law" (defArgs b_law) (defBody b_law) (defScope b_law) [] [] f fd) (hcode : fd.code = .ref c) (TB : LamX.TabB base mg c Pt) : FnOk P w K mg base (L2.CX P w) 72 f fd P_law (spOfT K mg [(Pt, (("law" : Str) ++ ".<locals>." ++ ("<lambda>" : Str) : Str))] [false] F_law) := by
  have h1 : FnFacts P w K mg base 69 [("_law_source", [false, false]), ("_law_choice", [true, false]), ("_law_nesting", [true, false, false]), ("_law_text_lines", [false, false]), ("nesting_text", [false, false]), ("_law_tried", [false, false]), ("_law_bent", [true, false]), ("_law_wrong", [false, false]), ("read_nesting", [false, false])] fs_law := (.cons ((ff__law_source T).mono (by decide)) (.cons ((ff__law_choice T).mono (by decide)) (.cons ((ff__law_nesting T).mono (by decide)) (.cons ((ff__law_text_lines T).mono (by decide)) (.cons ((ff_nesting_text T).mono (by decide)) (.cons ((ff__law_tried T).mono (by decide)) (.cons ((ff__law_bent T).mono (by decide)) (.cons ((ff__law_wrong T).mono (by decide)) (.cons ((ff_read_nesting T).mono (by decide)) FnFacts.nil)))))))))
  have h2 : ConFacts K mg [] cs_law := ConFacts.nil
  have h3 : ∀ x ∈ (["range", "min", "len"] : List Str), mg x = none := (by simp [T.z_range, T.z_min, T.z_len])
  have h4 : ∀ x ∈ ([] : List Str), ExcF K mg x := (by simp)
  have h5 : ∀ x ∈ (["InvalidNesting", "InvalidNumber", "InvalidText"] : List Str), ∀ y ∈ (["InvalidNesting", "InvalidNumber", "InvalidText"] : List Str), ExmF K mg x y := T.km
  have h6 : ∀ p ∈ ([] : List (Str × Str)), ∃ lv, lv + 1 ≤ 69 ∧ ExcO P w K mg base lv p.1 p.2 := (by simp)
  have hw : ∀ q ∈ T_law.words, WordF K mg q := fun q hq => by
    simp only [T_law, List.mem_cons, List.not_mem_nil, or_false, List.mem_singleton] at hq
    rcases hq with rfl
    · exact DefF.word T.d__law_word fw__law_word wf__law_word
  exact def_okT F hcode f_law rfl (good_of h1 h2 h3 h4 h5 h6) (by decide) TB hw c_law
end
def dfn (x : Str) (st : Stmt) : He.DefD := ⟨(x, none), x, x, defArgs st, defBody st, defScope st, [], []⟩
abbrev m_InvalidText : Stmt := clsDef (top 4) 0
def dfm_InvalidText : He.DefD := ⟨("InvalidText", some "__init__"), "__init__", "InvalidText.__init__", defArgs m_InvalidText, defBody m_InvalidText, defScope m_InvalidText, [], []⟩
theorem mf_InvalidText : FnScope ["self", "line"] ["self", "line"] (defScope m_InvalidText) := C8.fnScope_by (by decide +kernel)
theorem mi_InvalidText : initB (defScope m_InvalidText) "self" "line" "NestingError" "line" (defBody m_InvalidText) = true := by decide +kernel
def fnL : List He.DefD := [dfn "is_from" b_is_from, dfn "is_tuple" b_is_tuple, dfn "is_kept" b_is_kept, dfn "boxes_of" b_boxes_of, dfn "has_nesting" b_has_nesting, dfn "need_nesting" b_need_nesting, dfn "number_of" b_number_of, dfn "nesting_lines" b_nesting_lines, dfn "need_many" b_need_many, dfn "nesting_text" b_nesting_text, dfn "put_in" b_put_in, dfn "read_nesting" b_read_nesting, dfn "_law_source" b__law_source, dfn "_law_draw" b__law_draw, dfn "_law_choice" b__law_choice, dfn "_law_put" b__law_put, dfn "_law_nesting" b__law_nesting, dfn "_law_text_lines" b__law_text_lines, dfn "_law_bent" b__law_bent, dfn "_law_wrong" b__law_wrong, dfn "_law_tried" b__law_tried, dfn "law" b_law, dfn "_law_word" b__law_word, dfm_InvalidText]
def faL : List He.Fa := [.glo "is_from", .glo "is_tuple", .glo "is_kept", .glo "boxes_of", .glo "has_nesting", .glo "need_nesting", .glo "number_of", .glo "nesting_lines", .glo "need_many", .glo "nesting_text", .glo "put_in", .glo "read_nesting", .glo "_law_source", .glo "_law_draw", .glo "_law_choice", .glo "_law_put", .glo "_law_nesting", .glo "_law_text_lines", .glo "_law_bent", .glo "_law_wrong", .glo "_law_tried", .glo "law", .glo "_law_word", .int "MOST_BOXES" 40, .int "MOST_DEEP" 8, .free "isinstance", .free "int", .free "bool", .free "tuple", .free "len", .free "sum", .free "range", .free "str", .free "enumerate", .free "abs", .free "min"]
def exL (K : PySem.W.Frag) : Bool := true && excB K "InvalidNesting" && excB K "InvalidNumber" && exoB K "InvalidText" "line" "NestingError" && kmB K ["InvalidNesting", "InvalidNumber", "InvalidText"]
def loose0 : List PySem.Str := ["NestingError", "InvalidNesting", "InvalidNumber", "InvalidText", "MOST_BOXES", "MOST_DEEP", "is_from", "is_tuple", "is_kept", "boxes_of", "has_nesting", "need_nesting", "number_of", "nesting_lines", "need_many", "nesting_text", "put_in", "read_nesting", "_law_source", "_law_draw", "_law_choice", "_law_nesting", "_law_put", "_law_text_lines", "_law_bent"]
def loose1 : List PySem.Str := ["_law_wrong", "_law_tried", "_law_word"]
def looseL : List PySem.Str := loose0 ++ loose1
def adN0 : List PySem.Str := ["is_from", "is_tuple", "is_kept", "boxes_of", "has_nesting", "need_nesting", "number_of", "nesting_lines", "need_many", "nesting_text", "put_in", "read_nesting", "_law_source", "_law_draw", "_law_choice", "_law_put", "_law_nesting", "_law_text_lines", "_law_bent", "_law_wrong", "_law_tried", "law", "_law_word", "MOST_BOXES", "MOST_DEEP"]
def adC : List PySem.Str := ["InvalidNesting", "InvalidNumber", "InvalidText", "NestingError"]
def adL : List PySem.Str × List PySem.Str := (adN0, adC)
abbrev R : PySem.W.OpenRow := PySem.W.OpenLaw.row PySem.Challenge.rw_anynesting_k14_nestings_written_and_read
abbrev hkL : PySem.W.Hook := hookP adL faL fnL [("law", none)] exL
def obL (s : PySem.W.SharedT) : AlP := obsP adL faL fnL [("law", none)] exL (HandSHeadRun.getT s)
theorem ob_eq (s : PySem.W.SharedT) : obL s = hkL.obs s.abs := obsP_eq (HandSHeadRun.getT_eq s)
theorem runL (w : World) : HandSHeadRun.RunEq R (PySem.W.view R.prog [32]) hkL obL 4000 looseL w := by
  intro os
  kernel_rfl
theorem topF {w : World} {K : PySem.W.Frag} {h : Heap} {mg : Str → Option Value} (X : K.In h) (G : h.Ns mainGlobals mg) (c : SaysP faL fnL [("law", none)] exL w h K) : TopF K mg := by
  have c1 : He.SaysD faL fnL K := He.SaysT.d c.t
  have c2 : exL K = true := c.more
  unfold exL at c2
  simp only [Bool.and_eq_true, Bool.true_and] at c2
  obtain ⟨⟨⟨ce_InvalidNesting, ce_InvalidNumber⟩, co_InvalidText⟩, ckm⟩ := c2
  have d_is_from : DefF K mg "is_from" (defArgs b_is_from) (defBody b_is_from) (defScope b_is_from) P_is_from := by
    obtain ⟨fd, F⟩ := c1.def_ 0 (d := dfn "is_from" b_is_from) rfl
    exact def_of X G (c1.fact 0 (f := .glo "is_from") rfl) F fun _ _ _ _ _ _ us hl => match us, hl with
      | [_, _, _], _ => rfl
  have d_is_tuple : DefF K mg "is_tuple" (defArgs b_is_tuple) (defBody b_is_tuple) (defScope b_is_tuple) P_is_tuple := by
    obtain ⟨fd, F⟩ := c1.def_ 1 (d := dfn "is_tuple" b_is_tuple) rfl
    exact def_of X G (c1.fact 1 (f := .glo "is_tuple") rfl) F fun _ _ _ _ _ _ us hl => match us, hl with
      | [_, _, _], _ => rfl
  have d_is_kept : DefF K mg "is_kept" (defArgs b_is_kept) (defBody b_is_kept) (defScope b_is_kept) P_is_kept := by
    obtain ⟨fd, F⟩ := c1.def_ 2 (d := dfn "is_kept" b_is_kept) rfl
    exact def_of X G (c1.fact 2 (f := .glo "is_kept") rfl) F fun _ _ _ _ _ _ us hl => match us, hl with
      | [_, _, _], _ => rfl
  have d_boxes_of : DefF K mg "boxes_of" (defArgs b_boxes_of) (defBody b_boxes_of) (defScope b_boxes_of) P_boxes_of := by
    obtain ⟨fd, F⟩ := c1.def_ 3 (d := dfn "boxes_of" b_boxes_of) rfl
    exact def_of X G (c1.fact 3 (f := .glo "boxes_of") rfl) F fun _ _ _ _ _ _ us hl => match us, hl with
      | [_], _ => rfl
  have d_has_nesting : DefF K mg "has_nesting" (defArgs b_has_nesting) (defBody b_has_nesting) (defScope b_has_nesting) P_has_nesting := by
    obtain ⟨fd, F⟩ := c1.def_ 4 (d := dfn "has_nesting" b_has_nesting) rfl
    exact def_of X G (c1.fact 4 (f := .glo "has_nesting") rfl) F fun _ _ _ _ _ _ us hl => match us, hl with
      | [_, _], _ => rfl
  have d_need_nesting : DefF K mg "need_nesting" (defArgs b_need_nesting) (defBody b_need_nesting) (defScope b_need_nesting) P_need_nesting := by
    obtain ⟨fd, F⟩ := c1.def_ 5 (d := dfn "need_nesting" b_need_nesting) rfl
    exact def_of X G (c1.fact 5 (f := .glo "need_nesting") rfl) F fun _ _ _ _ _ _ us hl => match us, hl with
      | [_, _], _ => rfl
  have d_number_of : DefF K mg "number_of" (defArgs b_number_of) (defBody b_number_of) (defScope b_number_of) P_number_of := by
    obtain ⟨fd, F⟩ := c1.def_ 6 (d := dfn "number_of" b_number_of) rfl
    exact def_of X G (c1.fact 6 (f := .glo "number_of") rfl) F fun _ _ _ _ _ _ us hl => match us, hl with
      | [_], _ => rfl
  have d_nesting_lines : DefF K mg "nesting_lines" (defArgs b_nesting_lines) (defBody b_nesting_lines) (defScope b_nesting_lines) P_nesting_lines := by
    obtain ⟨fd, F⟩ := c1.def_ 7 (d := dfn "nesting_lines" b_nesting_lines) rfl
    exact def_of X G (c1.fact 7 (f := .glo "nesting_lines") rfl) F fun _ _ _ _ _ _ us hl => match us, hl with
      | [_, _], _ => rfl
  have d_need_many : DefF K mg "need_many" (defArgs b_need_many) (defBody b_need_many) (defScope b_need_many) P_need_many := by
    obtain ⟨fd, F⟩ := c1.def_ 8 (d := dfn "need_many" b_need_many) rfl
    exact def_of X G (c1.fact 8 (f := .glo "need_many") rfl) F fun _ _ _ _ _ _ us hl => match us, hl with
      | [_], _ => rfl
  have d_nesting_text : DefF K mg "nesting_text" (defArgs b_nesting_text) (defBody b_nesting_text) (defScope b_nesting_text) P_nesting_text := by
    obtain ⟨fd, F⟩ := c1.def_ 9 (d := dfn "nesting_text" b_nesting_text) rfl
    exact def_of X G (c1.fact 9 (f := .glo "nesting_text") rfl) F fun _ _ _ _ _ _ us hl => match us, hl with
      | [_, _], _ => rfl
  have d_put_in : DefF K mg "put_in" (defArgs b_put_in) (defBody b_put_in) (defScope b_put_in) P_put_in := by
    obtain ⟨fd, F⟩ := c1.def_ 10 (d := dfn "put_in" b_put_in) rfl
    exact def_of X G (c1.fact 10 (f := .glo "put_in") rfl) F fun _ _ _ _ _ _ us hl => match us, hl with
      | [_, _, _], _ => rfl
  have d_read_nesting : DefF K mg "read_nesting" (defArgs b_read_nesting) (defBody b_read_nesting) (defScope b_read_nesting) P_read_nesting := by
    obtain ⟨fd, F⟩ := c1.def_ 11 (d := dfn "read_nesting" b_read_nesting) rfl
    exact def_of X G (c1.fact 11 (f := .glo "read_nesting") rfl) F fun _ _ _ _ _ _ us hl => match us, hl with
      | [_, _], _ => rfl
  have d__law_source : DefF K mg "_law_source" (defArgs b__law_source) (defBody b__law_source) (defScope b__law_source) P__law_source := by
    obtain ⟨fd, F⟩ := c1.def_ 12 (d := dfn "_law_source" b__law_source) rfl
    exact def_of X G (c1.fact 12 (f := .glo "_law_source") rfl) F fun _ _ _ _ _ _ us hl => match us, hl with
      | [_, _], _ => rfl
  have d__law_draw : DefF K mg "_law_draw" (defArgs b__law_draw) (defBody b__law_draw) (defScope b__law_draw) P__law_draw := by
    obtain ⟨fd, F⟩ := c1.def_ 13 (d := dfn "_law_draw" b__law_draw) rfl
    exact def_of X G (c1.fact 13 (f := .glo "_law_draw") rfl) F fun _ _ _ _ _ _ us hl => match us, hl with
      | [_, _], _ => rfl
  have d__law_choice : DefF K mg "_law_choice" (defArgs b__law_choice) (defBody b__law_choice) (defScope b__law_choice) P__law_choice := by
    obtain ⟨fd, F⟩ := c1.def_ 14 (d := dfn "_law_choice" b__law_choice) rfl
    exact def_of X G (c1.fact 14 (f := .glo "_law_choice") rfl) F fun _ _ _ _ _ _ us hl => match us, hl with
      | [_, _], _ => rfl
  have d__law_put : DefF K mg "_law_put" (defArgs b__law_put) (defBody b__law_put) (defScope b__law_put) P__law_put := by
    obtain ⟨fd, F⟩ := c1.def_ 15 (d := dfn "_law_put" b__law_put) rfl
    exact def_of X G (c1.fact 15 (f := .glo "_law_put") rfl) F fun _ _ _ _ _ _ us hl => match us, hl with
      | [_, _, _], _ => rfl
  have d__law_nesting : DefF K mg "_law_nesting" (defArgs b__law_nesting) (defBody b__law_nesting) (defScope b__law_nesting) P__law_nesting := by
    obtain ⟨fd, F⟩ := c1.def_ 16 (d := dfn "_law_nesting" b__law_nesting) rfl
    exact def_of X G (c1.fact 16 (f := .glo "_law_nesting") rfl) F fun _ _ _ _ _ _ us hl => match us, hl with
      | [_, _, _], _ => rfl
  have d__law_text_lines : DefF K mg "_law_text_lines" (defArgs b__law_text_lines) (defBody b__law_text_lines) (defScope b__law_text_lines) P__law_text_lines := by
    obtain ⟨fd, F⟩ := c1.def_ 17 (d := dfn "_law_text_lines" b__law_text_lines) rfl
    exact def_of X G (c1.fact 17 (f := .glo "_law_text_lines") rfl) F fun _ _ _ _ _ _ us hl => match us, hl with
      | [_, _], _ => rfl
  have d__law_bent : DefF K mg "_law_bent" (defArgs b__law_bent) (defBody b__law_bent) (defScope b__law_bent) P__law_bent := by
    obtain ⟨fd, F⟩ := c1.def_ 18 (d := dfn "_law_bent" b__law_bent) rfl
    exact def_of X G (c1.fact 18 (f := .glo "_law_bent") rfl) F fun _ _ _ _ _ _ us hl => match us, hl with
      | [_, _], _ => rfl
  have d__law_wrong : DefF K mg "_law_wrong" (defArgs b__law_wrong) (defBody b__law_wrong) (defScope b__law_wrong) P__law_wrong := by
    obtain ⟨fd, F⟩ := c1.def_ 19 (d := dfn "_law_wrong" b__law_wrong) rfl
    exact def_of X G (c1.fact 19 (f := .glo "_law_wrong") rfl) F fun _ _ _ _ _ _ us hl => match us, hl with
      | [_, _], _ => rfl
  have d__law_tried : DefF K mg "_law_tried" (defArgs b__law_tried) (defBody b__law_tried) (defScope b__law_tried) P__law_tried := by
    obtain ⟨fd, F⟩ := c1.def_ 20 (d := dfn "_law_tried" b__law_tried) rfl
    exact def_of X G (c1.fact 20 (f := .glo "_law_tried") rfl) F fun _ _ _ _ _ _ us hl => match us, hl with
      | [_, _], _ => rfl
  have d_law : DefF K mg "law" (defArgs b_law) (defBody b_law) (defScope b_law) P_law := by
    obtain ⟨fd, F⟩ := c1.def_ 21 (d := dfn "law" b_law) rfl
    exact def_of X G (c1.fact 21 (f := .glo "law") rfl) F fun _ _ _ _ _ _ us hl => match us, hl with
      | [_], _ => rfl
  have d__law_word : DefF K mg "_law_word" (defArgs b__law_word) (defBody b__law_word) (defScope b__law_word) P__law_word := by
    obtain ⟨fd, F⟩ := c1.def_ 22 (d := dfn "_law_word" b__law_word) rfl
    exact def_of X G (c1.fact 22 (f := .glo "_law_word") rfl) F fun _ _ _ _ _ _ us hl => match us, hl with
      | [_], _ => rfl
  have o_InvalidText : ∀ (P : Program) (w : World) (base : Heap), ExcO P w K mg base 1 "InvalidText" "line" := by
    obtain ⟨fd, F⟩ := c1.def_ 23 (d := dfm_InvalidText) rfl
    exact exo_of X G co_InvalidText F mf_InvalidText mi_InvalidText fun _ _ _ _ _ _ us hl => match us, hl with
      | [_, _], _ => rfl
  exact ⟨d_is_from, d_is_tuple, d_is_kept, d_boxes_of, d_has_nesting, d_need_nesting, d_number_of, d_nesting_lines, d_need_many, d_nesting_text, d_put_in, d_read_nesting, d__law_source, d__law_draw, d__law_choice, d__law_put, d__law_nesting, d__law_text_lines, d__law_bent, d__law_wrong, d__law_tried, d_law, d__law_word, con_int X G (c1.fact 23 (f := .int "MOST_BOXES" 40) rfl), con_int X G (c1.fact 24 (f := .int "MOST_DEEP" 8) rfl), He.free_ok X G (c1.fact 25 (f := .free "isinstance") rfl), He.free_ok X G (c1.fact 26 (f := .free "int") rfl), He.free_ok X G (c1.fact 27 (f := .free "bool") rfl), He.free_ok X G (c1.fact 28 (f := .free "tuple") rfl), He.free_ok X G (c1.fact 29 (f := .free "len") rfl), He.free_ok X G (c1.fact 30 (f := .free "sum") rfl), He.free_ok X G (c1.fact 31 (f := .free "range") rfl), He.free_ok X G (c1.fact 32 (f := .free "str") rfl), He.free_ok X G (c1.fact 33 (f := .free "enumerate") rfl), He.free_ok X G (c1.fact 34 (f := .free "abs") rfl), He.free_ok X G (c1.fact 35 (f := .free "min") rfl), exc_of X G ce_InvalidNesting, exc_of X G ce_InvalidNumber, o_InvalidText, km_of X G ckm⟩
end KT
open PySem PySem.W PySem.Calls PyProof.Rows
theorem KT.holds_of (hlaw : PL.LawOk 63 KT.F_law) : PySem.Challenge.rw_anynesting_k14_nestings_written_and_read.Holds := by
  w_on; o_law
  refine HandSHeadRun.head_any (r := OpenLaw.row PySem.Challenge.rw_anynesting_k14_nestings_written_and_read) (q := view (OpenLaw.row PySem.Challenge.rw_anynesting_k14_nestings_written_and_read).prog [32]) (H := KT.hkL) (ob := KT.obL) (M := 4000) (loose := KT.looseL) (d := HandSHeadRun.topDef (OpenLaw.row PySem.Challenge.rw_anynesting_k14_nestings_written_and_read).prog 32) (kwd := []) KT.ob_eq
    (by kernel_rfl) (fun s => by kernel_rfl) KT.runL (by kernel_rfl) (by kernel_rfl) (by kernel_rfl) (by rfl) (by first | assumption | decide +kernel) (by decide +kernel) ⟨rfl, rfl, rfl, rfl, rfl, by decide +kernel⟩ ?hw ?hc
  case hw => w_witness2
  case hc =>
    refine PL.walk_plT (qual := (("law" : PySem.Str) ++ ".<locals>." ++ ("<lambda>" : PySem.Str) : PySem.Str)) (l := PySem.Challenge.rw_anynesting_k14_nestings_written_and_read) (n := 63) (k := 72) (x := "script") (F := KT.F_law) rfl (by decide) (by kernel_rfl) ⟨rfl, by decide, by decide⟩ hlaw ?_
    intro w mg fa h Y G hmg0
    obtain ⟨K, KX, c⟩ := Y
    have hmg : mg ("law" : PySem.Str) = some (.ref fa) := by
      have e : (HandSHeadRun.topDef (OpenLaw.row PySem.Challenge.rw_anynesting_k14_nestings_written_and_read).prog 32).name = ("law" : PySem.Str) := by kernel_rfl
      rw [← e]
      exact hmg0
    obtain ⟨fd, F⟩ := (He.SaysT.d c.t).def_ 21 (d := KT.dfn "law" KT.b_law) rfl
    have e := hmg.symm.trans (He.glo_ok KX G ((He.SaysT.d c.t).fact 21 (f := .glo "law") rfl))
    cases e
    have b := L2.FunD.bindsA (ps := ["script"]) F fun _ _ _ _ _ _ us hl => match us, hl with | [_], _ => rfl
    have F2 : L2.FunD K "law" "law" (L2.defArgs KT.b_law) (L2.defBody KT.b_law) (L2.defScope KT.b_law) [] [] (He.fAd K ("law", none)) fd := F
    exact ⟨K, fd, (He.cT K ("law", none)).1, (He.cT K ("law", none)).2, KX, c.empty _ List.mem_cons_self, c.out _ List.mem_cons_self, PySem.W.codeHd_of_K KX (c.hd _ List.mem_cons_self), fun s u => b s [u] rfl, fun base TB => KT.ok_law (KT.topF KX G c) F2 (PL.code_of F2) TB⟩
end
/-! PLWp: what a computation ends in; plain Lean. -/
namespace PL
open PySem (Str)
/-- it ends well, in P -/
def wp {α : Type} (m : M α) (ρ : Env) (P : α → Env → Prop) : Prop := match m ρ with
  | .ok a ρ' => P a ρ'
  | _ => False
def okF (F : Fn) (ds : List D) (P : Vl → List D → Prop) : Prop := match F ds with
  | .ok v o => P v o
  | _ => False
section
variable {α β : Type} {ρ : Env} {P Q : α → Env → Prop}
theorem wp.mono {m : M α} (h : wp m ρ P) (i : ∀ a ρ', P a ρ' → Q a ρ') : wp m ρ Q := by
  unfold wp at h ⊢
  cases q : m ρ with
  | ok a ρ' => rw [q] at h; exact i _ _ h
  | err e ρ' => rw [q] at h; exact h
  | bad => rw [q] at h; exact h
@[simp] theorem wp_bind {m : M α} {f : α → M β} {P : β → Env → Prop} : wp (m >>= f) ρ P = wp m ρ fun a ρ' => wp (f a) ρ' P := by
  unfold wp
  cases q : m ρ with
  | ok a ρ' => rw [bind_ok q]
  | err e ρ' => rw [bind_err q]
  | bad => rw [bind_bad q]
@[simp] theorem wp_pure {a : α} : wp (pure a) ρ P = P a ρ := rfl
@[simp] theorem wp_bad : wp (M.bad : M α) ρ P = False := rfl
@[simp] theorem wp_err {e : Ex} : wp (M.err e : M α) ρ P = False := rfl
theorem wp_opt {o : Option α} : wp (M.opt o) ρ P = match o with
  | some a => P a ρ
  | none => False := by cases o <;> rfl
@[simp] theorem wp_optS {a : α} : wp (M.opt (some a)) ρ P = P a ρ := rfl
@[simp] theorem wp_optN : wp (M.opt (none : Option α)) ρ P = False := rfl
@[simp] theorem wp_sel {k : Bool} {a b : M α} : wp (sel k a b) ρ P = if k = true then wp a ρ P else wp b ρ P := by cases k <;> rfl
@[simp] theorem wp_ite {c : Prop} [Decidable c] {a b : M α} : wp (if c then a else b) ρ P = if c then wp a ρ P else wp b ρ P := by split <;> rfl
theorem wp_eta {m : M α} : wp (fun ρ => m ρ) ρ P = wp m ρ P := rfl
@[simp] theorem wp_asBl {o : Bool} {b : Bool} {P : Bool → Env → Prop} : wp (asBl ⟨o, .bl b⟩) ρ P = P b ρ := rfl
@[simp] theorem wp_asInt {i : Int} {P : Int → Env → Prop} : wp (asInt (.int i)) ρ P = P i ρ := rfl
@[simp] theorem wp_asStr {x : Str} {P : Str → Env → Prop} : wp (asStr (.str x)) ρ P = P x ρ := rfl
@[simp] theorem wp_asLst {l : List D} {P : Unit → Env → Prop} : wp (asLst (.lst l)) ρ P = P () ρ := rfl
@[simp] theorem wp_rd {i : Nat} {P : Vl → Env → Prop} {d : D} (h : ρ[i]? = some (some (.shr, d))) : wp (rdVar i) ρ P = P (sh d) ρ := by
  unfold wp rdVar
  rw [h]
@[simp] theorem wp_rdO {i : Nat} {P : Vl → Env → Prop} {d : D} (h : ρ[i]? = some (some (.own, d))) : wp (rdVar i) ρ P = P (sh d) (ρ.set i (some (.shr, d))) := by
  unfold wp rdVar
  rw [h]
@[simp] theorem wp_mv {i : Nat} {P : Vl → Env → Prop} {d : D} (h : ρ[i]? = some (some (.own, d))) : wp (mvVar i) ρ P = P (ow d) (ρ.set i none) := by
  unfold wp mvVar
  rw [h]
theorem wp_see {i : Nat} {P : Ref → Env → Prop} {d : D} {f : Fg} (h : ρ[i]? = some (some (f, d))) (hf : f ≠ .shr) : wp (see i) ρ P = P (.slot i) ρ := by
  unfold wp see
  rw [h]
  simp only [if_neg hf]
theorem wp_slotd {i : Nat} {P : D → Env → Prop} {d : D} {f : Fg} (h : ρ[i]? = some (some (f, d))) (hf : f ≠ .shr) : wp (slotd i) ρ P = P d ρ := by
  unfold wp slotd
  rw [h]
  simp only [if_neg hf]
@[simp] theorem wp_derefV {d : D} {P : D → Env → Prop} : wp (deref (.val d)) ρ P = P d ρ := rfl
@[simp] theorem wp_derefS {i : Nat} {P : D → Env → Prop} : wp (deref (.slot i)) ρ P = wp (slotd i) ρ P := rfl
@[simp] theorem wp_put {i : Nat} {v : Vl} {P : Unit → Env → Prop} {s : Slot} (h : ρ[i]? = some s) (hp : ∀ d, s ≠ some (.pin, d)) : wp (put i v) ρ P = P () (ρ.set i (some (if v.own then .own else .shr, v.d))) := by
  unfold wp put
  rw [h]
  cases s with
  | none => rfl
  | some q =>
    obtain ⟨f, d⟩ := q
    cases f with
    | pin => exact absurd rfl (hp d)
    | _ => rfl
theorem okF.mono {F : Fn} {ds : List D} {P Q : Vl → List D → Prop} (h : okF F ds P) (i : ∀ v o, P v o → Q v o) : okF F ds Q := by
  unfold okF at h ⊢
  cases q : F ds with
  | ok a ρ' => rw [q] at h; exact i _ _ h
  | err e ρ' => rw [q] at h; exact h
  | bad => rw [q] at h; exact h
theorem okF_of {F : Fn} {ds outs : List D} {v : Vl} {P : Vl → List D → Prop} (e : F ds = .ok v outs) (h : P v outs) : okF F ds P := by
  unfold okF
  rw [e]
  exact h
theorem okF_eq {F : Fn} {ds : List D} {P : Vl → List D → Prop} (h : okF F ds P) : ∃ v o, F ds = .ok v o ∧ P v o := by
  unfold okF at h
  cases q : F ds with
  | ok a ρ' => rw [q] at h; exact ⟨_, _, rfl, h⟩
  | err e ρ' => rw [q] at h; exact h.elim
  | bad => rw [q] at h; exact h.elim
theorem wp_of {m : M α} {a : α} {ρ' : Env} (e : m ρ = .ok a ρ') : wp m ρ P = P a ρ' := by
  unfold wp
  rw [e]
end
/-- a def by its body -/
theorem okF_sem {mask : List Bool} {n : Nat} {m : M Fl} {ds : List D} {P : Vl → List D → Prop} (hl : ds.length = mask.length)
    (h : wp m (init mask ds ++ List.replicate (n - mask.length) none) fun f ρ => match outsAt mask ρ with
      | some outs => P (match f with
        | .rt v => v
        | .nx => sh .non) outs
      | none => False) : okF (semD mask n m) ds P := by
  unfold okF semD
  rw [if_pos hl]
  unfold wp at h
  cases q : m (init mask ds ++ List.replicate (n - mask.length) none) with
  | ok f ρ =>
    rw [q] at h
    dsimp only at h ⊢
    cases q2 : outsAt mask ρ with
    | none => rw [q2] at h; exact h.elim
    | some outs => rw [q2] at h; exact h
  | err e ρ => rw [q] at h; exact h.elim
  | bad => rw [q] at h; exact h.elim
/-- a call -/
theorem wp_call {F : Fn} {as : List Arg} {ρ : Env} {ds : List D} {P : Vl → Env → Prop} (ha : argsOf as ρ = some ds) (hn : nodupB (slotsOf as) = true)
    (h : okF F ds fun v outs => (anyBor as = true → v.flat = true ∧ outsFlat as outs = true) ∧ outs.length = as.length ∧ P v (putOuts as outs ρ)) : wp (callF F as) ρ P := by
  obtain ⟨v, o, e, h1, h2, h3⟩ := okF_eq h
  unfold wp callF
  rw [ha]
  dsimp only
  rw [if_neg (by rw [hn]; decide), e]
  dsimp only
  have : (anyBor as && !(v.flat && outsFlat as o)) = false := by
    cases q : anyBor as with
    | false => rfl
    | true => obtain ⟨a, b⟩ := h1 q; rw [a, b]; rfl
  rw [if_neg (by rw [this]; decide), if_pos h2]
  exact h3
/-! ### loops -/
theorem wp_loop {turn : D → M Fl} {P : Fl → Env → Prop} (I : List D → Env → Prop) (step : ∀ x xs ρ, I (x :: xs) ρ → wp (turn x) ρ fun f ρ' => match f with
      | .nx => I xs ρ'
      | .rt v => P (.rt v) ρ') (fin : ∀ ρ, I [] ρ → P .nx ρ) : ∀ (xs : List D) (ρ : Env), I xs ρ → wp (loopL turn xs) ρ P
  | [], ρ, h => fin ρ h
  | x :: xs, ρ, h => by
    rw [loopL, wp_bind]
    refine (step x xs ρ h).mono fun f ρ' q => ?_
    cases f with
    | nx => exact wp_loop I step fin xs ρ' q
    | rt v => exact q
@[simp] theorem wp_loopN {turn : D → M Fl} {ρ : Env} {P : Fl → Env → Prop} : wp (loopL turn []) ρ P = P .nx ρ := rfl
theorem wp_loopC {turn : D → M Fl} {ρ : Env} {x : D} {xs : List D} {P : Fl → Env → Prop} : wp (loopL turn (x :: xs)) ρ P = wp (turn x) ρ fun f ρ' => match f with
    | .nx => wp (loopL turn xs) ρ' P
    | .rt v => P (.rt v) ρ' := by
  rw [loopL, wp_bind]
  congr 1
  funext f ρ'
  cases f <;> rfl
theorem wp_block {α : Type} {own : List Nat} {m : M α} {ρ : Env} {P : α → Env → Prop} (h : noOwned ρ own = true) : wp (block own m) ρ P = wp m (wipe ρ own) fun a ρ' => P a (restore ρ ρ' own) := by
  unfold wp block
  rw [if_pos h]
  cases m (wipe ρ own) <;> rfl
/-- a comprehension, with an invariant over what is done -/
theorem wp_comp {own : List Nat} {asg : D → M Unit} {cnd : M Bool} {elt : M D} {P : List D → Env → Prop} (I : List D → List D → Env → Prop)
    (step : ∀ x xs ys ρ, I (x :: xs) ys ρ → wp (asg x) ρ fun _ ρ1 => wp cnd ρ1 fun c ρ2 => match c with
      | true => wp elt ρ2 fun y ρ3 => I xs (ys ++ [y]) (wipe ρ3 own)
      | false => I xs ys (wipe ρ2 own)) : ∀ (xs ys : List D) (ρ : Env), I xs ys ρ → (∀ zs ρ', I [] (ys ++ zs) ρ' → P zs ρ') → wp (compL own asg cnd elt xs) ρ P
  | [], ys, ρ, h, fin => fin [] ρ (by rw [List.append_nil]; exact h)
  | x :: xs, ys, ρ, h, fin => by
    have s := step x xs ys ρ h
    show wp (asg x >>= fun _ => cnd >>= fun c => match c with
      | true => elt >>= fun y => (fun ρ => compL own asg cnd elt xs (wipe ρ own)) >>= fun ys => pure (y :: ys)
      | false => fun ρ => compL own asg cnd elt xs (wipe ρ own)) ρ P
    rw [wp_bind]
    refine s.mono fun _ ρ1 s => ?_
    rw [wp_bind]
    refine s.mono fun c ρ2 s => ?_
    cases c with
    | true =>
      dsimp only at s ⊢
      rw [wp_bind]
      refine s.mono fun y ρ3 s => ?_
      refine Eq.mpr (wp_bind (α := List D) (m := fun ρ => compL own asg cnd elt xs (wipe ρ own)) (f := fun ys => pure (y :: ys))) ?_
      show wp (compL own asg cnd elt xs) (wipe ρ3 own) _
      exact wp_comp I step xs (ys ++ [y]) _ s fun zs ρ' q => fin (y :: zs) ρ' (by rw [List.append_assoc] at q; exact q)
    | false =>
      dsimp only at s ⊢
      show wp (compL own asg cnd elt xs) (wipe ρ2 own) _
      exact wp_comp I step xs ys _ s fin
/-- a comprehension whose element is a function of the item and which leaves the slots as they are -/
theorem wp_map {own : List Nat} {asg : D → M Unit} {cnd : M Bool} {elt : M D} {ρ : Env} {P : List D → Env → Prop} (f : D → D) (xs : List D)
    (step : ∀ x ∈ xs, wp (asg x) ρ fun _ ρ1 => wp cnd ρ1 fun c ρ2 => c = true ∧ wp elt ρ2 fun y ρ3 => y = f x ∧ wipe ρ3 own = ρ) (h : P (xs.map f) ρ) : wp (compL own asg cnd elt xs) ρ P := by
  refine wp_comp (fun r ys ρ' => ρ' = ρ ∧ ∃ l, xs = l ++ r ∧ ys = l.map f) (fun x r ys ρ' ⟨e, l, e1, e2⟩ => ?_) xs [] ρ ⟨rfl, [], rfl, rfl⟩ (fun zs ρ' ⟨e, l, e1, e2⟩ => ?_)
  · subst e
    refine (step x (by rw [e1]; simp)).mono fun _ ρ1 s => s.mono fun c ρ2 s => ?_
    obtain ⟨rfl, s⟩ := s
    exact s.mono fun y ρ3 ⟨e3, e4⟩ => ⟨e4, l ++ [x], by rw [e1]; simp, by rw [e2, e3]; simp⟩
  · subst e
    rw [List.nil_append] at e2
    rw [List.append_nil] at e1
    rw [e2, ← e1]
    exact h
end PL
/-! PLWp2: simp rules for what is computed; calls; searches. -/
namespace PL
open PySem (Str)
section
variable {ρ : Env} {F : Fn}
theorem wp_call1 {a : D} {P : Vl → Env → Prop} : okF F [a] (fun v o => o.length = 1 ∧ P v ρ) → wp (callF F [.val a]) ρ P := fun h =>
  wp_call rfl rfl (h.mono fun v o ⟨h1, h2⟩ => ⟨nofun, h1, by
    match o, h1 with
    | [x], _ => exact h2⟩)
theorem putOuts_val : ∀ {as : List Arg} {o : List D} {ρ : Env}, slotsOf as = [] → putOuts as o ρ = ρ
  | [], o, ρ, _ => by cases o <;> rfl
  | .val d :: r, [], ρ, h => rfl
  | .val d :: r, x :: o, ρ, h => putOuts_val (as := r) (o := o) h
  | .bor i :: r, o, ρ, h => by simp [slotsOf] at h
  | .io i :: r, o, ρ, h => by simp [slotsOf] at h
def valsD : List Arg → List D
  | .val d :: r => d :: valsD r
  | _ => []
theorem args_val : ∀ {as : List Arg} {ρ : Env}, slotsOf as = [] → argsOf as ρ = some (valsD as) ∧ anyBor as = false
  | [], ρ, _ => ⟨rfl, rfl⟩
  | .val d :: r, ρ, h => by
    obtain ⟨a, b⟩ := args_val (as := r) (ρ := ρ) h
    exact ⟨by rw [argsOf, a]; rfl, b⟩
  | .bor i :: r, ρ, h => by simp [slotsOf] at h
  | .io i :: r, ρ, h => by simp [slotsOf] at h
/-- a call with values alone -/
theorem wp_callV {as : List Arg} {P : Vl → Env → Prop} (hs : slotsOf as = []) (h : okF F (valsD as) fun v o => o.length = as.length ∧ P v ρ) : wp (callF F as) ρ P := by
  obtain ⟨a, b⟩ := args_val (ρ := ρ) hs
  refine wp_call a (by rw [hs]; rfl) (h.mono fun v o ⟨h1, h2⟩ => ⟨fun z => (by rw [b] at z; cases z), h1, ?_⟩)
  rw [putOuts_val hs]
  exact h2
/-- .. whose answer is known -/
theorem wp_callE {as : List Arg} {v : Vl} {o : List D} {P : Vl → Env → Prop} (hs : slotsOf as = []) (e : F (valsD as) = .ok v o) (hl : o.length = as.length) : wp (callF F as) ρ P = P v ρ := by
  obtain ⟨a, b⟩ := args_val (ρ := ρ) hs
  unfold wp callF
  rw [a]
  dsimp only
  rw [hs, if_neg (by decide), e]
  dsimp only
  rw [b, if_neg (by simp), if_pos hl, putOuts_val hs]
/-- a call whose first argument is by reference -/
theorem wp_callIo {i : Nat} {f : Fg} {d : D} {as : List Arg} {P : Vl → Env → Prop} (hr : ρ[i]? = some (some (f, d))) (hf : f ≠ .shr) (hs : slotsOf as = [])
    (h : okF F (d :: valsD as) fun v o => o.length = as.length + 1 ∧ ∀ x r, o = x :: r → P v (ρ.set i (some (f, x)))) : wp (callF F (.io i :: as)) ρ P := by
  obtain ⟨a, b⟩ := args_val (ρ := ρ) hs
  have e : argsOf (.io i :: as) ρ = some (d :: valsD as) := by
    cases f with
    | shr => exact absurd rfl hf
    | own =>
      unfold argsOf
      rw [hr, a]; rfl
    | pin =>
      unfold argsOf
      rw [hr, a]; rfl
  refine wp_call e (by simp only [slotsOf, hs]; rfl) (h.mono fun v o ⟨h1, h2⟩ => ⟨fun z => (by
    have z2 : anyBor as = true := z
    rw [b] at z2; cases z2), h1, ?_⟩)
  match o, h1 with
  | x :: r, _ =>
    rw [putOuts, hr]
    dsimp only
    rw [putOuts_val hs]
    exact h2 x r rfl
end
/-! ### lists of bools, of ints -/
theorem isBls_map {α : Type} (g : α → Bool) : ∀ xs : List α, isBls (xs.map fun x => D.bl (g x)) = some (xs.map g)
  | [] => rfl
  | x :: xs => by simp [isBls, isBls_map g xs]
theorem isInts_map {α : Type} (g : α → Int) : ∀ xs : List α, isInts (xs.map fun x => D.int (g x)) = some (xs.map g)
  | [] => rfl
  | x :: xs => by simp [isInts, isInts_map g xs]
theorem b1_all {α : Type} (g : α → Bool) (xs : List α) : b1 .all (.lst (xs.map fun x => D.bl (g x))) = some (sh (.bl (xs.all g))) := by
  simp [b1, isBls_map, List.all_map, Function.comp_def]
theorem b1_sum {α : Type} (g : α → Int) (xs : List α) : b1 .sum (.lst (xs.map fun x => D.int (g x))) = some (sh (.int (xs.map g).sum)) := by
  simp [b1, isInts_map]
/-! ### a search: the first item that fails ends the def -/
theorem wp_find {turn : D → M Fl} {P : Fl → Env → Prop} (I : Env → Prop) (g : D → Bool) (v : Vl) : ∀ (xs : List D) (ρ : Env), I ρ →
    (∀ x ∈ xs, ∀ ρ, I ρ → wp (turn x) ρ fun f ρ' => I ρ' ∧ f = if g x = true then .nx else .rt v) → (∀ ρ', I ρ' → P (if xs.all g = true then .nx else .rt v) ρ') → wp (loopL turn xs) ρ P
  | [], ρ, hI, step, fin => fin ρ hI
  | x :: xs, ρ, hI, step, fin => by
    rw [wp_loopC]
    refine (step x (by simp) ρ hI).mono fun f ρ' ⟨h1, h2⟩ => ?_
    cases q : g x with
    | true =>
      rw [q] at h2
      subst h2
      refine wp_find I g v xs ρ' h1 (fun y hy => step y (by simp [hy])) fun ρ2 h => ?_
      have := fin ρ2 h
      rw [List.all_cons, q, Bool.true_and] at this
      exact this
    | false =>
      rw [q] at h2
      subst h2
      have := fin ρ' h1
      rw [List.all_cons, q, Bool.false_and] at this
      exact this
/-! ### the rules for simp -/
@[simp] theorem evE_q0 (Γ : Gm) i : evE Γ (.var i) = rdVar i := by first | (rw [evE]; done) | (rw [evE]; rfl)
@[simp] theorem evE_q1 (Γ : Gm) i : evE Γ (.mov i) = mvVar i := by first | (rw [evE]; done) | (rw [evE]; rfl)
@[simp] theorem evE_q2 (Γ : Gm) i0 : evE Γ (.pk i0) = M.bad := by first | (rw [evE]; done) | (rw [evE]; rfl)
@[simp] theorem evE_q3 (Γ : Gm) i0 : evE Γ (.io i0) = M.bad := by first | (rw [evE]; done) | (rw [evE]; rfl)
@[simp] theorem evE_q4 (Γ : Gm) i : evE Γ (.int i) = pure (sh (.int i)) := by first | (rw [evE]; done) | (rw [evE]; rfl)
@[simp] theorem evE_q5 (Γ : Gm) s : evE Γ (.str s) = pure (sh (.str s)) := by first | (rw [evE]; done) | (rw [evE]; rfl)
@[simp] theorem evE_q6 (Γ : Gm) b : evE Γ (.bl b) = pure (sh (.bl b)) := by first | (rw [evE]; done) | (rw [evE]; rfl)
@[simp] theorem evE_q7 (Γ : Gm)  : evE Γ .non = pure (sh .non) := by first | (rw [evE]; done) | (rw [evE]; rfl)
@[simp] theorem evE_q8 (Γ : Gm) g : evE Γ (.con g) = pure (sh (Γ.con g)) := by first | (rw [evE]; done) | (rw [evE]; rfl)
@[simp] theorem evE_q9 (Γ : Gm) es : evE Γ (.tup es) = evL Γ es >>= fun ds => if ds.length ≤ szL then pure (sh (.tup ds)) else M.bad := by first | (rw [evE]; done) | (rw [evE]; rfl)
@[simp] theorem evE_q10 (Γ : Gm) es : evE Γ (.lst es) = evL Γ es >>= fun ds => if ds.length ≤ szL then pure (ow (.lst ds)) else M.bad := by first | (rw [evE]; done) | (rw [evE]; rfl)
@[simp] theorem evE_q11 (Γ : Gm) op a b : evE Γ (.bin op a b) = opnd a (evE Γ a) >>= fun x => opnd b (evE Γ b) >>= fun y => deref x >>= fun x => deref y >>= fun y => M.opt (bin op x y) := by first | (rw [evE]; done) | (rw [evE]; rfl)
@[simp] theorem evE_q12 (Γ : Gm) a : evE Γ (.neg a) = evE Γ a >>= fun v => asInt v.d >>= fun i => pure (sh (.int (-i))) := by first | (rw [evE]; done) | (rw [evE]; rfl)
@[simp] theorem evE_q13 (Γ : Gm) op a b : evE Γ (.cmp op a b) = opnd a (evE Γ a) >>= fun x => opnd b (evE Γ b) >>= fun y => deref x >>= fun x => deref y >>= fun y => cmpM op x y := by first | (rw [evE]; done) | (rw [evE]; rfl)
@[simp] theorem evE_q14 (Γ : Gm) op op' a b c : evE Γ (.chain op op' a b c) = evE Γ a >>= fun x => evE Γ b >>= fun y => cmpM op x.d y.d >>= fun z => asBl z >>= fun k => sel k (evE Γ c >>= fun w => cmpM op' y.d w.d) (pure (sh (.bl false))) := by first | (rw [evE]; done) | (rw [evE]; rfl)
@[simp] theorem evE_q15 (Γ : Gm) n a : evE Γ (.isN n a) = opnd a (evE Γ a) >>= fun r => deref r >>= fun d => pure (sh (.bl (match d with
    | .non => !n
    | _ => n))) := by first | (rw [evE]; done) | (rw [evE]; rfl)
@[simp] theorem evE_q16 (Γ : Gm) n a b : evE Γ (.isB n a b) = evE Γ a >>= fun x => evE Γ b >>= fun y => asBl x >>= fun p => asBl y >>= fun q => pure (sh (.bl ((p == q) != n))) := by first | (rw [evE]; done) | (rw [evE]; rfl)
@[simp] theorem evE_q17 (Γ : Gm) n a p : evE Γ (.mem n a p) = evE Γ a >>= fun x => opnd p (evE Γ p) >>= fun r => deref r >>= fun d => M.opt ((memv x.d d).map fun b => sh (.bl (b != n))) := by first | (rw [evE]; done) | (rw [evE]; rfl)
@[simp] theorem evE_q18 (Γ : Gm) a b : evE Γ (.and a b) = evE Γ a >>= fun v => asBl v >>= fun k => sel k (evE Γ b) (pure (sh (.bl false))) := by first | (rw [evE]; done) | (rw [evE]; rfl)
@[simp] theorem evE_q19 (Γ : Gm) a b : evE Γ (.or a b) = evE Γ a >>= fun v => asBl v >>= fun k => sel k (pure (sh (.bl true))) (evE Γ b) := by first | (rw [evE]; done) | (rw [evE]; rfl)
@[simp] theorem evE_q20 (Γ : Gm) a : evE Γ (.not a) = evE Γ a >>= evNot := by first | (rw [evE]; done) | (rw [evE]; rfl)
@[simp] theorem evE_q21 (Γ : Gm) c a b : evE Γ (.ite c a b) = evE Γ c >>= fun v => asBl v >>= fun k => sel k (evE Γ a) (evE Γ b) := by first | (rw [evE]; done) | (rw [evE]; rfl)
@[simp] theorem evE_q22 (Γ : Gm) p i : evE Γ (.ix p i) = opnd p (evE Γ p) >>= fun r => evE Γ i >>= fun k => deref r >>= fun d => M.opt ((itemv d k.d).map sh) := by first | (rw [evE]; done) | (rw [evE]; rfl)
@[simp] theorem evE_q23 (Γ : Gm) p lo hi : evE Γ (.cut p lo hi) = opnd p (evE Γ p) >>= fun r => (evO Γ lo >>= asPart) >>= fun l => (evO Γ hi >>= asPart) >>= fun h => deref r >>= fun d => M.opt (cutv d l h) := by first | (rw [evE]; done) | (rw [evE]; rfl)
@[simp] theorem evE_q24 (Γ : Gm) p : evE Γ (.rev p) = opnd p (evE Γ p) >>= fun r => deref r >>= fun d => match d with
    | .lst l => pure (ow (.lst l.reverse))
    | .tup l => pure (sh (.tup l.reverse))
    | _ => M.bad := by first | (rw [evE]; done) | (rw [evE]; rfl)
@[simp] theorem evE_q25 (Γ : Gm) f es : evE Γ (.call f es) = evA Γ es >>= fun as => callF (Γ.fn f) as := by first | (rw [evE]; done) | (rw [evE]; rfl)
@[simp] theorem evE_q26 (Γ : Gm) b p : evE Γ (.b1 b p) = opnd p (evE Γ p) >>= fun r => deref r >>= fun d => M.opt (b1 b d) := by first | (rw [evE]; done) | (rw [evE]; rfl)
@[simp] theorem evE_q27 (Γ : Gm) b p q : evE Γ (.b2 b p q) = evE Γ p >>= fun x => evE Γ q >>= fun y => M.opt (b2 b x.d y.d) := by first | (rw [evE]; done) | (rw [evE]; rfl)
@[simp] theorem evE_q28 (Γ : Gm) p q r : evE Γ (.max3 p q r) = evE Γ p >>= fun x => evE Γ q >>= fun y => evE Γ r >>= fun z => M.opt (max3 x.d y.d z.d) := by first | (rw [evE]; done) | (rw [evE]; rfl)
@[simp] theorem evE_q29 (Γ : Gm) t a : evE Γ (.isi t a) = evE Γ a >>= fun v => M.opt ((isTy t v.d).map fun b => sh (.bl b)) := by first | (rw [evE]; done) | (rw [evE]; rfl)
@[simp] theorem evE_q30 (Γ : Gm) a : evE Γ (.rng a) = evE Γ a >>= fun v => asInt v.d >>= fun n => if rangeOk 0 n && decide (n ≤ szL) then pure (ow (.lst (rangeD 0 n))) else M.bad := by first | (rw [evE]; done) | (rw [evE]; rfl)
@[simp] theorem evE_q31 (Γ : Gm) a : evE Γ (.rngT a) = evE Γ a >>= fun v => asInt v.d >>= fun n => if rangeOk 0 n && decide (n ≤ szL) then pure (sh (.tup (rangeD 0 n))) else M.bad := by first | (rw [evE]; done) | (rw [evE]; rfl)
@[simp] theorem evE_q32 (Γ : Gm) own tg sk s1 s2 cnd elt : evE Γ (.comp own tg sk s1 s2 cnd elt) = evE Γ s1 >>= fun v => evO Γ s2 >>= fun d2 => M.opt (itemsOf sk v.d d2) >>= fun xs =>
    if xs.length ≤ szL then block own (compL own (asgTg tg) (evC Γ cnd) (evE Γ elt >>= fun v => pure v.d) xs) >>= fun ys => pure (ow (.lst ys)) else M.bad := by first | (rw [evE]; done) | (rw [evE]; rfl)
@[simp] theorem evE_q33 (Γ : Gm) own own2 tg sk s1 s2 tg' sk' s1' s2' elt : evE Γ (.comp2 own own2 tg sk s1 s2 tg' sk' s1' s2' elt) = evE Γ s1 >>= fun v => evO Γ s2 >>= fun d2 => M.opt (itemsOf sk v.d d2) >>= fun xs =>
    block own (compL own (asgTg tg) (pure true)
      (evE Γ s1' >>= fun v => evO Γ s2' >>= fun d2 => M.opt (itemsOf sk' v.d d2) >>= fun xs =>
        (fun ρ => compL own2 (asgTg tg') (pure true) (evE Γ elt >>= fun v => pure v.d) xs (wipe ρ own2)) >>= fun ys => pure (.lst ys)) xs) >>= fun yss =>
    match flatD yss with
    | some ys => if ys.length ≤ szL then pure (ow (.lst ys)) else M.bad
    | none => M.bad := by first | (rw [evE]; done) | (rw [evE]; rfl)
@[simp] theorem evE_q34 (Γ : Gm) a p : evE Γ (.join a p) = evE Γ a >>= fun v => asStr v.d >>= fun x => opnd p (evE Γ p) >>= fun r => deref r >>= fun d => M.opt (joinD x d) := by first | (rw [evE]; done) | (rw [evE]; rfl)
@[simp] theorem evE_q35 (Γ : Gm) a b : evE Γ (.split a b) = evE Γ a >>= fun v => asStr v.d >>= fun x => evE Γ b >>= fun u => M.opt (splitD x u.d) := by first | (rw [evE]; done) | (rw [evE]; rfl)
@[simp] theorem evE_q36 (Γ : Gm) p a : evE Γ (.index p a) = opnd p (evE Γ p) >>= fun r => deref r >>= fun d => asLst d >>= fun _ => evE Γ a >>= fun v => deref r >>= fun d => M.opt ((indexD d v.d).map fun n => sh (.int n)) := by first | (rw [evE]; done) | (rw [evE]; rfl)
@[simp] theorem evE_q37 (Γ : Gm) ks a dflt : evE Γ (.strGet ks a dflt) = evE Γ a >>= fun v => asStr v.d >>= fun x => pure (sh (.int (strKeyGet ks x dflt))) := by first | (rw [evE]; done) | (rw [evE]; rfl)
@[simp] theorem evE_q38 (Γ : Gm) i tbl es : evE Γ (.callV i tbl es) = rdVar i >>= fun v => M.opt (fnAt tbl v.d) >>= fun j => evA Γ es >>= fun as => callF (Γ.fn j) as := by first | (rw [evE]; done) | (rw [evE]; rfl)
@[simp] theorem evL_q0 (Γ : Gm)  : evL Γ [] = pure [] := by first | (rw [evL]; done) | (rw [evL]; rfl)
@[simp] theorem evL_q1 (Γ : Gm) e es : evL Γ (e :: es) = evE Γ e >>= fun v => evL Γ es >>= fun ds => pure (v.d :: ds) := by first | (rw [evL]; done) | (rw [evL]; rfl)
@[simp] theorem evO_q0 (Γ : Gm)  : evO Γ (none) = pure none := by first | (rw [evO]; done) | (rw [evO]; rfl)
@[simp] theorem evO_q1 (Γ : Gm) e : evO Γ (some e) = evE Γ e >>= fun v => pure (some v.d) := by first | (rw [evO]; done) | (rw [evO]; rfl)
@[simp] theorem evC_q0 (Γ : Gm)  : evC Γ (none) = pure true := by first | (rw [evC]; done) | (rw [evC]; rfl)
@[simp] theorem evC_q1 (Γ : Gm) e : evC Γ (some e) = evE Γ e >>= asBl := by first | (rw [evC]; done) | (rw [evC]; rfl)
@[simp] theorem evA_q0 (Γ : Gm)  : evA Γ [] = pure [] := by first | (rw [evA]; done) | (rw [evA]; rfl)
@[simp] theorem evA_q1 (Γ : Gm) e es : evA Γ (e :: es) = match e.peek with
    | some i => see i >>= fun _ => evA Γ es >>= fun as => pure (.bor i :: as)
    | none => (match e.isIo with
      | some i => see i >>= fun _ => evA Γ es >>= fun as => pure (.io i :: as)
      | none => evE Γ e >>= fun v => evA Γ es >>= fun as => pure (.val v.d :: as)) := by first | (rw [evA]; done) | (rw [evA]; rfl)
@[simp] theorem evS_q0 (Γ : Gm) i e : evS Γ (.asg i e) = evE Γ e >>= fun v => put i v >>= fun _ => pure .nx := by first | (rw [evS]; done) | (rw [evS]; rfl)
@[simp] theorem evS_q1 (Γ : Gm) tg e : evS Γ (.asgT tg e) = evE Γ e >>= fun v => asgTg tg v.d >>= fun _ => pure .nx := by first | (rw [evS]; done) | (rw [evS]; rfl)
@[simp] theorem evV_q0 (Γ : Gm) : evV Γ [] = pure [] := rfl
@[simp] theorem evV_q1 (Γ : Gm) e es : evV Γ (e :: es) = evE Γ e >>= fun v => evV Γ es >>= fun vs => pure (v :: vs) := rfl
@[simp] theorem putAll_q0 : putAll [] [] = pure () := rfl
@[simp] theorem putAll_q1 (i : Nat) (is : List Nat) (v : Vl) (vs : List Vl) : putAll (i :: is) (v :: vs) = put i v >>= fun _ => putAll is vs := rfl
@[simp] theorem evS_q2 (Γ : Gm) is es : evS Γ (.par is es) = evV Γ es >>= fun vs => putAll is vs >>= fun _ => pure .nx := by first | (rw [evS]; done) | (rw [evS]; rfl)
@[simp] theorem evS_q3 (Γ : Gm) i e : evS Γ (.app i e) = slotd i >>= fun d => asLst d >>= fun _ => evE Γ e >>= fun v => change i (appd v.d) >>= fun _ => pure .nx := by first | (rw [evS]; done) | (rw [evS]; rfl)
@[simp] theorem evS_q4 (Γ : Gm) i k e : evS Γ (.setix i k e) = evE Γ e >>= fun v => see i >>= fun _ => evE Γ k >>= fun k => change i (setd k.d v.d) >>= fun _ => pure .nx := by first | (rw [evS]; done) | (rw [evS]; rfl)
@[simp] theorem evS_q5 (Γ : Gm) c a b : evS Γ (.ife c a b) = evE Γ c >>= fun v => asBl v >>= fun k => sel k (evSs Γ a) (evSs Γ b) := by first | (rw [evS]; done) | (rw [evS]; rfl)
@[simp] theorem evS_q6 (Γ : Gm) tg sk s1 s2 body : evS Γ (.forIn tg sk s1 s2 body) = evSrc Γ sk s1 s2 >>= fun xs => loopL (fun x => asgTg tg x >>= fun _ => evSs Γ body) xs := by first | (rw [evS]; done) | (rw [evS]; rfl)
@[simp] theorem evS_q7 (Γ : Gm) fuel c body : evS Γ (.whl fuel c body) = whileL (evE Γ c >>= asBl) (evSs Γ body) fuel := by first | (rw [evS]; done) | (rw [evS]; rfl)
@[simp] theorem evS_q8 (Γ : Gm) e : evS Γ (.ret e) = evE Γ e >>= fun v => pure (.rt v) := by first | (rw [evS]; done) | (rw [evS]; rfl)
@[simp] theorem evS_q9 (Γ : Gm)  : evS Γ .retN = pure (.rt (sh .non)) := by first | (rw [evS]; done) | (rw [evS]; rfl)
@[simp] theorem evS_q10 (Γ : Gm) e : evS Γ (.ex e) = evE Γ e >>= fun _ => pure .nx := by first | (rw [evS]; done) | (rw [evS]; rfl)
@[simp] theorem evS_q11 (Γ : Gm)  : evS Γ .pass = pure .nx := by first | (rw [evS]; done) | (rw [evS]; rfl)
@[simp] theorem evS_q12 (Γ : Gm)  : evS Γ .bad = M.bad := by first | (rw [evS]; done) | (rw [evS]; rfl)
@[simp] theorem evS_q13 (Γ : Gm) cls : evS Γ (.raise cls none) = M.err ⟨cls, none⟩ := by first | (rw [evS]; done) | (rw [evS]; rfl)
@[simp] theorem evS_q14 (Γ : Gm) cls f e : evS Γ (.raise cls (some (f, e))) = evE Γ e >>= fun v => M.err ⟨cls, some (f, v.d)⟩ := by first | (rw [evS]; done) | (rw [evS]; rfl)
@[simp] theorem evS_q15 (Γ : Gm) known body cls i x kind w f : evS Γ (.tryAs known body cls i x kind w f) = tryL (evSs Γ body) fun e => if e.cls ∈ known then (if e.cls = cls then some (asSuite i x kind w f e.fld) else none) else some M.bad := by first | (rw [evS]; done) | (rw [evS]; rfl)
@[simp] theorem evS_q16 (Γ : Gm) known body hs : evS Γ (.tryN known body hs) = tryL (evSs Γ body) fun e => if e.cls ∈ known then evH Γ hs e else some M.bad := by first | (rw [evS]; done) | (rw [evS]; rfl)
@[simp] theorem evSs_q0 (Γ : Gm)  : evSs Γ [] = pure .nx := by first | (rw [evSs]; done) | (rw [evSs]; rfl)
@[simp] theorem evSs_q1 (Γ : Gm) s ss : evSs Γ (s :: ss) = evS Γ s >>= fun f => match f with
    | .nx => evSs Γ ss
    | .rt v => pure (.rt v) := by first | (rw [evSs]; done) | (rw [evSs]; rfl)
theorem callF_V {F : Fn} {ρ : Env} {as : List Arg} {P : Vl → Env → Prop} (hs : slotsOf as = []) : wp (callF F as) ρ P = okF F (valsD as) fun v o => o.length = as.length ∧ P v ρ := by
  refine propext ⟨fun h => ?_, wp_callV hs⟩
  obtain ⟨a, b⟩ := args_val (ρ := ρ) hs
  unfold wp callF at h
  rw [a] at h
  dsimp only at h
  rw [hs, if_neg (by decide)] at h
  unfold okF
  cases q : F (valsD as) with
  | ok v o =>
    rw [q] at h
    dsimp only at h ⊢
    rw [b, if_neg (by simp)] at h
    by_cases hl : o.length = as.length
    · rw [if_pos hl, putOuts_val hs] at h
      exact ⟨hl, h⟩
    · rw [if_neg hl] at h
      exact False.elim h
  | err e o =>
    rw [q] at h
    dsimp only at h ⊢
    rw [b, if_neg (by simp)] at h
    by_cases hl : o.length = as.length
    · rw [if_pos hl] at h; exact h
    · rw [if_neg hl] at h; exact h
  | bad => rw [q] at h; exact False.elim h
theorem okF_iff {F : Fn} {ds : List D} {v : Vl} {o : List D} (h : ∀ P, P v o → okF F ds P) : F ds = .ok v o := by
  obtain ⟨v', o', e, h1, h2⟩ := okF_eq (h (fun v' o' => v' = v ∧ o' = o) ⟨rfl, rfl⟩)
  rw [e, h1, h2]
theorem okF_ok {F : Fn} {ds : List D} {v : Vl} {o : List D} {P : Vl → List D → Prop} (e : F ds = .ok v o) : okF F ds P = P v o := by
  unfold okF
  rw [e]
/-! ### by constructor -/
@[simp] theorem xpk_var a0 : E.peek (E.var a0) = none := rfl
@[simp] theorem xio_var a0 : E.isIo (E.var a0) = none := rfl
@[simp] theorem xop_var a0 (m : M Vl) : opnd (E.var a0) m = m >>= fun v => pure (.val v.d) := rfl
@[simp] theorem xpk_mov a0 : E.peek (E.mov a0) = none := rfl
@[simp] theorem xio_mov a0 : E.isIo (E.mov a0) = none := rfl
@[simp] theorem xop_mov a0 (m : M Vl) : opnd (E.mov a0) m = m >>= fun v => pure (.val v.d) := rfl
@[simp] theorem xpk_pk a0 : E.peek (E.pk a0) = some a0 := rfl
@[simp] theorem xio_pk a0 : E.isIo (E.pk a0) = none := rfl
@[simp] theorem xop_pk a0 (m : M Vl) : opnd (E.pk a0) m = see a0 := rfl
@[simp] theorem xpk_io a0 : E.peek (E.io a0) = none := rfl
@[simp] theorem xio_io a0 : E.isIo (E.io a0) = some a0 := rfl
@[simp] theorem xop_io a0 (m : M Vl) : opnd (E.io a0) m = m >>= fun v => pure (.val v.d) := rfl
@[simp] theorem xpk_int a0 : E.peek (E.int a0) = none := rfl
@[simp] theorem xio_int a0 : E.isIo (E.int a0) = none := rfl
@[simp] theorem xop_int a0 (m : M Vl) : opnd (E.int a0) m = m >>= fun v => pure (.val v.d) := rfl
@[simp] theorem xpk_str a0 : E.peek (E.str a0) = none := rfl
@[simp] theorem xio_str a0 : E.isIo (E.str a0) = none := rfl
@[simp] theorem xop_str a0 (m : M Vl) : opnd (E.str a0) m = m >>= fun v => pure (.val v.d) := rfl
@[simp] theorem xpk_bl a0 : E.peek (E.bl a0) = none := rfl
@[simp] theorem xio_bl a0 : E.isIo (E.bl a0) = none := rfl
@[simp] theorem xop_bl a0 (m : M Vl) : opnd (E.bl a0) m = m >>= fun v => pure (.val v.d) := rfl
@[simp] theorem xpk_non  : E.peek E.non = none := rfl
@[simp] theorem xio_non  : E.isIo E.non = none := rfl
@[simp] theorem xop_non  (m : M Vl) : opnd E.non m = m >>= fun v => pure (.val v.d) := rfl
@[simp] theorem xpk_con a0 : E.peek (E.con a0) = none := rfl
@[simp] theorem xio_con a0 : E.isIo (E.con a0) = none := rfl
@[simp] theorem xop_con a0 (m : M Vl) : opnd (E.con a0) m = m >>= fun v => pure (.val v.d) := rfl
@[simp] theorem xpk_tup a0 : E.peek (E.tup a0) = none := rfl
@[simp] theorem xio_tup a0 : E.isIo (E.tup a0) = none := rfl
@[simp] theorem xop_tup a0 (m : M Vl) : opnd (E.tup a0) m = m >>= fun v => pure (.val v.d) := rfl
@[simp] theorem xpk_lst a0 : E.peek (E.lst a0) = none := rfl
@[simp] theorem xio_lst a0 : E.isIo (E.lst a0) = none := rfl
@[simp] theorem xop_lst a0 (m : M Vl) : opnd (E.lst a0) m = m >>= fun v => pure (.val v.d) := rfl
@[simp] theorem xpk_bin a0 a1 a2 : E.peek (E.bin a0 a1 a2) = none := rfl
@[simp] theorem xio_bin a0 a1 a2 : E.isIo (E.bin a0 a1 a2) = none := rfl
@[simp] theorem xop_bin a0 a1 a2 (m : M Vl) : opnd (E.bin a0 a1 a2) m = m >>= fun v => pure (.val v.d) := rfl
@[simp] theorem xpk_neg a0 : E.peek (E.neg a0) = none := rfl
@[simp] theorem xio_neg a0 : E.isIo (E.neg a0) = none := rfl
@[simp] theorem xop_neg a0 (m : M Vl) : opnd (E.neg a0) m = m >>= fun v => pure (.val v.d) := rfl
@[simp] theorem xpk_cmp a0 a1 a2 : E.peek (E.cmp a0 a1 a2) = none := rfl
@[simp] theorem xio_cmp a0 a1 a2 : E.isIo (E.cmp a0 a1 a2) = none := rfl
@[simp] theorem xop_cmp a0 a1 a2 (m : M Vl) : opnd (E.cmp a0 a1 a2) m = m >>= fun v => pure (.val v.d) := rfl
@[simp] theorem xpk_chain a0 a1 a2 a3 a4 : E.peek (E.chain a0 a1 a2 a3 a4) = none := rfl
@[simp] theorem xio_chain a0 a1 a2 a3 a4 : E.isIo (E.chain a0 a1 a2 a3 a4) = none := rfl
@[simp] theorem xop_chain a0 a1 a2 a3 a4 (m : M Vl) : opnd (E.chain a0 a1 a2 a3 a4) m = m >>= fun v => pure (.val v.d) := rfl
@[simp] theorem xpk_isN a0 a1 : E.peek (E.isN a0 a1) = none := rfl
@[simp] theorem xio_isN a0 a1 : E.isIo (E.isN a0 a1) = none := rfl
@[simp] theorem xop_isN a0 a1 (m : M Vl) : opnd (E.isN a0 a1) m = m >>= fun v => pure (.val v.d) := rfl
@[simp] theorem xpk_isB a0 a1 a2 : E.peek (E.isB a0 a1 a2) = none := rfl
@[simp] theorem xio_isB a0 a1 a2 : E.isIo (E.isB a0 a1 a2) = none := rfl
@[simp] theorem xop_isB a0 a1 a2 (m : M Vl) : opnd (E.isB a0 a1 a2) m = m >>= fun v => pure (.val v.d) := rfl
@[simp] theorem xpk_mem a0 a1 a2 : E.peek (E.mem a0 a1 a2) = none := rfl
@[simp] theorem xio_mem a0 a1 a2 : E.isIo (E.mem a0 a1 a2) = none := rfl
@[simp] theorem xop_mem a0 a1 a2 (m : M Vl) : opnd (E.mem a0 a1 a2) m = m >>= fun v => pure (.val v.d) := rfl
@[simp] theorem xpk_and a0 a1 : E.peek (E.and a0 a1) = none := rfl
@[simp] theorem xio_and a0 a1 : E.isIo (E.and a0 a1) = none := rfl
@[simp] theorem xop_and a0 a1 (m : M Vl) : opnd (E.and a0 a1) m = m >>= fun v => pure (.val v.d) := rfl
@[simp] theorem xpk_or a0 a1 : E.peek (E.or a0 a1) = none := rfl
@[simp] theorem xio_or a0 a1 : E.isIo (E.or a0 a1) = none := rfl
@[simp] theorem xop_or a0 a1 (m : M Vl) : opnd (E.or a0 a1) m = m >>= fun v => pure (.val v.d) := rfl
@[simp] theorem xpk_not a0 : E.peek (E.not a0) = none := rfl
@[simp] theorem xio_not a0 : E.isIo (E.not a0) = none := rfl
@[simp] theorem xop_not a0 (m : M Vl) : opnd (E.not a0) m = m >>= fun v => pure (.val v.d) := rfl
@[simp] theorem xpk_ite a0 a1 a2 : E.peek (E.ite a0 a1 a2) = none := rfl
@[simp] theorem xio_ite a0 a1 a2 : E.isIo (E.ite a0 a1 a2) = none := rfl
@[simp] theorem xop_ite a0 a1 a2 (m : M Vl) : opnd (E.ite a0 a1 a2) m = m >>= fun v => pure (.val v.d) := rfl
@[simp] theorem xpk_ix a0 a1 : E.peek (E.ix a0 a1) = none := rfl
@[simp] theorem xio_ix a0 a1 : E.isIo (E.ix a0 a1) = none := rfl
@[simp] theorem xop_ix a0 a1 (m : M Vl) : opnd (E.ix a0 a1) m = m >>= fun v => pure (.val v.d) := rfl
@[simp] theorem xpk_cut a0 a1 a2 : E.peek (E.cut a0 a1 a2) = none := rfl
@[simp] theorem xio_cut a0 a1 a2 : E.isIo (E.cut a0 a1 a2) = none := rfl
@[simp] theorem xop_cut a0 a1 a2 (m : M Vl) : opnd (E.cut a0 a1 a2) m = m >>= fun v => pure (.val v.d) := rfl
@[simp] theorem xpk_rev a0 : E.peek (E.rev a0) = none := rfl
@[simp] theorem xio_rev a0 : E.isIo (E.rev a0) = none := rfl
@[simp] theorem xop_rev a0 (m : M Vl) : opnd (E.rev a0) m = m >>= fun v => pure (.val v.d) := rfl
@[simp] theorem xpk_call a0 a1 : E.peek (E.call a0 a1) = none := rfl
@[simp] theorem xio_call a0 a1 : E.isIo (E.call a0 a1) = none := rfl
@[simp] theorem xop_call a0 a1 (m : M Vl) : opnd (E.call a0 a1) m = m >>= fun v => pure (.val v.d) := rfl
@[simp] theorem xpk_b1 a0 a1 : E.peek (E.b1 a0 a1) = none := rfl
@[simp] theorem xio_b1 a0 a1 : E.isIo (E.b1 a0 a1) = none := rfl
@[simp] theorem xop_b1 a0 a1 (m : M Vl) : opnd (E.b1 a0 a1) m = m >>= fun v => pure (.val v.d) := rfl
@[simp] theorem xpk_b2 a0 a1 a2 : E.peek (E.b2 a0 a1 a2) = none := rfl
@[simp] theorem xio_b2 a0 a1 a2 : E.isIo (E.b2 a0 a1 a2) = none := rfl
@[simp] theorem xop_b2 a0 a1 a2 (m : M Vl) : opnd (E.b2 a0 a1 a2) m = m >>= fun v => pure (.val v.d) := rfl
@[simp] theorem xpk_max3 a0 a1 a2 : E.peek (E.max3 a0 a1 a2) = none := rfl
@[simp] theorem xio_max3 a0 a1 a2 : E.isIo (E.max3 a0 a1 a2) = none := rfl
@[simp] theorem xop_max3 a0 a1 a2 (m : M Vl) : opnd (E.max3 a0 a1 a2) m = m >>= fun v => pure (.val v.d) := rfl
@[simp] theorem xpk_isi a0 a1 : E.peek (E.isi a0 a1) = none := rfl
@[simp] theorem xio_isi a0 a1 : E.isIo (E.isi a0 a1) = none := rfl
@[simp] theorem xop_isi a0 a1 (m : M Vl) : opnd (E.isi a0 a1) m = m >>= fun v => pure (.val v.d) := rfl
@[simp] theorem xpk_rng a0 : E.peek (E.rng a0) = none := rfl
@[simp] theorem xio_rng a0 : E.isIo (E.rng a0) = none := rfl
@[simp] theorem xop_rng a0 (m : M Vl) : opnd (E.rng a0) m = m >>= fun v => pure (.val v.d) := rfl
@[simp] theorem xpk_rngT a0 : E.peek (E.rngT a0) = none := rfl
@[simp] theorem xio_rngT a0 : E.isIo (E.rngT a0) = none := rfl
@[simp] theorem xop_rngT a0 (m : M Vl) : opnd (E.rngT a0) m = m >>= fun v => pure (.val v.d) := rfl
@[simp] theorem xpk_comp a0 a1 a2 a3 a4 a5 a6 : E.peek (E.comp a0 a1 a2 a3 a4 a5 a6) = none := rfl
@[simp] theorem xio_comp a0 a1 a2 a3 a4 a5 a6 : E.isIo (E.comp a0 a1 a2 a3 a4 a5 a6) = none := rfl
@[simp] theorem xop_comp a0 a1 a2 a3 a4 a5 a6 (m : M Vl) : opnd (E.comp a0 a1 a2 a3 a4 a5 a6) m = m >>= fun v => pure (.val v.d) := rfl
@[simp] theorem xpk_comp2 a0 a1 a2 a3 a4 a5 a6 a7 a8 a9 a10 : E.peek (E.comp2 a0 a1 a2 a3 a4 a5 a6 a7 a8 a9 a10) = none := rfl
@[simp] theorem xio_comp2 a0 a1 a2 a3 a4 a5 a6 a7 a8 a9 a10 : E.isIo (E.comp2 a0 a1 a2 a3 a4 a5 a6 a7 a8 a9 a10) = none := rfl
@[simp] theorem xop_comp2 a0 a1 a2 a3 a4 a5 a6 a7 a8 a9 a10 (m : M Vl) : opnd (E.comp2 a0 a1 a2 a3 a4 a5 a6 a7 a8 a9 a10) m = m >>= fun v => pure (.val v.d) := rfl
@[simp] theorem xpk_join a0 a1 : E.peek (E.join a0 a1) = none := rfl
@[simp] theorem xio_join a0 a1 : E.isIo (E.join a0 a1) = none := rfl
@[simp] theorem xop_join a0 a1 (m : M Vl) : opnd (E.join a0 a1) m = m >>= fun v => pure (.val v.d) := rfl
@[simp] theorem xpk_split a0 a1 : E.peek (E.split a0 a1) = none := rfl
@[simp] theorem xio_split a0 a1 : E.isIo (E.split a0 a1) = none := rfl
@[simp] theorem xop_split a0 a1 (m : M Vl) : opnd (E.split a0 a1) m = m >>= fun v => pure (.val v.d) := rfl
@[simp] theorem xpk_index a0 a1 : E.peek (E.index a0 a1) = none := rfl
@[simp] theorem xio_index a0 a1 : E.isIo (E.index a0 a1) = none := rfl
@[simp] theorem xop_index a0 a1 (m : M Vl) : opnd (E.index a0 a1) m = m >>= fun v => pure (.val v.d) := rfl
@[simp] theorem xpk_callV a0 a1 a2 : E.peek (E.callV a0 a1 a2) = none := rfl
@[simp] theorem xio_callV a0 a1 a2 : E.isIo (E.callV a0 a1 a2) = none := rfl
@[simp] theorem xop_callV a0 a1 a2 (m : M Vl) : opnd (E.callV a0 a1 a2) m = m >>= fun v => pure (.val v.d) := rfl
@[simp] theorem xpk_strGet a0 a1 a2 : E.peek (E.strGet a0 a1 a2) = none := rfl
@[simp] theorem xio_strGet a0 a1 a2 : E.isIo (E.strGet a0 a1 a2) = none := rfl
@[simp] theorem xop_strGet a0 a1 a2 (m : M Vl) : opnd (E.strGet a0 a1 a2) m = m >>= fun v => pure (.val v.d) := rfl
@[simp] theorem ty_int_non  : isTy .int PL.D.non = some false := rfl
@[simp] theorem ty_int_bl b : isTy .int (PL.D.bl b) = some true := rfl
@[simp] theorem ty_int_int i : isTy .int (PL.D.int i) = some true := rfl
@[simp] theorem ty_int_str s : isTy .int (PL.D.str s) = some false := rfl
@[simp] theorem ty_int_tup l : isTy .int (PL.D.tup l) = some false := rfl
@[simp] theorem ty_int_lst l : isTy .int (PL.D.lst l) = some false := rfl
@[simp] theorem ty_bool_non  : isTy .bool PL.D.non = some false := rfl
@[simp] theorem ty_bool_bl b : isTy .bool (PL.D.bl b) = some true := rfl
@[simp] theorem ty_bool_int i : isTy .bool (PL.D.int i) = some false := rfl
@[simp] theorem ty_bool_str s : isTy .bool (PL.D.str s) = some false := rfl
@[simp] theorem ty_bool_tup l : isTy .bool (PL.D.tup l) = some false := rfl
@[simp] theorem ty_bool_lst l : isTy .bool (PL.D.lst l) = some false := rfl
@[simp] theorem ty_str_non  : isTy .str PL.D.non = some false := rfl
@[simp] theorem ty_str_bl b : isTy .str (PL.D.bl b) = some false := rfl
@[simp] theorem ty_str_int i : isTy .str (PL.D.int i) = some false := rfl
@[simp] theorem ty_str_str s : isTy .str (PL.D.str s) = some true := rfl
@[simp] theorem ty_str_tup l : isTy .str (PL.D.tup l) = some false := rfl
@[simp] theorem ty_str_lst l : isTy .str (PL.D.lst l) = some false := rfl
@[simp] theorem ty_tuple_non  : isTy .tuple PL.D.non = some false := rfl
@[simp] theorem ty_tuple_bl b : isTy .tuple (PL.D.bl b) = some false := rfl
@[simp] theorem ty_tuple_int i : isTy .tuple (PL.D.int i) = some false := rfl
@[simp] theorem ty_tuple_str s : isTy .tuple (PL.D.str s) = some false := rfl
@[simp] theorem ty_tuple_tup l : isTy .tuple (PL.D.tup l) = some true := rfl
@[simp] theorem ty_tuple_lst l : isTy .tuple (PL.D.lst l) = some false := rfl
@[simp] theorem ty_list_non  : isTy .list PL.D.non = some false := rfl
@[simp] theorem ty_list_bl b : isTy .list (PL.D.bl b) = some false := rfl
@[simp] theorem ty_list_int i : isTy .list (PL.D.int i) = some false := rfl
@[simp] theorem ty_list_str s : isTy .list (PL.D.str s) = some false := rfl
@[simp] theorem ty_list_tup l : isTy .list (PL.D.tup l) = some false := rfl
@[simp] theorem ty_list_lst l : isTy .list (PL.D.lst l) = some true := rfl
@[simp] theorem x_init_t (ms : List Bool) (d : D) (ds : List D) : init (true :: ms) (d :: ds) = some (.pin, d) :: init ms ds := rfl
@[simp] theorem x_init_f (ms : List Bool) (d : D) (ds : List D) : init (false :: ms) (d :: ds) = some (.shr, d) :: init ms ds := rfl
@[simp] theorem x_init_n : init [] [] = [] := rfl
@[simp] theorem x_out_n (ρ : Env) : outsAt [] ρ = some [] := rfl
@[simp] theorem x_out_t (ms : List Bool) (d : D) (ρ : Env) : outsAt (true :: ms) (some (.pin, d) :: ρ) = (outsAt ms ρ).map (d :: ·) := rfl
@[simp] theorem x_out_f (ms : List Bool) (s : Slot) (ρ : Env) : outsAt (false :: ms) (s :: ρ) = (outsAt ms ρ).map (.non :: ·) := rfl
@[simp] theorem x_cmpM (op : Cop) (x y : D) : cmpM op x y = M.opt ((cmpv op x y).map fun b => sh (.bl b)) := rfl
@[simp] theorem x_evNot (v : Vl) : evNot v = asBl v >>= fun b => pure (sh (.bl !b)) := rfl
@[simp] theorem x_asPart (o : Option D) : asPart o = M.opt (optInt o) := rfl
@[simp] theorem x_optN : optInt none = some none := rfl
@[simp] theorem x_optS (i : Int) : optInt (some (.int i)) = some (some i) := rfl
@[simp] theorem x_slots_n : slotsOf [] = [] := rfl
@[simp] theorem x_slots_v (d : D) (r : List Arg) : slotsOf (.val d :: r) = slotsOf r := rfl
@[simp] theorem x_slots_b (i : Nat) (r : List Arg) : slotsOf (.bor i :: r) = i :: slotsOf r := rfl
@[simp] theorem x_slots_i (i : Nat) (r : List Arg) : slotsOf (.io i :: r) = i :: slotsOf r := rfl
@[simp] theorem x_vals_n : valsD [] = [] := rfl
@[simp] theorem x_vals_v (d : D) (r : List Arg) : valsD (.val d :: r) = d :: valsD r := rfl
@[simp] theorem x_mkG_fn (fs : List Fn) (cs : List D) (j : Nat) : (mkG fs cs).fn j = fs.getD j fun _ => .bad := rfl
@[simp] theorem x_mkG_con (fs : List Fn) (cs : List D) (j : Nat) : (mkG fs cs).con j = cs.getD j .non := rfl
@[simp] theorem x_asg_nm (i : Nat) (d : D) : asgTg (.nm i) d = put i (sh d) := by rw [asgTg]
@[simp] theorem x_asg_tup (ts : List Tg) (ds : List D) : asgTg (.tup ts) (.tup ds) = if ts.length = ds.length then asgTgs ts ds else M.bad := by rw [asgTg]
@[simp] theorem x_asgs_n : asgTgs [] [] = pure () := by rw [asgTgs]
@[simp] theorem x_asgs_c (t : Tg) (ts : List Tg) (d : D) (ds : List D) : asgTgs (t :: ts) (d :: ds) = asgTg t d >>= fun _ => asgTgs ts ds := by rw [asgTgs]
@[simp] theorem x_src (Γ : Gm) (sk : Nat) (s1 : E) (s2 : Option E) : evSrc Γ sk s1 s2 = evE Γ s1 >>= fun v => evO Γ s2 >>= fun d2 => M.opt (itemsOf sk v.d d2) := rfl
@[simp] theorem x_it_l (l : List D) : itemsOf 0 (.lst l) none = some l := rfl
@[simp] theorem x_it_t (l : List D) : itemsOf 0 (.tup l) none = some l := rfl
@[simp] theorem x_it_r (n : Int) : itemsOf 1 (.int n) none = if rangeOk 0 n then some (rangeD 0 n) else none := rfl
@[simp] theorem x_it_r2 (a b : Int) : itemsOf 2 (.int a) (some (.int b)) = if rangeOk a b then some (rangeD a b) else none := rfl
@[simp] theorem x_it_e (l : List D) : itemsOf 3 (.lst l) none = some (enumD 0 l) := rfl
@[simp] theorem x_it_z (x y : List D) : itemsOf 4 (.lst x) (some (.lst y)) = some (zipD x y) := rfl
@[simp] theorem x_it_z2 (x y : List D) : itemsOf 4 (.tup x) (some (.tup y)) = some (zipD x y) := rfl
@[simp] theorem x_len_t (l : List D) : lenv (.tup l) = some (l.length : Int) := rfl
@[simp] theorem x_len_l (l : List D) : lenv (.lst l) = some (l.length : Int) := rfl
@[simp] theorem x_len_r (l : List D) : lenv (.ro l) = some (l.length : Int) := rfl
@[simp] theorem x_len_s (s : Str) : lenv (.str s) = if s.length ≤ szL then some (s.length : Int) else none := rfl
@[simp] theorem x_b1_len (d : D) : b1 .len d = (lenv d).map fun n => sh (.int n) := by unfold b1; cases d <;> rfl
@[simp] theorem x_b1_listl (l : List D) : b1 .list (.lst l) = some (ow (.lst l)) := rfl
@[simp] theorem x_b1_listt (l : List D) : b1 .list (.tup l) = some (ow (.lst l)) := rfl
@[simp] theorem x_b1_tupl (l : List D) : b1 .tuple (.lst l) = some (sh (.tup l)) := rfl
@[simp] theorem x_b1_tupt (l : List D) : b1 .tuple (.tup l) = some (sh (.tup l)) := rfl
@[simp] theorem x_b1_inti (i : Int) : b1 .int (.int i) = some (sh (.int i)) := rfl
@[simp] theorem x_b1_intb (b : Bool) : b1 .int (.bl b) = some (sh (.int (if b then 1 else 0))) := rfl
@[simp] theorem x_b1_abs (i : Int) : b1 .abs (.int i) = some (sh (.int (if i < 0 then -i else i))) := rfl
@[simp] theorem x_b1_str (i : Int) : b1 .str (.int i) = if i.natAbs.log2 < 1920 then some (sh (.str (toString i))) else none := rfl
@[simp] theorem x_b1_strs (x : Str) : b1 .str (.str x) = some (sh (.str x)) := rfl
@[simp] theorem x_b1_sum (l : List D) : b1 .sum (.lst l) = (isInts l).map fun ns => sh (.int ns.sum) := rfl
@[simp] theorem x_b1_all (l : List D) : b1 .all (.lst l) = (isBls l).map fun bs => sh (.bl (bs.all id)) := rfl
@[simp] theorem x_b1_any (l : List D) : b1 .any (.lst l) = (isBls l).map fun bs => sh (.bl (bs.any id)) := rfl
@[simp] theorem x_b2_min (i j : Int) : b2 .min (.int i) (.int j) = some (sh (.int (if j < i then j else i))) := rfl
@[simp] theorem x_b2_max (i j : Int) : b2 .max (.int i) (.int j) = some (sh (.int (if j > i then j else i))) := rfl
@[simp] theorem x_max3 (i j k : Int) : max3 (.int i) (.int j) (.int k) = some (sh (.int (max (max i j) k))) := rfl
@[simp] theorem x_lt (i j : Int) : cmpv .lt (.int i) (.int j) = some (decide (i < j)) := rfl
@[simp] theorem x_le (i j : Int) : cmpv .le (.int i) (.int j) = some (decide (i ≤ j)) := rfl
@[simp] theorem x_gt (i j : Int) : cmpv .gt (.int i) (.int j) = some (decide (j < i)) := rfl
@[simp] theorem x_ge (i j : Int) : cmpv .ge (.int i) (.int j) = some (decide (j ≤ i)) := rfl
@[simp] theorem x_eqi (i j : Int) : cmpv .eq (.int i) (.int j) = some (i == j) := by unfold cmpv; simp [D.cmpb, D.eqv]
@[simp] theorem x_nei (i j : Int) : cmpv .ne (.int i) (.int j) = some (!(i == j)) := by unfold cmpv; simp [D.cmpb, D.eqv]
@[simp] theorem x_eqs (x y : Str) : cmpv .eq (.str x) (.str y) = some (x == y) := rfl
@[simp] theorem x_nes (x y : Str) : cmpv .ne (.str x) (.str y) = some (!(x == y)) := rfl
@[simp] theorem x_addi (i j : Int) : bin .add (.int i) (.int j) = some (sh (.int (i + j))) := rfl
@[simp] theorem x_subi (i j : Int) : bin .sub (.int i) (.int j) = some (sh (.int (i - j))) := rfl
@[simp] theorem x_addt (x y : List D) : bin .add (.tup x) (.tup y) = if x.length + y.length ≤ szL then some (sh (.tup (x ++ y))) else none := rfl
@[simp] theorem x_addl (x y : List D) : bin .add (.lst x) (.lst y) = if x.length + y.length ≤ szL then some (ow (.lst (x ++ y))) else none := rfl
@[simp] theorem x_mod (i j : Int) : bin .mod (.int i) (.int j) = if 0 < j then some (sh (.int (i % j))) else none := rfl
@[simp] theorem x_fdiv (i j : Int) : bin .fdiv (.int i) (.int j) = if 0 < j ∧ j.natAbs.log2 < 9000 then some (sh (.int (i / j))) else none := rfl
/-- a product that is served -/
@[irreducible] def mulOk (i j : Int) : Bool := small64 i || small64 j || decide (i.natAbs.log2 + j.natAbs.log2 < 1000000)
@[simp] theorem x_muli (i j : Int) : bin .mul (.int i) (.int j) = if mulOk i j = true then some (sh (.int (i * j))) else none := by
  unfold mulOk
  rfl
@[simp] theorem mulOk_l {i j : Int} (h : small64 i = true) : mulOk i j = true := by
  unfold mulOk
  rw [h]
  rfl
@[simp] theorem mulOk_r {i j : Int} (h : small64 j = true) : mulOk i j = true := by
  unfold mulOk
  rw [h, Bool.or_true]
  rfl
@[simp] theorem x_ixt (l : List D) (i : Int) : itemv (.tup l) (.int i) = at? l i := rfl
@[simp] theorem x_ixl (l : List D) (i : Int) : itemv (.lst l) (.int i) = at? l i := rfl
@[simp] theorem x_ixr (l : List D) (i : Int) : itemv (.ro l) (.int i) = at? l i := rfl
@[simp] theorem x_cutt (l : List D) (lo hi : Option Int) : cutv (.tup l) lo hi = some (sh (.tup (cut l lo hi))) := rfl
@[simp] theorem x_cutl (l : List D) (lo hi : Option Int) : cutv (.lst l) lo hi = some (ow (.lst (cut l lo hi))) := rfl
@[simp] theorem x_wipe_n (ρ : Env) : wipe ρ [] = ρ := rfl
@[simp] theorem x_wipe_c (ρ : Env) (v : Nat) (vs : List Nat) : wipe ρ (v :: vs) = (wipe ρ vs).set v none := rfl
@[simp] theorem x_rest_n (ρ0 ρ : Env) : restore ρ0 ρ [] = ρ := rfl
@[simp] theorem x_rest_c (ρ0 ρ : Env) (v : Nat) (vs : List Nat) : restore ρ0 ρ (v :: vs) = (restore ρ0 ρ vs).set v (ρ0.getD v none) := rfl
/-- a comprehension whose element is a function of the item -/
theorem wp_bmap {own : List Nat} {asg : D → M Unit} {cnd : M Bool} {elt : M D} {ρ : Env} {P : List D → Env → Prop} {xs : List D} (f : D → D) (no : noOwned ρ own = true)
    (step : ∀ x ∈ xs, wp (asg x) (wipe ρ own) fun _ ρ1 => wp cnd ρ1 fun c ρ2 => c = true ∧ wp elt ρ2 fun y ρ3 => y = f x ∧ wipe ρ3 own = wipe ρ own) (h : P (xs.map f) (restore ρ (wipe ρ own) own)) : wp (block own (compL own asg cnd elt xs)) ρ P := by
  rw [wp_block no]
  exact wp_map f xs step h
theorem cmpbs_mem : ∀ {l : List D} {n : Nat}, D.cmpbs n l = true → ∀ x ∈ l, x.cmpb n = true
  | [], n, h, x, hx => by cases hx
  | y :: l, n, h, x, hx => by
    rw [D.cmpbs, Bool.and_eq_true] at h
    rcases List.mem_cons.mp hx with rfl | hx
    · exact h.1
    · exact cmpbs_mem h.2 x hx
theorem cmpbs_of : ∀ {l : List D} {n : Nat}, (∀ x ∈ l, x.cmpb n = true) → D.cmpbs n l = true
  | [], n, h => by rw [D.cmpbs]
  | y :: l, n, h => by
    rw [D.cmpbs, Bool.and_eq_true]
    exact ⟨h y (by simp), cmpbs_of fun x hx => h x (by simp [hx])⟩
theorem cmpb_tup {l : List D} {n : Nat} (h : (D.tup l).cmpb n = true) : ∃ m, n = m + 1 ∧ ∀ x ∈ l, x.cmpb m = true := by
  cases n with
  | zero => simp [D.cmpb] at h
  | succ m => exact ⟨m, rfl, cmpbs_mem (by rw [D.cmpb] at h; exact h)⟩
theorem cmpb_lst {l : List D} {n : Nat} (h : (D.lst l).cmpb n = true) : ∃ m, n = m + 1 ∧ ∀ x ∈ l, x.cmpb m = true := by
  cases n with
  | zero => simp [D.cmpb] at h
  | succ m => exact ⟨m, rfl, cmpbs_mem (by rw [D.cmpb] at h; exact h)⟩
/-- no dict, no read-only list -/
def pln (v : D) : Bool := match v with
  | .ro _ => false
  | .dct _ => false
  | .fn _ => false
  | _ => true
theorem pln_of {v : D} {n : Nat} (h : v.cmpb n = true) : pln v = true := by
  cases v with
  | ro l => cases n <;> simp [D.cmpb] at h
  | dct l => cases n <;> simp [D.cmpb] at h
  | fn l => cases n <;> simp [D.cmpb] at h
  | _ => rfl
mutual
theorem cmpb_mono : ∀ {v : D} {n m : Nat}, n ≤ m → v.cmpb n = true → v.cmpb m = true
  | .non, n, m, _, _ => by simp [D.cmpb]
  | .bl b, n, m, _, _ => by simp [D.cmpb]
  | .int i, n, m, _, _ => by simp [D.cmpb]
  | .str s, n, m, _, h => by cases n <;> cases m <;> simpa [D.cmpb] using h
  | .tup l, n, m, le, h => by
    cases n with
    | zero => simp [D.cmpb] at h
    | succ n =>
      cases m with
      | zero => omega
      | succ m =>
        rw [D.cmpb] at h ⊢
        exact cmpbs_mono (Nat.le_of_succ_le_succ le) h
  | .lst l, n, m, le, h => by
    cases n with
    | zero => simp [D.cmpb] at h
    | succ n =>
      cases m with
      | zero => omega
      | succ m =>
        rw [D.cmpb] at h ⊢
        exact cmpbs_mono (Nat.le_of_succ_le_succ le) h
  | .ro l, n, m, _, h => by cases n <;> simp [D.cmpb] at h
  | .dct l, n, m, _, h => by cases n <;> simp [D.cmpb] at h
  | .fn l, n, m, _, h => by cases n <;> simp [D.cmpb] at h
theorem cmpbs_mono : ∀ {l : List D} {n m : Nat}, n ≤ m → D.cmpbs n l = true → D.cmpbs m l = true
  | [], n, m, _, _ => by rw [D.cmpbs]
  | x :: l, n, m, le, h => by
    rw [D.cmpbs, Bool.and_eq_true] at h ⊢
    exact ⟨cmpb_mono le h.1, cmpbs_mono le h.2⟩
end
@[simp] theorem q_non_non   : D.eqv PL.D.non PL.D.non = true := by simp [D.eqv]
@[simp] theorem q_non_bl  b : D.eqv PL.D.non (PL.D.bl b) = false := by simp [D.eqv]
@[simp] theorem q_non_int  j : D.eqv PL.D.non (PL.D.int j) = false := by simp [D.eqv]
@[simp] theorem q_non_str  y : D.eqv PL.D.non (PL.D.str y) = false := by simp [D.eqv]
@[simp] theorem q_non_tup  m : D.eqv PL.D.non (PL.D.tup m) = false := by simp [D.eqv]
@[simp] theorem q_non_lst  m : D.eqv PL.D.non (PL.D.lst m) = false := by simp [D.eqv]
@[simp] theorem q_bl_non a  : D.eqv (PL.D.bl a) PL.D.non = false := by simp [D.eqv]
@[simp] theorem q_bl_bl a b : D.eqv (PL.D.bl a) (PL.D.bl b) = (a == b) := by simp [D.eqv]
@[simp] theorem q_bl_int a j : D.eqv (PL.D.bl a) (PL.D.int j) = ((if a then 1 else 0) == j) := by simp [D.eqv]
@[simp] theorem q_bl_str a y : D.eqv (PL.D.bl a) (PL.D.str y) = false := by simp [D.eqv]
@[simp] theorem q_bl_tup a m : D.eqv (PL.D.bl a) (PL.D.tup m) = false := by simp [D.eqv]
@[simp] theorem q_bl_lst a m : D.eqv (PL.D.bl a) (PL.D.lst m) = false := by simp [D.eqv]
@[simp] theorem q_int_non i  : D.eqv (PL.D.int i) PL.D.non = false := by simp [D.eqv]
@[simp] theorem q_int_bl i b : D.eqv (PL.D.int i) (PL.D.bl b) = (i == (if b then 1 else 0)) := by simp [D.eqv]
@[simp] theorem q_int_int i j : D.eqv (PL.D.int i) (PL.D.int j) = (i == j) := by simp [D.eqv]
@[simp] theorem q_int_str i y : D.eqv (PL.D.int i) (PL.D.str y) = false := by simp [D.eqv]
@[simp] theorem q_int_tup i m : D.eqv (PL.D.int i) (PL.D.tup m) = false := by simp [D.eqv]
@[simp] theorem q_int_lst i m : D.eqv (PL.D.int i) (PL.D.lst m) = false := by simp [D.eqv]
@[simp] theorem q_str_non x  : D.eqv (PL.D.str x) PL.D.non = false := by simp [D.eqv]
@[simp] theorem q_str_bl x b : D.eqv (PL.D.str x) (PL.D.bl b) = false := by simp [D.eqv]
@[simp] theorem q_str_int x j : D.eqv (PL.D.str x) (PL.D.int j) = false := by simp [D.eqv]
@[simp] theorem q_str_str x y : D.eqv (PL.D.str x) (PL.D.str y) = (x == y) := by simp [D.eqv]
@[simp] theorem q_str_tup x m : D.eqv (PL.D.str x) (PL.D.tup m) = false := by simp [D.eqv]
@[simp] theorem q_str_lst x m : D.eqv (PL.D.str x) (PL.D.lst m) = false := by simp [D.eqv]
@[simp] theorem q_tup_non l  : D.eqv (PL.D.tup l) PL.D.non = false := by simp [D.eqv]
@[simp] theorem q_tup_bl l b : D.eqv (PL.D.tup l) (PL.D.bl b) = false := by simp [D.eqv]
@[simp] theorem q_tup_int l j : D.eqv (PL.D.tup l) (PL.D.int j) = false := by simp [D.eqv]
@[simp] theorem q_tup_str l y : D.eqv (PL.D.tup l) (PL.D.str y) = false := by simp [D.eqv]
@[simp] theorem q_tup_tup l m : D.eqv (PL.D.tup l) (PL.D.tup m) = D.eqvs l m := by simp [D.eqv]
@[simp] theorem q_tup_lst l m : D.eqv (PL.D.tup l) (PL.D.lst m) = false := by simp [D.eqv]
@[simp] theorem q_lst_non l  : D.eqv (PL.D.lst l) PL.D.non = false := by simp [D.eqv]
@[simp] theorem q_lst_bl l b : D.eqv (PL.D.lst l) (PL.D.bl b) = false := by simp [D.eqv]
@[simp] theorem q_lst_int l j : D.eqv (PL.D.lst l) (PL.D.int j) = false := by simp [D.eqv]
@[simp] theorem q_lst_str l y : D.eqv (PL.D.lst l) (PL.D.str y) = false := by simp [D.eqv]
@[simp] theorem q_lst_tup l m : D.eqv (PL.D.lst l) (PL.D.tup m) = false := by simp [D.eqv]
@[simp] theorem q_lst_lst l m : D.eqv (PL.D.lst l) (PL.D.lst m) = D.eqvs l m := by simp [D.eqv]
@[simp] theorem qs_nn : D.eqvs [] [] = true := by rw [D.eqvs]
@[simp] theorem qs_nc (y : D) (l : List D) : D.eqvs [] (y :: l) = false := by simp [D.eqvs]
@[simp] theorem qs_cn (x : D) (l : List D) : D.eqvs (x :: l) [] = false := by simp [D.eqvs]
@[simp] theorem qs_cc (x y : D) (l m : List D) : D.eqvs (x :: l) (y :: m) = (x.eqv y && D.eqvs l m) := by rw [D.eqvs]
@[simp] theorem sc_non  : isScal PL.D.non = true := rfl
@[simp] theorem sc_bl a : isScal (PL.D.bl a) = true := rfl
@[simp] theorem sc_int i : isScal (PL.D.int i) = true := rfl
@[simp] theorem sc_str x : isScal (PL.D.str x) = true := rfl
@[simp] theorem callV0 {F : Fn} {ρ : Env} {P : Vl → Env → Prop} : wp (callF F []) ρ P = okF F [] fun v o => o.length = 0 ∧ P v ρ := callF_V rfl
@[simp] theorem callV1 {F : Fn} {ρ : Env} {d0 : D} {P : Vl → Env → Prop} : wp (callF F [.val d0]) ρ P = okF F [d0] fun v o => o.length = 1 ∧ P v ρ := callF_V rfl
@[simp] theorem callV2 {F : Fn} {ρ : Env} {d0 d1 : D} {P : Vl → Env → Prop} : wp (callF F [.val d0, .val d1]) ρ P = okF F [d0, d1] fun v o => o.length = 2 ∧ P v ρ := callF_V rfl
@[simp] theorem callV3 {F : Fn} {ρ : Env} {d0 d1 d2 : D} {P : Vl → Env → Prop} : wp (callF F [.val d0, .val d1, .val d2]) ρ P = okF F [d0, d1, d2] fun v o => o.length = 3 ∧ P v ρ := callF_V rfl
@[simp] theorem callV4 {F : Fn} {ρ : Env} {d0 d1 d2 d3 : D} {P : Vl → Env → Prop} : wp (callF F [.val d0, .val d1, .val d2, .val d3]) ρ P = okF F [d0, d1, d2, d3] fun v o => o.length = 4 ∧ P v ρ := callF_V rfl
@[simp] theorem callV5 {F : Fn} {ρ : Env} {d0 d1 d2 d3 d4 : D} {P : Vl → Env → Prop} : wp (callF F [.val d0, .val d1, .val d2, .val d3, .val d4]) ρ P = okF F [d0, d1, d2, d3, d4] fun v o => o.length = 5 ∧ P v ρ := callF_V rfl
@[simp] theorem callV6 {F : Fn} {ρ : Env} {d0 d1 d2 d3 d4 d5 : D} {P : Vl → Env → Prop} : wp (callF F [.val d0, .val d1, .val d2, .val d3, .val d4, .val d5]) ρ P = okF F [d0, d1, d2, d3, d4, d5] fun v o => o.length = 6 ∧ P v ρ := callF_V rfl
theorem callF_Io {F : Fn} {ρ : Env} {i : Nat} {f : Fg} {d : D} {as : List Arg} {P : Vl → Env → Prop} (hr : ρ[i]? = some (some (f, d))) (hf : f ≠ .shr) (hs : slotsOf as = []) :
    wp (callF F (.io i :: as)) ρ P = okF F (d :: valsD as) fun v o => o.length = as.length + 1 ∧ P v (ρ.set i (some (f, o.getD 0 .non))) := by
  refine propext ⟨fun h => ?_, fun h => wp_callIo hr hf hs (h.mono fun v o ⟨h1, h2⟩ => ⟨h1, fun x r e => by rw [e] at h2; exact h2⟩)⟩
  obtain ⟨a, b⟩ := args_val (ρ := ρ) hs
  have e : argsOf (.io i :: as) ρ = some (d :: valsD as) := by
    cases f with
    | shr => exact absurd rfl hf
    | own =>
      unfold argsOf
      rw [hr, a]; rfl
    | pin =>
      unfold argsOf
      rw [hr, a]; rfl
  unfold wp callF at h
  rw [e] at h
  dsimp only at h
  have n1 : nodupB (slotsOf (.io i :: as)) = true := by simp only [slotsOf, hs]; rfl
  have b1 : anyBor (.io i :: as) = false := b
  rw [n1, if_neg (by decide)] at h
  unfold okF
  cases q : F (d :: valsD as) with
  | ok v o =>
    rw [q] at h
    dsimp only at h ⊢
    rw [b1, if_neg (by simp)] at h
    by_cases hl : o.length = (Arg.io i :: as).length
    · rw [if_pos hl] at h
      refine ⟨hl, ?_⟩
      match o, hl with
      | x :: r, _ =>
        rw [putOuts, hr] at h
        dsimp only at h
        rw [putOuts_val hs] at h
        exact h
    · rw [if_neg hl] at h
      exact False.elim h
  | err e o =>
    rw [q] at h
    dsimp only at h ⊢
    rw [b1, if_neg (by simp)] at h
    by_cases hl : o.length = (Arg.io i :: as).length
    · rw [if_pos hl] at h; exact h
    · rw [if_neg hl] at h; exact h
  | bad => rw [q] at h; exact False.elim h
theorem callI0 {F : Fn} {ρ : Env} {i : Nat} {f : Fg} {d : D} {P : Vl → Env → Prop} (hr : ρ[i]? = some (some (f, d))) (hf : f ≠ .shr) : wp (callF F [.io i]) ρ P = okF F [d] fun v o => o.length = 1 ∧ P v (ρ.set i (some (f, o.getD 0 .non))) := callF_Io hr hf rfl
theorem callI1 {F : Fn} {ρ : Env} {i : Nat} {f : Fg} {d : D} {e0 : D} {P : Vl → Env → Prop} (hr : ρ[i]? = some (some (f, d))) (hf : f ≠ .shr) : wp (callF F [.io i, .val e0]) ρ P = okF F [d, e0] fun v o => o.length = 2 ∧ P v (ρ.set i (some (f, o.getD 0 .non))) := callF_Io hr hf rfl
theorem callI2 {F : Fn} {ρ : Env} {i : Nat} {f : Fg} {d : D} {e0 e1 : D} {P : Vl → Env → Prop} (hr : ρ[i]? = some (some (f, d))) (hf : f ≠ .shr) : wp (callF F [.io i, .val e0, .val e1]) ρ P = okF F [d, e0, e1] fun v o => o.length = 3 ∧ P v (ρ.set i (some (f, o.getD 0 .non))) := callF_Io hr hf rfl
theorem callI3 {F : Fn} {ρ : Env} {i : Nat} {f : Fg} {d : D} {e0 e1 e2 : D} {P : Vl → Env → Prop} (hr : ρ[i]? = some (some (f, d))) (hf : f ≠ .shr) : wp (callF F [.io i, .val e0, .val e1, .val e2]) ρ P = okF F [d, e0, e1, e2] fun v o => o.length = 4 ∧ P v (ρ.set i (some (f, o.getD 0 .non))) := callF_Io hr hf rfl
theorem callI4 {F : Fn} {ρ : Env} {i : Nat} {f : Fg} {d : D} {e0 e1 e2 e3 : D} {P : Vl → Env → Prop} (hr : ρ[i]? = some (some (f, d))) (hf : f ≠ .shr) : wp (callF F [.io i, .val e0, .val e1, .val e2, .val e3]) ρ P = okF F [d, e0, e1, e2, e3] fun v o => o.length = 5 ∧ P v (ρ.set i (some (f, o.getD 0 .non))) := callF_Io hr hf rfl
@[simp] theorem x_mem_t (a : D) (l : List D) : memv a (.tup l) = if isScal a && l.all isScal then some (l.any fun z => z.eqv a) else none := by
  cases a <;> rfl
@[simp] theorem x_mem_l (a : D) (l : List D) : memv a (.lst l) = if isScal a && l.all isScal || a.cmpb 60 && D.cmpbs 60 l then some (l.any fun z => z.eqv a) else none := by
  cases a <;> rfl
@[simp] theorem szL_val : szL = 16777216 := rfl
@[simp] theorem x_adds (x y : Str) : bin .add (.str x) (.str y) = if x.length + y.length ≤ szL then some (sh (.str (x ++ y))) else none := rfl
@[simp] theorem x_mull (x : List D) (k : Int) : bin .mul (.lst x) (.int k) = if -(2 ^ 63) ≤ k ∧ k < 2 ^ 63 ∧ x.length * k.toNat ≤ szL then some (ow (.lst (List.replicate k.toNat x).flatten)) else none := rfl
@[simp] theorem x_mult (x : List D) (k : Int) : bin .mul (.tup x) (.int k) = if x ≠ [] ∧ 2 ≤ k ∧ k ≤ 1000 ∧ x.length ≤ 1000 then some (sh (.tup (List.replicate k.toNat x).flatten)) else none := rfl
@[simp] theorem x_muls (x : Str) (k : Int) : bin .mul (.str x) (.int k) = if -(2 ^ 63) ≤ k ∧ k ≤ 10000 ∧ x.length ≤ 1000 then some (sh (.str ⟨(List.replicate k.toNat x.cps.toList).flatten.toArray⟩)) else none := rfl
@[simp] theorem x_pow (i j : Int) : bin .pow (.int i) (.int j) = if 0 ≤ j ∧ j ≤ 1000000 ∧ i.natAbs < 2 ^ 64 then some (sh (.int (i ^ j.toNat))) else none := rfl
theorem see_eq (i : Nat) (ρ : Env) : see i ρ = match ρ[i]? with
    | some (some (.own, _)) => .ok (.slot i) ρ
    | some (some (.pin, _)) => .ok (.slot i) ρ
    | _ => .bad := by
  unfold see
  cases ρ[i]? with
  | none => rfl
  | some s =>
    cases s with
    | none => rfl
    | some q =>
      obtain ⟨f, d⟩ := q
      cases f <;> rfl
theorem y_see {i : Nat} {ρ : Env} {P : Ref → Env → Prop} : wp (see i) ρ P = match ρ[i]? with
    | some (some (.own, _)) => P (.slot i) ρ
    | some (some (.pin, _)) => P (.slot i) ρ
    | _ => False := by
  unfold wp
  rw [see_eq]
  cases ρ[i]? with
  | none => rfl
  | some s =>
    cases s with
    | none => rfl
    | some q =>
      obtain ⟨f, d⟩ := q
      cases f <;> rfl
theorem y_slotd {i : Nat} {ρ : Env} {P : D → Env → Prop} : wp (slotd i) ρ P = match ρ[i]? with
    | some (some (.own, d)) => P d ρ
    | some (some (.pin, d)) => P d ρ
    | _ => False := by
  unfold wp slotd
  cases ρ[i]? with
  | none => rfl
  | some s =>
    cases s with
    | none => rfl
    | some q =>
      obtain ⟨f, d⟩ := q
      cases f <;> rfl
theorem y_change {i : Nat} {ρ : Env} {g : D → Option D} {P : Unit → Env → Prop} : wp (change i g) ρ P = match ρ[i]? with
    | some (some (.own, d)) => (match g d with
      | some d' => P () (ρ.set i (some (.own, d')))
      | none => False)
    | some (some (.pin, d)) => (match g d with
      | some d' => P () (ρ.set i (some (.pin, d')))
      | none => False)
    | _ => False := by
  unfold wp change
  cases ρ[i]? with
  | none => rfl
  | some s =>
    cases s with
    | none => rfl
    | some q =>
      obtain ⟨f, d⟩ := q
      cases f with
      | shr => rfl
      | own => dsimp only; cases g d <;> rfl
      | pin => dsimp only; cases g d <;> rfl
@[simp] theorem x_setd (i : Int) (x : D) (l : List D) : setd (.int i) x (.lst l) = (ixOf l.length i).map fun j => .lst (l.set j x) := rfl
@[simp] theorem x_appd (x : D) (l : List D) : appd x (.lst l) = if l.length < szL then some (.lst (l ++ [x])) else none := rfl
theorem y_callI0 {F : Fn} {ρ : Env} {i : Nat} {P : Vl → Env → Prop} : wp (callF F [.io i]) ρ P = match ρ[i]? with
    | some (some (.own, d)) => okF F [d] fun v o => o.length = 1 ∧ P v (ρ.set i (some (.own, o.getD 0 .non)))
    | some (some (.pin, d)) => okF F [d] fun v o => o.length = 1 ∧ P v (ρ.set i (some (.pin, o.getD 0 .non)))
    | _ => False := by
  cases q : ρ[i]? with
  | none => unfold wp callF argsOf; rw [q]
  | some s =>
    cases s with
    | none => unfold wp callF argsOf; rw [q]
    | some z =>
      obtain ⟨f, d⟩ := z
      cases f with
      | shr => unfold wp callF argsOf; rw [q]
      | own => exact callF_Io q (by decide) rfl
      | pin => exact callF_Io q (by decide) rfl
theorem y_callI1 {F : Fn} {ρ : Env} {i : Nat} {e0 : D} {P : Vl → Env → Prop} : wp (callF F [.io i, .val e0]) ρ P = match ρ[i]? with
    | some (some (.own, d)) => okF F [d, e0] fun v o => o.length = 2 ∧ P v (ρ.set i (some (.own, o.getD 0 .non)))
    | some (some (.pin, d)) => okF F [d, e0] fun v o => o.length = 2 ∧ P v (ρ.set i (some (.pin, o.getD 0 .non)))
    | _ => False := by
  cases q : ρ[i]? with
  | none => unfold wp callF argsOf; rw [q]
  | some s =>
    cases s with
    | none => unfold wp callF argsOf; rw [q]
    | some z =>
      obtain ⟨f, d⟩ := z
      cases f with
      | shr => unfold wp callF argsOf; rw [q]
      | own => exact callF_Io q (by decide) rfl
      | pin => exact callF_Io q (by decide) rfl
theorem y_callI2 {F : Fn} {ρ : Env} {i : Nat} {e0 e1 : D} {P : Vl → Env → Prop} : wp (callF F [.io i, .val e0, .val e1]) ρ P = match ρ[i]? with
    | some (some (.own, d)) => okF F [d, e0, e1] fun v o => o.length = 3 ∧ P v (ρ.set i (some (.own, o.getD 0 .non)))
    | some (some (.pin, d)) => okF F [d, e0, e1] fun v o => o.length = 3 ∧ P v (ρ.set i (some (.pin, o.getD 0 .non)))
    | _ => False := by
  cases q : ρ[i]? with
  | none => unfold wp callF argsOf; rw [q]
  | some s =>
    cases s with
    | none => unfold wp callF argsOf; rw [q]
    | some z =>
      obtain ⟨f, d⟩ := z
      cases f with
      | shr => unfold wp callF argsOf; rw [q]
      | own => exact callF_Io q (by decide) rfl
      | pin => exact callF_Io q (by decide) rfl
theorem y_callI3 {F : Fn} {ρ : Env} {i : Nat} {e0 e1 e2 : D} {P : Vl → Env → Prop} : wp (callF F [.io i, .val e0, .val e1, .val e2]) ρ P = match ρ[i]? with
    | some (some (.own, d)) => okF F [d, e0, e1, e2] fun v o => o.length = 4 ∧ P v (ρ.set i (some (.own, o.getD 0 .non)))
    | some (some (.pin, d)) => okF F [d, e0, e1, e2] fun v o => o.length = 4 ∧ P v (ρ.set i (some (.pin, o.getD 0 .non)))
    | _ => False := by
  cases q : ρ[i]? with
  | none => unfold wp callF argsOf; rw [q]
  | some s =>
    cases s with
    | none => unfold wp callF argsOf; rw [q]
    | some z =>
      obtain ⟨f, d⟩ := z
      cases f with
      | shr => unfold wp callF argsOf; rw [q]
      | own => exact callF_Io q (by decide) rfl
      | pin => exact callF_Io q (by decide) rfl
theorem y_callI4 {F : Fn} {ρ : Env} {i : Nat} {e0 e1 e2 e3 : D} {P : Vl → Env → Prop} : wp (callF F [.io i, .val e0, .val e1, .val e2, .val e3]) ρ P = match ρ[i]? with
    | some (some (.own, d)) => okF F [d, e0, e1, e2, e3] fun v o => o.length = 5 ∧ P v (ρ.set i (some (.own, o.getD 0 .non)))
    | some (some (.pin, d)) => okF F [d, e0, e1, e2, e3] fun v o => o.length = 5 ∧ P v (ρ.set i (some (.pin, o.getD 0 .non)))
    | _ => False := by
  cases q : ρ[i]? with
  | none => unfold wp callF argsOf; rw [q]
  | some s =>
    cases s with
    | none => unfold wp callF argsOf; rw [q]
    | some z =>
      obtain ⟨f, d⟩ := z
      cases f with
      | shr => unfold wp callF argsOf; rw [q]
      | own => exact callF_Io q (by decide) rfl
      | pin => exact callF_Io q (by decide) rfl
@[simp] theorem zy_see {i : Nat} {s0 : Slot} {r0 : Env} {P : Ref → Env → Prop} : wp (see i) (s0 :: r0) P = (match (s0 :: r0)[i]? with
    | some (some (.own, _)) => P (.slot i) (s0 :: r0)
    | some (some (.pin, _)) => P (.slot i) (s0 :: r0)
    | _ => False) := y_see
@[simp] theorem zy_slotd {i : Nat} {s0 : Slot} {r0 : Env} {P : D → Env → Prop} : wp (slotd i) (s0 :: r0) P = (match (s0 :: r0)[i]? with
    | some (some (.own, d)) => P d (s0 :: r0)
    | some (some (.pin, d)) => P d (s0 :: r0)
    | _ => False) := y_slotd
@[simp] theorem zy_change {i : Nat} {s0 : Slot} {r0 : Env} {g : D → Option D} {P : Unit → Env → Prop} : wp (change i g) (s0 :: r0) P = (match (s0 :: r0)[i]? with
    | some (some (.own, d)) => (match g d with
      | some d' => P () ((s0 :: r0).set i (some (.own, d')))
      | none => False)
    | some (some (.pin, d)) => (match g d with
      | some d' => P () ((s0 :: r0).set i (some (.pin, d')))
      | none => False)
    | _ => False) := y_change
@[simp] theorem zy_callI0 {F : Fn} {s0 : Slot} {r0 : Env} {i : Nat} {P : Vl → Env → Prop} : wp (callF F [.io i]) (s0 :: r0) P = (match (s0 :: r0)[i]? with
    | some (some (.own, d)) => okF F [d] fun v o => o.length = 1 ∧ P v ((s0 :: r0).set i (some (.own, o.getD 0 .non)))
    | some (some (.pin, d)) => okF F [d] fun v o => o.length = 1 ∧ P v ((s0 :: r0).set i (some (.pin, o.getD 0 .non)))
    | _ => False) := y_callI0
@[simp] theorem zy_callI1 {F : Fn} {s0 : Slot} {r0 : Env} {i : Nat} {e0 : D} {P : Vl → Env → Prop} : wp (callF F [.io i, .val e0]) (s0 :: r0) P = (match (s0 :: r0)[i]? with
    | some (some (.own, d)) => okF F [d, e0] fun v o => o.length = 2 ∧ P v ((s0 :: r0).set i (some (.own, o.getD 0 .non)))
    | some (some (.pin, d)) => okF F [d, e0] fun v o => o.length = 2 ∧ P v ((s0 :: r0).set i (some (.pin, o.getD 0 .non)))
    | _ => False) := y_callI1
@[simp] theorem zy_callI2 {F : Fn} {s0 : Slot} {r0 : Env} {i : Nat} {e0 e1 : D} {P : Vl → Env → Prop} : wp (callF F [.io i, .val e0, .val e1]) (s0 :: r0) P = (match (s0 :: r0)[i]? with
    | some (some (.own, d)) => okF F [d, e0, e1] fun v o => o.length = 3 ∧ P v ((s0 :: r0).set i (some (.own, o.getD 0 .non)))
    | some (some (.pin, d)) => okF F [d, e0, e1] fun v o => o.length = 3 ∧ P v ((s0 :: r0).set i (some (.pin, o.getD 0 .non)))
    | _ => False) := y_callI2
@[simp] theorem zy_callI3 {F : Fn} {s0 : Slot} {r0 : Env} {i : Nat} {e0 e1 e2 : D} {P : Vl → Env → Prop} : wp (callF F [.io i, .val e0, .val e1, .val e2]) (s0 :: r0) P = (match (s0 :: r0)[i]? with
    | some (some (.own, d)) => okF F [d, e0, e1, e2] fun v o => o.length = 4 ∧ P v ((s0 :: r0).set i (some (.own, o.getD 0 .non)))
    | some (some (.pin, d)) => okF F [d, e0, e1, e2] fun v o => o.length = 4 ∧ P v ((s0 :: r0).set i (some (.pin, o.getD 0 .non)))
    | _ => False) := y_callI3
@[simp] theorem zy_callI4 {F : Fn} {s0 : Slot} {r0 : Env} {i : Nat} {e0 e1 e2 e3 : D} {P : Vl → Env → Prop} : wp (callF F [.io i, .val e0, .val e1, .val e2, .val e3]) (s0 :: r0) P = (match (s0 :: r0)[i]? with
    | some (some (.own, d)) => okF F [d, e0, e1, e2, e3] fun v o => o.length = 5 ∧ P v ((s0 :: r0).set i (some (.own, o.getD 0 .non)))
    | some (some (.pin, d)) => okF F [d, e0, e1, e2, e3] fun v o => o.length = 5 ∧ P v ((s0 :: r0).set i (some (.pin, o.getD 0 .non)))
    | _ => False) := y_callI4
@[simp] theorem evE_q39 (Γ : Gm) p a : evE Γ (.count p a) = opnd p (evE Γ p) >>= fun r => deref r >>= fun d => asLst d >>= fun _ => evE Γ a >>= fun v => deref r >>= fun d => M.opt ((countD d v.d).map fun n => sh (.int n)) := by first | (rw [evE]; done) | (rw [evE]; rfl)
@[simp] theorem evE_q40 (Γ : Gm) ks vs a dflt : evE Γ (.strGetE ks vs a dflt) = evL Γ vs >>= fun ds => evE Γ a >>= fun v => asStr v.d >>= fun x => evE Γ dflt >>= fun w => pure (sh (getD2 ks ds x w.d)) := by first | (rw [evE]; done) | (rw [evE]; rfl)
@[simp] theorem xpk_count a0 a1 : E.peek (E.count a0 a1) = none := rfl
@[simp] theorem xio_count a0 a1 : E.isIo (E.count a0 a1) = none := rfl
@[simp] theorem xop_count a0 a1 (m : M Vl) : opnd (E.count a0 a1) m = m >>= fun v => pure (.val v.d) := rfl
@[simp] theorem xpk_strGetE a0 a1 a2 a3 : E.peek (E.strGetE a0 a1 a2 a3) = none := rfl
@[simp] theorem xio_strGetE a0 a1 a2 a3 : E.isIo (E.strGetE a0 a1 a2 a3) = none := rfl
@[simp] theorem xop_strGetE a0 a1 a2 a3 (m : M Vl) : opnd (E.strGetE a0 a1 a2 a3) m = m >>= fun v => pure (.val v.d) := rfl
@[simp] theorem xpk_lamc a0 a1 a2 a3 : E.peek (E.lamc a0 a1 a2 a3) = none := rfl
@[simp] theorem xio_lamc a0 a1 a2 a3 : E.isIo (E.lamc a0 a1 a2 a3) = none := rfl
@[simp] theorem xop_lamc a0 a1 a2 a3 (m : M Vl) : opnd (E.lamc a0 a1 a2 a3) m = m >>= fun v => pure (.val v.d) := rfl
end PL
/-! PLData: items, slices, sizes; plain Lean. -/
namespace PL
open PySem (Str)
section
variable {α : Type}
theorem at_nat (l : List α) (i : Nat) : at? l (i : Int) = l[i]? := by
  unfold at? ixOf
  rw [if_pos (by omega)]
  by_cases h : i < l.length
  · rw [if_pos (by omega)]
    simp
  · rw [if_neg (by omega)]
    simp
    omega
@[simp] theorem at_0 (l : List α) : at? l 0 = l[0]? := at_nat l 0
@[simp] theorem at_1 (l : List α) : at? l 1 = l[1]? := at_nat l 1
@[simp] theorem at_2 (l : List α) : at? l 2 = l[2]? := at_nat l 2
@[simp] theorem at_3 (l : List α) : at? l 3 = l[3]? := at_nat l 3
theorem at_int (l : List α) {i : Int} (h : 0 ≤ i) : at? l i = l[i.toNat]? := by
  have := at_nat l i.toNat
  rwa [Int.toNat_of_nonneg h] at this
theorem at_neg (l : List α) (k : Nat) (h : 0 < k) : at? l (-(k : Int)) = if k ≤ l.length then l[l.length - k]? else none := by
  unfold at? ixOf
  rw [if_neg (by omega)]
  by_cases q : k ≤ l.length
  · rw [if_pos (by omega), if_pos q]
    simp
    congr 1
    omega
  · rw [if_neg (by omega), if_neg q]
    rfl
@[simp] theorem at_m1 (l : List α) : at? l (-1) = l.getLast? := by
  have := at_neg l 1 (by omega)
  rw [show ((-1 : Int)) = -((1 : Nat) : Int) by rfl, this]
  cases l with
  | nil => rfl
  | cons x l =>
    rw [if_pos (by simp), List.getLast?_eq_getElem?]
theorem at_m2 (l : List α) : at? l (-2) = if 2 ≤ l.length then l[l.length - 2]? else none := at_neg l 2 (by omega)
theorem cut_drop (l : List α) (k : Nat) : cut l (some (k : Int)) none = l.drop k := by
  unfold cut cl
  simp only
  rw [if_neg (by omega)]
  by_cases h : k ≤ l.length
  · rw [show ((min (k : Int) (l.length : Int)).toNat) = k by omega, List.take_of_length_le (by simp)]
  · rw [show ((min (k : Int) (l.length : Int)).toNat) = l.length by omega]
    simp
    omega
@[simp] theorem cut_drop1 (l : List α) : cut l (some 1) none = l.drop 1 := cut_drop l 1
@[simp] theorem cut_drop2 (l : List α) : cut l (some 2) none = l.drop 2 := cut_drop l 2
theorem cut_take (l : List α) (k : Nat) : cut l none (some (k : Int)) = l.take k := by
  unfold cut cl
  simp only
  rw [if_neg (by omega)]
  by_cases h : k ≤ l.length
  · rw [show ((min (k : Int) (l.length : Int)).toNat) = k by omega]; simp
  · rw [show ((min (k : Int) (l.length : Int)).toNat) = l.length by omega]
    rw [List.take_of_length_le (show l.length ≤ k by omega)]
    simp
theorem cut_takeI (l : List α) {i : Int} (h : 0 ≤ i) : cut l none (some i) = l.take i.toNat := by
  have := cut_take l i.toNat
  rwa [Int.toNat_of_nonneg h] at this
theorem cut_dropI (l : List α) {i : Int} (h : 0 ≤ i) : cut l (some i) none = l.drop i.toNat := by
  have := cut_drop l i.toNat
  rwa [Int.toNat_of_nonneg h] at this
@[simp] theorem cut_m1 (l : List α) : cut l none (some (-1)) = l.dropLast := by
  unfold cut cl
  simp only
  rw [if_pos (by omega), List.dropLast_eq_take]
  simp
  congr 1
  omega
@[simp] theorem cut_last (l : List α) : cut l (some (-1)) none = l.drop (l.length - 1) := by
  unfold cut cl
  simp only
  rw [if_pos (by omega), show ((max (-1 + (l.length : Int)) 0).toNat) = l.length - 1 by omega, List.take_of_length_le (by simp)]
end
/-! ### sizes -/
mutual
def D.szd : D → Bool
  | .tup l => decide (l.length ≤ 1000000) && D.szds l
  | .lst l => decide (l.length ≤ 1000000) && D.szds l
  | .str s => decide (s.length ≤ 1000000)
  | _ => true
def D.szds : List D → Bool
  | [] => true
  | d :: ds => d.szd && D.szds ds
end
theorem szds_mem : ∀ {l : List D}, D.szds l = true → ∀ x ∈ l, x.szd = true
  | [], h, x, hx => by cases hx
  | y :: l, h, x, hx => by
    rw [D.szds, Bool.and_eq_true] at h
    rcases List.mem_cons.mp hx with rfl | hx
    · exact h.1
    · exact szds_mem h.2 x hx
theorem szds_of : ∀ {l : List D}, (∀ x ∈ l, x.szd = true) → D.szds l = true
  | [], h => by rw [D.szds]
  | y :: l, h => by
    rw [D.szds, Bool.and_eq_true]
    exact ⟨h y (by simp), szds_of fun x hx => h x (by simp [hx])⟩
/-- plain data, so deep at most, of bounded lengths -/
def Fine (n : Nat) (v : D) : Prop := v.cmpb n = true ∧ v.szd = true
theorem Fine.pl {n : Nat} {v : D} (h : Fine n v) : pln v = true := pln_of h.1
theorem Fine.mono {n m : Nat} {v : D} (h : Fine n v) (le : n ≤ m) : Fine m v := ⟨cmpb_mono le h.1, h.2⟩
theorem Fine.tup {n : Nat} {l : List D} (h : Fine n (.tup l)) : l.length ≤ 1000000 ∧ ∃ m, n = m + 1 ∧ ∀ x ∈ l, Fine m x := by
  obtain ⟨m, e, hm⟩ := cmpb_tup h.1
  have h2 := h.2
  rw [D.szd, Bool.and_eq_true, decide_eq_true_eq] at h2
  exact ⟨h2.1, m, e, fun x hx => ⟨hm x hx, szds_mem h2.2 x hx⟩⟩
theorem Fine.lst {n : Nat} {l : List D} (h : Fine n (.lst l)) : l.length ≤ 1000000 ∧ ∃ m, n = m + 1 ∧ ∀ x ∈ l, Fine m x := by
  obtain ⟨m, e, hm⟩ := cmpb_lst h.1
  have h2 := h.2
  rw [D.szd, Bool.and_eq_true, decide_eq_true_eq] at h2
  exact ⟨h2.1, m, e, fun x hx => ⟨hm x hx, szds_mem h2.2 x hx⟩⟩
theorem Fine.mkT {n : Nat} {l : List D} (h : l.length ≤ 1000000) (hx : ∀ x ∈ l, Fine n x) : Fine (n + 1) (.tup l) := by
  refine ⟨?_, ?_⟩
  · rw [D.cmpb]; exact cmpbs_of fun x q => (hx x q).1
  · rw [D.szd, Bool.and_eq_true, decide_eq_true_eq]; exact ⟨h, szds_of fun x q => (hx x q).2⟩
theorem Fine.mkL {n : Nat} {l : List D} (h : l.length ≤ 1000000) (hx : ∀ x ∈ l, Fine n x) : Fine (n + 1) (.lst l) := by
  refine ⟨?_, ?_⟩
  · rw [D.cmpb]; exact cmpbs_of fun x q => (hx x q).1
  · rw [D.szd, Bool.and_eq_true, decide_eq_true_eq]; exact ⟨h, szds_of fun x q => (hx x q).2⟩
theorem Fine.int {n : Nat} (i : Int) : Fine n (.int i) := ⟨by simp [D.cmpb], by simp [D.szd]⟩
theorem Fine.bl {n : Nat} (b : Bool) : Fine n (.bl b) := ⟨by simp [D.cmpb], by simp [D.szd]⟩
theorem Fine.non {n : Nat} : Fine n .non := ⟨by simp [D.cmpb], by simp [D.szd]⟩
/-- == of plain data -/
theorem eq_fine {a b : D} (ha : Fine 60 a) (hb : Fine 60 b) : cmpv .eq a b = some (a.eqv b) := by
  unfold cmpv
  split <;> simp_all [ha.1, hb.1]
theorem ne_fine {a b : D} (ha : Fine 60 a) (hb : Fine 60 b) : cmpv .ne a b = some (!a.eqv b) := by
  unfold cmpv
  split <;> simp_all [ha.1, hb.1]
end PL
/-! PLTest: a test of equality, for what the kernel runs. -/
namespace PL
open PySem (Str)
mutual
def D.same : D → D → Bool
  | .non, .non => true
  | .bl a, .bl b => a == b
  | .int i, .int j => decide (i = j)
  | .str x, .str y => decide (x = y)
  | .tup l, .tup m => D.sames l m
  | .lst l, .lst m => D.sames l m
  | .ro l, .ro m => D.sames l m
  | .fn x, .fn y => decide (x = y)
  | _, _ => false
def D.sames : List D → List D → Bool
  | [], [] => true
  | x :: l, y :: m => x.same y && D.sames l m
  | _, _ => false
end
mutual
theorem same_eq : ∀ {a b : D}, a.same b = true → a = b
  | .non, b, h => by cases b <;> simp [D.same] at h ⊢
  | .bl x, b, h => by cases b <;> simp [D.same] at h ⊢ <;> exact h
  | .int x, b, h => by cases b <;> simp [D.same] at h ⊢ <;> exact h
  | .str x, b, h => by cases b <;> simp [D.same] at h ⊢ <;> exact h
  | .tup l, b, h => by cases b <;> simp [D.same] at h ⊢ <;> exact sames_eq h
  | .lst l, b, h => by cases b <;> simp [D.same] at h ⊢ <;> exact sames_eq h
  | .ro l, b, h => by cases b <;> simp [D.same] at h ⊢ <;> exact sames_eq h
  | .dct l, b, h => by cases b <;> simp [D.same] at h
  | .fn x, b, h => by
    cases b <;> simp [D.same] at h ⊢
    exact h
theorem sames_eq : ∀ {l m : List D}, D.sames l m = true → l = m
  | [], m, h => by cases m <;> simp [D.sames] at h ⊢
  | x :: l, m, h => by
    cases m with
    | nil => simp [D.sames] at h
    | cons y m =>
      rw [D.sames, Bool.and_eq_true] at h
      rw [same_eq h.1, sames_eq h.2]
end
/-- it answers v, and nothing behind the slots changed -/
def RF.sameB (r : RF) (o : Bool) (d : D) (outs : List D) : Bool := match r with
  | .ok v os => (v.own == o) && v.d.same d && D.sames os outs
  | _ => false
theorem sameB_eq {r : RF} {o : Bool} {d : D} {outs : List D} (h : r.sameB o d outs = true) : r = .ok ⟨o, d⟩ outs := by
  unfold RF.sameB at h
  split at h
  · rename_i v os
    simp only [Bool.and_eq_true, beq_iff_eq] at h
    obtain ⟨⟨h1, h2⟩, h3⟩ := h
    obtain ⟨vo, vd⟩ := v
    cases h1
    rw [show vd = d from same_eq h2, sames_eq h3]
  · cases h
/-- the ints below n -/
def upTo (n : Nat) : List Int := (List.range n).map Int.ofNat
theorem upTo_mem {n : Nat} {i : Int} (h0 : 0 ≤ i) (h : i < n) : i ∈ upTo n := by
  unfold upTo
  rw [List.mem_map]
  exact ⟨i.toNat, List.mem_range.mpr (by omega), by simp; omega⟩
@[simp] theorem ofStr_inj (a b : String) : (Str.ofString a = Str.ofString b) = (a = b) := by
  refine propext ⟨fun h => ?_, fun h => by rw [h]⟩
  rw [PySem.Str.ofString_eq_toList, PySem.Str.ofString_eq_toList] at h
  have h2 : a.toList.map Char.toNat = b.toList.map Char.toNat := by
    have := congrArg PySem.Str.cps h
    simpa using this
  have h3 : a.toList = b.toList := by
    have inj : Function.Injective Char.toNat := fun x y e => Char.ext (UInt32.toNat_inj.mp e)
    exact (List.map_inj_right inj).mp h2
  exact String.toList_inj.mp h3
/-- a comprehension over what is encoded -/
theorem wp_bmapE {α : Type} {own : List Nat} {asg : D → M Unit} {cnd : M Bool} {elt : M D} {ρ : Env} {P : List D → Env → Prop} (enc g : α → D) (r : List α) (no : noOwned ρ own = true)
    (step : ∀ b ∈ r, wp (asg (enc b)) (wipe ρ own) fun _ ρ1 => wp cnd ρ1 fun c ρ2 => c = true ∧ wp elt ρ2 fun y ρ3 => y = g b ∧ wipe ρ3 own = wipe ρ own) (h : P (r.map g) (restore ρ (wipe ρ own) own)) : wp (block own (compL own asg cnd elt (r.map enc))) ρ P := by
  rw [wp_block no]
  refine wp_comp (fun q ys ρ' => ρ' = wipe ρ own ∧ ∃ l l2, r = l ++ l2 ∧ q = l2.map enc ∧ ys = l.map g) ?_ _ [] _ ⟨rfl, [], r, rfl, rfl, rfl⟩ ?_
  · rintro x xs ys ρ' ⟨rfl, l, l2, e1, e2, rfl⟩
    cases l2 with
    | nil => cases e2
    | cons b l2 =>
      cases e2
      refine (step b (by rw [e1]; simp)).mono fun _ ρ1 s => s.mono fun c ρ2 s => ?_
      obtain ⟨rfl, s⟩ := s
      exact s.mono fun y ρ3 ⟨e3, e4⟩ => ⟨e4, l ++ [b], l2, by rw [e1]; simp, rfl, by rw [e3]; simp⟩
  · rintro zs ρ' ⟨rfl, l, l2, e1, e2, e3⟩
    have : l2 = [] := by cases l2 with
      | nil => rfl
      | cons _ _ => cases e2
    subst this
    rw [List.append_nil] at e1
    rw [List.nil_append] at e3
    subst e1
    rw [e3]
    exact h
end PL
/-! PLErr: what ends in an error; plain Lean. -/
namespace PL
open PySem (Str)
/-- it ends in an error, in Q -/
def er {α : Type} (m : M α) (ρ : Env) (Q : Ex → Env → Prop) : Prop := match m ρ with
  | .err e ρ' => Q e ρ'
  | _ => False
section
variable {α β : Type} {ρ : Env} {Q : Ex → Env → Prop}
theorem er_bind {m : M α} {f : α → M β} (h : wp m ρ fun a ρ' => er (f a) ρ' Q) : er (m >>= f) ρ Q := by
  unfold wp at h
  unfold er
  cases q : m ρ with
  | ok a ρ' => rw [q] at h; rw [bind_ok q]; exact h
  | err e ρ' => rw [q] at h; exact h.elim
  | bad => rw [q] at h; exact h.elim
theorem er_bind1 {m : M α} {f : α → M β} (h : er m ρ Q) : er (m >>= f) ρ Q := by
  unfold er at h ⊢
  cases q : m ρ with
  | ok a ρ' => rw [q] at h; exact h.elim
  | err e ρ' => rw [q] at h; rw [bind_err q]; exact h
  | bad => rw [q] at h; exact h.elim
theorem er_err {e : Ex} : er (M.err e : M α) ρ Q = Q e ρ := rfl
theorem er_call {F : Fn} {as : List Arg} {e : Ex} {o : List D} (hs : slotsOf as = []) (h : F (valsD as) = .err e o) (hl : o.length = as.length) (q : Q e ρ) : er (callF F as) ρ Q := by
  obtain ⟨a, b⟩ := args_val (ρ := ρ) hs
  unfold er callF
  rw [a]
  dsimp only
  rw [hs, if_neg (by decide), h]
  dsimp only
  rw [b, if_neg (by simp), if_pos hl, putOuts_val hs]
  exact q
theorem er_eq {m : M α} (h : er m ρ Q) : ∃ e ρ', m ρ = .err e ρ' ∧ Q e ρ' := by
  unfold er at h
  cases q : m ρ with
  | ok a ρ' => rw [q] at h; exact h.elim
  | err e ρ' => rw [q] at h; exact ⟨e, ρ', rfl, h⟩
  | bad => rw [q] at h; exact h.elim
end
/-- a def that ends in an error -/
theorem err_sem {mask : List Bool} {n : Nat} {m : M Fl} {ds : List D} {e : Ex} {outs : List D} (hl : ds.length = mask.length)
    (h : er m (init mask ds ++ List.replicate (n - mask.length) none) fun e' ρ => e' = e ∧ outsAt mask ρ = some outs) : semD mask n m ds = .err e outs := by
  obtain ⟨e', ρ', h1, rfl, h3⟩ := er_eq h
  unfold semD
  rw [if_pos hl, h1]
  dsimp only
  rw [h3]
theorem wp_try {m : M Fl} {h : Ex → Option (M Fl)} {ρ : Env} {P : Fl → Env → Prop} (q : er m ρ fun e ρ' => ∃ m', h e = some m' ∧ wp m' ρ' P) : wp (tryL m h) ρ P := by
  obtain ⟨e, ρ', h1, m', h2, h3⟩ := er_eq q
  unfold wp tryL
  rw [h1]
  dsimp only
  rw [h2]
  exact h3
theorem wp_try_ok {m : M Fl} {h : Ex → Option (M Fl)} {ρ : Env} {P : Fl → Env → Prop} (q : wp m ρ P) : wp (tryL m h) ρ P := by
  unfold wp at q
  unfold wp tryL
  cases z : m ρ with
  | ok a ρ' => rw [z] at q; exact q
  | err e ρ' => rw [z] at q; exact q.elim
  | bad => rw [z] at q; exact q.elim
/-- x(lambda: body) whose body ends in an error -/
theorem wp_lamc {Γ : Gm} {d : Str} {known : List Str} {hs : List (Str × Str)} {body : E} {ρ : Env} {P : Vl → Env → Prop} (h : er (evE Γ body) (hide ρ) fun e _ => e.cls ∈ known ∧ ∃ w, hs.lookup e.cls = some w ∧ P (sh (.str w)) ρ) : wp (evE Γ (.lamc d known hs body)) ρ P := by
  obtain ⟨e, ρ', h1, h2, w, h3, h4⟩ := er_eq h
  have e1 : evE Γ (.lamc d known hs body) ρ = .ok (sh (.str w)) ρ := by
    rw [evE]
    show (match evE Γ body (hide ρ) with
      | .ok _ _ => R.ok (sh (.str d)) ρ
      | .err e _ => if e.cls ∈ known then (match hs.lookup e.cls with
        | some w => R.ok (sh (.str w)) ρ
        | none => R.bad) else R.bad
      | .bad => R.bad) = _
    rw [h1]
    simp only [if_pos h2, h3]
  unfold wp
  rw [e1]
  exact h4
/-- it is an error of this class without a field, nothing written -/
def RF.errB (r : RF) (c : Str) (n : Nat) : Bool := match r with
  | .err e outs => decide (e.cls = c) && e.fld.isNone && D.sames outs (List.replicate n .non)
  | _ => false
theorem errB_eq {r : RF} {c : Str} {n : Nat} (h : r.errB c n = true) : r = .err ⟨c, none⟩ (List.replicate n .non) := by
  unfold RF.errB at h
  split at h
  · rename_i e outs
    simp only [Bool.and_eq_true, decide_eq_true_eq, Option.isNone_iff_eq_none] at h
    obtain ⟨⟨h1, h2⟩, h3⟩ := h
    obtain ⟨c', f⟩ := e
    cases h1
    cases h2
    rw [sames_eq h3]
  · cases h
end PL
/-! is_from, is_tuple: for the laws without scripts (the same as in M_scripts, M_steps2, M_has) -/
namespace KT
open PL
open PySem (Str)
def isFrom (v : D) (lo hi : Int) : Bool := match v with
  | .int i => decide (lo ≤ i) && decide (i ≤ hi)
  | _ => false
def isTup (v : D) (lo hi : Int) : Bool := match v with
  | .tup l => decide (lo ≤ l.length) && decide (l.length ≤ hi)
  | _ => false
theorem E_is_tuple (v : D) (lo hi : Int) (h : pln v = true) : F_is_tuple [v, .int lo, .int hi] = .ok (sh (.bl (isTup v lo hi))) [.non, .non, .non] := by
  refine okF_iff fun P hP => okF_sem rfl ?_
  cases v with
  | tup l =>
    simp [s_is_tuple, N_is_tuple]
    simp [isTup] at hP
    by_cases h1 : lo ≤ (l.length : Int) <;> simpa [h1] using hP
  | _ => first | (cases h; done) | simpa [s_is_tuple, N_is_tuple, isTup] using hP
@[simp] theorem o_is_tuple (v : D) (lo hi : Int) (h : pln v = true) (P) : okF F_is_tuple [v, .int lo, .int hi] P = P (sh (.bl (isTup v lo hi))) [.non, .non, .non] := okF_ok (E_is_tuple v lo hi h)
theorem E_is_from (v : D) (lo hi : Int) (h : pln v = true) : F_is_from [v, .int lo, .int hi] = .ok (sh (.bl (isFrom v lo hi))) [.non, .non, .non] := by
  refine okF_iff fun P hP => okF_sem rfl ?_
  cases v with
  | int l =>
    simp [s_is_from, N_is_from]
    simp [isFrom] at hP
    by_cases h1 : lo ≤ l <;> simpa [h1] using hP
  | _ => first | (cases h; done) | simpa [s_is_from, N_is_from, isFrom] using hP
@[simp] theorem o_is_from (v : D) (lo hi : Int) (h : pln v = true) (P) : okF F_is_from [v, .int lo, .int hi] P = P (sh (.bl (isFrom v lo hi))) [.non, .non, .non] := okF_ok (E_is_from v lo hi h)
theorem isTup_two {p : D} (h : isTup p 2 2 = true) : ∃ a b, p = .tup [a, b] := by
  unfold isTup at h
  split at h
  · rename_i l
    simp at h
    match l, h with
    | [a, b], _ => exact ⟨a, b, rfl⟩
    | [], h => simp at h
    | [_], h => simp at h
    | _ :: _ :: _ :: r, h => simp at h; omega
  · cases h
theorem szL_of {n : Nat} (h : n ≤ 1000000) : n ≤ szL := Nat.le_trans h (by decide)
theorem isFrom_int {v : D} {lo hi : Int} (h : isFrom v lo hi = true) : ∃ i, v = .int i ∧ lo ≤ i ∧ i ≤ hi := by
  unfold isFrom at h
  split at h
  · rename_i i
    simp at h
    exact ⟨i, rfl, h⟩
  · cases h
theorem all_enc {α : Type} {enc : α → D} {p : D → Bool} {Q : α → Prop} : ∀ {l : List D}, (∀ x ∈ l, p x = true → ∃ q, x = enc q ∧ Q q) → l.all p = true → ∃ t : List α, l = t.map enc ∧ ∀ q ∈ t, Q q
  | [], _, _ => ⟨[], rfl, by simp⟩
  | x :: l, hq, h => by
    rw [List.all_cons, Bool.and_eq_true] at h
    obtain ⟨q, rfl, h1⟩ := hq x (by simp) h.1
    obtain ⟨t, rfl, h2⟩ := all_enc (fun y hy => hq y (by simp [hy])) h.2
    exact ⟨q :: t, rfl, by simpa using ⟨h1, h2⟩⟩
theorem isFrom_of {m i : Int} (h : 0 ≤ i ∧ i < m) : isFrom (.int i) 0 (m - 1) = true := by
  simp [isFrom]; omega
end KT
/-! nestings recognized -/
namespace KT
open PL
open PySem (Str)
inductive Box where
  | mk (s : Int) (r : List Box)
def Box.s : Box → Int
  | .mk s _ => s
def Box.inner : Box → List Box
  | .mk _ r => r
mutual
def Box.enc : Box → D
  | .mk s r => .tup [.int s, .tup (Box.encs r)]
def Box.encs : List Box → List D
  | [] => []
  | b :: r => b.enc :: Box.encs r
end
mutual
def Box.cnt : Box → Nat
  | .mk _ r => 1 + Box.cnts r
def Box.cnts : List Box → Nat
  | [] => 0
  | b :: r => b.cnt + Box.cnts r
end
mutual
def Box.dep : Box → Nat
  | .mk _ r => 1 + Box.deps r
def Box.deps : List Box → Nat
  | [] => 0
  | b :: r => max b.dep (Box.deps r)
end
abbrev Row := List Box
def encR (r : Row) : D := .tup (Box.encs r)
theorem encs_map : ∀ r : Row, Box.encs r = r.map Box.enc
  | [] => rfl
  | b :: r => by rw [Box.encs, encs_map r]; rfl
theorem enc_box (b : Box) : b.enc = .tup [.int b.s, encR b.inner] := by
  cases b with
  | mk s r => rw [Box.enc]; rfl
theorem cnt_box (b : Box) : b.cnt = 1 + Box.cnts b.inner := by
  cases b with
  | mk s r => rw [Box.cnt]; rfl
theorem dep_box (b : Box) : b.dep = 1 + Box.deps b.inner := by
  cases b with
  | mk s r => rw [Box.dep]; rfl
mutual
theorem enc_inj : ∀ {a b : Box}, a.enc = b.enc → a = b
  | .mk s r, .mk s' r', h => by
    rw [Box.enc, Box.enc] at h
    simp at h
    rw [h.1, encs_inj h.2]
theorem encs_inj : ∀ {a b : Row}, Box.encs a = Box.encs b → a = b
  | [], [], _ => rfl
  | [], _ :: _, h => by simp [Box.encs] at h
  | _ :: _, [], h => by simp [Box.encs] at h
  | x :: a, y :: b, h => by
    rw [Box.encs, Box.encs] at h
    simp at h
    rw [enc_inj h.1, encs_inj h.2]
end
theorem encR_inj {a b : Row} (h : encR a = encR b) : a = b := by
  unfold encR at h
  simp at h
  exact encs_inj h
def okR (m : Int) : Nat → Row → Prop
  | 0, r => r = []
  | d + 1, r => r.length ≤ 40 ∧ ∀ b ∈ r, (0 ≤ b.s ∧ b.s < m) ∧ okR m d b.inner
theorem okR_deps {m : Int} : ∀ {d : Nat} {r : Row}, okR m d r → Box.deps r ≤ d
  | 0, r, h => by
    cases (show r = [] from h)
    simp [Box.deps]
  | d + 1, r, h => by
    obtain ⟨hh, h⟩ := h
    clear hh
    induction r with
    | nil => simp [Box.deps]
    | cons b r ih =>
      rw [Box.deps, dep_box]
      have h1 := okR_deps (h b (by simp)).2
      have h2 := ih fun x hx => h x (by simp [hx])
      omega
def isBox (f : D → Bool) (m : Int) (b : D) : Bool := match b with
  | .tup [s, r] => isFrom s 0 (m - 1) && f r
  | _ => false
def isKept (m : Int) : Nat → D → Bool
  | 0, v => match v with
    | .tup [] => true
    | _ => false
  | d + 1, v => match v with
    | .tup l => decide (l.length ≤ 40) && l.all (isBox (isKept m d) m)
    | _ => false
theorem isKept_enc {m : Int} : ∀ {d : Nat} {v : D}, isKept m d v = true → ∃ r, v = encR r ∧ okR m d r
  | 0, v, h => by
    unfold isKept at h
    split at h
    · exact ⟨[], rfl, rfl⟩
    · cases h
  | d + 1, v, h => by
    unfold isKept at h
    split at h
    · rename_i l
      rw [Bool.and_eq_true, decide_eq_true_eq] at h
      obtain ⟨t, e, h2⟩ := all_enc (enc := Box.enc) (Q := fun b => (0 ≤ b.s ∧ b.s < m) ∧ okR m d b.inner) (fun x _ q => by
        unfold isBox at q
        split at q
        · rename_i s r
          rw [Bool.and_eq_true] at q
          obtain ⟨i, rfl, h3, h4⟩ := isFrom_int q.1
          obtain ⟨r', rfl, h5⟩ := isKept_enc q.2
          exact ⟨.mk i r', by rw [Box.enc]; rfl, ⟨h3, by show i < m; omega⟩, h5⟩
        · cases q) h.2
      refine ⟨t, by rw [e, encR, encs_map], ?_, h2⟩
      have := h.1
      rw [e] at this
      simpa using this
    · cases h
theorem isKept_of {m : Int} : ∀ {d : Nat} {r : Row}, okR m d r → isKept m d (encR r) = true
  | 0, r, h => by
    cases (show r = [] from h)
    rfl
  | d + 1, r, h => by
    obtain ⟨h1, h2⟩ := h
    simp only [encR, encs_map, isKept, Bool.and_eq_true, decide_eq_true_eq, List.length_map, List.all_map, List.all_eq_true, Function.comp]
    refine ⟨h1, fun b hb => ?_⟩
    rw [enc_box]
    simp only [isBox, Bool.and_eq_true]
    exact ⟨isFrom_of (h2 b hb).1, isKept_of (h2 b hb).2⟩
def invK (m : Int) (v : D) (d : Int) (ρ : Env) : Prop := ∃ s, ρ = [some (.shr, .int m), some (.shr, v), some (.shr, .int d), s] ∧ ∀ d, s ≠ some (.pin, d)
theorem E_is_kept (m : Int) : ∀ (d e : Nat) (v : D), Fine 50 v → R_is_kept (d + 1 + e) [.int m, v, .int d] = .ok (sh (.bl (isKept m d v))) [.non, .non, .non] := by
  intro d
  induction d with
  | zero =>
    intro e v h
    rw [show 0 + 1 + e = e + 1 by omega]
    refine okF_iff fun P hP => okF_sem rfl ?_
    generalize recF [false, false, false] N_is_kept.length (fun F => mkG (F :: fs_is_kept) cs_is_kept) s_is_kept e = F
    have hp := h.pl
    cases v with
    | tup l =>
      have hne := ne_fine (h.mono (by decide : 50 ≤ 60)) (show Fine 60 (.tup []) from ⟨by decide, by decide⟩)
      obtain ⟨hl, _⟩ := h.tup
      simp [s_is_kept, N_is_kept, cs_is_kept, hne]
      cases l with
      | nil => simpa [isKept] using hP
      | cons x l =>
        have hP' : P (sh (.bl false)) [.non, .non, .non] := by simpa [isKept] using hP
        simp
        first | exact hP' | exact fun _ => hP' | (split <;> exact hP') | exact ⟨fun _ => hP', fun _ => hP'⟩
    | _ => first | (cases hp; done) | simpa [s_is_kept, N_is_kept, isKept] using hP
  | succ d ih =>
    intro e v h
    rw [show d + 1 + 1 + e = (d + 1 + e) + 1 by omega]
    refine okF_iff fun P hP => okF_sem rfl ?_
    have hF := fun v hv => ih e v hv
    unfold R_is_kept at hF
    generalize recF [false, false, false] N_is_kept.length (fun F => mkG (F :: fs_is_kept) cs_is_kept) s_is_kept (d + 1 + e) = F at hF ⊢
    have hp := h.pl
    cases v with
    | tup l =>
      have hne := ne_fine (h.mono (by decide : 50 ≤ 60)) (show Fine 60 (.tup []) from ⟨by decide, by decide⟩)
      obtain ⟨hl, k, hk, hm⟩ := h.tup
      have hd : ((d + 1 : Nat) : Int) ≠ 0 := by omega
      have hd2 : (((d : Int) + 1 : Int) = 0) = False := eq_false (by omega)
      simp [s_is_kept, N_is_kept, cs_is_kept, hne, hd2]
      by_cases h1 : 40 < (l.length : Int)
      · have h1' : ¬ l.length ≤ 40 := by omega
        simp [h1]
        simpa [isKept, h1'] using hP
      · have h1' : l.length ≤ 40 := by omega
        simp [h1]
        have hfin : ∀ b : Bool, l.all (isBox (isKept m d) m) = b → P (sh (.bl b)) [.non, .non, .non] := fun b q => by
          have e : isKept m (d + 1) (.tup l) = b := by simp only [isKept, decide_eq_true h1', Bool.true_and, q]
          rw [e] at hP
          exact hP
        have loop : wp (loopL (fun x => asgTg (Tg.nm 3) x >>= fun _ => evSs (mkG (F :: fs_is_kept) cs_is_kept) [.ife (.or (.not (.call 1 [.var 3, .int 2, .int 2])) (.or (.not (.call 2 [.ix (.var 3) (.int 0), .int 0, .bin .sub (.var 0) (.int 1)])) (.not (.call 0 [.var 0, .ix (.var 3) (.int 1), .bin .sub (.var 2) (.int 1)])))) [.ret (.bl false)] []]) l)
            [some (.shr, .int m), some (.shr, .tup l), some (.shr, .int ((d : Int) + 1)), none] fun f ρ => f = (if l.all (isBox (isKept m d) m) = true then .nx else .rt (sh (.bl false))) ∧ invK m (.tup l) ((d : Int) + 1) ρ := by
          refine wp_find (invK m (.tup l) ((d : Int) + 1)) (isBox (isKept m d) m) (sh (.bl false)) l _ ⟨none, rfl, by simp⟩ ?_ fun ρ h => ⟨rfl, h⟩
          rintro x hx ρ ⟨s, rfl, hs⟩
          have hxf := hm x hx
          have hxp := hxf.pl
          have done : ∀ b : Bool, isBox (isKept m d) m x = b → invK m (.tup l) ((d : Int) + 1) [some (.shr, .int m), some (.shr, .tup l), some (.shr, .int ((d : Int) + 1)), some (.shr, x)] ∧ isBox (isKept m d) m x = b := fun b q => ⟨⟨_, rfl, by simp⟩, q⟩
          simp [hs, hxp]
          rw [show (fs_is_kept[0]?.getD fun x => RF.bad) = F_is_tuple from rfl, o_is_tuple _ _ _ hxp]
          simp
          by_cases h2 : isTup x 2 2 = true
          · obtain ⟨a, b, rfl⟩ := isTup_two h2
            obtain ⟨_, k2, hk2, hm2⟩ := hxf.tup
            have ha := (hm2 a (by simp)).pl
            have hb := hm2 b (by simp)
            simp [h2]
            rw [show (fs_is_kept[1]?.getD fun x => RF.bad) = F_is_from from rfl, o_is_from _ _ _ ha]
            simp
            by_cases h3 : isFrom a 0 (m - 1) = true
            · simp [h3]
              have hb50 : Fine 50 b := hb.mono (by omega)
              rw [okF_ok (hF b hb50)]
              simp
              by_cases h4 : isKept m d b = true
              · simp [h4]
                exact done true (by simp [isBox, h3, h4])
              · simp [h4]
                exact done false (by simp [isBox, h3, h4])
            · simp [h3]
              exact done false (by simp [isBox, h3])
          · simp [h2]
            refine done false ?_
            unfold isBox
            split
            · simp [isTup] at h2
            · rfl
        simp at loop
        refine loop.mono fun f ρ ⟨e, s, hρ, hs⟩ => ?_
        subst hρ
        by_cases h2 : l.all (isBox (isKept m d) m) = true
        · have e' : f = .nx := by
            simp only [List.all_eq_true] at h2
            rw [e, if_pos h2]
          subst e'
          simpa using hfin true h2
        · have e' : f = .rt (sh (.bl false)) := by
            have h3 := h2
            simp only [List.all_eq_true] at h3
            rw [e, if_neg h3]
          subst e'
          simpa using hfin false (by simpa using h2)
    | _ => first | (cases hp; done) | simpa [s_is_kept, N_is_kept, isKept] using hP
/-- every row within is short -/
def short : Nat → Row → Prop
  | 0, r => r.length ≤ 1000000
  | d + 1, r => r.length ≤ 1000000 ∧ ∀ b ∈ r, short d b.inner
theorem okR_short {m : Int} : ∀ {d : Nat} {r : Row}, okR m d r → short d r
  | 0, r, h => by
    cases (show r = [] from h)
    show ([] : Row).length ≤ 1000000
    decide
  | d + 1, r, h => ⟨Nat.le_trans h.1 (by decide), fun b hb => okR_short (h.2 b hb).2⟩
theorem cnts_sum : ∀ r : Row, ((Box.cnts r : Nat) : Int) = (r.map fun b => (1 : Int) + (Box.cnts b.inner : Nat)).sum
  | [] => rfl
  | b :: r => by
    rw [Box.cnts, cnt_box, List.map_cons, List.sum_cons, ← cnts_sum r]
    omega
theorem R_boxes_eq : ∀ (d e : Nat) (r : Row), short d r → Box.deps r ≤ d → R_boxes_of (d + 1 + e) [encR r] = .ok (sh (.int (Box.cnts r : Nat))) [.non] := by
  intro d
  induction d with
  | zero =>
    intro e r hs hd
    have hr : r = [] := by
      cases r with
      | nil => rfl
      | cons b r => rw [Box.deps, dep_box] at hd; omega
    subst hr
    rw [show 0 + 1 + e = e + 1 by omega]
    refine okF_iff fun P hP => okF_sem rfl ?_
    generalize recF [false] N_boxes_of.length (fun F => mkG (F :: fs_boxes_of) cs_boxes_of) s_boxes_of e = F
    simp [s_boxes_of, N_boxes_of, encR, Box.encs]
    refine wp_bmap (fun x => x) rfl (fun x hx => by cases hx) ?_
    simpa [isInts, Box.cnts] using hP
  | succ d ih =>
    intro e r hs hd
    rw [show d + 1 + 1 + e = (d + 1 + e) + 1 by omega]
    refine okF_iff fun P hP => okF_sem rfl ?_
    have hF := fun r h1 h2 => ih e r h1 h2
    unfold R_boxes_of at hF
    generalize recF [false] N_boxes_of.length (fun F => mkG (F :: fs_boxes_of) cs_boxes_of) s_boxes_of (d + 1 + e) = F at hF ⊢
    have hl := hs.1
    have dd : ∀ b ∈ r, Box.deps b.inner ≤ d := by
      have : ∀ r : Row, Box.deps r ≤ d + 1 → ∀ b ∈ r, Box.deps b.inner ≤ d := fun r => by
        induction r with
        | nil => intro _ b hb; cases hb
        | cons x r ih =>
          intro h b hb
          rw [Box.deps, dep_box] at h
          rcases List.mem_cons.mp hb with rfl | hb
          · omega
          · exact ih (by omega) b hb
      exact this r hd
    simp [s_boxes_of, N_boxes_of, encR, encs_map]
    refine ⟨by omega, wp_bmapE Box.enc (fun b => D.int ((1 : Int) + (Box.cnts b.inner : Nat))) r rfl (fun b hb => ?_) ?_⟩
    · rw [enc_box]
      simp
      rw [okF_ok (hF b.inner (hs.2 b hb) (dd b hb))]
      simp
    · simp [isInts_map]
      rw [cnts_sum] at hP
      simpa using hP
/-- a nesting -/
def IsNst (m : Int) (v : D) (r : Row) : Prop := v = encR r ∧ okR m 8 r ∧ Box.cnts r ≤ 40
open Classical in
noncomputable def isNst (m : Int) (v : D) : Bool := decide (∃ r, IsNst m v r)
open Classical in
theorem isNst_enc (m : Int) (r : Row) : isNst m (encR r) = decide (okR m 8 r ∧ Box.cnts r ≤ 40) := by
  unfold isNst
  congr 1
  refine propext ⟨fun ⟨r', e, h⟩ => ?_, fun h => ⟨r, rfl, h⟩⟩
  cases encR_inj e
  exact h
theorem isNst_of {m : Int} {v : D} {r : Row} (h : IsNst m v r) : isNst m v = true := by
  unfold isNst
  exact @decide_eq_true _ (Classical.propDecidable _) ⟨r, h⟩
theorem E_has_nesting (m : Int) (v : D) (h : Fine 50 v) : F_has_nesting [.int m, v] = .ok (sh (.bl (isNst m v))) [.non, .non] := by
  refine okF_iff fun P hP => okF_sem rfl ?_
  have hK : F_is_kept [.int m, v, .int 8] = _ := E_is_kept m 8 55 v h
  simp [s_has_nesting, N_has_nesting, fs_has_nesting, cs_has_nesting, okF_ok hK]
  by_cases h1 : isKept m 8 v = true
  · obtain ⟨r, rfl, ho⟩ := isKept_enc h1
    have hB : F_boxes_of [encR r] = _ := R_boxes_eq 8 55 r (okR_short ho) (okR_deps ho)
    simp [h1, okF_ok hB]
    rw [isNst_enc] at hP
    by_cases h2 : Box.cnts r ≤ 40
    · have h2' : ((Box.cnts r : Nat) : Int) ≤ 40 := by omega
      simpa [h2, h2', ho] using hP
    · have h2' : ¬ ((Box.cnts r : Nat) : Int) ≤ 40 := by omega
      simpa [h2, h2'] using hP
  · simp [h1]
    have e : isNst m v = false := by
      unfold isNst
      refine @decide_eq_false _ (Classical.propDecidable _) ?_
      rintro ⟨r, rfl, h2, _⟩
      exact h1 (isKept_of h2)
    rw [e] at hP
    exact hP
theorem o_has_nesting (m : Int) (v : D) (h : Fine 50 v) (P) : okF F_has_nesting [.int m, v] P = P (sh (.bl (isNst m v))) [.non, .non] := okF_ok (E_has_nesting m v h)
end KT
/-! draws -/
namespace KT
open PL
open PySem (Str)
/-- a source of draws -/
def Src (d : D) : Prop := ∃ a b : Int, d = .lst [.int a, .int b] ∧ 0 ≤ a
theorem S_source (ns : List Int) (k : Int) (h0 : 0 ≤ k) {P : Vl → List D → Prop} (hP : ∀ s, Src s → P (ow s) [.non, .non]) : okF F__law_source [.ro (ns.map D.int), .int k] P := by
  refine okF_sem rfl ?_
  have s1 : small64 73 = true := by decide
  have s2 : small64 16807 = true := by decide
  have s3 : small64 6007 = true := by decide
  have fin : ∀ c : Int, 0 ≤ c → wp (evSs (mkG fs__law_source cs__law_source) (s__law_source.drop 1)) [some (.shr, .ro (ns.map D.int)), some (.shr, .int k), some (.shr, .int c)] fun f ρ => match outsAt [false, false] ρ with
      | some outs => P (match f with | .rt v => v | .nx => sh .non) outs
      | none => False := by
    intro c hc
    simp [s__law_source, s2, s3]
    by_cases h : 100000000000000000 < c
    · simp [h]
      exact hP _ ⟨_, _, rfl, hc⟩
    · simp [h]
      exact hP _ ⟨_, _, rfl, by decide⟩
  simp [s__law_source] at fin
  simp [s__law_source, N__law_source, s1]
  by_cases h : k < (ns.length : Int)
  · simp [h]
    rw [at_int _ h0]
    have hi : k.toNat < ns.length := by omega
    simp [List.getElem?_eq_getElem hi]
    exact fin _ (by split <;> omega)
  · simp [h]
    exact fin _ (by omega)
theorem S_draw {s : D} (hs : Src s) (many : Int) (h1 : 0 < many) (h2 : many ≤ 1000000) {P : Vl → List D → Prop} (hP : ∀ r s', 0 ≤ r → r < many → Src s' → P (sh (.int r)) [s', .non]) : okF F__law_draw [s, .int many] P := by
  obtain ⟨a, b, rfl, ha⟩ := hs
  refine okF_sem rfl ?_
  have hlog : many.natAbs.log2 < 9000 := by
    have : many.natAbs.log2 ≤ many.natAbs := Nat.log2_le_self _
    have h3 : many.natAbs < 2 ^ 20 := by omega
    have := (Nat.log2_lt (by omega)).mpr h3
    omega
  have l23 : Nat.log2 23 < 9000 := by decide
  have l32 : Nat.log2 32 < 9000 := by decide
  have s1 : small64 48271 = true := by decide
  simp [s__law_draw, N__law_draw]
  have i0 : ixOf 2 0 = some 0 := by decide
  have i1 : ixOf 2 1 = some 1 := by decide
  by_cases h : 0 < a
  · simp [h, h1, hlog, i0]
    exact hP _ _ (Int.emod_nonneg _ (by omega)) (Int.emod_lt_of_pos _ h1) ⟨_, _, rfl, Int.ediv_nonneg ha (by omega)⟩
  · have s2 : small64 ((b * 48271 + 83) % 2147483237) = true := by
      have e1 := Int.emod_nonneg (b * 48271 + 83) (show (2147483237 : Int) ≠ 0 by decide)
      have e2 := Int.emod_lt_of_pos (b * 48271 + 83) (show (0 : Int) < 2147483237 by decide)
      unfold small64
      simp
      omega
    simp [h, s1, i1, l23, l32, s2, h1]
    exact hP _ _ (Int.emod_nonneg _ (by omega)) (Int.emod_lt_of_pos _ h1) ⟨_, _, rfl, ha⟩
theorem S_choice {s : D} (hs : Src s) (l : List D) (h0 : l ≠ []) (hl : l.length ≤ 1000000) {P : Vl → List D → Prop} (hP : ∀ x s', x ∈ l → Src s' → P (sh x) [s', .non]) : okF F__law_choice [s, .lst l] P := by
  refine okF_sem rfl ?_
  have hl0 : 0 < l.length := List.length_pos_iff.mpr h0
  simp [s__law_choice, N__law_choice, fs__law_choice]
  refine S_draw hs _ (by omega) (by omega) fun r s' h1 h2 hs' => ?_
  simp
  rw [at_int _ h1]
  have hi : r.toNat < l.length := by omega
  simp [List.getElem?_eq_getElem hi]
  exact hP _ _ (List.getElem_mem hi) hs'
end KT
/-! drawn nestings -/
namespace KT
open PL
open PySem (Str)
/-- a box put in, at the end, so deep as it goes -/
def putR (s : Int) : Nat → Row → Row
  | 0, r => r ++ [.mk s []]
  | d + 1, r => match r.getLast? with
    | none => [.mk s []]
    | some b => r.dropLast ++ [.mk b.s (putR s d b.inner)]
theorem cnts_append : ∀ a b : Row, Box.cnts (a ++ b) = Box.cnts a + Box.cnts b
  | [], b => by simp [Box.cnts]
  | x :: a, b => by rw [List.cons_append, Box.cnts, Box.cnts, cnts_append a b]; omega
theorem last_split (r : Row) (b : Box) (h : r.getLast? = some b) : r = r.dropLast ++ [b] := by
  have hne : r ≠ [] := by
    intro z
    subst z
    simp at h
  rw [List.getLast?_eq_some_getLast hne] at h
  have := List.dropLast_concat_getLast hne
  simp at h
  rw [h] at this
  exact this.symm
theorem cnts_put (s : Int) : ∀ (d : Nat) (r : Row), Box.cnts (putR s d r) = Box.cnts r + 1
  | 0, r => by rw [putR, cnts_append]; simp [Box.cnts, Box.cnt]
  | d + 1, r => by
    rw [putR]
    cases h : r.getLast? with
    | none =>
      have : r = [] := by simpa using h
      subst this
      simp [Box.cnts, Box.cnt]
    | some b =>
      have e := last_split r b h
      have e2 : Box.cnts r = Box.cnts r.dropLast + b.cnt := by
        conv => lhs; rw [e]
        rw [cnts_append]; simp [Box.cnts]
      simp only
      rw [cnts_append, e2, cnt_box b]
      simp only [Box.cnts, Box.cnt]
      rw [cnts_put s d b.inner]
      omega
/-- stands in range, so deep at most -/
def okD (m : Int) : Nat → Row → Prop
  | 0, r => r = []
  | d + 1, r => ∀ b ∈ r, (0 ≤ b.s ∧ b.s < m) ∧ okD m d b.inner
theorem okD_nil (m : Int) : ∀ d, okD m d []
  | 0 => rfl
  | d + 1 => fun b hb => by cases hb
theorem okD_put {m s : Int} (hs : 0 ≤ s ∧ s < m) : ∀ (d k : Nat) (r : Row), d + 1 ≤ k → okD m k r → okD m k (putR s d r)
  | 0, k, r, hk, h => by
    cases k with
    | zero => omega
    | succ k =>
      intro b hb
      rw [putR] at hb
      rcases List.mem_append.mp hb with hb | hb
      · exact h b hb
      · simp at hb
        subst hb
        exact ⟨hs, okD_nil m k⟩
  | d + 1, k, r, hk, h => by
    cases k with
    | zero => omega
    | succ k =>
      intro b hb
      rw [putR] at hb
      cases hl : r.getLast? with
      | none =>
        rw [hl] at hb
        simp at hb
        subst hb
        exact ⟨hs, okD_nil m k⟩
      | some c =>
        rw [hl] at hb
        simp only at hb
        have e := last_split r c hl
        have hc : c ∈ r := by rw [e]; simp
        rcases List.mem_append.mp hb with hb | hb
        · exact h b (by rw [e]; simp [hb])
        · simp at hb
          subst hb
          exact ⟨(h c hc).1, okD_put hs d k c.inner (by omega) (h c hc).2⟩
theorem len_cnts : ∀ r : Row, r.length ≤ Box.cnts r
  | [] => Nat.zero_le _
  | b :: r => by
    have := len_cnts r
    rw [Box.cnts, cnt_box]
    simp
    omega
theorem cnt_mem : ∀ {r : Row} {b : Box}, b ∈ r → b.cnt ≤ Box.cnts r
  | x :: r, b, h => by
    rw [Box.cnts]
    rcases List.mem_cons.mp h with rfl | h
    · omega
    · have := cnt_mem h
      omega
theorem okR_of {m : Int} : ∀ {d : Nat} {r : Row}, okD m d r → Box.cnts r ≤ 40 → okR m d r
  | 0, r, h, _ => h
  | d + 1, r, h, hc => ⟨Nat.le_trans (len_cnts r) hc, fun b hb => ⟨(h b hb).1, okR_of (h b hb).2 (by
    have := cnt_mem hb
    rw [cnt_box] at this
    omega)⟩⟩
theorem okR_okD {m : Int} : ∀ {d : Nat} {r : Row}, okR m d r → okD m d r
  | 0, r, h => h
  | d + 1, r, h => fun b hb => ⟨(h.2 b hb).1, okR_okD (h.2 b hb).2⟩
theorem E_put (s : Int) : ∀ (d e : Nat) (r : Row), d ≤ 20 → Box.cnts r ≤ 1000 → Fine 60 (encR r) → R__law_put (d + 1 + e) [encR r, .int d, .int s] = .ok (sh (encR (putR s d r))) [.non, .non, .non] := by
  intro d
  induction d with
  | zero =>
    intro e r hd hc hf
    rw [show 0 + 1 + e = e + 1 by omega]
    refine okF_iff fun P hP => okF_sem rfl ?_
    generalize recF [false, false, false] N__law_put.length (fun F => mkG (F :: fs__law_put) cs__law_put) s__law_put e = F
    have hl := len_cnts r
    simp [s__law_put, N__law_put, encR, encs_map]
    rw [if_pos (by omega)]
    simp
    simpa [putR, encR, encs_map, Box.enc, Box.encs] using hP
  | succ d ih =>
    intro e r hd hc hf
    rw [show d + 1 + 1 + e = (d + 1 + e) + 1 by omega]
    refine okF_iff fun P hP => okF_sem rfl ?_
    have hF := fun r h1 h2 h3 => ih e r h1 h2 h3
    unfold R__law_put at hF
    generalize recF [false, false, false] N__law_put.length (fun F => mkG (F :: fs__law_put) cs__law_put) s__law_put (d + 1 + e) = F at hF ⊢
    have hl := len_cnts r
    have hd2 : (((d : Int) + 1 : Int) = 0) = False := eq_false (by omega)
    have heq := eq_fine hf (show Fine 60 (.tup []) from ⟨by decide, by decide⟩)
    simp [s__law_put, N__law_put, hd2, heq]
    cases hl2 : r.getLast? with
    | none =>
      have : r = [] := by simpa using hl2
      subst this
      simp [encR, Box.encs]
      simpa [putR, encR, Box.encs, Box.enc] using hP
    | some b =>
      have e1 := last_split r b hl2
      have e2 : putR s (d + 1) r = r.dropLast ++ [.mk b.s (putR s d b.inner)] := by
        rw [putR, hl2]
      rw [e2] at hP
      generalize r.dropLast = l at e1 hP
      subst e1
      have hb : Fine 60 (encR b.inner) := by
        obtain ⟨_, k, hk, hm⟩ := hf.tup
        have h1 : Fine k b.enc := hm _ (by rw [encs_map]; simp)
        rw [enc_box] at h1
        obtain ⟨_, k2, hk2, hm2⟩ := h1.tup
        exact (hm2 (encR b.inner) (by simp)).mono (by omega)
      have hbc : Box.cnts b.inner ≤ 1000 := by
        have := cnt_mem (r := l ++ [b]) (b := b) (by simp)
        rw [cnt_box] at this
        omega
      have hF2 := okF_ok (P := fun v o => o.length = 3 ∧ wp (M.opt (bin .add (.tup (l.map Box.enc)) (.tup [.tup [.int b.s, v.d]]))) [some (.shr, encR (l ++ [b])), some (.shr, .int ((d : Int) + 1)), some (.shr, .int s)] fun a ρ' => match outsAt [false, false, false] ρ' with
        | some outs => P a outs
        | none => False) (hF b.inner (by omega) hbc hb)
      have ee : encR (l ++ [b]) = .tup (l.map Box.enc ++ [b.enc]) := by rw [encR, encs_map]; simp
      simp [ee, enc_box] at hF2 ⊢
      have ne : D.eqvs (l.map Box.enc ++ [D.tup [D.int b.s, encR b.inner]]) [] = false := by cases l <;> simp
      rw [if_neg (by rw [ne]; decide), okF_ok (hF b.inner (by omega) hbc hb)]
      simp at hl
      simp
      rw [if_pos (by omega)]
      simp
      simpa [encR, encs_map, Box.enc] using hP
end KT
/-! drawn nestings, the draw itself -/
namespace KT
open PL
open PySem (Str)
theorem fine_row {m : Int} : ∀ {d : Nat} {r : Row}, okD m d r → Box.cnts r ≤ 1000 → Fine (2 * d + 1) (encR r)
  | 0, r, h, hc => by
    cases (show r = [] from h)
    exact ⟨by decide, by decide⟩
  | d + 1, r, h, hc => by
    have hl := len_cnts r
    refine Fine.mkT (n := 2 * (d + 1)) (by rw [encs_map]; simp; omega) fun x hx => ?_
    rw [encs_map] at hx
    obtain ⟨b, hb, rfl⟩ := List.mem_map.mp hx
    have h1 := cnt_mem hb
    rw [cnt_box] at h1
    rw [enc_box]
    refine Fine.mkT (n := 2 * d + 1) (by simp) fun y hy => ?_
    simp at hy
    rcases hy with rfl | rfl
    · exact Fine.int _
    · exact fine_row (h b hb).2 (by omega)
def invNs (m most : Int) (n : Nat) (r : List D) (ρ : Env) : Prop := ∃ (s : D) (w : Row) (s4 s5 : Slot), Src s ∧ okD m 8 w ∧ Box.cnts w + r.length ≤ n ∧ ρ = [some (.pin, s), some (.shr, .int m), some (.shr, .int most), some (.shr, encR w), s4, s5] ∧ (∀ d, s4 ≠ some (.pin, d)) ∧ (∀ d, s5 ≠ some (.pin, d))
theorem S_nesting {s : D} (hs : Src s) {m most : Int} (hm : m = 2 ∨ m = 3) (hn : 0 ≤ most ∧ most ≤ 40) {P : Vl → List D → Prop} (hP : ∀ (r : Row) (s' : D), okR m 8 r → (Box.cnts r : Int) ≤ most → Src s' → P (sh (encR r)) [s', .non, .non]) : okF F__law_nesting [s, .int m, .int most] P := by
  refine okF_sem rfl ?_
  simp [s__law_nesting, N__law_nesting, fs__law_nesting]
  refine S_draw hs (most + 1) (by omega) (by omega) fun n s1 n0 n1 hs1 => ?_
  have hrg : rangeOk 0 n = true := by unfold rangeOk; simp; omega
  have hlen : (rangeD 0 n).length = n.toNat := by simp [rangeD]
  simp [hrg]
  refine wp_loop (invNs m most n.toNat) ?_ ?_ _ _ ⟨s1, [], none, none, hs1, okD_nil m 8, by simp [hlen, Box.cnts], rfl, by simp, by simp⟩
  · rintro y ys ρ ⟨s2, w, s4, s5, hs2, hw, hc, rfl, h4, h5⟩
    simp [h4, h5]
    refine S_draw hs2 4 (by decide) (by decide) fun a s3 a0 a1 hs3 => ?_
    simp
    have h7 : (if 0 < a then 7 else 2 : Int) ≤ 7 ∧ 0 < (if 0 < a then 7 else 2 : Int) := by split <;> omega
    have put : ∀ z k : Int, 0 ≤ k → k < 7 → F__law_put [encR w, .int k, .int z] = .ok (sh (encR (putR z k.toNat w))) [.non, .non, .non] := fun z k k0 k1 => by
      have q := E_put z k.toNat (63 - k.toNat) w (by omega) (by omega) ((fine_row hw (by omega)).mono (by decide))
      rw [show k.toNat + 1 + (63 - k.toNat) = 64 by omega, Int.toNat_of_nonneg k0] at q
      exact q
    split
    · refine S_draw hs3 7 (by decide) (by decide) fun k s6 k0 k1 hs6 => ?_
      simp [h5]
      refine S_draw hs6 m (by omega) (by omega) fun z s7 z0 z1 hs7 => ?_
      simp
      rw [okF_ok (put z k k0 (by omega))]
      simp
      exact ⟨s7, putR z k.toNat w, _, _, hs7, okD_put ⟨z0, z1⟩ _ _ _ (by omega) hw, by rw [cnts_put]; simp at hc; omega, rfl, by simp, by simp⟩
    · refine S_draw hs3 2 (by decide) (by decide) fun k s6 k0 k1 hs6 => ?_
      simp [h5]
      refine S_draw hs6 m (by omega) (by omega) fun z s7 z0 z1 hs7 => ?_
      simp
      rw [okF_ok (put z k k0 (by omega))]
      simp
      exact ⟨s7, putR z k.toNat w, _, _, hs7, okD_put ⟨z0, z1⟩ _ _ _ (by omega) hw, by rw [cnts_put]; simp at hc; omega, rfl, by simp, by simp⟩
  · rintro ρ ⟨s2, w, s4, s5, hs2, hw, hc, rfl, h4, h5⟩
    simp
    simp at hc
    exact hP w s2 (okR_of hw (by omega)) (by omega) hs2
end KT
/-! texts as lists of signs -/
namespace KT
open PL
open PySem (Str)
def mkS (l : List Nat) : Str := ⟨l.toArray⟩
@[simp] theorem mkS_cps (l : List Nat) : (mkS l).cps.toList = l := by simp [mkS]
@[simp] theorem mkS_len (l : List Nat) : (mkS l).length = l.length := by
  show l.toArray.size = _
  simp
theorem mkS_of (s : Str) : mkS s.cps.toList = s := by
  obtain ⟨a⟩ := s
  simp [mkS]
theorem mkS_inj {a b : List Nat} (h : mkS a = mkS b) : a = b := by
  have := congrArg (fun s : Str => s.cps.toList) h
  simpa using this
theorem mkS_app (a b : List Nat) : mkS a ++ mkS b = mkS (a ++ b) := by
  show (⟨a.toArray ++ b.toArray⟩ : Str) = ⟨(a ++ b).toArray⟩
  simp
theorem len_mk {l : List Nat} (h : l.length ≤ 1000000) : b1 .len (.str (mkS l)) = some (sh (.int l.length)) := by
  show (lenv (.str (mkS l))).map _ = _
  show (if (mkS l).length ≤ szL then some ((mkS l).length : Int) else none).map _ = _
  rw [mkS_len, if_pos (Nat.le_trans h (by decide))]
  rfl
theorem cut_mk {l : List Nat} (h : l.length ≤ 1000000) (lo hi : Option Int) : cutv (.str (mkS l)) lo hi = some (sh (.str (mkS (cut l lo hi)))) := by
  show (if (mkS l).length ≤ szL then _ else _) = _
  rw [mkS_len, if_pos (Nat.le_trans h (by decide)), mkS_cps]
  rfl
theorem add_mk {a b : List Nat} (h : a.length + b.length ≤ 1000000) : bin .add (.str (mkS a)) (.str (mkS b)) = some (sh (.str (mkS (a ++ b)))) := by
  show (if (mkS a).length + (mkS b).length ≤ szL then _ else _) = _
  rw [mkS_len, mkS_len, if_pos (Nat.le_trans h (by decide)), mkS_app]
theorem mul_mk (c : Nat) {k : Int} (h : -1 ≤ k ∧ k ≤ 10000) : bin .mul (.str (mkS [c])) (.int k) = some (sh (.str (mkS (List.replicate k.toNat c)))) := by
  show (if -(2 ^ 63) ≤ k ∧ k ≤ 10000 ∧ (mkS [c]).length ≤ 1000 then _ else _) = _
  rw [if_pos ⟨by omega, h.2, by rw [mkS_len]; simp⟩, mkS_cps]
  have : (List.replicate k.toNat [c]).flatten = List.replicate k.toNat c := by
    generalize k.toNat = n
    induction n with
    | zero => rfl
    | succ n ih => rw [List.replicate_succ, List.replicate_succ, List.flatten_cons, ih]; rfl
  rw [this]
  rfl
theorem item_last {l : List Nat} (h : l.length ≤ 1000000) : itemv (.str (mkS l)) (.int (-1)) = (l.getLast?).map fun c => .str (mkS [c]) := by
  show (if (mkS l).length ≤ szL then (at? (mkS l).cps.toList (-1)).map _ else none) = _
  rw [mkS_len, if_pos (Nat.le_trans h (by decide)), mkS_cps, at_m1]
  rfl
theorem eq_mk (a b : List Nat) : cmpv .eq (.str (mkS a)) (.str (mkS b)) = some (decide (a = b)) := by
  show some (mkS a == mkS b) = _
  congr 1
  rw [Bool.eq_iff_iff]
  simp
  exact ⟨mkS_inj, fun h => by rw [h]⟩
theorem ne_mk (a b : List Nat) : cmpv .ne (.str (mkS a)) (.str (mkS b)) = some (!decide (a = b)) := by
  show some (!(mkS a == mkS b)) = _
  congr 2
  rw [Bool.eq_iff_iff]
  simp
  exact ⟨mkS_inj, fun h => by rw [h]⟩
/-! ### lines -/
def joinS (c : Nat) : List (List Nat) → List Nat
  | [] => []
  | [p] => p
  | p :: q :: r => p ++ c :: joinS c (q :: r)
theorem join_mk (c : Nat) : ∀ ps : List (List Nat), Str.join (mkS [c]) (ps.map mkS) = mkS (joinS c ps)
  | [] => rfl
  | [p] => rfl
  | p :: q :: r => by
    have ih := join_mk c (q :: r)
    show (mkS p ++ mkS [c]) ++ Str.join (mkS [c]) ((q :: r).map mkS) = _
    rw [ih, mkS_app, mkS_app, joinS]
    simp
theorem join_cons (c : Nat) (p : List Nat) {ps : List (List Nat)} (h : ps ≠ []) : joinS c (p :: ps) = p ++ c :: joinS c ps := by
  cases ps with
  | nil => exact absurd rfl h
  | cons q r => rfl
theorem splitL_nil (c : Nat) : ∀ l, splitL c l ≠ [] := splitL_ne c
theorem join_split (c : Nat) : ∀ l : List Nat, joinS c (splitL c l) = l
  | [] => rfl
  | x :: r => by
    have ih := join_split c r
    have ne := splitL_ne c r
    rw [splitL]
    by_cases h : x = c
    · rw [if_pos h, join_cons c [] ne, ih, h]
      rfl
    · rw [if_neg h]
      cases q : splitL c r with
      | nil => exact absurd q ne
      | cons p ps =>
        rw [q] at ih
        show joinS c ((x :: p) :: ps) = _
        cases ps with
        | nil => rw [joinS] at ih ⊢; rw [ih]
        | cons p2 ps => rw [joinS] at ih ⊢; rw [List.cons_append, ih]
theorem split_free (c : Nat) : ∀ (l : List Nat), ∀ p ∈ splitL c l, c ∉ p
  | [], p, hp => by
    simp [splitL] at hp
    subst hp
    simp
  | x :: r, p, hp => by
    rw [splitL] at hp
    by_cases h : x = c
    · rw [if_pos h] at hp
      rcases List.mem_cons.mp hp with rfl | hp
      · simp
      · exact split_free c r p hp
    · rw [if_neg h] at hp
      have ih := split_free c r
      cases q : splitL c r with
      | nil => exact absurd q (splitL_ne c r)
      | cons p2 ps =>
        rw [q] at hp ih
        rcases List.mem_cons.mp hp with rfl | hp
        · have := ih p2 (by simp)
          simp only [List.mem_cons, not_or]
          exact ⟨fun z => h z.symm, this⟩
        · exact ih p (by simp [hp])
theorem split_join {c : Nat} : ∀ {ps : List (List Nat)}, ps ≠ [] → (∀ p ∈ ps, c ∉ p) → splitL c (joinS c ps) = ps
  | [], h, _ => absurd rfl h
  | [p], _, h => by rw [joinS, splitL_free (h p (by simp))]
  | p :: q :: r, _, h => by
    rw [joinS, splitL_app (h p (by simp)), split_join (by simp) fun x hx => h x (List.mem_cons_of_mem _ hx)]
theorem joinD_mk (c : Nat) (ps : List (List Nat)) (h : (ps.map List.length).sum + ps.length ≤ 1000000) : joinD (mkS [c]) (.lst (ps.map fun p => .str (mkS p))) = some (sh (.str (mkS (joinS c ps)))) := by
  have e : (ps.map fun p => D.str (mkS p)) = (ps.map mkS).map D.str := by rw [List.map_map]; rfl
  have i : ∀ l : List Str, isStrs (l.map D.str) = some l := fun l => by
    induction l with
    | nil => rfl
    | cons x r ih => simp [isStrs, ih]
  show (isStrs _).bind _ = _
  rw [e, i]
  show (if ((ps.map mkS).map (·.length)).sum + (ps.map mkS).length * (mkS [c]).length ≤ szL then _ else _) = _
  have e2 : (ps.map mkS).map (·.length) = ps.map List.length := by
    rw [List.map_map]
    congr 1
  rw [e2, List.length_map, mkS_len, if_pos (Nat.le_trans (by simpa using h) (by decide)), join_mk]
theorem splitD_mk (c : Nat) {l : List Nat} (h : l.length ≤ 1000000) : splitD (mkS l) (.str (mkS [c])) = some (ow (.lst ((splitL c l).map fun p => .str (mkS p)))) := by
  have e : splitD (mkS l) (.str (mkS [c])) = if (mkS l).length + 2 ≤ szL then some (ow (.lst ((splitL c (mkS l).cps.toList).map fun p => .str ⟨p.toArray⟩))) else none := by
    unfold splitD
    simp
  rw [e, mkS_len, if_pos (by unfold szL; omega), mkS_cps]
  rfl
theorem join_len (c : Nat) : ∀ ps : List (List Nat), (joinS c ps).length ≤ (ps.map List.length).sum + ps.length
  | [] => by simp [joinS]
  | [p] => by simp [joinS]
  | p :: q :: r => by
    have ih := join_len c (q :: r)
    rw [joinS]
    simp at ih ⊢
    omega
theorem split_sum (c : Nat) : ∀ l : List Nat, ((splitL c l).map List.length).sum + (splitL c l).length = l.length + 1
  | [] => rfl
  | x :: r => by
    have ih := split_sum c r
    rw [splitL]
    by_cases h : x = c
    · rw [if_pos h]
      simp
      omega
    · rw [if_neg h]
      cases q : splitL c r with
      | nil => exact absurd q (splitL_ne c r)
      | cons p ps =>
        rw [q] at ih
        simp at ih ⊢
        omega
end KT
/-! number_of -/
namespace KT
open PL
open PySem (Str)
def numOf : List Nat → D
  | [c] => if 48 ≤ c ∧ c ≤ 57 then .int ((c : Int) - 48) else .non
  | _ => .non
def figs : List D := (List.range 10).map fun i => .str (mkS [48 + i])
def strOf : D → D
  | .int i => .str (toString i)
  | _ => .non
theorem figs_eq : D.sames ((rangeD 0 10).map strOf) figs = true := by decide +kernel
theorem fig_log : ∀ x ∈ rangeD 0 10, ∃ i : Int, x = .int i ∧ i.natAbs.log2 < 1920 := by
  intro x hx
  unfold rangeD at hx
  rw [List.mem_map] at hx
  obtain ⟨i, hi, rfl⟩ := hx
  refine ⟨_, rfl, ?_⟩
  have : i < 10 := by simpa using hi
  have h2 : ((0 : Int) + (i : Nat)).natAbs ≤ 10 := by omega
  exact Nat.lt_of_le_of_lt (Nat.log2_le_self _) (by omega)
theorem fig_at : ∀ i : Nat, i < 10 → memv (.str (mkS [48 + i])) (.lst figs) = some true ∧ indexD (.lst figs) (.str (mkS [48 + i])) = some (i : Int) := by decide +kernel
theorem fig_no {l : List Nat} (h : ¬ ∃ c, l = [c] ∧ 48 ≤ c ∧ c ≤ 57) : memv (.str (mkS l)) (.lst figs) = some false := by
  have hs : figs.all isScal = true := by decide +kernel
  rw [x_mem_l, hs]
  have : (figs.any fun z => z.eqv (.str (mkS l))) = false := by
    rw [List.any_eq_false]
    intro z hz
    unfold figs at hz
    obtain ⟨i, hi, rfl⟩ := List.mem_map.mp hz
    have hi2 : i < 10 := by simpa using hi
    intro q
    have q2 : (mkS [48 + i] == mkS l) = true := by simpa [D.eqv] using q
    have q3 := mkS_inj (eq_of_beq q2)
    exact h ⟨48 + i, q3.symm, by omega, by omega⟩
  rw [this]
  rfl
theorem numOf_no {l : List Nat} (h : ¬ ∃ c, l = [c] ∧ 48 ≤ c ∧ c ≤ 57) : numOf l = .non := by
  unfold numOf
  split
  · rename_i c
    rw [if_neg (fun z => h ⟨c, rfl, z.1, z.2⟩)]
  · rfl
theorem num_first (W : List D) (hW : W = figs) (Γ : Gm) (s : D) (n : Int) (hn : n = 10) (B : List S) (P : Fl → Env → Prop) (tail : wp (evSs Γ B) [some (.shr, s), some (.own, .lst W), none] P) :
    wp (evSs Γ (.asg 1 (.comp [2] (.nm 2) 1 (.int n) none none (.b1 .str (.var 2))) :: B)) [some (.shr, s), none, none] P := by
  obtain ⟨RR, hR⟩ : ∃ RR, RR = rangeD 0 10 := ⟨_, rfl⟩
  have hl : RR.length ≤ 16777216 := by rw [hR]; decide
  have hi : itemsOf 1 (.int n) none = some RR := by rw [hn, hR]; rfl
  have hf : RR.map strOf = W := by rw [hR, hW]; exact sames_eq figs_eq
  have hx : ∀ x ∈ RR, ∃ i : Int, x = .int i ∧ i.natAbs.log2 < 1920 := by rw [hR]; exact fig_log
  clear hR hn hW
  simp [hi]
  refine ⟨hl, wp_bmap strOf rfl (fun x hx0 => ?_) ?_⟩
  · obtain ⟨i, rfl, hi2⟩ := hx x hx0
    simp [b1, hi2, strOf]
  · rw [hf]
    simp
    exact tail
theorem num_last (W : List D) (hW : W = figs) (Γ : Gm) (l : List Nat) (P : Vl → Prop) (hP : P (sh (numOf l))) :
    wp (evSs Γ [.ret (.ite (.mem false (.var 0) (.var 1)) (.index (.var 1) (.var 0)) .non)]) [some (.shr, .str (mkS l)), some (.own, .lst W), none] fun f ρ => (match f with | .rt v => P v | .nx => False) ∧ outsAt [false] ρ = some [.non] := by
  by_cases h : ∃ c, l = [c] ∧ 48 ≤ c ∧ c ≤ 57
  · obtain ⟨c, rfl, h1, h2⟩ := h
    have e : c = 48 + (c - 48) := by omega
    obtain ⟨q1, q2⟩ := fig_at (c - 48) (by omega)
    rw [← e, ← hW] at q1 q2
    have e2 : numOf [c] = .int ((c - 48 : Nat) : Int) := by
      show (if 48 ≤ c ∧ c ≤ 57 then D.int ((c : Int) - 48) else .non) = _
      rw [if_pos ⟨h1, h2⟩]
      congr 1
      omega
    rw [e2] at hP
    clear hW
    generalize mkS [c] = s at q1 q2 ⊢
    simp [-x_mem_l, q1, q2]
    exact hP
  · have q1 := fig_no h
    rw [numOf_no h] at hP
    rw [← hW] at q1
    clear hW
    generalize mkS l = s at q1 ⊢
    simp [-x_mem_l, q1]
    exact hP
theorem num_all (W : List D) (hW : W = figs) (Γ : Gm) (F : Fn) (n : Int) (hn : n = 10) (l : List Nat) (hF : F = semD [false] 3 (evSs Γ [.asg 1 (.comp [2] (.nm 2) 1 (.int n) none none (.b1 .str (.var 2))), .ret (.ite (.mem false (.var 0) (.var 1)) (.index (.var 1) (.var 0)) (.non))])) : ∃ v o, F [.str (mkS l)] = .ok v o ∧ v = sh (numOf l) ∧ o = [.non] := by
  have a1 := num_last W hW Γ l (fun v => v = sh (numOf l)) rfl
  have a3 := num_first W hW Γ (.str (mkS l)) n hn _ (fun f ρ => match outsAt [false] ρ with
    | some outs => (match f with
      | .rt v => v
      | .nx => sh .non) = sh (numOf l) ∧ outs = [.non]
    | none => False) (a1.mono fun f ρ' q => by
      rw [q.2]
      cases f with
      | nx => exact q.1.elim
      | rt v => exact ⟨q.1, rfl⟩)
  have a4 : okF F [.str (mkS l)] fun v o => v = sh (numOf l) ∧ o = [.non] := by
    rw [hF]
    exact okF_sem rfl a3
  obtain ⟨v, o, e, h⟩ := okF_eq a4
  exact ⟨v, o, e, h⟩
theorem E_number_of (l : List Nat) : F_number_of [.str (mkS l)] = .ok (sh (numOf l)) [.non] := by
  have a := num_all figs rfl (mkG fs_number_of cs_number_of) F_number_of 10 rfl l rfl
  generalize F_number_of = F at a ⊢
  obtain ⟨v, o, e, h1, h2⟩ := a
  rw [e, h1, h2]
end KT
/-! the lines of a nesting -/
namespace KT
open PL
open PySem (Str)
def dot (d : Nat) (s : Int) : List Nat := List.replicate d 46 ++ [48 + s.toNat]
mutual
def Box.lns (d : Nat) : Box → List (List Nat)
  | .mk s r => dot d s :: Box.lnss (d + 1) r
def Box.lnss (d : Nat) : List Box → List (List Nat)
  | [] => []
  | b :: r => b.lns d ++ Box.lnss d r
end
theorem lns_box (d : Nat) (b : Box) : b.lns d = dot d b.s :: Box.lnss (d + 1) b.inner := by
  cases b with
  | mk s r => rw [Box.lns]; rfl
mutual
theorem lns_len (d : Nat) : ∀ b : Box, (b.lns d).length = b.cnt
  | .mk s r => by rw [Box.lns, Box.cnt, List.length_cons, lnss_len (d + 1) r]; omega
theorem lnss_len (d : Nat) : ∀ r : Row, (Box.lnss d r).length = Box.cnts r
  | [] => rfl
  | b :: r => by rw [Box.lnss, Box.cnts, List.length_append, lns_len d b, lnss_len d r]
end
theorem dot_len (d : Nat) (s : Int) : (dot d s).length = d + 1 := by simp [dot]
theorem deps_in : ∀ {d : Nat} {r : Row}, Box.deps r ≤ d + 1 → ∀ b ∈ r, Box.deps b.inner ≤ d
  | d, [], _, b, hb => by cases hb
  | d, x :: r, h, b, hb => by
    rw [Box.deps, dep_box] at h
    rcases List.mem_cons.mp hb with rfl | hb
    · omega
    · exact deps_in (by omega) b hb
theorem deps_0 {r : Row} (h : Box.deps r ≤ 0) : r = [] := by
  cases r with
  | nil => rfl
  | cons b r => rw [Box.deps, dep_box] at h; omega
theorem cnts_in {r : Row} {b : Box} (h : b ∈ r) : Box.cnts b.inner < Box.cnts r := by
  have := cnt_mem h
  rw [cnt_box] at this
  omega
theorem str_dig {s : Int} (h : 0 ≤ s ∧ s < 10) : b1 .str (.int s) = some (sh (.str (mkS [48 + s.toNat]))) := by
  have key : ∀ i : Nat, i < 10 → ((toString (i : Int) : String) : Str) = mkS [48 + i] := by decide +kernel
  have hl : s.natAbs.log2 < 1920 := Nat.lt_of_le_of_lt (Nat.log2_le_self _) (by omega)
  have e := key s.toNat (by omega)
  rw [Int.toNat_of_nonneg h.1] at e
  show (if s.natAbs.log2 < 1920 then some (sh (.str (toString s : String))) else none) = _
  rw [if_pos hl, e]
theorem s_dot : Str.ofString "." = mkS [46] := by decide +kernel
theorem s_nl : Str.ofString "\n" = mkS [10] := by decide +kernel
theorem s_empty : Str.ofString "" = mkS [] := by decide +kernel
def encLn (ls : List (List Nat)) : D := .lst (ls.map fun p => .str (mkS p))
def npS2 (s : Slot) : Prop := ∀ d, s ≠ some (.pin, d)
theorem np2_n : npS2 none := fun d z => by cases z
theorem np2_s (d : D) : npS2 (some (.shr, d)) := fun _ z => by cases z
theorem np2_o (d : D) : npS2 (some (.own, d)) := fun _ z => by cases z
def invLn (r : Row) (dp : Nat) (q : List D) (ρ : Env) : Prop := ∃ (l : List (List Nat)) (l2 : Row) (s2 s3 : Slot), q = l2.map Box.enc ∧ (∀ b ∈ l2, b ∈ r) ∧ l ++ Box.lnss dp l2 = Box.lnss dp r ∧ npS2 s2 ∧ npS2 s3 ∧ ρ = [some (.shr, encR r), some (.shr, .int (dp : Nat)), some (.own, encLn l), s2, s3]
theorem E_nesting_lines {m : Int} (hm : m ≤ 3) : ∀ (d e : Nat) (r : Row) (dp : Nat), okD m d r → Box.cnts r ≤ 1000 → dp + d ≤ 100 → R_nesting_lines (d + 1 + e) [encR r, .int (dp : Nat)] = .ok (sh (encLn (Box.lnss dp r))) [.non, .non] := by
  intro d
  induction d with
  | zero =>
    intro e r dp hd hc hdp
    cases (show r = [] from hd)
    rw [show 0 + 1 + e = e + 1 by omega]
    refine okF_iff fun P hP => okF_sem rfl ?_
    generalize recF [false, false] N_nesting_lines.length (fun F => mkG (F :: fs_nesting_lines) cs_nesting_lines) s_nesting_lines e = F
    simp [s_nesting_lines, N_nesting_lines, encR, Box.encs]
    simpa [Box.lnss, encLn] using hP
  | succ d ih =>
    intro e r dp hd hc hdp
    rw [show d + 1 + 1 + e = (d + 1 + e) + 1 by omega]
    refine okF_iff fun P hP => okF_sem rfl ?_
    have hF := fun r dp h1 h2 h3 => ih e r dp h1 h2 h3
    unfold R_nesting_lines at hF
    generalize recF [false, false] N_nesting_lines.length (fun F => mkG (F :: fs_nesting_lines) cs_nesting_lines) s_nesting_lines (d + 1 + e) = F at hF ⊢
    have he : encR r = .tup (r.map Box.enc) := by rw [encR, encs_map]
    simp [s_nesting_lines, N_nesting_lines]
    rw [he]
    simp
    refine wp_loop (invLn r dp) ?_ ?_ _ _ ⟨[], r, none, none, rfl, fun b h => h, rfl, np2_n, np2_n, by rw [he]; rfl⟩
    · rintro x xs ρ ⟨l, l2, s2, s3, e1, hmm, hn, h2, h3, rfl⟩
      cases l2 with
      | nil => cases e1
      | cons b l2 =>
        cases e1
        have hb := hmm b (by simp)
        have hbb := hd b hb
        have hl := congrArg List.length hn
        rw [List.length_append, lnss_len, lnss_len, Box.cnts, cnt_box] at hl
        have q1 := mul_mk 46 (k := (dp : Int)) (by omega)
        have q2 := str_dig (s := b.s) (by omega)
        have q3 := add_mk (a := List.replicate dp 46) (b := [48 + b.s.toNat]) (by simp; omega)
        have hr := hF b.inner (dp + 1) hbb.2 (by have := cnts_in hb; omega) (by omega)
        rw [show ((dp + 1 : Nat) : Int) = (dp : Int) + 1 by omega] at hr
        rw [Int.toNat_natCast] at q1
        rw [← s_dot] at q1
        unfold npS2 at h2 h3
        rw [enc_box]
        simp [h2, h3, encLn, -x_muls, -x_adds, q1, q2, q3]
        rw [if_pos (by omega)]
        simp
        rw [okF_ok hr]
        simp [encLn]
        rw [if_pos (by rw [lnss_len]; omega)]
        simp
        exact ⟨l ++ b.lns dp, l2, some (.shr, .int b.s), some (.shr, encR b.inner), rfl, fun y hy => hmm y (by simp [hy]), by rw [← hn, Box.lnss, List.append_assoc], np2_s _, np2_s _, by simp [lns_box, encLn, dot]⟩
    · rintro ρ ⟨l, l2, s2, s3, e1, hmm, hn, h2, h3, rfl⟩
      have : l2 = [] := by cases l2 with
        | nil => rfl
        | cons _ _ => cases e1
      subst this
      rw [Box.lnss, List.append_nil] at hn
      rw [hn]
      simp
      exact hP
theorem E_text_lines {m : Int} (hm : m ≤ 3) : ∀ (d e : Nat) (r : Row) (dp : Nat), okD m d r → Box.cnts r ≤ 1000 → dp + d ≤ 100 → R__law_text_lines (d + 1 + e) [encR r, .int (dp : Nat)] = .ok (ow (encLn (Box.lnss dp r))) [.non, .non] := by
  intro d
  induction d with
  | zero =>
    intro e r dp hd hc hdp
    cases (show r = [] from hd)
    rw [show 0 + 1 + e = e + 1 by omega]
    refine okF_iff fun P hP => okF_sem rfl ?_
    generalize recF [false, false] N__law_text_lines.length (fun F => mkG (F :: fs__law_text_lines) cs__law_text_lines) s__law_text_lines e = F
    simp [s__law_text_lines, N__law_text_lines, encR, Box.encs]
    simpa [Box.lnss, encLn] using hP
  | succ d ih =>
    intro e r dp hd hc hdp
    rw [show d + 1 + 1 + e = (d + 1 + e) + 1 by omega]
    refine okF_iff fun P hP => okF_sem rfl ?_
    have hF := fun r dp h1 h2 h3 => ih e r dp h1 h2 h3
    unfold R__law_text_lines at hF
    generalize recF [false, false] N__law_text_lines.length (fun F => mkG (F :: fs__law_text_lines) cs__law_text_lines) s__law_text_lines (d + 1 + e) = F at hF ⊢
    have he : encR r = .tup (r.map Box.enc) := by rw [encR, encs_map]
    simp [s__law_text_lines, N__law_text_lines]
    rw [he]
    simp
    refine wp_loop (invLn r dp) ?_ ?_ _ _ ⟨[], r, none, none, rfl, fun b h => h, rfl, np2_n, np2_n, by rw [he]; rfl⟩
    · rintro x xs ρ ⟨l, l2, s2, s3, e1, hmm, hn, h2, h3, rfl⟩
      cases l2 with
      | nil => cases e1
      | cons b l2 =>
        cases e1
        have hb := hmm b (by simp)
        have hbb := hd b hb
        have hl := congrArg List.length hn
        rw [List.length_append, lnss_len, lnss_len, Box.cnts, cnt_box] at hl
        have q1 := mul_mk 46 (k := (dp : Int)) (by omega)
        have q2 := str_dig (s := b.s) (by omega)
        have q3 := add_mk (a := List.replicate dp 46) (b := [48 + b.s.toNat]) (by simp; omega)
        have hr := hF b.inner (dp + 1) hbb.2 (by have := cnts_in hb; omega) (by omega)
        rw [show ((dp + 1 : Nat) : Int) = (dp : Int) + 1 by omega] at hr
        rw [Int.toNat_natCast] at q1
        rw [← s_dot] at q1
        have hl9 : l.length < 16777216 := by omega
        unfold npS2 at h2 h3
        rw [enc_box]
        simp [h2, h3, encLn, -x_muls, -x_adds, q1, q2, q3, hl9]
        rw [okF_ok hr]
        simp [encLn]
        rw [if_pos (by rw [lnss_len]; omega)]
        simp
        exact ⟨l ++ b.lns dp, l2, some (.shr, .int b.s), some (.shr, encR b.inner), rfl, fun y hy => hmm y (by simp [hy]), by rw [← hn, Box.lnss, List.append_assoc], np2_s _, np2_s _, by simp [lns_box, encLn, dot]⟩
    · rintro ρ ⟨l, l2, s2, s3, e1, hmm, hn, h2, h3, rfl⟩
      have : l2 = [] := by cases l2 with
        | nil => rfl
        | cons _ _ => cases e1
      subst this
      rw [Box.lnss, List.append_nil] at hn
      rw [hn]
      simp
      exact hP
end KT
/-! nestings line by line -/
namespace KT
open PL
open PySem (Str)
/-- put_in, plainly -/
def putI (s : Int) : Nat → Row → Option Row
  | 0, r => some (r ++ [.mk s []])
  | d + 1, r => match r.getLast? with
    | none => none
    | some b => (putI s d b.inner).map fun q => r.dropLast ++ [.mk b.s q]
/-- a box fits in as deep as k -/
def Lst (r : Row) (k : Nat) : Prop := ∀ (s : Int) (d : Nat), (putI s d r).isSome = decide (d ≤ k)
theorem lst_nil : Lst [] 0 := fun s d => by
  cases d with
  | zero => rfl
  | succ d => simp [putI]
theorem last_app (l : Row) (b : Box) : (l ++ [b]).getLast? = some b ∧ (l ++ [b]).dropLast = l := by simp
theorem lst_put {s : Int} : ∀ {d : Nat} {r r' : Row}, putI s d r = some r' → Lst r' (d + 1)
  | 0, r, r', h => by
    cases h
    intro s' e
    cases e with
    | zero => rfl
    | succ e =>
      rw [putI, (last_app r _).1]
      cases e with
      | zero => simp [putI, Box.inner]
      | succ e => simp [putI, Box.inner]
  | d + 1, r, r', h => by
    rw [putI] at h
    cases q : r.getLast? with
    | none => rw [q] at h; cases h
    | some b =>
      rw [q] at h
      obtain ⟨p, h1, rfl⟩ := Option.map_eq_some_iff.mp h
      have ih := lst_put h1
      intro s' e
      cases e with
      | zero => simp [putI]
      | succ e =>
        rw [putI, (last_app _ _).1]
        simp only [Option.isSome_map]
        rw [show (Box.mk b.s p).inner = p from rfl, ih s' e]
        simp
theorem lnss_app (dp : Nat) : ∀ a b : Row, Box.lnss dp (a ++ b) = Box.lnss dp a ++ Box.lnss dp b
  | [], b => rfl
  | x :: a, b => by rw [List.cons_append, Box.lnss, Box.lnss, lnss_app dp a b, List.append_assoc]
theorem lnss_put {s : Int} : ∀ {d dp : Nat} {r r' : Row}, putI s d r = some r' → Box.lnss dp r' = Box.lnss dp r ++ [dot (dp + d) s]
  | 0, dp, r, r', h => by
    cases h
    rw [lnss_app]
    simp [Box.lnss, Box.lns]
  | d + 1, dp, r, r', h => by
    rw [putI] at h
    cases q : r.getLast? with
    | none => rw [q] at h; cases h
    | some b =>
      rw [q] at h
      obtain ⟨p, h1, rfl⟩ := Option.map_eq_some_iff.mp h
      have ih := lnss_put (dp := dp + 1) h1
      have e := last_split r b q
      conv => rhs; rw [e]
      rw [lnss_app, lnss_app]
      simp [Box.lnss, lns_box, Box.s, Box.inner, ih]
      rw [show dp + 1 + d = dp + (d + 1) by omega]
theorem cnts_putI {s : Int} : ∀ {d : Nat} {r r' : Row}, putI s d r = some r' → Box.cnts r' = Box.cnts r + 1 := fun {d r r'} h => by
  have := congrArg List.length (lnss_put (dp := 0) h)
  rw [List.length_append, lnss_len, lnss_len] at this
  simpa using this
theorem okD_putI {m s : Int} (hs : 0 ≤ s ∧ s < m) : ∀ {d k : Nat} {r r' : Row}, putI s d r = some r' → d + 1 ≤ k → okD m k r → okD m k r'
  | 0, k, r, r', h, hk, ho => by
    cases h
    cases k with
    | zero => omega
    | succ k =>
      intro b hb
      rcases List.mem_append.mp hb with hb | hb
      · exact ho b hb
      · simp at hb
        subst hb
        exact ⟨hs, okD_nil m k⟩
  | d + 1, k, r, r', h, hk, ho => by
    rw [putI] at h
    cases q : r.getLast? with
    | none => rw [q] at h; cases h
    | some b =>
      rw [q] at h
      obtain ⟨p, h1, rfl⟩ := Option.map_eq_some_iff.mp h
      have e := last_split r b q
      cases k with
      | zero => omega
      | succ k =>
        have hb : b ∈ r := by rw [e]; simp
        intro x hx
        rcases List.mem_append.mp hx with hx | hx
        · exact ho x (by rw [e]; simp [hx])
        · simp at hx
          subst hx
          exact ⟨(ho b hb).1, okD_putI hs h1 (by omega) (ho b hb).2⟩
theorem deep_putI {m s : Int} : ∀ {d k : Nat} {r r' : Row}, putI s d r = some r' → okD m k r' → d + 1 ≤ k
  | 0, k, r, r', h, ho => by
    cases h
    cases k with
    | zero =>
      have : r ++ [Box.mk s []] = [] := ho
      simp at this
    | succ k => omega
  | d + 1, k, r, r', h, ho => by
    rw [putI] at h
    cases q : r.getLast? with
    | none => rw [q] at h; cases h
    | some b =>
      rw [q] at h
      obtain ⟨p, h1, rfl⟩ := Option.map_eq_some_iff.mp h
      cases k with
      | zero =>
        have : r.dropLast ++ [Box.mk b.s p] = [] := ho
        simp at this
      | succ k =>
        have := deep_putI h1 (ho (.mk b.s p) (by simp)).2
        omega
/-! ### what a line tells -/
theorem dot_inj {d d' : Nat} {s s' : Int} (hs : 0 ≤ s) (hs' : 0 ≤ s') (h : dot d s = dot d' s') : d = d' ∧ s = s' := by
  have hl := congrArg List.length h
  rw [dot_len, dot_len] at hl
  have e : d = d' := by omega
  subst e
  unfold dot at h
  have := List.append_cancel_left h
  simp at this
  exact ⟨rfl, by omega⟩
/-- a line of a nesting with m stands: its depth, its stand -/
def parse (m : Int) (p : List Nat) : Option (Nat × Int) := match p.getLast? with
  | none => none
  | some c => if p.dropLast = List.replicate (p.length - 1) 46 ∧ 48 ≤ c ∧ (c : Int) < 48 + m then some (p.length - 1, (c : Int) - 48) else none
theorem parse_some {m : Int} {p : List Nat} {d : Nat} {s : Int} (h : parse m p = some (d, s)) : p = dot d s ∧ 0 ≤ s ∧ s < m ∧ d = p.length - 1 := by
  unfold parse at h
  cases q : p.getLast? with
  | none => rw [q] at h; cases h
  | some c =>
    rw [q] at h
    simp only at h
    by_cases hc : p.dropLast = List.replicate (p.length - 1) 46 ∧ 48 ≤ c ∧ (c : Int) < 48 + m
    · rw [if_pos hc] at h
      have h1 : p.length - 1 = d ∧ (c : Int) - 48 = s := by simpa using h
      obtain ⟨rfl, rfl⟩ := h1
      refine ⟨?_, by omega, by omega, rfl⟩
      have hne : p ≠ [] := fun z => by subst z; simp at q
      have e := List.dropLast_concat_getLast hne
      rw [List.getLast?_eq_some_getLast hne] at q
      have q' : p.getLast hne = c := by simpa using q
      rw [q', hc.1] at e
      unfold dot
      rw [show 48 + ((c : Int) - 48).toNat = c by omega]
      exact e.symm
    · rw [if_neg hc] at h; cases h
theorem parse_dot {m s : Int} (d : Nat) (h : 0 ≤ s ∧ s < m) : parse m (dot d s) = some (d, s) := by
  unfold parse dot
  simp
  omega
/-- the number of the first wrong line, or 0 -/
def scan (m : Int) : Nat → Nat → List (List Nat) → Nat
  | _, _, [] => 0
  | at_, k, p :: ps => match parse m p with
    | none => at_ + 1
    | some (d, _) => if d ≤ k ∧ d ≤ 7 ∧ at_ ≤ 39 then scan m (at_ + 1) (d + 1) ps else at_ + 1
/-! ### a nesting's own lines -/
def okSeq (m : Int) : Nat → List (List Nat) → Prop
  | _, [] => True
  | k, p :: ps => ∃ d s, p = dot d s ∧ (0 ≤ s ∧ s < m) ∧ d ≤ k ∧ d ≤ 7 ∧ okSeq m (d + 1) ps
theorem seq_lines {m : Int} : ∀ (n dp : Nat) (r : Row) (k : Nat) (T : List (List Nat)), okD m n r → dp + n ≤ 8 → dp ≤ k → (∀ k', dp ≤ k' → okSeq m k' T) → okSeq m k (Box.lnss dp r ++ T) := by
  intro n
  induction n with
  | zero =>
    intro dp r k T h hn hk hT
    cases (show r = [] from h)
    exact hT k hk
  | succ n ih =>
    intro dp r
    induction r with
    | nil => intro k T h hn hk hT; exact hT k hk
    | cons b r ihr =>
      intro k T h hn hk hT
      rw [Box.lnss, lns_box, List.append_assoc, List.cons_append]
      have hb := h b (by simp)
      refine ⟨dp, b.s, rfl, hb.1, hk, by omega, ?_⟩
      refine ih (dp + 1) b.inner (dp + 1) _ hb.2 (by omega) (Nat.le_refl _) fun k' hk' => ?_
      exact ihr k' T (fun x hx => h x (by simp [hx])) hn (by omega) hT
theorem scan_seq {m : Int} : ∀ (ls : List (List Nat)) (a k : Nat), a + ls.length ≤ 40 → okSeq m k ls → scan m a k ls = 0
  | [], _, _, _, _ => rfl
  | p :: ps, a, k, hl, h => by
    obtain ⟨d, s, rfl, hs, h1, h2, h3⟩ := h
    rw [scan, parse_dot d hs]
    simp only
    simp at hl
    rw [if_pos ⟨h1, h2, by omega⟩]
    exact scan_seq ps (a + 1) (d + 1) (by omega) h3
theorem scan_own {m : Int} {r : Row} (h : okR m 8 r) (hc : Box.cnts r ≤ 40) : scan m 0 0 (Box.lnss 0 r) = 0 := by
  refine scan_seq _ 0 0 (by rw [lnss_len]; omega) ?_
  have := seq_lines (m := m) 8 0 r 0 [] (okR_okD h) (by omega) (Nat.le_refl _) fun _ _ => True.intro
  rwa [List.append_nil] at this
/-- behind the lines of a row: nothing so deep -/
def Shal (dp : Nat) (T : List (List Nat)) : Prop := T = [] ∨ ∃ d s T2, T = dot d s :: T2 ∧ d < dp ∧ 0 ≤ s
theorem shal_lines {m : Int} {n dp : Nat} {r : Row} {T : List (List Nat)} (h : okD m (n + 1) r) (hT : Shal dp T) : Shal (dp + 1) (Box.lnss dp r ++ T) := by
  cases r with
  | nil =>
    rcases hT with rfl | ⟨d, s, T2, rfl, h1, h2⟩
    · exact .inl rfl
    · exact .inr ⟨d, s, T2, rfl, by omega, h2⟩
  | cons b r =>
    have hb := h b (by simp)
    exact .inr ⟨dp, b.s, _, by rw [Box.lnss, lns_box]; rfl, by omega, hb.1.1⟩
theorem lines_inj {m : Int} : ∀ (n dp : Nat) (r r' : Row) (T T' : List (List Nat)), okD m n r → okD m n r' → Shal dp T → Shal dp T' → Box.lnss dp r ++ T = Box.lnss dp r' ++ T' → r = r' ∧ T = T' := by
  intro n
  induction n with
  | zero =>
    intro dp r r' T T' h h' _ _ e
    cases (show r = [] from h)
    cases (show r' = [] from h')
    exact ⟨rfl, e⟩
  | succ n ih =>
    intro dp r
    induction r with
    | nil =>
      intro r' T T' h h' hT hT' e
      cases r' with
      | nil => exact ⟨rfl, e⟩
      | cons b' r' =>
        rw [Box.lnss, Box.lnss, lns_box] at e
        rcases hT with rfl | ⟨d, s, T2, rfl, h1, h2⟩
        · simp at e
        · simp at e
          have := (dot_inj h2 (h' b' (by simp)).1.1 e.1).1
          omega
    | cons b r ihr =>
      intro r' T T' h h' hT hT' e
      cases r' with
      | nil =>
        rw [Box.lnss, Box.lnss, lns_box] at e
        rcases hT' with rfl | ⟨d, s, T2, rfl, h1, h2⟩
        · simp at e
        · simp at e
          have := (dot_inj (h b (by simp)).1.1 h2 e.1).1
          omega
      | cons b' r' =>
        rw [Box.lnss, Box.lnss, lns_box, lns_box, List.append_assoc, List.append_assoc, List.cons_append, List.cons_append] at e
        simp only [List.cons.injEq] at e
        have hb := h b (by simp)
        have hb' := h' b' (by simp)
        have h1 := (dot_inj hb.1.1 hb'.1.1 e.1).2
        have hr : okD m (n + 1) r := fun x hx => h x (by simp [hx])
        have hr' : okD m (n + 1) r' := fun x hx => h' x (by simp [hx])
        obtain ⟨h2, h3⟩ := ih (dp + 1) b.inner b'.inner _ _ hb.2 hb'.2 (shal_lines hr hT) (shal_lines hr' hT') e.2
        obtain ⟨h4, h5⟩ := ihr r' T T' hr hr' hT hT' h3
        refine ⟨?_, h5⟩
        have : b = b' := by
          cases b with
          | mk s q => cases b' with
            | mk s' q' =>
              have h1' : s = s' := h1
              have h2' : q = q' := h2
              rw [h1', h2']
        rw [this, h4]
theorem own_inj {m : Int} {r r' : Row} (h : okR m 8 r) (h' : okR m 8 r') (e : Box.lnss 0 r = Box.lnss 0 r') : r = r' :=
  (lines_inj 8 0 r r' [] [] (okR_okD h) (okR_okD h') (.inl rfl) (.inl rfl) (by rw [e])).1
end KT
/-! read_nesting, _law_wrong -/
namespace KT
open PL
open PySem (Str)
theorem er_skip {Γ : Gm} {s : S} {ss : List S} {ρ : Env} {Q : Ex → Env → Prop} (h : wp (evS Γ s) ρ fun f ρ' => f = .nx ∧ er (evSs Γ ss) ρ' Q) : er (evSs Γ (s :: ss)) ρ Q := by
  rw [evSs_q1]
  refine er_bind (h.mono fun f ρ' q => ?_)
  obtain ⟨rfl, q⟩ := q
  exact q
theorem er_here {Γ : Gm} {s : S} {ss : List S} {ρ : Env} {Q : Ex → Env → Prop} (h : er (evS Γ s) ρ Q) : er (evSs Γ (s :: ss)) ρ Q := by
  rw [evSs_q1]
  exact er_bind1 h
theorem er_ife {Γ : Gm} {c : E} {a b : List S} {ρ : Env} {Q : Ex → Env → Prop} (h : wp (evE Γ c) ρ fun v ρ' => v.d = .bl true ∧ er (evSs Γ a) ρ' Q) : er (evS Γ (.ife c a b)) ρ Q := by
  rw [evS_q5]
  refine er_bind (h.mono fun v ρ' q => ?_)
  obtain ⟨o, d⟩ := v
  obtain ⟨q1, q2⟩ := q
  cases q1
  exact q2
theorem er_raiseF {Γ : Gm} {cls f : Str} {e : E} {ρ : Env} {Q : Ex → Env → Prop} (h : wp (evE Γ e) ρ fun v ρ' => Q ⟨cls, some (f, v.d)⟩ ρ') : er (evSs Γ [.raise cls (some (f, e))]) ρ Q := by
  refine er_here ?_
  rw [evS_q14]
  exact er_bind h
def optR : Option Row → D
  | none => .non
  | some r => encR r
theorem E_put_in (s : Int) : ∀ (n e : Nat) (r : Row) (d : Nat), Box.deps r ≤ n → Box.cnts r ≤ 1000 → Fine 60 (encR r) → R_put_in (n + 1 + e) [encR r, .int (d : Nat), .int s] = .ok (sh (optR (putI s d r))) [.non, .non, .non] := by
  intro n
  induction n with
  | zero =>
    intro e r d hd hc hf
    cases deps_0 hd
    rw [show 0 + 1 + e = e + 1 by omega]
    refine okF_iff fun P hP => okF_sem rfl ?_
    generalize recF [false, false, false] N_put_in.length (fun F => mkG (F :: fs_put_in) cs_put_in) s_put_in e = F
    have heq := eq_fine (show Fine 60 (.tup []) from ⟨by decide, by decide⟩) (show Fine 60 (.tup []) from ⟨by decide, by decide⟩)
    cases d with
    | zero =>
      simp [s_put_in, N_put_in, encR, Box.encs]
      simpa [putI, optR, encR, Box.encs, Box.enc] using hP
    | succ d =>
      have hd2 : (((d : Int) + 1 : Int) = 0) = False := eq_false (by omega)
      simp [s_put_in, N_put_in, encR, Box.encs, hd2, heq]
      simpa [putI, optR] using hP
  | succ n ih =>
    intro e r d hd hc hf
    rw [show n + 1 + 1 + e = (n + 1 + e) + 1 by omega]
    refine okF_iff fun P hP => okF_sem rfl ?_
    have hF := fun r d h1 h2 h3 => ih e r d h1 h2 h3
    unfold R_put_in at hF
    generalize recF [false, false, false] N_put_in.length (fun F => mkG (F :: fs_put_in) cs_put_in) s_put_in (n + 1 + e) = F at hF ⊢
    have hl := len_cnts r
    cases d with
    | zero =>
      simp [s_put_in, N_put_in, encR, encs_map]
      rw [if_pos (by omega)]
      simp
      simpa [putI, optR, encR, encs_map, Box.enc, Box.encs] using hP
    | succ d =>
      have hd2 : (((d : Int) + 1 : Int) = 0) = False := eq_false (by omega)
      have heq := eq_fine hf (show Fine 60 (.tup []) from ⟨by decide, by decide⟩)
      simp [s_put_in, N_put_in, hd2, heq]
      cases hl2 : r.getLast? with
      | none =>
        have : r = [] := by simpa using hl2
        subst this
        simp [encR, Box.encs]
        simpa [putI, optR] using hP
      | some b =>
        have e1 := last_split r b hl2
        rw [putI, hl2] at hP
        simp only at hP
        have hbr : b ∈ r := by rw [e1]; simp
        have hdb := deps_in hd b hbr
        generalize r.dropLast = l at e1 hP
        subst e1
        have hb : Fine 60 (encR b.inner) := by
          obtain ⟨_, k, hk, hm⟩ := hf.tup
          have h1 : Fine k b.enc := hm _ (by rw [encs_map]; simp)
          rw [enc_box] at h1
          obtain ⟨_, k2, hk2, hm2⟩ := h1.tup
          exact (hm2 (encR b.inner) (by simp)).mono (by omega)
        have hbc : Box.cnts b.inner ≤ 1000 := by
          have := cnts_in hbr
          omega
        have hF2 := hF b.inner d hdb hbc hb
        have ee : encR (l ++ [b]) = .tup (l.map Box.enc ++ [b.enc]) := by rw [encR, encs_map]; simp
        have ne : D.eqvs (l.map Box.enc ++ [D.tup [D.int b.s, encR b.inner]]) [] = false := by cases l <;> simp
        simp [ee, enc_box]
        rw [if_neg (by rw [ne]; decide), okF_ok hF2]
        simp at hl
        cases q : putI s d b.inner with
        | none =>
          rw [q] at hP
          simp [optR] at hP ⊢
          exact hP
        | some w =>
          rw [q] at hP
          have hne : optR (some w) = encR w := rfl
          simp [optR] at hP ⊢
          have hw : encR w = .tup (w.map Box.enc) := by rw [encR, encs_map]
          rw [hw]
          simp
          rw [if_pos (by omega)]
          simp
          simpa [encR, encs_map, Box.enc] using hP
theorem parse_no {m : Int} {p : List Nat} (h : parse m p = none) : p.dropLast = List.replicate (p.length - 1) 46 → isFrom (numOf (p.drop (p.length - 1))) 0 (m - 1) = false := by
  intro hd
  unfold parse at h
  cases q : p.getLast? with
  | none =>
    have : p = [] := by simpa using q
    subst this
    rfl
  | some c =>
    rw [q] at h
    simp only at h
    have hne : p ≠ [] := fun z => by subst z; simp at q
    have e := List.dropLast_concat_getLast hne
    have q' : p.getLast hne = c := by
      rw [List.getLast?_eq_some_getLast hne] at q
      simpa using q
    have hdrop : p.drop (p.length - 1) = [c] := by
      conv => lhs; rw [← e]
      rw [q']
      have : (p.dropLast ++ [c]).length - 1 = p.dropLast.length := by simp
      rw [List.drop_append]
      simp
    rw [hdrop]
    by_cases hc : 48 ≤ c ∧ (c : Int) < 48 + m
    · rw [if_pos ⟨hd, hc⟩] at h; cases h
    · show isFrom (if 48 ≤ c ∧ c ≤ 57 then D.int ((c : Int) - 48) else .non) 0 (m - 1) = false
      split
      · simp [isFrom]; omega
      · rfl
theorem parse_yes {m : Int} (hm : m ≤ 3) {p : List Nat} {d : Nat} {s : Int} (h : parse m p = some (d, s)) : p.dropLast = List.replicate (p.length - 1) 46 ∧ numOf (p.drop (p.length - 1)) = .int s ∧ isFrom (.int s) 0 (m - 1) = true ∧ (p.length : Int) - 1 = d := by
  obtain ⟨rfl, h0, h1, h2⟩ := parse_some h
  refine ⟨by simp [dot], ?_, by simp [isFrom]; omega, by rw [dot_len]; omega⟩
  have e : (dot d s).drop ((dot d s).length - 1) = [48 + s.toNat] := by simp [dot]
  rw [e]
  show (if 48 ≤ 48 + s.toNat ∧ 48 + s.toNat ≤ 57 then D.int (((48 + s.toNat : Nat) : Int) - 48) else .non) = _
  rw [if_pos (by omega)]
  congr 1
  omega
end KT
/-! read_nesting: a line -/
namespace KT
open PL
open PySem (Str)
def rdBody : List S := match s_read_nesting.drop 4 with
  | .forIn _ _ _ _ b :: _ => b
  | _ => []
def rdEnv (m : Int) (t : D) (R : Row) (ls : Slot) (s4 s5 s6 s7 s8 : Slot) : Env := [some (.shr, .int m), some (.shr, t), some (.shr, encR R), ls, s4, s5, s6, s7, s8]
def eText (n : Int) : Ex := ⟨"InvalidText", some ("line", .int n)⟩
section
variable {m : Int} {t : D} {R : Row} {ls s4 s5 s6 s7 s8 : Slot} {p : List Nat} {a : Nat}
theorem rd_cond (hm : m = 2 ∨ m = 3) (hp : p.length ≤ 10000) (h6 : npS2 s6) (h7 : npS2 s7) {Q : Vl → Env → Prop}
    (hQ : ∀ b : Bool, (b = true ↔ parse m p = none) → Q (sh (.bl b)) [some (.shr, .int m), some (.shr, t), some (.shr, encR R), ls, some (.shr, .int a), some (.shr, .str (mkS p)), some (.shr, .int ((p.length : Int) - 1)), some (.shr, numOf (p.drop (p.length - 1))), s8]) :
    wp (evE (mkG fs_read_nesting cs_read_nesting) (.or (.cmp .ne (.cut (.var 5) none (some (.neg (.int 1)))) (.bin .mul (.str ".") (.var 6))) (.not (.call 2 [.var 7, .int 0, .bin .sub (.var 0) (.int 1)])))) [some (.shr, .int m), some (.shr, t), some (.shr, encR R), ls, some (.shr, .int a), some (.shr, .str (mkS p)), some (.shr, .int ((p.length : Int) - 1)), some (.shr, numOf (p.drop (p.length - 1))), s8] Q := by
  have q1 := mul_mk 46 (k := (p.length : Int) - 1) (by omega)
  rw [← s_dot, show ((p.length : Int) - 1).toNat = p.length - 1 by omega] at q1
  have q2 := cut_mk (l := p) (by omega) none (some (-1))
  rw [cut_m1] at q2
  have q3 := ne_mk p.dropLast (List.replicate (p.length - 1) 46)
  have pl : pln (numOf (p.drop (p.length - 1))) = true := by
    unfold numOf
    split
    · split <;> rfl
    · rfl
  have q4 := E_is_from (numOf (p.drop (p.length - 1))) 0 (m - 1) pl
  have g2 : (fs_read_nesting[2]?.getD fun x => RF.bad) = F_is_from := rfl
  have iff1 : ∀ b : Bool, b = (!decide (p.dropLast = List.replicate (p.length - 1) 46) || !isFrom (numOf (p.drop (p.length - 1))) 0 (m - 1)) → (b = true ↔ parse m p = none) := by
    intro b hb
    subst hb
    constructor
    · intro h
      cases q : parse m p with
      | none => rfl
      | some x =>
        obtain ⟨d, s⟩ := x
        obtain ⟨e1, e2, e3, _⟩ := parse_yes (by omega) q
        rw [e1, e2, e3] at h
        simp at h
    · intro h
      by_cases e : p.dropLast = List.replicate (p.length - 1) 46
      · rw [parse_no h e]
        simp
      · simp [e]
  have hQ2 := fun b hb => hQ b (iff1 b hb)
  generalize numOf (p.drop (p.length - 1)) = nm at *
  simp [-x_muls, q1, q2, q3]
  by_cases e : p.dropLast = List.replicate (p.length - 1) 46
  · simp [e, g2]
    rw [okF_ok q4]
    simp
    exact hQ2 _ (by simp [e])
  · simp [e]
    exact hQ2 _ (by simp [e])
theorem rd_ok (hm : m = 2 ∨ m = 3) (hp : p.length ≤ 10000) {d : Nat} {s : Int} {R' : Row} (h1 : parse m p = some (d, s)) (h2 : putI s d R = some R') (hR : okR m 8 R) (hc : Box.cnts R ≤ 40) (h3 : okR m 8 R' ∧ Box.cnts R' ≤ 40) (h4 : npS2 s4) (h5 : npS2 s5) (h6 : npS2 s6) (h7 : npS2 s7) (h8 : npS2 s8) {P : Fl → Env → Prop}
    (hP : P .nx (rdEnv m t R' ls (some (.shr, .int a)) (some (.shr, .str (mkS p))) (some (.shr, .int ((p.length : Int) - 1))) (some (.shr, numOf (p.drop (p.length - 1)))) (some (.shr, encR R')))) :
    wp (asgTg (.tup [.nm 4, .nm 5]) (.tup [.int a, .str (mkS p)]) >>= fun _ => evSs (mkG fs_read_nesting cs_read_nesting) rdBody) (rdEnv m t R ls s4 s5 s6 s7 s8) P := by
  obtain ⟨e1, e2, e3, e4⟩ := parse_yes (by omega) h1
  have q0 : lenv (.str (mkS p)) = some ((p.length : Nat) : Int) := by
    show (if (mkS p).length ≤ szL then some ((mkS p).length : Int) else none) = _
    rw [mkS_len, if_pos (Nat.le_trans (by omega : p.length ≤ 1000000) (by decide))]
  have q2 := cut_mk (l := p) (by omega) (some (-1)) none
  rw [cut_last] at q2
  have q5 := E_number_of (p.drop (p.length - 1))
  have g1 : (fs_read_nesting[1]?.getD fun x => RF.bad) = F_number_of := rfl
  have g3 : (fs_read_nesting[3]?.getD fun x => RF.bad) = F_put_in := rfl
  have g4 : (fs_read_nesting[4]?.getD fun x => RF.bad) = F_has_nesting := rfl
  have q6 : F_put_in [encR R, .int (d : Nat), .int s] = _ := E_put_in s 8 55 R d (okR_deps hR) (by omega) ((fine_row (okR_okD hR) (by omega)).mono (by decide))
  rw [h2] at q6
  have f' : Fine 50 (encR R') := (fine_row (okR_okD h3.1) (by omega)).mono (by decide)
  have q7 := o_has_nesting m (encR R') f'
  have q8 : isNst m (encR R') = true := isNst_of ⟨rfl, h3.1, h3.2⟩
  have cond := fun Q hQ => @rd_cond m t R ls s6 s7 s8 p a hm hp h6 h7 Q hQ
  have hb : rdBody = rdBody.take 2 ++ .ife (.or (.cmp .ne (.cut (.var 5) none (some (.neg (.int 1)))) (.bin .mul (.str ".") (.var 6))) (.not (.call 2 [.var 7, .int 0, .bin .sub (.var 0) (.int 1)]))) [.raise "InvalidText" (some ("line", .bin .add (.var 4) (.int 1)))] [] :: rdBody.drop 3 := rfl
  rw [hb]
  generalize (E.or (.cmp .ne (.cut (.var 5) none (some (.neg (.int 1)))) (.bin .mul (.str ".") (.var 6))) (.not (.call 2 [.var 7, .int 0, .bin .sub (.var 0) (.int 1)]))) = C at cond
  unfold npS2 at h4 h5 h6 h7 h8
  rw [e2] at q5 cond hP
  rw [e4] at cond hP
  simp [-x_len_s, rdBody, s_read_nesting, rdEnv, h4, h5, h6, h7, q0, q2, g1, okF_ok q5, e4]
  refine cond _ fun b hb2 => ?_
  have hbf : b = false := by
    cases b with
    | false => rfl
    | true => rw [hb2.mp rfl] at h1; cases h1
  subst hbf
  have hne : encR R' = .tup (R'.map Box.enc) := by rw [encR, encs_map]
  simp [h8, g3, g4]
  rw [okF_ok q6]
  simp [optR, h8]
  rw [q7, q8, hne]
  simp
  rw [← hne]
  exact hP
theorem rd_err (hm : m = 2 ∨ m = 3) (hp : p.length ≤ 10000) (hR : okR m 8 R) (hc : Box.cnts R ≤ 40) (h : ∀ d s, parse m p = some (d, s) → ∀ R', putI s d R = some R' → ¬ (okR m 8 R' ∧ Box.cnts R' ≤ 40) ) (hd9 : ∀ d s, parse m p = some (d, s) → ∀ R', putI s d R = some R' → okD m 9 R') (h4 : npS2 s4) (h5 : npS2 s5) (h6 : npS2 s6) (h7 : npS2 s7) (h8 : npS2 s8) :
    er (asgTg (.tup [.nm 4, .nm 5]) (.tup [.int a, .str (mkS p)]) >>= fun _ => evSs (mkG fs_read_nesting cs_read_nesting) rdBody) (rdEnv m t R ls s4 s5 s6 s7 s8) fun e ρ' => e = eText ((a : Int) + 1) ∧ outsAt [false, false] ρ' = some [.non, .non] := by
  have q0 : lenv (.str (mkS p)) = some ((p.length : Nat) : Int) := by
    show (if (mkS p).length ≤ szL then some ((mkS p).length : Int) else none) = _
    rw [mkS_len, if_pos (Nat.le_trans (by omega : p.length ≤ 1000000) (by decide))]
  have q2 := cut_mk (l := p) (by omega) (some (-1)) none
  rw [cut_last] at q2
  have q5 := E_number_of (p.drop (p.length - 1))
  have g1 : (fs_read_nesting[1]?.getD fun x => RF.bad) = F_number_of := rfl
  have g3 : (fs_read_nesting[3]?.getD fun x => RF.bad) = F_put_in := rfl
  have g4 : (fs_read_nesting[4]?.getD fun x => RF.bad) = F_has_nesting := rfl
  have cond := fun Q hQ => @rd_cond m t R ls s6 s7 s8 p a hm hp h6 h7 Q hQ
  obtain ⟨RZ, hRZ⟩ : ∃ B : List S, B = [.raise "InvalidText" (some ("line", .bin .add (.var 4) (.int 1)))] := ⟨_, rfl⟩
  obtain ⟨B5, hB5⟩ : ∃ B : List S, B = [.asg 2 (.var 8)] := ⟨_, rfl⟩
  obtain ⟨B4, hB4⟩ : ∃ B : List S, B = .ife (.or (.isN false (.var 8)) (.not (.call 4 [.var 0, .var 8]))) RZ [] :: B5 := ⟨_, rfl⟩
  obtain ⟨B3, hB3⟩ : ∃ B : List S, B = .asg 8 (.call 3 [.var 2, .var 6, .var 7]) :: B4 := ⟨_, rfl⟩
  obtain ⟨B2, hB2⟩ : ∃ B : List S, B = .ife (.or (.cmp .ne (.cut (.var 5) none (some (.neg (.int 1)))) (.bin .mul (.str ".") (.var 6))) (.not (.call 2 [.var 7, .int 0, .bin .sub (.var 0) (.int 1)]))) RZ [] :: B3 := ⟨_, rfl⟩
  obtain ⟨B1, hB1⟩ : ∃ B : List S, B = .asg 7 (.call 1 [.cut (.var 5) (some (.neg (.int 1))) none]) :: B2 := ⟨_, rfl⟩
  obtain ⟨B0, hB0⟩ : ∃ B : List S, B = .asg 6 (.bin .sub (.b1 .len (.var 5)) (.int 1)) :: B1 := ⟨_, rfl⟩
  have hb : rdBody = B0 := by rw [hB0, hB1, hB2, hB3, hB4, hB5, hRZ]; rfl
  rw [hb]
  generalize (E.or (.cmp .ne (.cut (.var 5) none (some (.neg (.int 1)))) (.bin .mul (.str ".") (.var 6))) (.not (.call 2 [.var 7, .int 0, .bin .sub (.var 0) (.int 1)]))) = C at cond hB2
  have h4' := h4
  have h5' := h5
  have h6' := h6
  have h7' := h7
  have h8' := h8
  unfold npS2 at h4' h5' h6' h7' h8'
  refine er_bind ?_
  simp [rdEnv, h4', h5']
  rw [hB0]
  refine er_skip ?_
  simp [-x_len_s, h6', q0]
  rw [hB1]
  refine er_skip ?_
  simp [h7', q2, g1, okF_ok q5]
  rw [hB2]
  cases hpr : parse m p with
  | none =>
    refine er_here (er_ife (cond _ fun b hb2 => ?_))
    have : b = true := hb2.mpr hpr
    subst this
    rw [hRZ]
    refine ⟨rfl, er_raiseF ?_⟩
    simp [eText]
    try rfl
  | some x =>
    obtain ⟨d, s⟩ := x
    obtain ⟨e1, e2, e3, e4⟩ := parse_yes (by omega) hpr
    refine er_skip ?_
    rw [evS_q5]
    rw [wp_bind]
    refine cond _ fun b hb2 => ?_
    have hbf : b = false := by
      cases b with
      | false => rfl
      | true => rw [hb2.mp rfl] at hpr; cases hpr
    subst hbf
    rw [e2, e4]
    simp
    rw [hB3]
    have q6 : F_put_in [encR R, .int (d : Nat), .int s] = _ := E_put_in s 8 55 R d (okR_deps hR) (by omega) ((fine_row (okR_okD hR) (by omega)).mono (by decide))
    refine er_skip ?_
    simp [h8', g3]
    rw [okF_ok q6]
    simp
    rw [hB4]
    refine er_here (er_ife ?_)
    cases q : putI s d R with
    | none =>
      simp [optR]
      rw [hRZ]
      refine er_raiseF ?_
      simp [eText]
      try rfl
    | some R' =>
      have hn := h d s hpr R' q
      have hD := hd9 d s hpr R' q
      have f' : Fine 50 (encR R') := (fine_row hD (by have := cnts_putI q; omega)).mono (by decide)
      have q7 := o_has_nesting m (encR R') f'
      have q8 : isNst m (encR R') = false := by
        rw [isNst_enc]
        rw [decide_eq_false_iff_not]
        exact hn
      have hne : encR R' = .tup (R'.map Box.enc) := by rw [encR, encs_map]
      simp [optR, g4]
      rw [q7, q8, hne]
      simp
      rw [hRZ]
      refine er_raiseF ?_
      simp [eText]
      try rfl
end
end KT
/-! read_nesting, _law_wrong: all lines -/
namespace KT
open PL
open PySem (Str)
theorem okD_mono {m : Int} : ∀ {d k : Nat} {r : Row}, d ≤ k → okD m d r → okD m k r
  | 0, k, r, _, h => by
    cases (show r = [] from h)
    exact okD_nil m k
  | d + 1, 0, r, hk, _ => by omega
  | d + 1, k + 1, r, hk, h => fun b hb => ⟨(h b hb).1, okD_mono (by omega) (h b hb).2⟩
theorem putI_deep {s : Int} : ∀ {d n : Nat} {r r' : Row}, putI s d r = some r' → Box.deps r ≤ n → d ≤ n
  | 0, n, r, r', _, _ => Nat.zero_le _
  | d + 1, n, r, r', h, hn => by
    rw [putI] at h
    cases q : r.getLast? with
    | none => rw [q] at h; cases h
    | some b =>
      rw [q] at h
      obtain ⟨p, h1, rfl⟩ := Option.map_eq_some_iff.mp h
      have hb : b ∈ r := by rw [last_split r b q]; simp
      cases n with
      | zero =>
        have := deps_0 (show Box.deps r ≤ 0 by omega)
        subst this
        cases hb
      | succ n =>
        have := putI_deep h1 (deps_in hn b hb)
        omega
theorem er_app {Γ : Gm} : ∀ {a b : List S} {ρ ρ1 : Env} {Q : Ex → Env → Prop}, (wp (evSs Γ a) ρ fun f ρ' => f = .nx ∧ ρ' = ρ1) → er (evSs Γ b) ρ1 Q → er (evSs Γ (a ++ b)) ρ Q
  | [], b, ρ, ρ1, Q, h, k => by
    rw [evSs_q0] at h
    obtain ⟨_, rfl⟩ := h
    exact k
  | s :: a, b, ρ, ρ1, Q, h, k => by
    rw [evSs_q1, wp_bind] at h
    rw [List.cons_append, evSs_q1]
    refine er_bind (h.mono fun f ρ' q => ?_)
    cases f with
    | nx => exact er_app q k
    | rt v => exact absurd q.1 (by simp)
def lineD (p : List Nat) : D := .str (mkS p)
theorem read_loop {m : Int} (hm : m = 2 ∨ m = 3) {t : D} {ls : Slot} : ∀ (ps : List (List Nat)) (a k : Nat) (R : Row) (s4 s5 s6 s7 s8 : Slot), (∀ p ∈ ps, p.length ≤ 10000) → okR m 8 R → Box.cnts R = a → a ≤ 40 → Lst R k → npS2 s4 → npS2 s5 → npS2 s6 → npS2 s7 → npS2 s8 →
    (scan m a k ps = 0 → wp (loopL (fun x => asgTg (.tup [.nm 4, .nm 5]) x >>= fun _ => evSs (mkG fs_read_nesting cs_read_nesting) rdBody) (enumD a (ps.map lineD))) (rdEnv m t R ls s4 s5 s6 s7 s8) fun f ρ' => f = .nx ∧ ∃ R' s4 s5 s6 s7 s8, ρ' = rdEnv m t R' ls s4 s5 s6 s7 s8 ∧ okR m 8 R' ∧ Box.cnts R' ≤ 40 ∧ Box.lnss 0 R' = Box.lnss 0 R ++ ps) ∧
    (scan m a k ps ≠ 0 → er (loopL (fun x => asgTg (.tup [.nm 4, .nm 5]) x >>= fun _ => evSs (mkG fs_read_nesting cs_read_nesting) rdBody) (enumD a (ps.map lineD))) (rdEnv m t R ls s4 s5 s6 s7 s8) fun e ρ' => e = eText (scan m a k ps : Nat) ∧ outsAt [false, false] ρ' = some [.non, .non])
  | [], a, k, R, s4, s5, s6, s7, s8, hp, hR, hc, ha, hL, h4, h5, h6, h7, h8 => by
    refine ⟨fun _ => ?_, fun h => absurd rfl h⟩
    show wp (loopL _ []) _ _
    rw [wp_loopN]
    exact ⟨rfl, R, s4, s5, s6, s7, s8, rfl, hR, by omega, by simp⟩
  | p :: ps, a, k, R, s4, s5, s6, s7, s8, hp, hR, hc, ha, hL, h4, h5, h6, h7, h8 => by
    have hpl := hp p (by simp)
    have hd9 : ∀ d s, parse m p = some (d, s) → ∀ R', putI s d R = some R' → okD m 9 R' := fun d s h R' h2 => by
      obtain ⟨_, h0, h1, _⟩ := parse_some h
      have := putI_deep h2 (okR_deps hR)
      exact okD_putI ⟨h0, h1⟩ h2 (by omega) (okD_mono (by omega) (okR_okD hR))
    have bad : (∀ d s, parse m p = some (d, s) → ¬ (d ≤ k ∧ d ≤ 7 ∧ a ≤ 39)) → er (asgTg (.tup [.nm 4, .nm 5]) (.tup [.int a, .str (mkS p)]) >>= fun _ => evSs (mkG fs_read_nesting cs_read_nesting) rdBody) (rdEnv m t R ls s4 s5 s6 s7 s8) fun e ρ' => e = eText ((a : Int) + 1) ∧ outsAt [false, false] ρ' = some [.non, .non] := fun hb => by
      refine rd_err hm hpl hR (by omega) (fun d s h R' h2 ⟨g1, g2⟩ => hb d s h ⟨?_, ?_, ?_⟩) hd9 h4 h5 h6 h7 h8
      · have := hL s d
        rw [h2] at this
        exact of_decide_eq_true this.symm
      · have := deep_putI h2 (okR_okD g1)
        omega
      · have := cnts_putI h2
        omega
    have hsc : scan m a k (p :: ps) = match parse m p with
      | none => a + 1
      | some (d, _) => if d ≤ k ∧ d ≤ 7 ∧ a ≤ 39 then scan m (a + 1) (d + 1) ps else a + 1 := rfl
    have he : enumD a ((p :: ps).map lineD) = .tup [.int a, .str (mkS p)] :: enumD (a + 1) (ps.map lineD) := rfl
    have hl : ∀ x xs, loopL (fun x => asgTg (.tup [.nm 4, .nm 5]) x >>= fun _ => evSs (mkG fs_read_nesting cs_read_nesting) rdBody) (x :: xs) = (asgTg (.tup [.nm 4, .nm 5]) x >>= fun _ => evSs (mkG fs_read_nesting cs_read_nesting) rdBody) >>= fun f => match f with
      | .nx => loopL (fun x => asgTg (.tup [.nm 4, .nm 5]) x >>= fun _ => evSs (mkG fs_read_nesting cs_read_nesting) rdBody) xs
      | .rt v => pure (.rt v) := fun x xs => rfl
    rw [he, hl]
    cases q : parse m p with
    | none =>
      rw [q] at hsc
      simp only at hsc
      rw [hsc]
      refine ⟨fun z => by omega, fun _ => ?_⟩
      have := bad fun d s h => by rw [q] at h; cases h
      exact er_bind1 this
    | some x =>
      obtain ⟨d, s⟩ := x
      rw [q] at hsc
      simp only at hsc
      by_cases hb : d ≤ k ∧ d ≤ 7 ∧ a ≤ 39
      · rw [if_pos hb] at hsc
        rw [hsc]
        obtain ⟨_, s0, s1, _⟩ := parse_some q
        have hsome := hL s d
        rw [decide_eq_true hb.1] at hsome
        obtain ⟨R', hR'⟩ := Option.isSome_iff_exists.mp hsome
        have c' := cnts_putI hR'
        have hRD := okD_putI ⟨s0, s1⟩ hR' (by omega) (okR_okD hR)
        have hRk : okR m 8 R' := okR_of hRD (by omega)
        obtain ⟨pd, _, _, _⟩ := parse_some q
        have hln := lnss_put (dp := 0) hR'
        rw [Nat.zero_add, ← pd] at hln
        have ih := read_loop hm (t := t) (ls := ls) ps (a + 1) (d + 1) R' (some (.shr, .int a)) (some (.shr, .str (mkS p))) (some (.shr, .int ((p.length : Int) - 1))) (some (.shr, numOf (p.drop (p.length - 1)))) (some (.shr, encR R')) (fun x hx => hp x (by simp [hx])) hRk (by omega) (by omega) (lst_put hR') (np2_s _) (np2_s _) (np2_s _) (np2_s _) (np2_s _)
        refine ⟨fun z => ?_, fun z => ?_⟩
        · rw [wp_bind]
          refine rd_ok hm hpl q hR' hR (by omega) ⟨hRk, by omega⟩ h4 h5 h6 h7 h8 ?_
          refine (ih.1 z).mono fun f ρ' ⟨h1, R2, b4, b5, b6, b7, b8, h2, h3, h4, h5⟩ => ⟨h1, R2, b4, b5, b6, b7, b8, h2, h3, h4, ?_⟩
          rw [h5, hln, List.append_assoc]
          rfl
        · refine er_bind ?_
          refine rd_ok hm hpl q hR' hR (by omega) ⟨hRk, by omega⟩ h4 h5 h6 h7 h8 ?_
          exact ih.2 z
      · rw [if_neg hb] at hsc
        rw [hsc]
        refine ⟨fun z => by omega, fun _ => ?_⟩
        have := bad fun d' s' h => by
          rw [q] at h
          cases h
          exact hb
        exact er_bind1 this
def linesOf (t : List Nat) : List (List Nat) := if t = [] then [] else splitL 10 t
theorem lines_len (t : List Nat) (h : t.length ≤ 10000) : ∀ p ∈ linesOf t, p.length ≤ 10000 := by
  intro p hp
  unfold linesOf at hp
  split at hp
  · cases hp
  · have := split_sum 10 t
    have h2 : p.length ≤ ((splitL 10 t).map List.length).sum := by
      have : ∀ (l : List (List Nat)), p ∈ l → p.length ≤ (l.map List.length).sum := fun l => by
        induction l with
        | nil => intro h; cases h
        | cons x l ih =>
          intro h
          rw [List.map_cons, List.sum_cons]
          rcases List.mem_cons.mp h with rfl | h
          · omega
          · have := ih h; omega
      exact this _ hp
    have h3 : 0 < (splitL 10 t).length := List.length_pos_iff.mpr (splitL_ne 10 t)
    omega
theorem E_read_text {m : Int} (hm : m = 2 ∨ m = 3) (t : List Nat) (ht : t.length ≤ 10000) :
    (scan m 0 0 (linesOf t) = 0 → ∃ R, F_read_nesting [.int m, .str (mkS t)] = .ok (sh (encR R)) [.non, .non] ∧ okR m 8 R ∧ Box.cnts R ≤ 40 ∧ Box.lnss 0 R = linesOf t) ∧
    (scan m 0 0 (linesOf t) ≠ 0 → F_read_nesting [.int m, .str (mkS t)] = .err (eText (scan m 0 0 (linesOf t) : Nat)) [.non, .non]) := by
  have nm : F_need_many [.int m] = .ok (sh .non) [.non] := by rcases hm with rfl | rfl <;> exact sameB_eq (by decide +kernel)
  have loop := @read_loop m hm (.str (mkS t)) (some (.shr, .lst ((linesOf t).map lineD))) (linesOf t) 0 0 [] none none none none none (lines_len t ht) (show okR m 8 [] from ⟨by simp, by simp⟩) rfl (by omega) lst_nil np2_n np2_n np2_n np2_n np2_n
  have g0 : (fs_read_nesting[0]?.getD fun x => RF.bad) = F_need_many := rfl
  have e0 : encR [] = .tup [] := rfl
  have hb : s_read_nesting = s_read_nesting.take 4 ++ [.forIn (.tup [.nm 4, .nm 5]) 3 (.var 3) none rdBody, .ret (.var 2)] := rfl
  have q1 := ne_mk t []
  rw [← s_empty] at q1
  have q2 := splitD_mk 10 (l := t) (by omega)
  rw [← s_nl] at q2
  have hl0 : t = [] → linesOf t = [] := fun h => by unfold linesOf; rw [if_pos h]
  have hl1 : t ≠ [] → (splitL 10 t).map (fun p => D.str (mkS p)) = (linesOf t).map lineD := fun h => by unfold linesOf; rw [if_neg h]; rfl
  constructor
  · intro h
    have l1 := loop.1 h
    have key : okF F_read_nesting [.int m, .str (mkS t)] fun v o => ∃ R, v = sh (encR R) ∧ o = [.non, .non] ∧ okR m 8 R ∧ Box.cnts R ≤ 40 ∧ Box.lnss 0 R = linesOf t := by
      refine okF_sem rfl ?_
      have tail : wp (evSs (mkG fs_read_nesting cs_read_nesting) [.forIn (.tup [.nm 4, .nm 5]) 3 (.var 3) none rdBody, .ret (.var 2)]) [some (.shr, .int m), some (.shr, .str (mkS t)), some (.shr, .tup []), some (.own, .lst ((linesOf t).map lineD)), none, none, none, none, none] fun f ρ => match outsAt [false, false] ρ with
          | some outs => ∃ R, (match f with
            | Fl.rt v => v
            | Fl.nx => sh .non) = sh (encR R) ∧ outs = [.non, .non] ∧ okR m 8 R ∧ Box.cnts R ≤ 40 ∧ Box.lnss 0 R = linesOf t
          | none => False := by
        generalize rdBody = B at l1
        simp
        refine l1.mono fun f ρ' ⟨hf, R, b4, b5, b6, b7, b8, hρ, h1, h2, h3⟩ => ?_
        subst hf
        subst hρ
        simp [rdEnv]
        exact ⟨R, rfl, h1, h2, by simpa [Box.lnss] using h3⟩
      rw [hb]
      generalize [S.forIn (.tup [.nm 4, .nm 5]) 3 (.var 3) none rdBody, .ret (.var 2)] = B at tail
      by_cases ht0 : t = []
      · subst ht0
        rw [hl0 rfl] at tail ⊢
        simp [s_read_nesting, N_read_nesting, g0, okF_ok nm]
        rw [if_pos s_empty.symm]
        exact tail
      · simp [s_read_nesting, N_read_nesting, g0, okF_ok nm, q1, ht0, q2]
        rw [hl1 ht0]
        exact tail
    obtain ⟨v, o, e, R, h1, h2, h3⟩ := okF_eq key
    exact ⟨R, by rw [e, h1, h2], h3⟩
  · intro h
    have l1 := loop.2 h
    refine err_sem rfl ?_
    have tail : er (evSs (mkG fs_read_nesting cs_read_nesting) [.forIn (.tup [.nm 4, .nm 5]) 3 (.var 3) none rdBody, .ret (.var 2)]) [some (.shr, .int m), some (.shr, .str (mkS t)), some (.shr, .tup []), some (.own, .lst ((linesOf t).map lineD)), none, none, none, none, none] fun e ρ' => e = eText (scan m 0 0 (linesOf t) : Nat) ∧ outsAt [false, false] ρ' = some [.non, .non] := by
      generalize rdBody = B at l1
      refine er_here ?_
      rw [evS_q6]
      refine er_bind ?_
      unfold evSrc
      generalize (loopL (fun x => asgTg (.tup [.nm 4, .nm 5]) x >>= fun _ => evSs (mkG fs_read_nesting cs_read_nesting) B)) = L at l1
      simp
      exact l1
    rw [hb]
    obtain ⟨B, hB⟩ : ∃ B : List S, B = [S.forIn (.tup [.nm 4, .nm 5]) 3 (.var 3) none rdBody, .ret (.var 2)] := ⟨_, rfl⟩
    rw [← hB] at tail ⊢
    clear hB hb
    show er (evSs (mkG fs_read_nesting cs_read_nesting) (.ex (.call 0 [.var 0]) :: .ife (.not (.isi .str (.var 1))) [.raise "InvalidText" (some ("line", .int 0))] [] :: .asg 2 (.tup []) :: .asg 3 (.ite (.cmp .ne (.var 1) (.str "")) (.split (.var 1) (.str "\n")) (.lst [])) :: B)) [some (.shr, .int m), some (.shr, .str (mkS t)), none, none, none, none, none, none, none] _
    generalize (fun (e : Ex) ρ' => e = eText (scan m 0 0 (linesOf t) : Nat) ∧ outsAt [false, false] ρ' = some [.non, .non]) = Q at tail ⊢
    have w4 : wp (evSs (mkG fs_read_nesting cs_read_nesting) [.ex (.call 0 [.var 0]), .ife (.not (.isi .str (.var 1))) [.raise "InvalidText" (some ("line", .int 0))] [], .asg 2 (.tup []), .asg 3 (.ite (.cmp .ne (.var 1) (.str "")) (.split (.var 1) (.str "\n")) (.lst []))]) [some (.shr, .int m), some (.shr, .str (mkS t)), none, none, none, none, none, none, none] fun f ρ' => f = .nx ∧ ρ' = [some (.shr, .int m), some (.shr, .str (mkS t)), some (.shr, .tup []), some (.own, .lst ((linesOf t).map lineD)), none, none, none, none, none] := by
      by_cases ht0 : t = []
      · subst ht0
        rw [hl0 rfl]
        simp [g0, okF_ok nm]
        exact fun z => absurd s_empty.symm z
      · simp [g0, okF_ok nm, q1, ht0, q2]
        exact hl1 ht0
    exact er_app w4 tail
end KT
/-! _law_wrong, _law_tried, nesting_text -/
namespace KT
open PL
open PySem (Str)
def wrBody : List S := match s__law_wrong.drop 1 with
  | .forIn _ _ _ _ b :: _ => b
  | _ => []
def wrEnv (m : Int) (t : D) (k : Nat) (ls s4 s5 s6 : Slot) : Env := [some (.shr, .int m), some (.shr, t), some (.shr, .int ((k : Int) - 1)), ls, s4, s5, s6]
theorem figs3 {m : Int} (hm : m = 2 ∨ m = 3) (c : Nat) : memv (.str (mkS [c])) (.lst (cut [.str (Str.ofString "0"), .str (Str.ofString "1"), .str (Str.ofString "2")] none (some m))) = some (decide (48 ≤ c ∧ (c : Int) < 48 + m)) := by
  have e0 : Str.ofString "0" = mkS [48] := by decide +kernel
  have e1 : Str.ofString "1" = mkS [49] := by decide +kernel
  have e2 : Str.ofString "2" = mkS [50] := by decide +kernel
  have key : ∀ a : Nat, (mkS [a] == mkS [c]) = decide (a = c) := fun a => by
    rw [Bool.eq_iff_iff]
    simp
    exact ⟨fun h => by have := mkS_inj h; simpa using this, fun h => by rw [h]⟩
  rcases hm with rfl | rfl
  · have hc : cut [D.str (Str.ofString "0"), .str (Str.ofString "1"), .str (Str.ofString "2")] none (some 2) = [.str (Str.ofString "0"), .str (Str.ofString "1")] := rfl
    rw [hc, e0, e1]
    simp [isScal, D.eqv, key]
    rw [Bool.eq_iff_iff]
    simp
    omega
  · have hc : cut [D.str (Str.ofString "0"), .str (Str.ofString "1"), .str (Str.ofString "2")] none (some 3) = [.str (Str.ofString "0"), .str (Str.ofString "1"), .str (Str.ofString "2")] := rfl
    rw [hc, e0, e1, e2]
    simp [isScal, D.eqv, key]
    rw [Bool.eq_iff_iff]
    simp
    omega
theorem wr_turn {m : Int} (hm : m = 2 ∨ m = 3) {t : D} {ls s4 s5 s6 : Slot} {p : List Nat} (hp : p.length ≤ 10000) (a k : Nat) (h4 : npS2 s4) (h5 : npS2 s5) (h6 : npS2 s6) {P : Fl → Env → Prop}
    (bad : (∀ d s, parse m p = some (d, s) → ¬ (d ≤ k ∧ d ≤ 7 ∧ a ≤ 39)) → ∀ ρ', outsAt [false, false] ρ' = some [.non, .non] → P (.rt (sh (.int ((a : Int) + 1)))) ρ')
    (good : ∀ d s, parse m p = some (d, s) → d ≤ k ∧ d ≤ 7 ∧ a ≤ 39 → P .nx (wrEnv m t (d + 1) ls (some (.shr, .int a)) (some (.shr, .str (mkS p))) (some (.shr, .int (d : Nat))))) :
    wp (asgTg (.tup [.nm 4, .nm 5]) (.tup [.int a, .str (mkS p)]) >>= fun _ => evSs (mkG fs__law_wrong cs__law_wrong) wrBody) (wrEnv m t k ls s4 s5 s6) P := by
  have q0 : lenv (.str (mkS p)) = some ((p.length : Nat) : Int) := by
    show (if (mkS p).length ≤ szL then some ((mkS p).length : Int) else none) = _
    rw [mkS_len, if_pos (Nat.le_trans (by omega : p.length ≤ 1000000) (by decide))]
  have q1 := mul_mk 46 (k := (p.length : Int) - 1) (by omega)
  rw [← s_dot, show ((p.length : Int) - 1).toNat = p.length - 1 by omega] at q1
  have q2 := cut_mk (l := p) (by omega) none (some (-1))
  rw [cut_m1] at q2
  have q3 := ne_mk p.dropLast (List.replicate (p.length - 1) 46)
  have q4 := item_last (l := p) (by omega)
  unfold npS2 at h4 h5 h6
  by_cases hpn : p = []
  · subst hpn
    have hb : parse m [] = none := rfl
    have eqe : (mkS [] = Str.ofString "") = True := eq_true s_empty.symm
    simp [-x_len_s, -x_muls, wrBody, s__law_wrong, wrEnv, h4, h5, h6, q0, eqe]
    exact bad (fun d s h => by rw [hb] at h; cases h) _ rfl
  · have eqe : (mkS p = Str.ofString "") = False := eq_false fun z => hpn (mkS_inj (z.trans s_empty))
    obtain ⟨c, hc⟩ : ∃ c, p.getLast? = some c := ⟨p.getLast hpn, List.getLast?_eq_some_getLast hpn⟩
    rw [hc] at q4
    have q5 := figs3 hm c
    have hpar : parse m p = if p.dropLast = List.replicate (p.length - 1) 46 ∧ 48 ≤ c ∧ (c : Int) < 48 + m then some (p.length - 1, (c : Int) - 48) else none := by
      unfold parse
      rw [hc]
    have hlen : 0 < p.length := List.length_pos_iff.mpr hpn
    simp only [Option.map_some] at q4
    generalize hW : cut [D.str (Str.ofString "0"), .str (Str.ofString "1"), .str (Str.ofString "2")] none (some m) = W at q5
    by_cases hd : p.dropLast = List.replicate (p.length - 1) 46
    · by_cases hcm : 48 ≤ c ∧ (c : Int) < 48 + m
      · rw [if_pos ⟨hd, hcm⟩] at hpar
        rw [decide_eq_true hcm] at q5
        by_cases hk : p.length - 1 ≤ k ∧ p.length - 1 ≤ 7 ∧ a ≤ 39
        · have g := good _ _ hpar hk
          have h1 : ¬ ((k : Int) - 1 + 1 < (p.length : Int) - 1) := by omega
          have h2 : ¬ (7 < (p.length : Int) - 1) := by omega
          have h3 : ¬ (39 < (a : Int)) := by omega
          have e : ((p.length - 1 : Nat) : Int) = (p.length : Int) - 1 := by omega
          unfold wrEnv at g
          rw [show (((p.length - 1 + 1 : Nat) : Int) - 1) = (p.length : Int) - 1 by omega, e] at g
          simp [-x_len_s, -x_muls, -x_mem_l, wrBody, s__law_wrong, wrEnv, h4, h5, h6, q0, eqe, q1, q2, q3, hd, q4, hW, q5, h2, h3]
          rw [if_neg (by omega)]
          exact g
        · have b := bad fun d s h => by
            rw [hpar] at h
            cases h
            exact hk
          simp [-x_len_s, -x_muls, -x_mem_l, wrBody, s__law_wrong, wrEnv, h4, h5, h6, q0, eqe, q1, q2, q3, hd, q4, hW, q5]
          (repeat' split)
          · exact b _ rfl
          · exact b _ rfl
          · exact b _ rfl
          · exact absurd ⟨by omega, by omega, by omega⟩ hk
      · rw [if_neg (fun z => hcm z.2)] at hpar
        rw [decide_eq_false hcm] at q5
        simp [-x_len_s, -x_muls, -x_mem_l, wrBody, s__law_wrong, wrEnv, h4, h5, h6, q0, eqe, q1, q2, q3, hd, q4, hW, q5]
        exact bad (fun d s h => by rw [hpar] at h; cases h) _ rfl
    · rw [if_neg (fun z => hd z.1)] at hpar
      simp [-x_len_s, -x_muls, -x_mem_l, wrBody, s__law_wrong, wrEnv, h4, h5, h6, q0, eqe, q1, q2, q3, hd]
      exact bad (fun d s h => by rw [hpar] at h; cases h) _ rfl
theorem wrong_loop {m : Int} (hm : m = 2 ∨ m = 3) {t : D} {ls : Slot} {P : Vl → List D → Prop} : ∀ (ps : List (List Nat)) (a k : Nat) (s4 s5 s6 : Slot), (∀ p ∈ ps, p.length ≤ 10000) → npS2 s4 → npS2 s5 → npS2 s6 → P (sh (.int (scan m a k ps : Nat))) [.non, .non] →
    wp (loopL (fun x => asgTg (.tup [.nm 4, .nm 5]) x >>= fun _ => evSs (mkG fs__law_wrong cs__law_wrong) wrBody) (enumD a (ps.map lineD))) (wrEnv m t k ls s4 s5 s6) fun f ρ' => match f with
      | .nx => P (sh (.int 0)) [.non, .non] ∧ outsAt [false, false] ρ' = some [.non, .non]
      | .rt v => P v [.non, .non] ∧ outsAt [false, false] ρ' = some [.non, .non]
  | [], a, k, s4, s5, s6, hp, h4, h5, h6, hP => by
    show wp (loopL _ []) _ _
    rw [wp_loopN]
    exact ⟨hP, rfl⟩
  | p :: ps, a, k, s4, s5, s6, hp, h4, h5, h6, hP => by
    have hsc : scan m a k (p :: ps) = match parse m p with
      | none => a + 1
      | some (d, _) => if d ≤ k ∧ d ≤ 7 ∧ a ≤ 39 then scan m (a + 1) (d + 1) ps else a + 1 := rfl
    have he : enumD a ((p :: ps).map lineD) = .tup [.int a, .str (mkS p)] :: enumD (a + 1) (ps.map lineD) := rfl
    rw [he, wp_loopC]
    refine wr_turn hm (hp p (by simp)) a k h4 h5 h6 (fun hb ρ' ho => ?_) (fun d s q hk => ?_)
    · have e : scan m a k (p :: ps) = a + 1 := by
        rw [hsc]
        cases q : parse m p with
        | none => rfl
        | some x =>
          obtain ⟨d, s⟩ := x
          simp only
          rw [if_neg (hb d s q)]
      rw [e] at hP
      exact ⟨by simpa using hP, ho⟩
    · rw [hsc, q] at hP
      simp only at hP
      rw [if_pos hk] at hP
      exact wrong_loop hm ps (a + 1) (d + 1) _ _ _ (fun x hx => hp x (by simp [hx])) (np2_s _) (np2_s _) (np2_s _) hP
theorem E_wrong {m : Int} (hm : m = 2 ∨ m = 3) (t : List Nat) (ht : t.length ≤ 10000) : F__law_wrong [.int m, .str (mkS t)] = .ok (sh (.int (scan m 0 0 (linesOf t) : Nat))) [.non, .non] := by
  refine okF_iff fun P hP => okF_sem rfl ?_
  have q1 := ne_mk t []
  rw [← s_empty] at q1
  have q2 := splitD_mk 10 (l := t) (by omega)
  rw [← s_nl] at q2
  have hl0 : t = [] → linesOf t = [] := fun h => by unfold linesOf; rw [if_pos h]
  have hl1 : t ≠ [] → (splitL 10 t).map (fun p => D.str (mkS p)) = (linesOf t).map lineD := fun h => by unfold linesOf; rw [if_neg h]; rfl
  have hb : s__law_wrong = s__law_wrong.take 1 ++ [.forIn (.tup [.nm 4, .nm 5]) 3 (.var 3) none wrBody, .ret (.int 0)] := rfl
  have tail : wp (evSs (mkG fs__law_wrong cs__law_wrong) [.forIn (.tup [.nm 4, .nm 5]) 3 (.var 3) none wrBody, .ret (.int 0)]) [some (.shr, .int m), some (.shr, .str (mkS t)), some (.shr, .int (-1)), some (.own, .lst ((linesOf t).map lineD)), none, none, none] fun f ρ => match outsAt [false, false] ρ with
      | some outs => P (match f with
        | Fl.rt v => v
        | Fl.nx => sh .non) outs
      | none => False := by
    have l1 := @wrong_loop m hm (.str (mkS t)) (some (.shr, .lst ((linesOf t).map lineD))) P (linesOf t) 0 0 none none none (lines_len t ht) np2_n np2_n np2_n hP
    have e : wrEnv m (.str (mkS t)) 0 (some (.shr, .lst ((linesOf t).map lineD))) none none none = [some (.shr, .int m), some (.shr, .str (mkS t)), some (.shr, .int (-1)), some (.shr, .lst ((linesOf t).map lineD)), none, none, none] := rfl
    rw [e] at l1
    generalize wrBody = B at l1
    simp
    refine l1.mono fun f ρ' h => ?_
    cases f with
    | nx => simp [h.2]; exact h.1
    | rt v => simp [h.2]; exact h.1
  rw [hb]
  generalize [S.forIn (.tup [.nm 4, .nm 5]) 3 (.var 3) none wrBody, .ret (.int 0)] = B at tail
  by_cases ht0 : t = []
  · subst ht0
    rw [hl0 rfl] at tail
    simp [s__law_wrong, N__law_wrong]
    rw [if_pos s_empty.symm]
    first
      | exact tail
      | (simp; exact tail)
  · simp [s__law_wrong, N__law_wrong, q1, ht0, q2]
    rw [hl1 ht0]
    exact tail
/-! _law_tried -/
theorem E_tried_ok {m v x : D} (h : F_read_nesting [m, v] = .ok (sh x) [.non, .non]) : F__law_tried [m, v] = .ok (sh (.tup [.str (Str.ofString "read"), x])) [.non, .non] := by
  refine okF_iff fun P hP => okF_sem rfl ?_
  have g0 : (fs__law_tried[0]?.getD fun x => RF.bad) = F_read_nesting := rfl
  simp [s__law_tried, N__law_tried]
  refine wp_try_ok ?_
  simp [g0]
  rw [okF_ok h]
  simp
  exact hP
theorem E_tried_err {m v : D} {n : Int} (h : F_read_nesting [m, v] = .err (eText n) [.non, .non]) : F__law_tried [m, v] = .ok (sh (.tup [.str (Str.ofString "line"), .int n])) [.non, .non] := by
  refine okF_iff fun P hP => okF_sem rfl ?_
  have g0 : (fs__law_tried[0]?.getD fun x => RF.bad) = F_read_nesting := rfl
  simp [s__law_tried, N__law_tried]
  refine wp_try ?_
  refine er_bind1 ?_
  refine er_bind1 ?_
  refine er_bind1 ?_
  refine er_bind ?_
  simp
  refine er_bind1 ?_
  refine er_bind1 ?_
  refine er_bind ?_
  simp
  rw [g0]
  refine er_call (e := eText n) rfl h rfl ?_
  simp [eText, asSuite]
  exact hP
/-! nesting_text -/
def textR (r : Row) : List Nat := joinS 10 (Box.lnss 0 r)
theorem lines_short {m : Int} : ∀ {n dp : Nat} {r : Row}, okD m n r → ∀ p ∈ Box.lnss dp r, p.length ≤ dp + n
  | 0, dp, r, h, p, hp => by
    cases (show r = [] from h)
    cases hp
  | n + 1, dp, [], h, p, hp => by cases hp
  | n + 1, dp, b :: r, h, p, hp => by
    rw [Box.lnss, lns_box] at hp
    simp at hp
    rcases hp with rfl | hp | hp
    · rw [dot_len]; omega
    · have := lines_short (h b (by simp)).2 p hp
      omega
    · have hr : okD m (n + 1) r := fun x hx => h x (by simp [hx])
      exact lines_short hr p hp
theorem sum_le {l : List (List Nat)} {k : Nat} (h : ∀ p ∈ l, p.length ≤ k) : (l.map List.length).sum ≤ k * l.length := by
  induction l with
  | nil => simp
  | cons x l ih =>
    have h1 := h x (by simp)
    have h2 := ih fun p hp => h p (by simp [hp])
    simp only [List.map_cons, List.sum_cons, List.length_cons, Nat.mul_add]
    omega
theorem text_len {m : Int} {r : Row} (h : okR m 8 r) (hc : Box.cnts r ≤ 40) : ((Box.lnss 0 r).map List.length).sum + (Box.lnss 0 r).length ≤ 400 := by
  have h1 := sum_le (lines_short (dp := 0) (okR_okD h))
  rw [lnss_len] at h1 ⊢
  have : (0 + 8) * Box.cnts r ≤ 8 * 40 := Nat.mul_le_mul_left _ hc
  omega
theorem E_nesting_text {m : Int} (hm : m = 2 ∨ m = 3) {r : Row} (h : okR m 8 r) (hc : Box.cnts r ≤ 40) : F_nesting_text [.int m, encR r] = .ok (sh (.str (mkS (textR r)))) [.non, .non] := by
  refine okF_iff fun P hP => okF_sem rfl ?_
  have nm : F_need_many [.int m] = .ok (sh .non) [.non] := by rcases hm with rfl | rfl <;> exact sameB_eq (by decide +kernel)
  have f : Fine 50 (encR r) := (fine_row (okR_okD h) (by omega)).mono (by decide)
  have e : isNst m (encR r) = true := isNst_of ⟨rfl, h, hc⟩
  have nn : F_need_nesting [.int m, encR r] = .ok (sh .non) [.non, .non] := by
    refine okF_iff fun P hP => okF_sem rfl ?_
    simp [s_need_nesting, N_need_nesting, fs_need_nesting, o_has_nesting m (encR r) f, e]
    exact hP
  have nl : F_nesting_lines [encR r, .int (0 : Nat)] = _ := E_nesting_lines (m := m) (by omega) 8 55 r 0 (okR_okD h) (by omega) (by omega)
  have j := joinD_mk 10 (Box.lnss 0 r) (by have := text_len h hc; omega)
  rw [← s_nl] at j
  generalize encR r = re at nn nl ⊢
  have nl' : F_nesting_lines [re, .int 0] = .ok (sh (encLn (Box.lnss 0 r))) [.non, .non] := nl
  have j' : joinD (Str.ofString "\n") (encLn (Box.lnss 0 r)) = some (sh (.str (mkS (textR r)))) := j
  generalize encLn (Box.lnss 0 r) = L at nl' j'
  simp [s_nesting_text, N_nesting_text, fs_nesting_text, okF_ok nm, okF_ok nn, okF_ok nl', j']
  exact hP
theorem own_lines {m : Int} {r : Row} (h : okR m 8 r) : linesOf (textR r) = Box.lnss 0 r := by
  unfold linesOf textR
  by_cases hr : Box.lnss 0 r = []
  · rw [hr]; rfl
  · have hfree : ∀ p ∈ Box.lnss 0 r, 10 ∉ p := by
      have key : ∀ (n dp : Nat) (r : Row), okD m n r → ∀ p ∈ Box.lnss dp r, 10 ∉ p := by
        intro n
        induction n with
        | zero => intro dp r h p hp; cases (show r = [] from h); cases hp
        | succ n ih =>
          intro dp r
          induction r with
          | nil => intro h p hp; cases hp
          | cons b r ihr =>
            intro h p hp
            rw [Box.lnss, lns_box] at hp
            simp at hp
            rcases hp with rfl | hp | hp
            · simp [dot, List.mem_replicate]
              omega
            · exact ih _ _ (h b (by simp)).2 p hp
            · exact ihr (fun x hx => h x (by simp [hx])) p hp
      exact key 8 0 r (okR_okD h)
    have hj := split_join hr hfree
    have hne : joinS 10 (Box.lnss 0 r) ≠ [] := by
      intro z
      rw [z] at hj
      have h1 : Box.lnss 0 r = [[]] := hj.symm
      cases r with
      | nil => exact hr rfl
      | cons b r =>
        rw [Box.lnss, lns_box] at h1
        simp [dot] at h1
    rw [if_neg hne, hj]
end KT
/-! a text with a place of it otherwise -/
namespace KT
open PL
open PySem (Str)
def sg14 : List D := [.str ".", .str "0", .str "1", .str "2", .str "", .str "\n", .str ".0", .str "\n.1", .str " ", .str "\n..1", .str "\n0"]
def sgOk (k : Nat) (x : D) : Bool := match x with
  | .str s => decide (s.length ≤ k)
  | _ => false
theorem sg14_ok : sg14.all (sgOk 4) = true := by decide +kernel
theorem sg_at {k : Nat} {l : List D} (h : l.all (sgOk k) = true) {x : D} (hx : x ∈ l) : ∃ s, x = .str (mkS s) ∧ s.length ≤ k := by
  have := List.all_eq_true.mp h x hx
  unfold sgOk at this
  split at this
  · rename_i s
    refine ⟨s.cps.toList, by rw [mkS_of], ?_⟩
    have h2 := of_decide_eq_true this
    rw [← mkS_of s, mkS_len] at h2
    exact h2
  · cases this
/-- the pieces of a text, otherwise put together -/
theorem cut_sum (l : List (List Nat)) (i : Nat) : ((l.take i).map List.length).sum ≤ (l.map List.length).sum ∧ ((l.drop i).map List.length).sum ≤ (l.map List.length).sum := by
  have h := List.take_append_drop i l
  have e : (l.map List.length).sum = ((l.take i).map List.length).sum + ((l.drop i).map List.length).sum := by
    conv => lhs; rw [← h]
    rw [List.map_append, List.sum_append]
  omega
theorem join_two {A B : List (List Nat)} {n : Nat} (h : ((A ++ B).map List.length).sum + (A ++ B).length ≤ n) (hn : n ≤ 1000000) : joinD (Str.ofString "\n") (.lst ((A.map fun p => D.str (mkS p)) ++ B.map fun p => D.str (mkS p))) = some (sh (.str (mkS (joinS 10 (A ++ B))))) ∧ (joinS 10 (A ++ B)).length ≤ n := by
  have j := joinD_mk 10 (A ++ B) (by omega)
  rw [← s_nl, List.map_append] at j
  exact ⟨j, Nat.le_trans (join_len 10 _) h⟩
theorem bent_tail {s : D} (hs : Src s) {t : List Nat} (ht : t.length ≤ 9000) {s2 s3 : Slot} {P : Vl → List D → Prop}
    (hP : ∀ (t' : List Nat) (s' : D), t'.length ≤ 2 * t.length + 2 → Src s' → P (sh (.str (mkS t'))) [s', .non]) :
    wp (evSs (mkG fs__law_bent cs__law_bent) (s__law_bent.drop 3)) [some (.pin, s), some (.shr, .str (mkS t)), s2, s3, none, none, none] fun f ρ => match outsAt [true, false] ρ with
      | some outs => P (match f with
        | Fl.rt v => v
        | Fl.nx => sh .non) outs
      | none => False := by
  have q2 := splitD_mk 10 (l := t) (by omega)
  rw [← s_nl] at q2
  have hsum := split_sum 10 t
  have hne : 0 < (splitL 10 t).length := List.length_pos_iff.mpr (splitL_ne 10 t)
  generalize splitL 10 t = ls at q2 hsum hne
  simp [s__law_bent, q2, fs__law_bent]
  refine S_draw hs _ (by omega) (by omega) fun h s1 h0 h1 hs1 => ?_
  have c1 : ∀ i : Int, 0 ≤ i → cut (ls.map fun p => D.str (mkS p)) none (some i) = (ls.take i.toNat).map fun p => D.str (mkS p) := fun i hi => by rw [cut_takeI _ hi, List.map_take]
  have c2 : ∀ i : Int, 0 ≤ i → cut (ls.map fun p => D.str (mkS p)) (some i) none = (ls.drop i.toNat).map fun p => D.str (mkS p) := fun i hi => by rw [cut_dropI _ hi, List.map_drop]
  have e1 : (h + 1).toNat = h.toNat + 1 := by omega
  have sm := fun i j => (show (((ls.take i ++ ls.drop j).map List.length).sum ≤ 2 * (ls.map List.length).sum) from by
    rw [List.map_append, List.sum_append]
    have := (cut_sum ls i).1
    have := (cut_sum ls j).2
    omega)
  have sl := fun i j => (show (ls.take i ++ ls.drop j).length ≤ 2 * ls.length from by
    rw [List.length_append, List.length_take, List.length_drop]
    omega)
  obtain ⟨j1, b1⟩ := join_two (A := ls.take h.toNat) (B := ls.drop (h.toNat + 1)) (n := 2 * t.length + 2) (by have := sm h.toNat (h.toNat + 1); have := sl h.toNat (h.toNat + 1); omega) (by omega)
  obtain ⟨j2, b2⟩ := join_two (A := ls.take (h.toNat + 1)) (B := ls.drop h.toNat) (n := 2 * t.length + 2) (by have := sm (h.toNat + 1) h.toNat; have := sl (h.toNat + 1) h.toNat; omega) (by omega)
  have sm3 : (((ls.drop h.toNat ++ ls.take h.toNat).map List.length).sum ≤ 2 * (ls.map List.length).sum) := by
    rw [List.map_append, List.sum_append]
    have := (cut_sum ls h.toNat).1
    have := (cut_sum ls h.toNat).2
    omega
  have sl3 : (ls.drop h.toNat ++ ls.take h.toNat).length ≤ 2 * ls.length := by
    rw [List.length_append, List.length_take, List.length_drop]
    omega
  obtain ⟨j3, b3⟩ := join_two (A := ls.drop h.toNat) (B := ls.take h.toNat) (n := 2 * t.length + 2) (by omega) (by omega)
  have t1 := c1 h h0
  have t2 := c1 (h + 1) (by omega)
  have t3 := c2 h h0
  have t4 := c2 (h + 1) (by omega)
  rw [e1] at t2 t4
  have l1 : (ls.take h.toNat).length ≤ ls.length := by rw [List.length_take]; omega
  have l2 : (ls.take (h.toNat + 1)).length ≤ ls.length := by rw [List.length_take]; omega
  have l3 : (ls.drop h.toNat).length ≤ ls.length := by rw [List.length_drop]; omega
  have l4 : (ls.drop (h.toNat + 1)).length ≤ ls.length := by rw [List.length_drop]; omega
  generalize ls.take h.toNat = A1 at *
  generalize ls.take (h.toNat + 1) = A2 at *
  generalize ls.drop h.toNat = A3 at *
  generalize ls.drop (h.toNat + 1) = A4 at *
  generalize (ls.map fun p => D.str (mkS p)) = L at *
  have m1 : A1.length + A4.length ≤ 16777216 := by omega
  have m2 : A2.length + A3.length ≤ 16777216 := by omega
  have m3 : A3.length + A1.length ≤ 16777216 := by omega
  simp [t1, t2, t3, t4, m1, m2, m3, j1, j2, j3]
  refine S_choice hs1 _ (by simp) (by simp) fun x s2 hx hs2 => ?_
  have hx2 : ∃ t', x = .str (mkS t') ∧ t'.length ≤ 2 * t.length + 2 := by
    simp at hx
    rcases hx with rfl | rfl | rfl | rfl
    · exact ⟨t, rfl, by omega⟩
    · exact ⟨_, rfl, b1⟩
    · exact ⟨_, rfl, b2⟩
    · exact ⟨_, rfl, b3⟩
  obtain ⟨t', rfl, hl⟩ := hx2
  simp
  exact hP t' s2 hl hs2
theorem S_bent {s : D} (hs : Src s) {t : List Nat} (ht : t.length ≤ 4000) {P : Vl → List D → Prop}
    (hP : ∀ (t' : List Nat) (s' : D), t'.length ≤ 2 * t.length + 10 → Src s' → P (sh (.str (mkS t'))) [s', .non]) : okF F__law_bent [s, .str (mkS t)] P := by
  refine okF_sem rfl ?_
  have hS : s__law_bent = s__law_bent.take 3 ++ s__law_bent.drop 3 := rfl
  have tail := fun {s t} hs ht {s2 s3} hP => @bent_tail s hs t ht s2 s3 P hP
  have q0 : lenv (.str (mkS t)) = some ((t.length : Nat) : Int) := by
    show (if (mkS t).length ≤ szL then some ((mkS t).length : Int) else none) = _
    rw [mkS_len, if_pos (Nat.le_trans (by omega : t.length ≤ 1000000) (by decide))]
  rw [hS]
  generalize s__law_bent.drop 3 = B at tail
  have hsg : s__law_bent.take 3 = [.asg 2 (.lst [.str ".", .str "0", .str "1", .str "2", .str "", .str "\n", .str ".0", .str "\n.1", .str " ", .str "\n..1", .str "\n0"]), .asg 3 (.call 0 [.io 0, .bin .add (.b1 .len (.var 1)) (.int 1)]), .asg 1 (.bin .add (.bin .add (.cut (.var 1) none (some (.var 3))) (.call 1 [.io 0, .var 2])) (.cut (.var 1) (some (.bin .add (.var 3) (.call 0 [.io 0, .int 3]))) none))] := rfl
  rw [hsg]
  simp [-x_len_s, N__law_bent, fs__law_bent, q0]
  refine S_draw hs _ (by omega) (by omega) fun a s1 a0 a1 hs1 => ?_
  have c1 := cut_mk (l := t) (by omega) none (some a)
  rw [cut_takeI _ a0] at c1
  simp [c1]
  refine S_choice hs1 _ (by simp) (by simp) fun x s2 hx hs2 => ?_
  obtain ⟨g, rfl, hg⟩ := sg_at sg14_ok (show x ∈ sg14 from by simpa [sg14] using hx)
  have c2 := add_mk (a := t.take a.toNat) (b := g) (by rw [List.length_take]; omega)
  simp [-x_adds, c2]
  refine S_draw hs2 3 (by decide) (by decide) fun b s3 b0 b1 hs3 => ?_
  have c3 := cut_mk (l := t) (by omega) (some (a + b)) none
  rw [cut_dropI _ (by omega)] at c3
  have hl : (t.take a.toNat ++ g).length + (t.drop (a + b).toNat).length ≤ t.length + 4 := by
    rw [List.length_append, List.length_take, List.length_drop]
    omega
  have c4 := add_mk (a := t.take a.toNat ++ g) (b := t.drop (a + b).toNat) (by omega)
  simp [-x_adds, c3, c4]
  have hl2 : (t.take a.toNat ++ (g ++ t.drop (a + b).toNat)).length ≤ t.length + 4 := by
    rw [← List.append_assoc, List.length_append]
    exact hl
  exact tail hs3 (by omega) fun t' s' h1 h2 => hP t' s' (by omega) h2
end KT
/-! law k14: the written values -/
namespace KT
open PL
open PySem (Str)
def lawEnd : List S := s_law.drop 1
def endB (r : PL.R Fl) : Bool := match r with
  | .ok (.rt v) ρ => (v.own == false) && v.d.same (.bl true) && (match outsAt [false] ρ with
    | some [.non] => true
    | _ => false)
  | _ => false
theorem end_run0 (ns a1 a2 a3 a5 a6 a7 a8 a9 a10 : Slot) : endB (evSs (mkG fs_law cs_law) lawEnd [ns, a1, a2, a3, none, a5, a6, a7, a8, a9, a10, none, none, none, none]) = true := by kernel_rfl
theorem end_run1 (d : D) (ns a1 a2 a3 a5 a6 a7 a8 a9 a10 : Slot) : endB (evSs (mkG fs_law cs_law) lawEnd [ns, a1, a2, a3, some (.shr, d), a5, a6, a7, a8, a9, a10, none, none, none, none]) = true := by kernel_rfl
theorem endM_wp {M : M Fl} {ρ : Env} {P : Vl → Prop} (h : endB (M ρ) = true) (hP : P (sh (.bl true))) : wp M ρ fun f ρ => match outsAt [false] ρ with
    | some outs => P (match f with
      | .rt v => v
      | .nx => sh .non)
    | none => False := by
  unfold endB at h
  unfold wp
  split at h
  · rename_i v ρ' e
    rw [e]
    simp only [Bool.and_eq_true] at h
    obtain ⟨⟨h1, h2⟩, h3⟩ := h
    obtain ⟨vo, vd⟩ := v
    have h1' : vo = false := by simpa using h1
    subst h1'
    have h2' : vd = .bl true := same_eq h2
    subst h2'
    split at h3
    · rename_i q
      simp only [q]
      exact hP
    · cases h3
  · cases h
end KT
/-! law k14: the whole -/
namespace KT
open PL
open PySem (Str)
def lawIn : List S := match s_law with
  | .forIn _ _ _ _ body :: _ => body
  | _ => []
def bodyAt (n : Nat) : List S := match lawIn.drop n with
  | .forIn _ _ _ _ body :: _ => body
  | _ => []
def lawTurn : List S := bodyAt 5
def lawOdd : List S := bodyAt 6
def lawOdd2 : List S := bodyAt 7
def envK (ns k s m row t s6 s7 s8 s9 s10 : Slot) : Env := [ns, k, s, m, row, t, s6, s7, s8, s9, s10, none, none, none, none]
theorem join_lines (t : List Nat) : joinS 10 (linesOf t) = t := by
  unfold linesOf
  split
  · rename_i h; rw [h]; rfl
  · exact join_split 10 t
theorem E_ltext {m : Int} (hm : m = 2 ∨ m = 3) {r : Row} (h : okR m 8 r) (hc : Box.cnts r ≤ 40) : F__law_text_lines [encR r, .int 0] = .ok (ow (encLn (Box.lnss 0 r))) [.non, .non] ∧ joinD (Str.ofString "\n") (encLn (Box.lnss 0 r)) = some (sh (.str (mkS (textR r)))) := by
  refine ⟨E_text_lines (m := m) (by omega) 8 55 r 0 (okR_okD h) (by omega) (by omega), ?_⟩
  have j := joinD_mk 10 (Box.lnss 0 r) (by have := text_len h hc; omega)
  rw [← s_nl] at j
  exact j
theorem textR_len {m : Int} {r : Row} (h : okR m 8 r) (hc : Box.cnts r ≤ 40) : (textR r).length ≤ 400 := Nat.le_trans (join_len 10 _) (text_len h hc)
/-- what is tried -/
theorem tried {m : Int} (hm : m = 2 ∨ m = 3) (t : List Nat) (ht : t.length ≤ 10000) :
    (scan m 0 0 (linesOf t) = 0 → ∃ R, F__law_tried [.int m, .str (mkS t)] = .ok (sh (.tup [.str (Str.ofString "read"), encR R])) [.non, .non] ∧ okR m 8 R ∧ Box.cnts R ≤ 40 ∧ Box.lnss 0 R = linesOf t) ∧
    (scan m 0 0 (linesOf t) ≠ 0 → F__law_tried [.int m, .str (mkS t)] = .ok (sh (.tup [.str (Str.ofString "line"), .int (scan m 0 0 (linesOf t) : Nat)])) [.non, .non]) := by
  obtain ⟨h1, h2⟩ := E_read_text hm t ht
  refine ⟨fun h => ?_, fun h => E_tried_err (h2 h)⟩
  obtain ⟨R, e, h3⟩ := h1 h
  exact ⟨R, E_tried_ok e, h3⟩
theorem tried_own {m : Int} (hm : m = 2 ∨ m = 3) {r : Row} (h : okR m 8 r) (hc : Box.cnts r ≤ 40) : F__law_tried [.int m, .str (mkS (textR r))] = .ok (sh (.tup [.str (Str.ofString "read"), encR r])) [.non, .non] := by
  have hl := own_lines h
  obtain ⟨R, e, h1, h2, h3⟩ := (tried hm (textR r) (by have := textR_len h hc; omega)).1 (by rw [hl]; exact scan_own h hc)
  rw [hl] at h3
  rw [own_inj h1 h h3] at e
  exact e
theorem rangeD_cons {lo hi : Int} (h : lo < hi) : rangeD lo hi = .int lo :: rangeD (lo + 1) hi := by
  unfold rangeD
  have e : (hi - lo).toNat = (hi - (lo + 1)).toNat + 1 := by omega
  rw [e, List.range_succ_eq_map, List.map_cons, List.map_map]
  congr 1
  · simp
  · congr 1
    funext i
    simp
    omega
def bnd (i : Int) (n : Nat) : Prop := i % 3 = 0 ∨ (i % 3 = 1 ∧ n ≤ 810) ∨ (i % 3 = 2 ∧ n ≤ 1630)
def invTn (ns k m row s7 : Slot) (xs : List D) (ρ : Env) : Prop := ∃ (i : Int) (s : D) (t : List Nat) (s6 s8 s9 s10 : Slot), 0 ≤ i ∧ xs = rangeD i 16 ∧ bnd i t.length ∧ Src s ∧ npS2 s6 ∧ npS2 s8 ∧ npS2 s9 ∧ npS2 s10 ∧ ρ = envK ns k (some (.own, s)) m row (some (.shr, .str (mkS t))) s6 s7 s8 s9 s10
theorem text_turn {ns k s7 : Slot} {m : Int} {r : Row} (hm : m = 2 ∨ m = 3) (hr : okR m 8 r) (hc : Box.cnts r ≤ 40) {x : D} {xs : List D} {ρ : Env} (h : invTn ns k (some (.shr, .int m)) (some (.shr, encR r)) s7 (x :: xs) ρ) :
    wp (put 6 (sh x) >>= fun _ => evSs (mkG fs_law cs_law) lawTurn) ρ fun f ρ' => f = .nx ∧ invTn ns k (some (.shr, .int m)) (some (.shr, encR r)) s7 xs ρ' := by
  obtain ⟨i, s, t, s6, s8, s9, s10, i0, ex, hb, hs, h6, h8, h9, h10, rfl⟩ := h
  have i16 : i < 16 := by
    by_cases q : i < 16
    · exact q
    · have : rangeD i 16 = [] := by unfold rangeD; rw [show (16 - i).toNat = 0 by omega]; rfl
      rw [this] at ex; cases ex
  rw [rangeD_cons i16] at ex
  simp only [List.cons.injEq] at ex
  obtain ⟨rfl, rfl⟩ := ex
  have g4 : (fs_law[4]?.getD fun x => RF.bad) = F_nesting_text := rfl
  have g5 : (fs_law[5]?.getD fun x => RF.bad) = F__law_tried := rfl
  have g6 : (fs_law[6]?.getD fun x => RF.bad) = F__law_bent := rfl
  have g7 : (fs_law[7]?.getD fun x => RF.bad) = F__law_wrong := rfl
  have g3 : (fs_law[3]?.getD fun x => RF.bad) = F__law_text_lines := rfl
  have nt := E_nesting_text hm hr hc
  have tl := textR_len hr hc
  have tail : ∀ (s' : D) (t' : List Nat), Src s' → t'.length ≤ 4000 → bnd (i + 1) t'.length → wp (evSs (mkG fs_law cs_law) (lawTurn.drop 1)) (envK ns k (some (.own, s')) (some (.shr, .int m)) (some (.shr, encR r)) (some (.shr, .str (mkS t'))) (some (.shr, .int i)) s7 s8 s9 s10) fun f ρ' => f = .nx ∧ invTn ns k (some (.shr, .int m)) (some (.shr, encR r)) s7 (rangeD (i + 1) 16) ρ' := by
    intro s' t' hs' hl hb'
    obtain ⟨q1, q2⟩ := tried hm t' (by omega)
    have w := E_wrong hm t' (by omega)
    have n1 : ∀ b : Bool, cmpv .ne (.bl b) (.bl b) = some false := fun b => by cases b <;> rfl
    have fin : ∀ (a8 a9 a10 : Slot), npS2 a8 → npS2 a9 → npS2 a10 → invTn ns k (some (.shr, .int m)) (some (.shr, encR r)) s7 (rangeD (i + 1) 16) (envK ns k (some (.own, s')) (some (.shr, .int m)) (some (.shr, encR r)) (some (.shr, .str (mkS t'))) (some (.shr, .int i)) s7 a8 a9 a10) := fun a8 a9 a10 b8 b9 b10 => ⟨i + 1, s', t', _, a8, a9, a10, by omega, rfl, hb', hs', np2_s _, b8, b9, b10, rfl⟩
    generalize encR r = rr at fin ⊢
    have k8 := h8
    have k9 := h9
    have k10 := h10
    unfold npS2 at k8 k9 k10
    by_cases hz : scan m 0 0 (linesOf t') = 0
    · obtain ⟨R, e1, h1, h2, h3⟩ := q1 hz
      obtain ⟨e2, e3⟩ := E_ltext hm h1 h2
      rw [hz] at w
      have e4 : textR R = t' := by unfold textR; rw [h3, join_lines]
      rw [e4] at e3
      generalize encLn (Box.lnss 0 R) = L at e2 e3
      generalize encR R = RR at e1 e2
      have ns_ := ne_mk t' t'
      generalize mkS t' = T at e1 w e3 ns_ fin ⊢
      simp [lawTurn, bodyAt, lawIn, s_law, envK, g3, g5, g7, okF_ok e1, okF_ok w, k8, k9, k10, okF_ok e2, e3, ns_, n1]
      exact fin _ _ _ (np2_s _) (np2_s _) (np2_s _)
    · have e1 := q2 hz
      have hz2 : ((scan m 0 0 (linesOf t') : Nat) : Int) ≠ 0 := by omega
      generalize ((scan m 0 0 (linesOf t') : Nat) : Int) = z at e1 w hz2
      generalize mkS t' = T at e1 w fin ⊢
      have lr : (Str.ofString "line" == Str.ofString "read") = false := by decide +kernel
      have hz3 : (z == 0) = false := by simpa using hz2
      simp [lawTurn, bodyAt, lawIn, s_law, envK, g5, g7, okF_ok e1, okF_ok w, k8, k9, k10, n1, lr, hz3]
      exact fin _ _ _ (np2_s _) (np2_s _) (np2_s _)
  have hT : lawTurn = lawTurn.take 1 ++ lawTurn.drop 1 := rfl
  rw [hT]
  generalize lawTurn.drop 1 = B at tail
  have k6 := h6
  unfold npS2 at k6
  by_cases h3 : i % 3 = 0
  · simp [lawTurn, bodyAt, lawIn, s_law, envK, g4, g6, k6, h3]
    rw [okF_ok nt]
    simp
    refine S_bent hs (by omega) fun t' s' hl hs' => ?_
    simp
    exact tail s' t' hs' (by omega) (by unfold bnd; omega)
  · have hb2 : t.length ≤ 1630 ∧ (i % 3 = 1 → t.length ≤ 810) := by
      unfold bnd at hb
      omega
    simp [lawTurn, bodyAt, lawIn, s_law, envK, g4, g6, k6, h3]
    refine S_bent hs (by omega) fun t' s' hl hs' => ?_
    simp
    exact tail s' t' hs' (by omega) (by unfold bnd at hb ⊢; omega)
mutual
theorem eqvR : ∀ {a : D} {n : Nat}, a.cmpb n = true → a.eqv a = true
  | .non, _, _ => by simp
  | .bl _, _, _ => by simp
  | .int _, _, _ => by simp
  | .str _, _, _ => by simp
  | .tup l, n, h => by
    obtain ⟨m, rfl, hm⟩ := cmpb_tup h
    rw [q_tup_tup]
    exact eqvRs (cmpbs_of hm)
  | .lst l, n, h => by
    obtain ⟨m, rfl, hm⟩ := cmpb_lst h
    rw [q_lst_lst]
    exact eqvRs (cmpbs_of hm)
  | .ro _, n, h => by cases n <;> simp [D.cmpb] at h
  | .dct _, n, h => by cases n <;> simp [D.cmpb] at h
  | .fn _, n, h => by cases n <;> simp [D.cmpb] at h
theorem eqvRs : ∀ {l : List D} {n : Nat}, D.cmpbs n l = true → D.eqvs l l = true
  | [], _, _ => by simp
  | x :: l, n, h => by
    rw [D.cmpbs, Bool.and_eq_true] at h
    rw [qs_cc, eqvR h.1, eqvRs h.2]
    rfl
end
/-! values of other kinds -/
def oddL (t r : D) : List D := [.non, .int 5, .tup [t], .lst [t], .bl true, r]
theorem rd_n {m : Int} (hm : m = 2 ∨ m = 3) : F_read_nesting [.int m, .non] = .err (eText 0) [.non, .non] := by rcases hm with rfl | rfl <;> kernel_rfl
theorem rd_5 {m : Int} (hm : m = 2 ∨ m = 3) : F_read_nesting [.int m, .int 5] = .err (eText 0) [.non, .non] := by rcases hm with rfl | rfl <;> kernel_rfl
theorem rd_b {m : Int} (hm : m = 2 ∨ m = 3) : F_read_nesting [.int m, .bl true] = .err (eText 0) [.non, .non] := by rcases hm with rfl | rfl <;> kernel_rfl
theorem rd_t {m : Int} (hm : m = 2 ∨ m = 3) (l : List D) : F_read_nesting [.int m, .tup l] = .err (eText 0) [.non, .non] := by rcases hm with rfl | rfl <;> kernel_rfl
theorem rd_l {m : Int} (hm : m = 2 ∨ m = 3) (l : List D) : F_read_nesting [.int m, .lst l] = .err (eText 0) [.non, .non] := by rcases hm with rfl | rfl <;> kernel_rfl
theorem odd_at {m : Int} (hm : m = 2 ∨ m = 3) {t x : D} {r : Row} (h : x ∈ oddL t (encR r)) : F__law_tried [.int m, x] = .ok (sh (.tup [.str (Str.ofString "line"), .int 0])) [.non, .non] := by
  refine E_tried_err ?_
  simp [oddL] at h
  rcases h with rfl | rfl | rfl | rfl | rfl | rfl
  · exact rd_n hm
  · exact rd_5 hm
  · exact rd_t hm _
  · exact rd_l hm _
  · exact rd_b hm
  · exact rd_t hm _
def invOd (ns k s m row t s6 s8 s9 s10 : Slot) (l : List D) (q : List D) (ρ : Env) : Prop := ∃ s7, npS2 s7 ∧ (∀ x ∈ q, x ∈ l) ∧ ρ = envK ns k s m row t s6 s7 s8 s9 s10
theorem odd_turn {ns k s s6 s8 s9 s10 : Slot} {m : Int} {t : D} {r : Row} (hm : m = 2 ∨ m = 3) {x : D} {xs : List D} {ρ : Env} (h : invOd ns k s (some (.shr, .int m)) (some (.shr, encR r)) (some (.shr, t)) s6 s8 s9 s10 (oddL t (encR r)) (x :: xs) ρ) :
    wp (put 7 (sh x) >>= fun _ => evSs (mkG fs_law cs_law) lawOdd) ρ fun f ρ' => f = .nx ∧ invOd ns k s (some (.shr, .int m)) (some (.shr, encR r)) (some (.shr, t)) s6 s8 s9 s10 (oddL t (encR r)) xs ρ' := by
  obtain ⟨s7, h7, ho, rfl⟩ := h
  have e := odd_at hm (ho x (by simp))
  have g5 : (fs_law[5]?.getD fun x => RF.bad) = F__law_tried := rfl
  have n1 : cmpv .ne (.tup [.str (Str.ofString "line"), .int 0]) (.tup [.str (Str.ofString "line"), .int 0]) = some false := by decide +kernel
  generalize encR r = rr at e ho ⊢
  unfold npS2 at h7
  simp [lawOdd, bodyAt, lawIn, s_law, envK, h7, g5, okF_ok e, n1]
  exact ⟨_, np2_s _, fun y hy => ho y (by simp [hy]), rfl⟩
/-! numbers of colours that are none -/
def oddM : List D := [.non, .int 1, .int 4, .str "2", .bl true]
theorem many_runs : oddM.all (fun x => (F_nesting_text [x, .non]).errB "InvalidNumber" 2 && (F_read_nesting [x, .non]).errB "InvalidNumber" 2) = true := by decide +kernel
theorem many_at {x : D} (h : x ∈ oddM) : F_nesting_text [x, .non] = .err ⟨"InvalidNumber", none⟩ [.non, .non] ∧ F_read_nesting [x, .non] = .err ⟨"InvalidNumber", none⟩ [.non, .non] := by
  have h1 := List.all_eq_true.mp many_runs x h
  rw [Bool.and_eq_true] at h1
  exact ⟨errB_eq h1.1, errB_eq h1.2⟩
theorem odd2_turn {ns k s m row t s6 s8 s9 s10 : Slot} {x : D} {xs : List D} {ρ : Env} (h : invOd ns k s m row t s6 s8 s9 s10 oddM (x :: xs) ρ) :
    wp (put 7 (sh x) >>= fun _ => evSs (mkG fs_law cs_law) lawOdd2) ρ fun f ρ' => f = .nx ∧ invOd ns k s m row t s6 s8 s9 s10 oddM xs ρ' := by
  obtain ⟨s7, h7, ho, rfl⟩ := h
  obtain ⟨x1, x2⟩ := many_at (ho x (by simp))
  have g4 : (fs_law[4]?.getD fun x => RF.bad) = F_nesting_text := rfl
  have g8 : (fs_law[8]?.getD fun x => RF.bad) = F_read_nesting := rfl
  have fin : invOd ns k s m row t s6 s8 s9 s10 oddM xs (envK ns k s m row t s6 (some (.shr, x)) s8 s9 s10) := ⟨_, np2_s _, fun y hy => ho y (by simp [hy]), rfl⟩
  unfold npS2 at h7
  simp [lawOdd2, bodyAt, lawIn, s_law, envK, h7]
  refine wp_lamc ?_
  simp
  refine er_bind ?_
  simp [hide]
  rw [g4]
  refine er_call (e := ⟨"InvalidNumber", none⟩) rfl x1 rfl ⟨by decide, "number", by rfl, ?_⟩
  simp
  refine wp_lamc ?_
  simp
  refine er_bind ?_
  simp [hide]
  rw [g8]
  refine er_call (e := ⟨"InvalidNumber", none⟩) rfl x2 rfl ⟨by decide, "number", by rfl, ?_⟩
  simp
  exact fin
end KT
/-! law k14: joined -/
namespace KT
open PL
open PySem (Str)
def shS (s : Slot) : Prop := s = none ∨ ∃ d, s = some (.shr, d)
theorem shS.np {s : Slot} (h : shS s) : npS2 s := by
  rcases h with rfl | ⟨d, rfl⟩
  · exact np2_n
  · exact np2_s d
theorem end_gen {M : M Fl} {P : Vl → Prop} (hP : P (sh (.bl true))) (ns a1 a2 a3 a4 a5 a6 a7 a8 a9 a10 : Slot) (q0 : endB (M [ns, a1, a2, a3, none, a5, a6, a7, a8, a9, a10, none, none, none, none]) = true)
    (q1 : ∀ d, endB (M [ns, a1, a2, a3, some (.shr, d), a5, a6, a7, a8, a9, a10, none, none, none, none]) = true) (h4 : shS a4) : wp M [ns, a1, a2, a3, a4, a5, a6, a7, a8, a9, a10, none, none, none, none] fun f ρ => match outsAt [false] ρ with
    | some outs => P (match f with
      | .rt v => v
      | .nx => sh .non)
    | none => False := by
  rcases h4 with rfl | ⟨d, rfl⟩
  · exact endM_wp q0 hP
  · exact endM_wp (q1 d) hP
theorem bad_nest {m : Int} (hm : m = 2 ∨ m = 3) : F_nesting_text [.int m, .tup [.tup [.int m, .tup []]]] = .err ⟨"InvalidNesting", none⟩ [.non, .non] := by
  rcases hm with rfl | rfl <;> exact errB_eq (c := "InvalidNesting") (n := 2) (by decide +kernel)
theorem own_ne {m : Int} {r : Row} (h : okR m 8 r) (hc : Box.cnts r ≤ 40) : cmpv .ne (.tup [.str (Str.ofString "read"), encR r]) (.tup [.str (Str.ofString "read"), encR r]) = some false := by
  have f : Fine 17 (encR r) := fine_row (okR_okD h) (by omega)
  have g : Fine 18 (.tup [.str (Str.ofString "read"), encR r]) := Fine.mkT (by simp) fun x hx => by
    simp at hx
    rcases hx with rfl | rfl
    · exact Fine.mono (show Fine 0 _ from ⟨by decide +kernel, by decide +kernel⟩) (by omega)
    · exact f
  have g2 := g.mono (show 18 ≤ 60 by omega)
  rw [ne_fine g2 g2, eqvR g.1]
  rfl
def invLa (ns : Slot) (q : List D) (ρ : Env) : Prop := ∃ (s1 s2 s3 s4 s5 s6 s7 s8 s9 s10 : Slot), (∀ x ∈ q, ∃ k : Int, x = .int k ∧ 0 ≤ k) ∧ npS2 s1 ∧ npS2 s2 ∧ npS2 s3 ∧ shS s4 ∧ npS2 s5 ∧ npS2 s6 ∧ npS2 s7 ∧ npS2 s8 ∧ npS2 s9 ∧ npS2 s10 ∧ ρ = envK ns s1 s2 s3 s4 s5 s6 s7 s8 s9 s10
theorem law_k14 : LawOk 63 F_law := by
  intro ns hns
  suffices h : okF F_law [.ro (ns.map D.int)] (fun v _ => v = sh (.bl true)) by
    obtain ⟨v, o, e, rfl⟩ := okF_eq h
    exact ⟨o, e⟩
  refine okF_sem rfl ?_
  show wp (evSs (mkG fs_law cs_law) (s_law.take 1 ++ lawEnd)) _ _
  have tail := fun (a1 a2 a3 a4 a5 a6 a7 a8 a9 a10 : Slot) => @end_gen (evSs (mkG fs_law cs_law) lawEnd) (fun v => v = sh (.bl true)) rfl (some (.shr, .ro (ns.map D.int))) a1 a2 a3 a4 a5 a6 a7 a8 a9 a10 (end_run0 _ a1 a2 a3 a5 a6 a7 a8 a9 a10) (fun d => end_run1 d _ a1 a2 a3 a5 a6 a7 a8 a9 a10)
  have turn := fun {k s7 : Slot} {m : Int} {r : Row} hm hr hc {x : D} {xs : List D} {ρ : Env} h => text_turn (ns := some (.shr, .ro (ns.map D.int))) (k := k) (s7 := s7) (m := m) (r := r) hm hr hc (x := x) (xs := xs) (ρ := ρ) h
  have odd := fun {k s s6 s8 s9 s10 : Slot} {m : Int} {t : D} {r : Row} hm {x : D} {xs : List D} {ρ : Env} h => odd_turn (ns := some (.shr, .ro (ns.map D.int))) (k := k) (s := s) (s6 := s6) (s8 := s8) (s9 := s9) (s10 := s10) (m := m) (t := t) (r := r) hm (x := x) (xs := xs) (ρ := ρ) h
  have odd2 := fun {k s m row t s6 s8 s9 s10 : Slot} {x : D} {xs : List D} {ρ : Env} h => odd2_turn (ns := some (.shr, .ro (ns.map D.int))) (k := k) (s := s) (m := m) (row := row) (t := t) (s6 := s6) (s8 := s8) (s9 := s9) (s10 := s10) (x := x) (xs := xs) (ρ := ρ) h
  have hB : lawIn = lawIn.take 5 ++ .forIn (.nm 6) 1 (.int 16) none lawTurn :: .forIn (.nm 7) 0 (.lst [.non, .int 5, .tup [.var 5], .lst [.var 5], .bl true, .var 4]) none lawOdd :: .forIn (.nm 7) 0 (.lst [.non, .int 1, .int 4, .str "2", .bl true]) none lawOdd2 :: lawIn.drop 8 := rfl
  have hS : s_law.take 1 = [.forIn (.nm 1) 1 (.bin .add (.int 1) (.b2 .min (.b1 .len (.var 0)) (.int 8))) none lawIn] := rfl
  rw [hS, hB]
  generalize lawTurn = T at turn
  generalize lawOdd = O at odd
  generalize lawOdd2 = O2 at odd2
  generalize lawEnd = B at tail ⊢
  simp [N_law]
  have rk : rangeOk 0 (1 + if 8 < (ns.length : Int) then 8 else (ns.length : Int)) = true := by
    unfold rangeOk
    rw [decide_eq_true_eq]
    split <;> omega
  simp [rk]
  refine wp_loop (invLa (some (.shr, .ro (ns.map D.int)))) ?_ ?_ _ _ ⟨none, none, none, none, none, none, none, none, none, none, ?_, np2_n, np2_n, np2_n, .inl rfl, np2_n, np2_n, np2_n, np2_n, np2_n, np2_n, rfl⟩
  · rintro x xs ρ ⟨s1, s2, s3, s4, s5, s6, s7, s8, s9, s10, hx, h1, h2, h3, h4, h5, h6, h7, h8, h9, h10, rfl⟩
    obtain ⟨k, rfl, k0⟩ := hx x (by simp)
    have hx2 : ∀ y ∈ xs, ∃ k : Int, y = .int k ∧ 0 ≤ k := fun y hy => hx y (by simp [hy])
    have g0 : (fs_law[0]?.getD fun x => RF.bad) = F__law_source := rfl
    have g1 : (fs_law[1]?.getD fun x => RF.bad) = F__law_choice := rfl
    have g2 : (fs_law[2]?.getD fun x => RF.bad) = F__law_nesting := rfl
    have g3 : (fs_law[3]?.getD fun x => RF.bad) = F__law_text_lines := rfl
    have g4 : (fs_law[4]?.getD fun x => RF.bad) = F_nesting_text := rfl
    have g5 : (fs_law[5]?.getD fun x => RF.bad) = F__law_tried := rfl
    have h1' := h1
    have h2' := h2
    have h3' := h3
    have h4' := h4.np
    have h5' := h5
    unfold npS2 at h1' h2' h3' h4' h5'
    simp [lawIn, s_law, envK, h1', g0]
    refine S_source ns k k0 fun s hs => ?_
    simp [h2', g1]
    refine S_choice hs _ (by simp) (by simp) fun y s' hy hs' => ?_
    have hy2 : ∃ m : Int, y = .int m ∧ (m = 2 ∨ m = 3) := by
      simp at hy
      rcases hy with rfl | rfl <;> exact ⟨_, rfl, by decide⟩
    obtain ⟨m, rfl, hm⟩ := hy2
    simp [h3', g2]
    refine S_nesting hs' hm ⟨by decide, by decide⟩ fun r s2 hr hcn hs2 => ?_
    have hc : Box.cnts r ≤ 40 := by omega
    obtain ⟨e1, e2⟩ := E_ltext hm hr hc
    have e3 := E_nesting_text hm hr hc
    have e4 := tried_own hm hr hc
    have e5 := own_ne hr hc
    have e6 := ne_mk (textR r) (textR r)
    have tl := textR_len hr hc
    have turn2 := fun {k s7 : Slot} {x : D} {xs : List D} {ρ : Env} h => turn (k := k) (s7 := s7) hm hr hc (x := x) (xs := xs) (ρ := ρ) h
    have odd' := fun {k s s6 s8 s9 s10 : Slot} {t : D} {x : D} {xs : List D} {ρ : Env} h => odd (k := k) (s := s) (s6 := s6) (s8 := s8) (s9 := s9) (s10 := s10) (t := t) (r := r) hm (x := x) (xs := xs) (ρ := ρ) h
    have xl := bad_nest hm
    have i0 : invTn (some (.shr, .ro (ns.map D.int))) (some (.shr, .int k)) (some (.shr, .int m)) (some (.shr, encR r)) s7 (rangeD 0 16) (envK (some (.shr, .ro (ns.map D.int))) (some (.shr, .int k)) (some (.own, s2)) (some (.shr, .int m)) (some (.shr, encR r)) (some (.shr, .str (mkS (textR r)))) s6 s7 s8 s9 s10) := ⟨0, s2, _, s6, s8, s9, s10, by omega, rfl, .inl rfl, hs2, h6, h8, h9, h10, rfl⟩
    generalize encLn (Box.lnss 0 r) = L at e1 e2
    generalize mkS (textR r) = tx at e2 e3 e4 e6 i0
    generalize encR r = rr at e1 e3 e4 e5 turn2 odd' i0 ⊢
    simp at e6
    have r16 : rangeOk 0 16 = true := by decide
    simp [h4', h5', g3, g4, g5, okF_ok e1, e2, okF_ok e3, okF_ok e4, e5, e6, r16]
    refine wp_loop (invTn (some (.shr, .ro (ns.map D.int))) (some (.shr, .int k)) (some (.shr, .int m)) (some (.shr, rr)) s7) (fun y ys ρ h => ?_) ?_ _ _ i0
    · refine (turn2 h).mono fun f ρ' q => ?_
      obtain ⟨rfl, q⟩ := q
      exact q
    · rintro ρ ⟨i, s3, t, b6, b8, b9, b10, _, _, _, hs3, q6, q8, q9, q10, rfl⟩
      generalize mkS t = tt
      simp [envK]
      refine wp_loop (invOd (some (.shr, .ro (ns.map D.int))) (some (.shr, .int k)) (some (.own, s3)) (some (.shr, .int m)) (some (.shr, rr)) (some (.shr, .str tt)) b6 b8 b9 b10 (oddL (.str tt) rr)) (fun y ys ρ h => ?_) ?_ _ _ ⟨s7, h7, fun y hy => by simpa [oddL] using hy, rfl⟩
      · refine (odd' h).mono fun f ρ' q => ?_
        obtain ⟨rfl, q⟩ := q
        exact q
      · rintro ρ ⟨c7, z7, _, rfl⟩
        simp [envK]
        refine wp_loop (invOd (some (.shr, .ro (ns.map D.int))) (some (.shr, .int k)) (some (.own, s3)) (some (.shr, .int m)) (some (.shr, rr)) (some (.shr, .str tt)) b6 b8 b9 b10 oddM) (fun y ys ρ h => ?_) ?_ _ _ ⟨c7, z7, fun y hy => by simpa [oddM] using hy, rfl⟩
        · refine (odd2 h).mono fun f ρ' q => ?_
          obtain ⟨rfl, q⟩ := q
          exact q
        · rintro ρ ⟨d7, y7, _, rfl⟩
          simp [envK]
          refine wp_lamc ?_
          simp
          refine er_bind ?_
          simp [hide]
          rw [g4]
          refine er_call (e := ⟨"InvalidNesting", none⟩) rfl xl rfl ⟨by decide, "nesting", by rfl, ?_⟩
          simp
          exact ⟨_, _, _, _, _, _, _, _, _, _, hx2, np2_s _, np2_o _, np2_s _, .inr ⟨_, rfl⟩, np2_s _, q6, y7, q8, q9, q10, rfl⟩
  · rintro ρ ⟨s1, s2, s3, s4, s5, s6, s7, s8, s9, s10, hx, h1, h2, h3, h4, h5, h6, h7, h8, h9, h10, rfl⟩
    exact tail _ _ _ _ _ _ _ _ _ _ h4
  · intro x hx
    unfold rangeD at hx
    rw [List.mem_map] at hx
    obtain ⟨i, _, rfl⟩ := hx
    exact ⟨_, rfl, by omega⟩
end KT
set_option maxRecDepth 100000 in
theorem PySem.Challenge.cw_anynesting_k14_nestings_written_and_read_holds : PySem.Challenge.rw_anynesting_k14_nestings_written_and_read.Holds := by
  exact KT.holds_of KT.law_k14
